import PyProof.Rows.All
import Wide.All
import OpenK.AllK
import Wide.FinOn
import HandS.ExcInit
import KE.KExcInit
import KE.KExcPX
import PyProof.ExcBaseAll.ArithmeticError
import PyProof.ExcBaseAll.IndexError
import PyProof.ExcBaseAll.LookupError
import PyProof.ExcBaseAll.RuntimeError
import PyProof.ExcBaseAll.ValueError
import HandS.ForMost
import HandS.TupAny
import HandS.Conv
import HandS.Deep
import HandS.Style
import HandS.Wide
import HandS.Rev
import HandS.Zip
import HandS.Lambda
import HandS.SortInts
import HandS.NoneIn
import HandS.Defaults
import KE.GoesMore
import HandS.IsInst
import HandS.Strs
import HandS.More
import PyProof.Rows.RegFStrParts
import PyProof.P3Eq
import HandS.Zip0
import HandS.Text
import HandS.DictComp
import KE.KDictZip
import HandS.SetKeys
import PyProof.Rows.TupDisplay
import HandS.Exc
import KE.KTryMore
import KE.KExcIs
import HandS.ExcIs
import HandS.ExcField
import HandS.EndTab
import HandS.OwnEq
import KE.KDictWalk
import KE.KeyNested
import PyProof.DictMoreH
import HandS.TupMul
import PyProof.SumAny
import HandS.HeadHook3
import PyProof.Rows.IntBool
import PyProof.Rows.EqBoolInt
import PySem.Challenge.RW_passmarks_k97_errors_and_bounds
/-! text Lm -/
namespace Ev
/-- the defs of the law that make lambdas -/
def lamNames : List PySem.Str := []
end Ev
/-! text Ex83 -/
set_option Elab.async false
set_option linter.all false
set_option maxRecDepth 100000
set_option maxHeartbeats 4000000
namespace Ev
open PySem PySem.Spec PyProof.Rows L2

/-! ### error classes: how they are called, with keywords too, whoever's __new__ they have -/
structure XNew (newId : String) (bmB : List Value) : Prop where
  fx : ∃ (Bn idn : String) (bmn : List Value), ExcBaseFacts Bn newId idn bmn ∧ bmB.contains (.type Bn) = true
  na : bmB.contains (.type "AttributeError") = false
  nn : bmB.contains (.type "NameError") = false
structure XIni (B initId : String) (bmB : List Value) : Prop where
  plain : plainId initId = true
  entry : entryFor table initId = some Builtin.«BaseException.__init__»
  kind : builtinKind initId = some .slot
  split : splitId initId = some (B, "__init__")
  row : Manifest.signature? initId = some ⟨.positional, "*", B, .self, [⟨"args", .varPos, false⟩]⟩
  noStar : (B != "*") = true
  hasB : bmB.contains (.type B) = true
theorem XNew.of {B newId initId : String} {bmB : List Value} (F : ExcBaseFacts B newId initId bmB) : XNew newId bmB := ⟨⟨B, initId, bmB, F, F.hasB⟩, F.noAttr, F.noName⟩
theorem XIni.of {B newId initId : String} {bmB : List Value} (F : ExcBaseFacts B newId initId bmB) : XIni B initId bmB := ⟨F.init.plain, F.initEntry, F.initKind, F.initSplit, F.initRow, F.noStar, F.hasB⟩
abbrev keMro : List Value := [.type "KeyError", .type "LookupError", .type "Exception", .type "BaseException", .type "object"]
theorem ke_new : XNew "LookupError.__new__" keMro := ⟨⟨_, _, _, F.excBase_LookupError, by decide +kernel⟩, by decide +kernel, by decide +kernel⟩
theorem ke_ini : XIni "KeyError" "KeyError.__init__" keMro :=
  { plain := (by decide +kernel)
    entry := (entryFor_alias (id' := "BaseException.__init__") (by rw [fastTable_eq_tree]; kernel_rfl) (by decide +kernel) (by decide +kernel) (by rw [fastTable_eq_tree]; kernel_rfl))
    kind := (by kernel_rfl)
    split := (by kernel_rfl)
    row := (by kernel_rfl)
    noStar := (by decide +kernel)
    hasB := (by decide +kernel) }
theorem ke_store : StoreFacts "KeyError" keMro "object.__setattr__" "object" :=
  { mro := (by kernel_rfl)
    slot := (.of (owner := "object") (n := "__setattr__") (by rw [typeLookup_type, builtinLookup_eq_fast]; kernel_rfl) (by decide +kernel) (by decide +kernel) (by decide +kernel) (Or.inl (by decide +kernel)) ((isSubtype_type _ _).trans (by kernel_rfl)))
    entry := F.store_IndexError.entry
    kind := F.store_IndexError.kind
    split := F.store_IndexError.split
    hasOwner := (by decide +kernel)
    args := F.store_IndexError.args
    passes := (fun me => by kernel_rfl) }
section
variable {A : Around} {E : Value → Shared → Prop} {R : Result → Shared → Prop} {hp : Heap} {g : Array GenState} {dr : Drawn} {tk : Nat} {os : OsState} {prog : Program} {w : World} {kw : List (Str × Value)} {us : List Value}
variable {nm qn : Str} {C N : Addr} {bs bm bmB : List Value} {hdct : Bool} {sn : List Str} {sub : List Value} {ab : Bool} {col : Option Bool} {dd : Option Addr} {k0 k1 k2 k3 k5 : Option Value} {B newId initId idn Bn : String} {bmn : List Value}
theorem kx_checkNew {M : Model} (F : ExcBaseFacts Bn newId idn bmn) (c1 : (Value.ref C :: bm).contains (.type Bn) = true) {Q : Unit → Shared → Prop}
    (cl : hp.get? C = some (excClassObj nm qn C N bs bm hdct sn sub ab col dd k0 k1 k2 k3 k5 newId)) (q : Q () ⟨hp, g, dr, tk, os⟩) :
    wpAny M A (checkBuiltinCall newId ⟨.ref C :: us, kw⟩) Q E ⟨hp, g, dr, tk, os⟩ := by
  have c2 := F.noStar
  simp only [checkBuiltinCall, F.newKind, F.newSplit, F.newRow]
  repeat (first | refine wpAny_loadPart_at cl ?_ | (refine wpAny_isSubtype_exc cl ?_; rw [c1]) | refine wpAny_staticBase_exc cl ?_ | refine wpAny_madeBy_exc cl ?_ | simp only [bne_self_eq_false, Bool.false_eq_true, if_false] | wp_step)
  exact q
theorem kx_checkCall {M : Model} {Q : Unit → Shared → Prop} (cl : hp.get? C = some (excClassObj nm qn C N bs bm hdct sn sub ab col dd k0 k1 k2 k3 k5 newId))
    (q : Q () ⟨hp, g, dr, tk, os⟩) : wpAny M A (checkBuiltinCall "type.__call__" ⟨.ref C :: us, kw⟩) Q E ⟨hp, g, dr, tk, os⟩ := by
  have c1 := tc_sub
  have c2 : (⟨hp, g, dr, tk, os⟩ : Shared).TypeIs (.ref C) "type" := ⟨_, cl, rfl⟩
  simp only [checkBuiltinCall, tc_kind, tc_split]
  repeat (any_goals (first | assumption | with_reducible refine wpAny_loadPart_at cl ?_ | with_reducible refine wpAny_onRaise ?_ | with_reducible refine wpAny_map ?_ | wp_step))
theorem kx_new (F : ExcBaseFacts Bn newId idn bmn) (c1 : (Value.ref C :: bm).contains (.type Bn) = true) (c2 : (Value.ref C :: bm).contains (.type "AttributeError") = false) (c3 : (Value.ref C :: bm).contains (.type "NameError") = false)
    (cl : hp.get? C = some (excClassObj nm qn C N bs bm hdct sn sub ab col dd k0 k1 k2 k3 k5 newId))
    (q : R (.ok (.ret (.ref (hp.objs.size + 1)))) ⟨(hp.push (W.kdv_tup us)).push (HandSPX.excO C hp.objs.size), g, dr, tk, os⟩) (hz : us.length ≤ sizeLine) :
    codeAny (model prog w) A (.builtin newId ⟨.ref C :: us, kw⟩) R ⟨hp, g, dr, tk, os⟩ := by
  have z1 := F.ends
  refine PySem.codeAny_builtinAt F.entry ?_
  unfold Builtin.«BaseException.__new__»
  refine PySem.wpAt_bind ?_
  show PySem.wpAt _ _ _ (stack >>= _) _ _ _
  refine PySem.wpAt_bind (PySem.wpAt_stack fun pp qq => PySem.wpAt_of_wpAny ?_)
  wp_walk
  refine PySem.wpAt_of_wpAny ?_
  rw [F.owner]
  repeat (first | with_reducible refine wpAny_madeHere_exc F.canon cl ?_ | with_reducible refine wpAny_loadPart_at cl ?_ | (with_reducible refine wpAny_isSubtype_exc cl ?_; first | rw [c1] | rw [c2] | rw [c3]) | wp_step)
  show R _ _
  rw [Heap.size_push]
  exact q
theorem kx_typeCall (F : ExcBaseFacts Bn newId idn bmn) (c1 : (Value.ref C :: bm).contains (.type Bn) = true) (c2 : (Value.ref C :: bm).contains (.type "AttributeError") = false) (c3 : (Value.ref C :: bm).contains (.type "NameError") = false) {fI : Addr} {Q : Fin → Shared → Prop}
    (cl : hp.get? C = some (excClassObj nm qn C N bs bm hdct sn sub ab col dd k0 k1 k2 k3 k5 newId))
    (li : W.Looks (model prog w) hp (typeLookup (.ref C) "__init__") (some (.ref fI))) (lb : ∀ me, W.Looks (model prog w) hp (bindSpecial (.ref fI) me) (.ref fI, [me])) (hz : us.length ≤ sizeLine)
    (q : codeAny (model prog w) A (.call (.ref fI) ⟨.ref (hp.objs.size + 1) :: us, kw⟩)
      (fun r s' => match r with | .ok (.ret v) => v = .none ∧ Q (.done (.ret (.ref (hp.objs.size + 1)))) s' | .ok _ => False | .error e => E e s')
      ⟨(hp.push (W.kdv_tup us)).push (HandSPX.excO C hp.objs.size), g, dr, tk, os⟩) :
    wpAny (model prog w) A (Builtin.«type.__call__» ⟨.ref C :: us, kw⟩) Q E ⟨hp, g, dr, tk, os⟩ := by
  repeat (first | with_reducible refine wpAny_loadPart_at cl ?_ | with_reducible refine wpAny_madeBy_exc cl ?_ | wp_step)
  refine codeAny_call_builtin_code (Code.quiet_builtin _ F.quiet) (kx_checkNew F c1 cl ?_)
  refine kx_new F c1 c2 c3 cl ?_ hz
  show wpAny _ _ _ _ _ _
  have up : ∀ b o, hp.get? b = some o → ((hp.push (W.kdv_tup us)).push (HandSPX.excO C hp.objs.size)).get? b = some o := fun b o e => Heap.get?_push_of_some _ (Heap.get?_push_of_some _ e)
  have cl2 := up _ _ cl
  have at2 : ((hp.push (W.kdv_tup us)).push (HandSPX.excO C hp.objs.size)).get? (hp.objs.size + 1) = some (HandSPX.excO C hp.objs.size) := by heap_get
  have c4 : (Value.ref C :: bm).contains (.ref C) = true := by simp
  have i1 := li.keeps up
  have b1 := (lb (.ref (hp.objs.size + 1))).keeps up
  unfold isInstance
  repeat (first | with_reducible refine wpAny_loadPart_at at2 ?_ | (with_reducible refine wpAny_isSubtype_exc cl2 ?_; rw [c4]) | wp_step)
  show wpAny _ _ (typeLookup (.ref C) _) _ _ _
  refine i1.at ?_
  refine wpAny_holding (wpAny_bind (b1.at ?_))
  refine wpAny_bind (wpAny_call (codeAny_mono q fun r s' z => ?_))
  rcases r with e | (v | _ | _ | _) <;> first | exact z | exact z.elim | skip
  obtain ⟨rfl, z⟩ := z
  first
    | exact wpAny_pure (wpAny_pure z)
    | (wp_walk; exact z)
theorem kx_call (F : XNew newId bmB) (hT : ∀ X : String, bm.contains (.type X) = bmB.contains (.type X)) {fI : Addr}
    (cl : hp.get? C = some (excClassObj nm qn C N bs bm hdct sn sub ab col dd k0 k1 k2 k3 k5 newId))
    (li : W.Looks (model prog w) hp (typeLookup (.ref C) "__init__") (some (.ref fI))) (lb : ∀ me, W.Looks (model prog w) hp (bindSpecial (.ref fI) me) (.ref fI, [me])) (hz : us.length ≤ sizeLine)
    (q : codeAny (model prog w) (A.under (.builtin "type.__call__" ⟨.ref C :: us, kw⟩)) (.call (.ref fI) ⟨.ref (hp.objs.size + 1) :: us, kw⟩) (W.InitBack (hp.objs.size + 1) R)
      ⟨(hp.push (W.kdv_tup us)).push (HandSPX.excO C hp.objs.size), g, dr, tk, os⟩) :
    codeAny (model prog w) A (.call (.ref C) ⟨us, kw⟩) R ⟨hp, g, dr, tk, os⟩ := by
  obtain ⟨Bn, idn, bmn, F1, hb⟩ := F.fx
  have c1 : (Value.ref C :: bm).contains (.type Bn) = true := by
    rw [List.contains_cons, hT, hb, Bool.or_true]
  have c2 : (Value.ref C :: bm).contains (.type "AttributeError") = false := by
    rw [List.contains_cons, hT, F.na]; rfl
  have c3 : (Value.ref C :: bm).contains (.type "NameError") = false := by
    rw [List.contains_cons, hT, F.nn]; rfl
  have f1 := tc_lookup
  have f2 := tc_bind (.ref C)
  have ty : (⟨hp, g, dr, tk, os⟩ : Shared).TypeIs (.ref C) "type" := ⟨_, cl, rfl⟩
  refine codeAny_of_tree ?_
  show wpAny _ _ (callAny (.ref C) _) _ _ _
  repeat (any_goals (first | assumption | with_reducible refine wpAny_loadPart_at cl ?_ | wp_step))
  refine ⟨rfl, ?_⟩
  refine codeAny_call_builtin_at (Code.quiet_builtin _ (by decide +kernel)) entry_typeCall (kx_checkCall cl (kx_typeCall F1 c1 c2 c3 cl li lb hz ?_))
  refine codeAny_mono q fun r s' z => ?_
  rcases r with e | (v | _ | _ | _) <;> exact z
theorem kx_init (F : XIni B initId bmB) (hT : ∀ X : String, bm.contains (.type X) = bmB.contains (.type X)) {e t0 : Addr}
    (cl : hp.get? C = some (excClassObj nm qn C N bs bm hdct sn sub ab col dd k0 k1 k2 k3 k5 newId)) (he : hp.get? e = some (HandSPX.excO C t0)) (hz : us.length ≤ sizeLine)
    (q : ∀ h' t1, (∀ b o, b ≠ e → hp.get? b = some o → h'.get? b = some o) → h'.get? e = some (HandSPX.excO C t1) → R (.ok (.ret .none)) ⟨h', g, dr, tk, os⟩) :
    codeAny (model prog w) A (.call (.builtin initId) ⟨.ref e :: us, []⟩) R ⟨hp, g, dr, tk, os⟩ := by
  have c1 : (Value.ref C :: bm).contains (.type B) = true := by
    rw [List.contains_cons, hT, F.hasB, Bool.or_true]
  have c2 := F.noStar
  refine codeAny_call_builtin F.plain F.entry ?_
  have ck : ∀ {M : Model} {A : Around} {E : Value → Shared → Prop} {Q : Unit → Shared → Prop}, Q () ⟨hp, g, dr, tk, os⟩ → wpAny M A (checkBuiltinCall initId ⟨.ref e :: us, []⟩) Q E ⟨hp, g, dr, tk, os⟩ := fun {M A E Q} hq => by
    simp only [checkBuiltinCall, F.kind, F.split, F.row]
    repeat (first | with_reducible refine wpAny_loadPart_at he ?_ | with_reducible refine wpAny_loadPart_at cl ?_ | (with_reducible refine wpAny_isSubtype_exc cl ?_; rw [c1]) | wp_step)
    refine wpAny_onRaise ?_
    have z : ∀ (a b : String) (n : Nat), Bind.check ⟨.positional, "*", B, .self, [⟨"args", .varPos, false⟩]⟩ a b n (List.map (fun x => x.fst) ({ pos := Value.ref e :: us } : Args).kw) = pure () := fun a b n => check_star_args _ _ _ _ _ _
    rw [z]
    exact wpAny_pure hq
  refine ck ?_
  wp_walk
  refine q _ hp.objs.size (fun b o hb ho => ?_) ?_
  · exact (Heap.get?_update_other _ _ (Ne.symm hb)).trans (Heap.get?_push_of_some _ ho)
  · refine (Heap.get?_update_self _ (Heap.get?_push_of_some _ he) rfl).trans ?_
    rfl
end
end Ev
/-! text Ev0 -/
set_option Elab.async false
set_option linter.all false
set_option maxRecDepth 100000
set_option maxHeartbeats 4000000
namespace Ev
open PySem L2

/-- data, without addresses -/
inductive D where
  | non | bl (b : Bool) | int (i : Int) | str (s : Str)
  | tup (xs : List D) | lst (xs : List D) | dct (t : Bool) (kvs : List (D × D)) | obj (c : Str) (fs : List (Str × D)) | scr (ns : List Int) | raw (v : V) (cs : List (Addr × Str)) (vs : List V) (ds : List D) | gf (x : Str) | exc (c : Str) (fs : List (Str × D))

instance : Inhabited D := ⟨.non⟩

/-- what a mutable object holds -/
inductive C where
  | lst (xs : List D) | dct (t : Bool) (kvs : List (D × D)) | ins (c : Str) (fs : List (Str × D)) | dz (kvs : List (D × D))
def C.toD : C → D
  | .lst xs => .lst xs
  | .dct t kvs => .dct t kvs
  | .ins c fs => .obj c fs
  | .dz kvs => .dct true kvs

/-- a slot: unset, data, an object of one's own, a caller's object -/
inductive Sl where
  | un | imm (d : D) | own (c : C) | par (c : C)
def Sl.cont : Sl → Option C
  | .own c => some c
  | .par c => some c
  | _ => none
abbrev Env := List Sl

def keyD : D → Option Key
  | .int i => some (.inl i)
  | .str s => some (.inr s)
  | _ => none
def keysD : List D → Option (List Key)
  | [] => some []
  | d :: ds => (keyD d).bind fun k => (keysD ds).map (k :: ·)

/-- what an exactly held value stands for; G: where the classes stand -/
structure Wd where
  K : PySem.W.Frag
  mg : Str → Option Value
  P : Program
  w : World
/-- a dict whose keys are tuples that are fixed as they stand -/
def dZ (P : Program) (w : World) (a : Addr) (ep : Nat) (xs : List (List Key × Addr × Value)) : HO := .ext fun h => ∃ o es, h.get? a = some o ∧ o.ExactDict ∧ o.data = .dict es ep ∧ es.toList = xs.map (entryOfKey (tupleKind (mixKind P w)))
structure ZOk (a : Addr) (xs : List (List Key × Addr × Value)) : Prop where
  sys : (a == sysModules) = false
  len : xs.length ≤ sizeLine
  nd : (xs.map (·.1)).Nodup
def ZKeys (H : Hp) (xs : List (List Key × Addr × Value)) : Prop := ∀ x ∈ xs, ∃ ob, H x.2.1 = some (.frz ob (.tup (x.1.map kV))) ∧ ob.dict = none
abbrev ZVals (ks : List (List Key × V)) (xs : List (List Key × Addr × Value)) : Prop := Paired (fun (p : List Key × V) (q : List Key × Addr × Value) => p.1 = q.1 ∧ RelV p.2 q.2.2) ks xs
/-- at a stands a dict with tuples as keys -/
def TabAt (W : Wd) (H : Hp) (a : Addr) (ks : List (List Key × V)) : Prop := H a = some (.dT ks) ∨ ∃ xs ep, H a = some (dZ W.P W.w a ep xs) ∧ ZOk a xs ∧ ZKeys H xs ∧ ZVals ks xs
theorem ZKeys.mono {H H' : Hp} {xs : List (List Key × Addr × Value)} (k : ZKeys H xs) (e : ∀ b o, H b = some o → H' b = some o) : ZKeys H' xs := fun x hx => let ⟨ob, h, n⟩ := k x hx; ⟨ob, e _ _ h, n⟩
theorem TabAt.mono {W : Wd} {H H' : Hp} {a : Addr} {ks : List (List Key × V)} (t : TabAt W H a ks) (e : ∀ b o, H b = some o → H' b = some o) : TabAt W H' a ks := by
  rcases t with h | ⟨xs, ep, h1, h2, h3, h4⟩
  · exact .inl (e _ _ h)
  · exact .inr ⟨xs, ep, e _ _ h1, h2, h3.mono e, h4⟩

/-- at a: a raised object of the class at C, its dict at od -/
def exOb (a C : Addr) (od : Option Addr) : HO := .ext fun h => ∃ (oe : Obj) (vs : Array Value), h.get? a = some oe ∧ oe.cls = .ref C ∧ oe.dict = od ∧ oe.data = .fields vs
def XdAt (H : Hp) (od : Option Addr) (vfs : List (Str × V)) : Prop := (od = none ∧ vfs = []) ∨ ∃ d, od = some d ∧ H d = some (.xd vfs)
theorem XdAt.mono {H H' : Hp} {od : Option Addr} {vfs : List (Str × V)} (x : XdAt H od vfs) (e : ∀ b o, H b = some o → H' b = some o) : XdAt H' od vfs := by
  rcases x with x | ⟨d, e1, e2⟩
  · exact .inl x
  · exact .inr ⟨d, e1, e _ _ e2⟩
mutual
inductive Rp (W : Wd) (H : Hp) : V → D → Prop
  | non : Rp W H .non .non
  | bl (b : Bool) : Rp W H (.bl b) (.bl b)
  | int (i : Int) : Rp W H (.int i) (.int i)
  | str (x : Str) : Rp W H (.str x) (.str x)
  | tup {a : Addr} {ob : Obj} {vs : List V} {ds : List D} : H a = some (.frz ob (.tup vs)) → ob.dict = none → RpL W H vs ds → Rp W H (.ref a) (.tup ds)
  | lst {a : Addr} {vs : List V} {ds : List D} : H a = some (.lst vs) → RpL W H vs ds → Rp W H (.ref a) (.lst ds)
  | dK {a : Addr} {ks : List (Key × V)} {ds : List (D × D)} : H a = some (.dK ks) → RpK W H ks ds → Rp W H (.ref a) (.dct false ds)
  | dT {a : Addr} {ks : List (List Key × V)} {ds : List (D × D)} : TabAt W H a ks → RpT W H ks ds → Rp W H (.ref a) (.dct true ds)
  | obj {a Cc dx : Addr} {fs : List (Str × V)} {c : Str} {ds : List (Str × D)} : H a = some (.ins Cc dx fs) → W.mg c = some (.ref Cc) → RpF W H fs ds → Rp W H (.ref a) (.obj c ds)
  | scr {a : Addr} {ns : List Int} : SqL W.K H a (ns.map V.int) → Rp W H (.ref a) (.scr ns)
  | raw {v : V} {cs : List (Addr × Str)} {vs : List V} {ds : List D} : (∀ p ∈ cs, H p.1 = some (LamX.CodeO p.1 p.2)) → RpL W H vs ds → Rp W H v (.raw v cs vs ds)
  | gf {x : Str} {f : Addr} : W.mg x = some (.ref f) → Rp W H (.ref f) (.gf x)
  | exc {a Cc : Addr} {od : Option Addr} {vfs : List (Str × V)} {c : Str} {ds : List (Str × D)} : H a = some (exOb a Cc od) → W.mg c = some (.ref Cc) → XdAt H od vfs → RpF W H vfs ds → Rp W H (.ref a) (.exc c ds)
inductive RpL (W : Wd) (H : Hp) : List V → List D → Prop
  | nil : RpL W H [] []
  | cons {v : V} {vs : List V} {d : D} {ds : List D} : Rp W H v d → RpL W H vs ds → RpL W H (v :: vs) (d :: ds)
inductive RpK (W : Wd) (H : Hp) : List (Key × V) → List (D × D) → Prop
  | nil : RpK W H [] []
  | cons {k : Key} {v : V} {vs : List (Key × V)} {kd d : D} {ds : List (D × D)} : keyD kd = some k → Rp W H v d → RpK W H vs ds → RpK W H ((k, v) :: vs) ((kd, d) :: ds)
inductive RpT (W : Wd) (H : Hp) : List (List Key × V) → List (D × D) → Prop
  | nil : RpT W H [] []
  | cons {k : List Key} {v : V} {vs : List (List Key × V)} {kd : List D} {d : D} {ds : List (D × D)} : keysD kd = some k → Rp W H v d → RpT W H vs ds → RpT W H ((k, v) :: vs) ((.tup kd, d) :: ds)
inductive RpF (W : Wd) (H : Hp) : List (Str × V) → List (Str × D) → Prop
  | nil : RpF W H [] []
  | cons {f : Str} {v : V} {vs : List (Str × V)} {d : D} {ds : List (Str × D)} : Rp W H v d → RpF W H vs ds → RpF W H ((f, v) :: vs) ((f, d) :: ds)
end

theorem sqL_mono {K : PySem.W.Frag} {H H' : Hp} {a : Addr} {xs : List V} (e : ∀ b o, H b = some o → H' b = some o) (h : SqL K H a xs) : SqL K H' a xs := by
  rcases h with (h | ⟨o, h⟩) | h
  · exact .inl (.inl (e _ _ h))
  · exact .inl (.inr ⟨o, e _ _ h⟩)
  · exact .inr h

section
variable {W : Wd} {H H' : Hp}
mutual
theorem Rp.mono (e : ∀ b o, H b = some o → H' b = some o) : ∀ {v : V} {d : D}, Rp W H v d → Rp W H' v d
  | _, _, .non => .non
  | _, _, .bl b => .bl b
  | _, _, .int i => .int i
  | _, _, .str x => .str x
  | _, _, .tup h n r => .tup (e _ _ h) n (RpL.mono e r)
  | _, _, .lst h r => .lst (e _ _ h) (RpL.mono e r)
  | _, _, .dK h r => .dK (e _ _ h) (RpK.mono e r)
  | _, _, .dT h r => .dT (h.mono e) (RpT.mono e r)
  | _, _, .obj h m r => .obj (e _ _ h) m (RpF.mono e r)
  | _, _, .scr h => .scr (sqL_mono e h)
  | _, _, .raw h r => .raw (fun p q => e _ _ (h p q)) (RpL.mono e r)
  | _, _, .gf h => .gf h
  | _, _, .exc h m x r => .exc (e _ _ h) m (x.mono e) (RpF.mono e r)
theorem RpL.mono (e : ∀ b o, H b = some o → H' b = some o) : ∀ {v : List V} {d : List D}, RpL W H v d → RpL W H' v d
  | _, _, .nil => .nil
  | _, _, .cons r t => .cons (Rp.mono e r) (RpL.mono e t)
theorem RpK.mono (e : ∀ b o, H b = some o → H' b = some o) : ∀ {v : List (Key × V)} {d : List (D × D)}, RpK W H v d → RpK W H' v d
  | _, _, .nil => .nil
  | _, _, .cons k r t => .cons k (Rp.mono e r) (RpK.mono e t)
theorem RpT.mono (e : ∀ b o, H b = some o → H' b = some o) : ∀ {v : List (List Key × V)} {d : List (D × D)}, RpT W H v d → RpT W H' v d
  | _, _, .nil => .nil
  | _, _, .cons k r t => .cons k (Rp.mono e r) (RpT.mono e t)
theorem RpF.mono (e : ∀ b o, H b = some o → H' b = some o) : ∀ {v : List (Str × V)} {d : List (Str × D)}, RpF W H v d → RpF W H' v d
  | _, _, .nil => .nil
  | _, _, .cons r t => .cons (Rp.mono e r) (RpF.mono e t)
end
end

theorem RpL.length {W : Wd} {H : Hp} : ∀ {vs : List V} {ds : List D}, RpL W H vs ds → vs.length = ds.length
  | _, _, .nil => rfl
  | _, _, .cons _ t => congrArg (· + 1) t.length
theorem RpL.append {W : Wd} {H : Hp} : ∀ {vs ws : List V} {ds es : List D}, RpL W H vs ds → RpL W H ws es → RpL W H (vs ++ ws) (ds ++ es)
  | _, _, _, _, .nil, s => s
  | _, _, _, _, .cons r t, s => .cons r (t.append s)
theorem RpL.get {W : Wd} {H : Hp} : ∀ {vs : List V} {ds : List D} {i : Nat} {d : D}, RpL W H vs ds → ds[i]? = some d → ∃ v, vs[i]? = some v ∧ Rp W H v d
  | _, _, _, _, .nil, e => by simp at e
  | _, _, 0, _, .cons r _, e => ⟨_, rfl, by simp at e; exact e ▸ r⟩
  | _, _, i + 1, _, .cons _ t, e => by
    obtain ⟨v, h, r⟩ := t.get (i := i) (by simpa using e)
    exact ⟨v, by simpa using h, r⟩
theorem RpL.drop {W : Wd} {H : Hp} : ∀ {vs : List V} {ds : List D} (n : Nat), RpL W H vs ds → RpL W H (vs.drop n) (ds.drop n)
  | _, _, 0, r => r
  | _, _, _ + 1, .nil => .nil
  | _, _, n + 1, .cons _ t => t.drop n
theorem RpL.take {W : Wd} {H : Hp} : ∀ {vs : List V} {ds : List D} (n : Nat), RpL W H vs ds → RpL W H (vs.take n) (ds.take n)
  | _, _, 0, _ => .nil
  | _, _, _ + 1, .nil => .nil
  | _, _, n + 1, .cons r t => .cons r (t.take n)
theorem RpL.set {W : Wd} {H : Hp} {v : V} {d : D} (r : Rp W H v d) : ∀ {vs : List V} {ds : List D} (i : Nat), RpL W H vs ds → RpL W H (vs.set i v) (ds.set i d)
  | _, _, _, .nil => .nil
  | _, _, 0, .cons _ t => .cons r t
  | _, _, i + 1, .cons q t => .cons q (t.set r i)
theorem RpL.reverse {W : Wd} {H : Hp} : ∀ {vs : List V} {ds : List D}, RpL W H vs ds → RpL W H vs.reverse ds.reverse
  | _, _, .nil => .nil
  | _, _, .cons r t => by
    rw [List.reverse_cons, List.reverse_cons]
    exact t.reverse.append (.cons r .nil)
theorem RpL.ints {W : Wd} {H : Hp} : ∀ (ns : List Int), RpL W H (ns.map V.int) (ns.map D.int)
  | [] => .nil
  | n :: ns => .cons (.int n) (RpL.ints ns)

/-! ### the state -/
/-- at p, in H, stands what c says, its parts in Hf -/
def OwnAt (W : Wd) (H Hf : Hp) (p : Addr) : C → Prop
  | .lst ds => ∃ vs, H p = some (.lst vs) ∧ RpL W Hf vs ds
  | .dct false kvs => ∃ ks, H p = some (.dK ks) ∧ RpK W Hf ks kvs
  | .dct true kvs => ∃ ks, H p = some (.dT ks) ∧ RpT W Hf ks kvs
  | .ins c fs => ∃ Cc dx vfs, H p = some (.ins Cc dx vfs) ∧ W.mg c = some (.ref Cc) ∧ RpF W Hf vfs fs
  | .dz kvs => ∃ ks xs ep, H p = some (dZ W.P W.w p ep xs) ∧ ZOk p xs ∧ ZKeys Hf xs ∧ ZVals ks xs ∧ RpT W Hf ks kvs
/-- no table of code objects -/
def NT (o : HO) : Prop := ∀ ps, o ≠ .tbl ps
theorem nt_lst {xs : List V} : NT (.lst xs) := fun _ z => by cases z
theorem nt_dK {xs : List (Key × V)} : NT (.dK xs) := fun _ z => by cases z
theorem nt_dT {xs : List (List Key × V)} : NT (.dT xs) := fun _ z => by cases z
theorem nt_ins {a b : Addr} {fs : List (Str × V)} : NT (.ins a b fs) := fun _ z => by cases z
theorem nt_ext {φ : Heap → Prop} : NT (.ext φ) := fun _ z => by cases z
theorem nt_dZ {P : Program} {w : World} {a : Addr} {ep : Nat} {xs : List (List Key × Addr × Value)} : NT (dZ P w a ep xs) := nt_ext
theorem nt_frz {o : Obj} {u : HO} : NT (.frz o u) := fun _ z => by cases z
theorem OwnAt.mono {W : Wd} {H Hf H' Hf' : Hp} {p : Addr} {c : C} (h : OwnAt W H Hf p c) (e : ∀ o, H p = some o → NT o → H' p = some o) (ef : ∀ b o, Hf b = some o → Hf' b = some o) : OwnAt W H' Hf' p c := by
  cases c with
  | lst ds => obtain ⟨vs, h1, h2⟩ := h; exact ⟨vs, e _ h1 nt_lst, h2.mono ef⟩
  | dct t kvs =>
    cases t with
    | false => obtain ⟨ks, h1, h2⟩ := h; exact ⟨ks, e _ h1 nt_dK, h2.mono ef⟩
    | true => obtain ⟨ks, h1, h2⟩ := h; exact ⟨ks, e _ h1 nt_dT, h2.mono ef⟩
  | ins c fs => obtain ⟨Cc, dx, vfs, h1, h2, h3⟩ := h; exact ⟨Cc, dx, vfs, e _ h1 nt_ins, h2, h3.mono ef⟩
  | dz kvs => obtain ⟨ks, xs, ep, h1, h2, h3, h4, h5⟩ := h; exact ⟨ks, xs, ep, e _ h1 nt_dZ, h2, h3.mono ef, h4, h5.mono ef⟩
theorem OwnAt.there {W : Wd} {H Hf : Hp} {p : Addr} {c : C} (h : OwnAt W H Hf p c) : H p ≠ none := by
  cases c with
  | lst ds => obtain ⟨vs, h1, h2⟩ := h; rw [h1]; simp
  | dct t kvs => cases t <;> (obtain ⟨ks, h1, h2⟩ := h; rw [h1]; simp)
  | ins c fs => obtain ⟨Cc, dx, vfs, h1, h2, h3⟩ := h; rw [h1]; simp
  | dz kvs => obtain ⟨ks, xs, ep, h1, _⟩ := h; rw [h1]; simp
theorem OwnAt.nt {W : Wd} {H Hf : Hp} {p : Addr} {c : C} (h : OwnAt W H Hf p c) : ∀ ps, H p ≠ some (.tbl ps) := fun ps z => by
  cases c with
  | lst ds => obtain ⟨vs, h1, h2⟩ := h; rw [h1] at z; cases z
  | dct t kvs => cases t <;> (obtain ⟨ks, h1, h2⟩ := h; rw [h1] at z; cases z)
  | ins c fs => obtain ⟨Cc, dx, vfs, h1, h2, h3⟩ := h; rw [h1] at z; cases z
  | dz kvs => obtain ⟨ks, xs, ep, h1, _⟩ := h; rw [h1] at z; exact nt_dZ ps (Option.some.inj z)
/-- as data, where it is among what doesn't change any more -/
theorem OwnAt.rp {W : Wd} {H Hf : Hp} {p : Addr} {c : C} (h : OwnAt W H Hf p c) (hs : ∀ b o, Hf b = some o → H b = some o) : Rp W H (.ref p) c.toD := by
  cases c with
  | lst ds => obtain ⟨vs, h1, h2⟩ := h; exact .lst h1 (h2.mono hs)
  | dct t kvs =>
    cases t with
    | false => obtain ⟨ks, h1, h2⟩ := h; exact .dK h1 (h2.mono hs)
    | true => obtain ⟨ks, h1, h2⟩ := h; exact .dT (.inl h1) (h2.mono hs)
  | ins c fs => obtain ⟨Cc, dx, vfs, h1, h2, h3⟩ := h; exact .obj h1 h2 (h3.mono hs)
  | dz kvs => obtain ⟨ks, xs, ep, h1, h2, h3, h4, h5⟩ := h; exact .dT (.inr ⟨xs, ep, h1, h2, h3.mono hs, h4⟩) (h5.mono hs)

/-- where the thing itself is fixed as it stands -/
theorem OwnAt.fixedRp {W : Wd} {H Hf : Hp} {p : Addr} {cc : C} {u : HO} (o : OwnAt W H Hf p cc) (hu : H p = some u) (hp : Hf p = none) : Rp W (upd Hf p u) (.ref p) cc.toD := by
  have up : ∀ b o, Hf b = some o → (upd Hf p u) b = some o := fun b o h => by rw [upd_ne (ne_of_none h hp)]; exact h
  have e1 : (upd Hf p u) p = some u := upd_same
  have m : OwnAt W (upd Hf p u) (upd Hf p u) p cc := o.mono (fun v hv _ => by rw [hu] at hv; cases hv; exact e1) up
  exact m.rp fun _ _ h => h

/-! ### tables of code objects: of the defs that make lambdas -/
/-- the table of the def that the top calls x, and its lambdas' name -/
def lamTab (W : Wd) (x : Str) : Option (Addr × Str) := match W.mg x with
  | some (.ref f) => (match W.K.lookup f with
    | some ⟨_, _, .func fd, _⟩ => (match fd.code with
      | .ref c => (match W.K.lookup c with
        | some ⟨_, _, .fields vs, _⟩ => (match (vs : Array Value)[11]? with
          | some (Value.ref P) => some (P, (x ++ ".<locals>.") ++ "<lambda>")
          | _ => none)
        | _ => none)
      | _ => none)
    | _ => none)
  | _ => none
def lamT (W : Wd) : List (Addr × Str) := lamNames.filterMap (lamTab W)
def TabsOk (W : Wd) (H Hf : Hp) : Prop := ∀ p ∈ lamT W, Hf p.1 = none ∧ ∃ ps : Array Value, H p.1 = some (.tbl ps) ∧ TriplesOk ps.toList ∧ ∀ (pos : Pos) (cv : Value), codeAmong pos ps.toList = some cv → ∃ c, cv = .ref c ∧ Hf c = some (LamX.CodeO c p.2)
theorem TabsOk.same {W : Wd} {H Hf H' Hf' : Hp} (t : TabsOk W H Hf) (e : ∀ b ps, H b = some (.tbl ps) → H' b = some (.tbl ps)) (ef : ∀ b o, Hf b = some o → Hf' b = some o) (en : ∀ b ps, H b = some (.tbl ps) → Hf b = none → Hf' b = none) : TabsOk W H' Hf' := fun p hp => by
  obtain ⟨h0, ps, h1, h2, h3⟩ := t p hp
  refine ⟨en _ _ h1 h0, ps, e _ _ h1, h2, fun pos cv hc => ?_⟩
  obtain ⟨c, e1, e2⟩ := h3 pos cv hc
  exact ⟨c, e1, ef _ _ e2⟩
theorem TabsOk.upd {W : Wd} {H Hf : Hp} {a : Addr} {u : HO} (t : TabsOk W H Hf) (n : ∀ ps, H a ≠ some (.tbl ps)) : TabsOk W (L2.upd H a u) Hf := t.same (fun b ps h => by
  rw [L2.upd_ne (fun z => n ps (by rw [← z]; exact h))]; exact h) (fun _ _ h => h) fun _ _ _ h => h
theorem TabsOk.fix {W : Wd} {H Hf : Hp} {a : Addr} {u : HO} (t : TabsOk W H Hf) (n : ∀ ps, H a ≠ some (.tbl ps)) (ef : ∀ b o, Hf b = some o → (L2.upd Hf a u) b = some o) : TabsOk W H (L2.upd Hf a u) := t.same (fun _ _ h => h) ef fun b ps h z => by
  rw [upd_ne (fun e => n ps (by rw [← e]; exact h))]; exact z
theorem ntb_none {H : Hp} {p : Addr} (h : H p = none) : ∀ ps, H p ≠ some (.tbl ps) := fun ps z => by rw [h] at z; cases z
theorem ntb_some {H : Hp} {p : Addr} {o : HO} (h : H p = some o) (n : NT o) : ∀ ps, H p ≠ some (.tbl ps) := fun ps z => by rw [h] at z; exact n ps (Option.some.inj z)
abbrev Loc := Nat → Addr
def IsOwn (ρ : Env) (loc : Loc) (a : Addr) : Prop := ∃ (i : Nat) (s : Sl) (c : C), ρ[i]? = some s ∧ s.cont = some c ∧ loc i = a

structure SOk (W : Wd) (ρ : Env) (loc : Loc) (σ : St) (H Hf : Hp) : Prop where
  tab : TabsOk W H Hf
  sub : ∀ a o, Hf a = some o → H a = some o
  len : σ.length = ρ.length
  imm : ∀ (i : Nat) (d : D), ρ[i]? = some (Sl.imm d) → ∃ v, σ[i]? = some (some v) ∧ Rp W Hf v d
  own : ∀ (i : Nat) (s : Sl) (c : C), ρ[i]? = some s → s.cont = some c → σ[i]? = some (some (.ref (loc i))) ∧ Hf (loc i) = none ∧ OwnAt W H Hf (loc i) c
  inj : ∀ (i j : Nat) (s t : Sl) (c d : C), ρ[i]? = some s → ρ[j]? = some t → s.cont = some c → t.cont = some d → loc i = loc j → i = j

/-- from one state to a later one: only one's own objects change, what is fixed stays fixed, only new things or own ones become fixed -/
structure Go (ρ : Env) (loc : Loc) (H Hf : Hp) (ρ' : Env) (loc' : Loc) (H' Hf' : Hp) : Prop where
  there : ∀ a, H' a = none → H a = none
  keep : ∀ a o, H a = some o → ¬ IsOwn ρ loc a → NT o → H' a = some o
  frz : ∀ a o, H a = some o → ¬ IsOwn ρ loc a → Hf' a = Hf a
  par : ∀ (i : Nat) (c' : C), ρ'[i]? = some (Sl.par c') → (∃ c, ρ[i]? = some (Sl.par c)) ∧ loc' i = loc i
  parK : ∀ (i : Nat) (c : C), ρ[i]? = some (Sl.par c) → ∃ c', ρ'[i]? = some (Sl.par c')
  own : ∀ (i : Nat) (c' : C), ρ'[i]? = some (Sl.own c') → H (loc' i) = none ∨ ∃ (j : Nat) (c : C), ρ[j]? = some (Sl.own c) ∧ loc j = loc' i

theorem Go.refl {ρ : Env} {loc : Loc} {H Hf : Hp} : Go ρ loc H Hf ρ loc H Hf :=
  ⟨fun _ h => h, fun _ _ h _ _ => h, fun _ _ _ _ => rfl, fun _ c h => ⟨⟨c, h⟩, rfl⟩, fun _ c h => ⟨c, h⟩, fun i c h => .inr ⟨i, c, h, rfl⟩⟩
theorem live_of {H H' : Hp} (t : ∀ a, H' a = none → H a = none) {a : Addr} {o : HO} (h : H a = some o) : ∃ o', H' a = some o' := by
  cases q : H' a with
  | none => rw [t a q] at h; cases h
  | some o' => exact ⟨o', rfl⟩
theorem IsOwn.back {ρ ρ1 : Env} {loc loc1 : Loc} {H Hf H1 Hf1 : Hp} (g : Go ρ loc H Hf ρ1 loc1 H1 Hf1) {a : Addr} {o : HO} (h : H a = some o) (i : IsOwn ρ1 loc1 a) : IsOwn ρ loc a := by
  obtain ⟨i, s, c, h1, h2, rfl⟩ := i
  cases s with
  | un => cases h2
  | imm d => cases h2
  | own c' =>
    rcases g.own i c' h1 with q | ⟨j, c2, q, e⟩
    · rw [h] at q; cases q
    · exact ⟨j, _, c2, q, rfl, e⟩
  | par c' =>
    obtain ⟨⟨c2, q⟩, e⟩ := g.par i c' h1
    exact ⟨i, _, c2, q, rfl, e.symm⟩
theorem Go.trans {W : Wd} {σ1 : St} {ρ ρ1 ρ2 : Env} {loc loc1 loc2 : Loc} {H Hf H1 Hf1 H2 Hf2 : Hp} (a : Go ρ loc H Hf ρ1 loc1 H1 Hf1) (s1 : SOk W ρ1 loc1 σ1 H1 Hf1) (b : Go ρ1 loc1 H1 Hf1 ρ2 loc2 H2 Hf2) : Go ρ loc H Hf ρ2 loc2 H2 Hf2 where
  there := fun x h => a.there x (b.there x h)
  keep := fun x o h n t => b.keep x o (a.keep x o h n t) (fun z => n (z.back a h)) t
  frz := fun x o h n => let ⟨o1, h1⟩ := live_of a.there h; (b.frz x o1 h1 fun z => n (z.back a h)).trans (a.frz x o h n)
  par := fun i c h => by
    obtain ⟨⟨c1, h1⟩, e1⟩ := b.par i c h
    obtain ⟨h2, e2⟩ := a.par i c1 h1
    exact ⟨h2, e1.trans e2⟩
  parK := fun i c h => by
    obtain ⟨c1, h1⟩ := a.parK i c h
    exact b.parK i c1 h1
  own := fun i c h => by
    rcases b.own i c h with q | ⟨j, c1, h1, e1⟩
    · cases hh : H (loc2 i) with
      | none => exact .inl rfl
      | some o =>
        by_cases n : IsOwn ρ loc (loc2 i)
        · obtain ⟨k, s, c3, k1, k2, k3⟩ := n
          cases s with
          | un => cases k2
          | imm d => cases k2
          | own c4 => exact .inr ⟨k, c4, k1, k3⟩
          | par c4 =>
            obtain ⟨c5, k5⟩ := a.parK k c4 k1
            have k6 := (a.par k c5 k5).2
            have := (s1.own k _ c5 k5 rfl).2.2.there
            rw [k6, k3, q] at this
            exact absurd rfl this
        · obtain ⟨o1, h1⟩ := live_of a.there hh
          rw [q] at h1; cases h1
    · rcases a.own j c1 h1 with q | ⟨k, c2, h2, e2⟩
      · exact .inl (e1 ▸ q)
      · exact .inr ⟨k, c2, h2, e2.trans e1⟩

section
variable {W : Wd} {ρ ρ' : Env} {loc loc' : Loc} {σ : St} {H Hf H' Hf' : Hp}
theorem SOk.notOwn (s : SOk W ρ loc σ H Hf) {a : Addr} {o : HO} (h : Hf a = some o) : ¬ IsOwn ρ loc a := fun ⟨i, t, c, h1, h2, h3⟩ => by
  have := (s.own i t c h1 h2).2.1
  rw [h3, h] at this; cases this
theorem Go.fixed (g : Go ρ loc H Hf ρ' loc' H' Hf') (s : SOk W ρ loc σ H Hf) : ∀ b o, Hf b = some o → Hf' b = some o := fun b o h =>
  (g.frz b o (s.sub b o h) (s.notOwn h)).trans h

/-- within an expression: the slots stay, but for what their objects hold, and for what becomes fixed -/
structure Ge (ρ : Env) (loc : Loc) (H Hf : Hp) (ρ' : Env) (H' Hf' : Hp) : Prop where
  there : ∀ a, H' a = none → H a = none
  keep : ∀ a o, H a = some o → ¬ IsOwn ρ loc a → NT o → H' a = some o
  frz : ∀ a o, H a = some o → ¬ IsOwn ρ loc a → Hf' a = Hf a
  own : ∀ (i : Nat) (c' : C), ρ'[i]? = some (Sl.own c') → ∃ c, ρ[i]? = some (Sl.own c)
  par : ∀ (i : Nat) (c' : C), ρ'[i]? = some (Sl.par c') → ∃ c, ρ[i]? = some (Sl.par c)
  parK : ∀ (i : Nat) (c : C), ρ[i]? = some (Sl.par c) → ∃ c', ρ'[i]? = some (Sl.par c')
theorem Ge.go (g : Ge ρ loc H Hf ρ' H' Hf') : Go ρ loc H Hf ρ' loc H' Hf' :=
  ⟨g.there, g.keep, g.frz, fun i c h => ⟨g.par i c h, rfl⟩, g.parK, fun i c h => let ⟨c2, q⟩ := g.own i c h; .inr ⟨i, c2, q, rfl⟩⟩
theorem Ge.refl : Ge ρ loc H Hf ρ H Hf := ⟨fun _ h => h, fun _ _ h _ _ => h, fun _ _ _ _ => rfl, fun _ c h => ⟨c, h⟩, fun _ c h => ⟨c, h⟩, fun _ c h => ⟨c, h⟩⟩
theorem Ge.isOwn (g : Ge ρ loc H Hf ρ' H' Hf') {a : Addr} : IsOwn ρ' loc a → IsOwn ρ loc a := fun ⟨i, s, c, h1, h2, h3⟩ => by
  cases s with
  | un => cases h2
  | imm d => cases h2
  | own c' => obtain ⟨c2, q⟩ := g.own i c' h1; exact ⟨i, _, c2, q, rfl, h3⟩
  | par c' => obtain ⟨c2, q⟩ := g.par i c' h1; exact ⟨i, _, c2, q, rfl, h3⟩
theorem Ge.trans {ρ1 : Env} {H1 Hf1 : Hp} (a : Ge ρ loc H Hf ρ1 H1 Hf1) (b : Ge ρ1 loc H1 Hf1 ρ' H' Hf') : Ge ρ loc H Hf ρ' H' Hf' where
  there := fun x h => a.there x (b.there x h)
  keep := fun x o h n t => b.keep x o (a.keep x o h n t) (fun z => n (a.isOwn z)) t
  frz := fun x o h n => let ⟨o1, h1⟩ := live_of a.there h; (b.frz x o1 h1 fun z => n (a.isOwn z)).trans (a.frz x o h n)
  own := fun i c h => let ⟨c1, h1⟩ := b.own i c h; a.own i c1 h1
  par := fun i c h => let ⟨c1, h1⟩ := b.par i c h; a.par i c1 h1
  parK := fun i c h => let ⟨c1, h1⟩ := a.parK i c h; b.parK i c1 h1
theorem Ge.fixed (g : Ge ρ loc H Hf ρ' H' Hf') (s : SOk W ρ loc σ H Hf) : ∀ b o, Hf b = some o → Hf' b = some o := g.go.fixed s
theorem SOk.newNot (s : SOk W ρ loc σ H Hf) {p : Addr} (hp : H p = none) : ¬ IsOwn ρ loc p := fun ⟨i, t, c, h1, h2, h3⟩ => by
  have := (s.own i t c h1 h2).2.2.there
  rw [h3] at this
  exact this hp

/-! ### new things alone -/
structure Ext (H Hf H' Hf' : Hp) : Prop where
  sub : ∀ a o, Hf' a = some o → H' a = some o
  keep : ∀ a o, H a = some o → H' a = some o
  frz : ∀ a o, H a = some o → Hf' a = Hf a
theorem Ext.refl (h : ∀ a o, Hf a = some o → H a = some o) : Ext H Hf H Hf := ⟨h, fun _ _ e => e, fun _ _ _ => rfl⟩
theorem Ext.trans {H1 Hf1 : Hp} (a : Ext H Hf H1 Hf1) (b : Ext H1 Hf1 H' Hf') : Ext H Hf H' Hf' :=
  ⟨b.sub, fun x o h => b.keep x o (a.keep x o h), fun x o h => (b.frz x o (a.keep x o h)).trans (a.frz x o h)⟩
theorem Ext.there (e : Ext H Hf H' Hf') : ∀ a, H' a = none → H a = none := fun a h => by
  cases q : H a with
  | none => rfl
  | some o => rw [e.keep a o q] at h; cases h
theorem Ext.fixed (e : Ext H Hf H' Hf') (hs : ∀ a o, Hf a = some o → H a = some o) : ∀ b o, Hf b = some o → Hf' b = some o := fun b o h => (e.frz b o (hs b o h)).trans h
theorem SOk.ext (s : SOk W ρ loc σ H Hf) (e : Ext H Hf H' Hf') : SOk W ρ loc σ H' Hf' where
  tab := s.tab.same (fun b ps h => e.keep b _ h) (e.fixed s.sub) fun b ps h z => (e.frz b _ h).trans z
  sub := e.sub
  len := s.len
  imm := fun i d h => let ⟨v, h1, r⟩ := s.imm i d h; ⟨v, h1, r.mono (e.fixed s.sub)⟩
  own := fun i t c h1 h2 => by
    obtain ⟨a, b, o⟩ := s.own i t c h1 h2
    obtain ⟨u, hu⟩ := Option.ne_none_iff_exists'.mp o.there
    exact ⟨a, (e.frz _ u hu).trans b, o.mono (fun _ q _ => e.keep _ _ q) (e.fixed s.sub)⟩
  inj := s.inj
theorem Ext.ge (e : Ext H Hf H' Hf') : Ge ρ loc H Hf ρ H' Hf' :=
  ⟨e.there, fun a o h _ _ => e.keep a o h, fun a o h _ => e.frz a o h, fun _ c h => ⟨c, h⟩, fun _ c h => ⟨c, h⟩, fun _ c h => ⟨c, h⟩⟩
/-- new things alone, but tables may grow -/
structure ExtT (H Hf H' Hf' : Hp) : Prop where
  sub : ∀ a o, Hf' a = some o → H' a = some o
  there : ∀ a, H' a = none → H a = none
  keep : ∀ a o, H a = some o → NT o → H' a = some o
  frz : ∀ a o, H a = some o → Hf' a = Hf a
theorem Ext.t (e : Ext H Hf H' Hf') : ExtT H Hf H' Hf' := ⟨e.sub, e.there, fun a o h _ => e.keep a o h, e.frz⟩
theorem ExtT.trans {H1 Hf1 : Hp} (a : ExtT H Hf H1 Hf1) (b : ExtT H1 Hf1 H' Hf') : ExtT H Hf H' Hf' :=
  ⟨b.sub, fun x h => a.there x (b.there x h), fun x o h t => b.keep x o (a.keep x o h t) t, fun x o h => let ⟨o1, h1⟩ := live_of a.there h; (b.frz x o1 h1).trans (a.frz x o h)⟩
theorem ExtT.fixed (e : ExtT H Hf H' Hf') (hs : ∀ a o, Hf a = some o → H a = some o) : ∀ b o, Hf b = some o → Hf' b = some o := fun b o h => (e.frz b o (hs b o h)).trans h
theorem ExtT.ge (e : ExtT H Hf H' Hf') : Ge ρ loc H Hf ρ H' Hf' :=
  ⟨e.there, fun a o h _ t => e.keep a o h t, fun a o h _ => e.frz a o h, fun _ c h => ⟨c, h⟩, fun _ c h => ⟨c, h⟩, fun _ c h => ⟨c, h⟩⟩
theorem SOk.extT (s : SOk W ρ loc σ H Hf) (e : ExtT H Hf H' Hf') (t : TabsOk W H' Hf') : SOk W ρ loc σ H' Hf' where
  tab := t
  sub := e.sub
  len := s.len
  imm := fun i d h => let ⟨v, h1, r⟩ := s.imm i d h; ⟨v, h1, r.mono (e.fixed s.sub)⟩
  own := fun i t c h1 h2 => by
    obtain ⟨a, b, o⟩ := s.own i t c h1 h2
    obtain ⟨u, hu⟩ := Option.ne_none_iff_exists'.mp o.there
    exact ⟨a, (e.frz _ u hu).trans b, o.mono (fun _ q z => e.keep _ _ q z) (e.fixed s.sub)⟩
  inj := s.inj
/-- a new thing, fixed at once -/
theorem Ext.newF (hs : ∀ a o, Hf a = some o → H a = some o) {p : Addr} (hp : H p = none) (o : HO) : Ext H Hf (upd H p o) (upd Hf p o) := by
  refine ⟨fun a u h => ?_, fun a u h => ?_, fun a u h => ?_⟩
  · by_cases e : a = p
    · subst e; rw [upd_same] at h ⊢; exact h
    · rw [upd_ne e] at h ⊢; exact hs a u h
  · rw [upd_ne (ne_of_none h hp)]; exact h
  · rw [upd_ne (ne_of_none h hp)]
/-- a new thing that may change yet -/
theorem Ext.newO (hs : ∀ a o, Hf a = some o → H a = some o) {p : Addr} (hp : H p = none) (o : HO) : Ext H Hf (upd H p o) Hf :=
  ⟨fun a u h => by rw [upd_ne (ne_of_none (hs a u h) hp)]; exact hs a u h, fun a u h => by rw [upd_ne (ne_of_none h hp)]; exact h, fun _ _ _ => rfl⟩
/-- a thing that was new since H is fixed -/
theorem Ext.fix (e : Ext H Hf H' Hf') {p : Addr} {o : HO} (hp : H p = none) (h' : H' p = some o) : Ext H Hf H' (upd Hf' p o) := by
  refine ⟨fun a u h => ?_, e.keep, fun a u h => ?_⟩
  · by_cases q : a = p
    · subst q; rw [upd_same] at h; exact h'.trans h
    · rw [upd_ne q] at h; exact e.sub a u h
  · rw [upd_ne (ne_of_none h hp)]; exact e.frz a u h

/-! ### results -/
/-- data, or a new object of one's own -/
inductive Rv where
  | imm (d : D) | own (c : C)
  /-- a new tuple in which one item is a new list of one's own -/
  | mix (pre xs post : List D)
def Rv.toD : Rv → D
  | .imm d => d
  | .own c => c.toD
  | .mix pre xs post => .tup (pre ++ .lst xs :: post)
/-- the tuple at p with the list at a -/
def MixAt (W : Wd) (H' Hf' : Hp) (p a : Addr) (pre xs post : List D) : Prop := ∃ ob us ws us2, H' p = some (.frz ob (.tup (us ++ .ref a :: us2))) ∧ ob.dict = none ∧ RpL W Hf' us pre ∧ H' a = some (.lst ws) ∧ RpL W Hf' ws xs ∧ RpL W Hf' us2 post ∧
  Hf' a = none ∧ Hf' p = none ∧ a ≠ p
/-- H: the heap ahead -/
def RvOk (W : Wd) (H : Hp) (v : V) (H' Hf' : Hp) : Rv → Prop
  | .imm d => Rp W Hf' v d
  | .own c => ∃ p, v = .ref p ∧ H p = none ∧ Hf' p = none ∧ OwnAt W H' Hf' p c
  | .mix pre xs post => ∃ p a, v = .ref p ∧ H p = none ∧ H a = none ∧ MixAt W H' Hf' p a pre xs post
end
end Ev
/-! text EvT -/
set_option Elab.async false
set_option linter.all false
set_option maxRecDepth 100000
set_option maxHeartbeats 4000000
namespace Ev
open PySem PySem.Spec PyProof.Rows L2

/-! ### new tuples, known to the object -/
/-- a tuple's object without a dict -/
def FT (xs : List V) (u : HO) : Prop := ∃ ob : Obj, ob.dict = none ∧ u = .frz ob (.tup xs)
section
variable {X : Cx} {pins : List (Addr × Obj)} {σ : L2.St} {H : Hp} {s : Shared}
theorem laidT {a : Addr} {xs : List V} {its : List Value} {h' : Heap} {t' : Nat} {ob : Obj} (I : Inv X pins σ H s) (r : Vals xs its) (hz : xs.length ≤ sizeLine) (k : ∀ b u, s.heap.get? b = some u → h'.get? b = some u) (hp : s.heap.objs.size ≤ a)
    (e : h'.get? a = some ob) (hc : ob.cls = .type "tuple") (hd : ∃ n, ob.data = .seq its.toArray n) : Inv X pins σ (upd H a (.frz ob (.tup xs))) { s with heap := h', toks := t' } :=
  I.laid k hp ⟨e, hz, its, r, ob, e, hc, hd⟩
def tTupF (t : TA) : TE := fun σ H Q => t σ H fun xs H1 => xs.length ≤ sizeLine ∧ ∀ p u, FT xs u → H1 p = none → Q (.ref p) (upd H1 p u)
theorem pe_tupF {es : List Expr} {t : TA} {x1} {pos : Pos} (h : PA X es t) : PE X (.Tuple es x1 pos) (tTupF t) := by
  refine ⟨fun pins s σ H Q I hq => ?_⟩
  refine wpAny_Tuple_spliced (thn (h.run pos pins s σ H _ I hq) fun us s1 ⟨xs, H1, I1, r, z, q⟩ => ⟨by rw [← r.length]; exact z, ?_⟩)
  have hf : H1 s1.heap.objs.size = none := I1.hok.fresh (Nat.le_refl _)
  exact ⟨.ref s1.heap.objs.size, _, laidT (t' := s1.toks) I1 r z (fun b u e => Heap.get?_push_of_some _ e) (Nat.le_refl _) (Heap.get?_push_size _ rfl) rfl ⟨_, rfl⟩, rfl, q _ _ ⟨_, rfl, rfl⟩ hf⟩
/-- t + u -/
def rCatF (K : PySem.W.Frag) : R2 := fun x y H Q => ∃ a b xs ys, x = .ref a ∧ y = .ref b ∧ SqT K H a xs ∧ SqT K H b ys ∧ xs.length + ys.length ≤ sizeLine ∧
  (xs = [] → Q (.ref b) H) ∧ (xs ≠ [] → ys = [] → Q (.ref a) H) ∧ (xs ≠ [] → ys ≠ [] → ∀ p u, FT (xs ++ ys) u → H p = none → Q (.ref p) (upd H p u))
theorem op_catF : OpR X (binaryOp .Add) (rCatF X.K) := by
  intro pins s σ H x y v u Q I rx ry h
  obtain ⟨a, b, xs, ys, rfl, rfl, ha, hb, hz, q0, q1, q2⟩ := h
  cases rx
  cases ry
  obtain ⟨its, r1, p1, _⟩ := I.tuple ha
  obtain ⟨its2, r2, p2, _⟩ := I.tuple hb
  by_cases hx : xs = []
  · subst hx
    cases r1
    exact cat_tup0 p1 p2 ⟨.ref b, H, I, rfl, q0 rfl⟩
  · refine HT.cat_tup p1 p2 (fun z => hx (r1.nil_iff.mp z)) (fun z => ⟨.ref a, H, I, rfl, q1 hx (r2.nil_iff.mp z)⟩) (fun z => ?_) (by rw [← r1.length, ← r2.length]; exact hz)
    exact ⟨.ref s.heap.objs.size, _, laidT (t' := s.toks) I (r1.append r2) (by rw [List.length_append]; exact hz) (fun b ob q => Heap.get?_push_of_some _ q) (Nat.le_refl _) (Heap.get?_push_size _ rfl) rfl ⟨_, rfl⟩, rfl,
      q2 hx (fun w => z (r2.nil_iff.mpr w)) _ _ ⟨_, rfl, rfl⟩ (I.hok.fresh (Nat.le_refl _))⟩
/-- t[lo:hi] -/
def rSlF (K : PySem.W.Frag) : V → Option Int → Option Int → Hp → VK → Prop := fun x lo hi H Q => ∃ a xs, x = .ref a ∧ SqT K H a xs ∧
  (HT.sIx xs.length 0 lo = 0 ∧ HT.sIx xs.length xs.length hi = xs.length → Q (.ref a) H) ∧ (¬ (HT.sIx xs.length 0 lo = 0 ∧ HT.sIx xs.length xs.length hi = xs.length) → ∀ p u, FT (cutV xs lo hi) u → H p = none → Q (.ref p) (upd H p u))
theorem sl_tupF : L2.SlR X (rSlF X.K) := by
  intro pins s σ H x v vl vu lo hi sl Q I rx hs pl pu h
  obtain ⟨a, xs, rfl, hx, q1, q2⟩ := h
  cases rx
  obtain ⟨its, r, ht, hz⟩ := I.tuple hx
  have hlen : its.toArray.size = xs.length := by rw [List.size_toArray]; exact r.length.symm
  refine ⟨"tuple", _, PyProof.Rows.slot_tuple_getitem.lookup, ht.typeIs, ?_⟩
  by_cases hw : HT.sIx xs.length 0 lo = 0 ∧ HT.sIx xs.length xs.length hi = xs.length
  · exact getItem_tuple_whole ht hs pl pu (by rw [hlen]; exact hw) ⟨.ref a, H, I, rfl, q1 hw⟩
  · refine HT.getItem_tuple_cut ht hs pl pu (by rw [hlen]; exact hw) ?_ (by rw [hlen]; exact hz)
    rw [hlen]
    exact ⟨.ref s.heap.objs.size, _, laidT (t' := s.toks) (xs := cutV xs lo hi) I ((r.drop (HT.sIx xs.length 0 lo)).take (HT.sIx xs.length xs.length hi - HT.sIx xs.length 0 lo)) (Nat.le_trans (cutV_length xs lo hi) hz) (fun b ob q => Heap.get?_push_of_some _ q) (Nat.le_refl _)
      (Heap.get?_push_size _ rfl) rfl ⟨_, rfl⟩, rfl, q2 hw _ _ ⟨_, rfl, rfl⟩ (I.hok.fresh (Nat.le_refl _))⟩
/-- tuple(xs) -/
theorem cr_tupF : CallR X (.type "tuple") (fun xs H Q => ∃ p ys, xs = [.ref p] ∧ ((SqL X.K H p ys ∧ ∀ l u, FT ys u → H l = none → Q (.ref l) (upd H l u)) ∨ (SqT X.K H p ys ∧ Q (.ref p) H))) := by
  intro pins s σ H xs us Q I r h
  obtain ⟨p, ys, rfl, h⟩ := h
  obtain ⟨u, rfl, ru⟩ := vals1 r
  cases ru
  rcases h with ⟨hs, q⟩ | ⟨hs, q⟩
  · obtain ⟨its, rv, pl, hz⟩ := I.list hs
    refine call_tuple_list pl.isList (fun h' hk => ?_) (by rw [List.size_toArray, ← rv.length]; exact hz)
    have I1 : Inv X pins σ H { s with heap := h' } := I.kept (t' := s.toks) hk
    have I2 : Inv X pins σ (upd H h'.objs.size (.frz { cls := .type "tuple", data := .seq its.toArray } (.tup ys))) { s with heap := h'.push { cls := .type "tuple", data := .seq its.toArray } } :=
      laidT (s := { s with heap := h' }) (t' := s.toks) I1 rv hz (fun b o e => Heap.get?_push_of_some _ e) (Nat.le_refl _) (Heap.get?_push_size _ rfl) rfl ⟨_, rfl⟩
    exact ⟨.ref h'.objs.size, _, I2, rfl, q _ _ ⟨_, rfl, rfl⟩ (I1.hok.fresh (Nat.le_refl _))⟩
  · obtain ⟨its, rv, pl, hz⟩ := I.tuple hs
    exact call_tuple_tup pl ⟨.ref p, H, I, rfl, q⟩
end
/-! dicts by such keys -/
def DGetF (P : Program) (w : World) (H : Hp) (a : Addr) (y : V) (r : Option V) : Prop := DGet H a y r ∨ (∃ kvs k b ob, Rd H a (.dT kvs) ∧ y = .ref b ∧ H b = some (.frz ob (.tup (k.map kV))) ∧ r = valV kvs k) ∨
  ∃ xs ep kvs k b ob, H a = some (dZ P w a ep xs) ∧ ZOk a xs ∧ ZKeys H xs ∧ ZVals kvs xs ∧ y = .ref b ∧ H b = some (.frz ob (.tup (k.map kV))) ∧ r = valV kvs k
section
variable {X : Cx} {pins : List (Addr × Obj)} {σ : L2.St} {H : Hp} {s : Shared} {a : Addr} {y v : V} {u r : Value} {o : Option V} {A : Around} {E : Value → Shared → Prop}
theorem key_ofF {P : Program} {w : World} {h : Heap} {b : Addr} {ob : Obj} {ks : List L2.Key} (ok : HOk P w H h) (e : H b = some (.frz ob (.tup (ks.map kV)))) : (tupleKind (mixKind P w)).is h ks b := by
  obtain ⟨_, _, its, r, o, h1, h2, n, h3⟩ := (show ObjOk P w H h b (.frz ob (.tup (ks.map kV))) from ok b _ e)
  exact ⟨o, its.toArray, n, h1, h2, h3, by simpa using items_are r⟩
theorem dz_of {P : Program} {w : World} {h : Heap} {ep : Nat} {xs : List (List L2.Key × Addr × Value)} (ok : HOk P w H h) (e : H a = some (dZ P w a ep xs)) (zo : ZOk a xs) (zk : ZKeys H xs) : h.DictOfH (tupleKind (mixKind P w)) a xs := by
  obtain ⟨⟨ob, es, h1, h2, h3, h4⟩, _, _⟩ := (show ObjOk P w H h a (dZ P w a ep xs) from ok a _ e)
  exact ⟨ob, es, ep, h1, h2, h3, h4, fun x hx => let ⟨_, hb, _⟩ := zk x hx; key_ofF ok hb, zo.nd⟩
theorem zv_val {kvs : List (List L2.Key × V)} {xs : List (List L2.Key × Addr × Value)} (z : ZVals kvs xs) (k : List L2.Key) : RelO (valV kvs k) ((atKey xs k).map (·.2)) := by
  induction z with
  | nil => exact True.intro
  | @cons p q ps qs hq t ih =>
    obtain ⟨h1, h2⟩ := hq
    by_cases e : p.1 = k
    · have e' : q.1 = k := h1.symm.trans e
      have b : atKey (q :: qs) k = some q.2 := by simp [atKey, List.find?_cons, e']
      rw [valV_pos e, b]
      exact h2
    · have e' : ¬ q.1 = k := fun z => e (h1.trans z)
      have b : atKey (q :: qs) k = atKey qs k := by simp [atKey, List.find?_cons, e']
      rw [valV_neg e, b]
      exact ih
theorem dF_typeIs (I : Inv X pins σ H s) (g : DGetF X.prog X.w H a y o) : s.TypeIs (.ref a) "dict" := by
  rcases g with g | ⟨kvs, k, b, ob, e, _, _, _⟩ | ⟨xs, ep, kvs, k, b, ob, e, zo, zk, zv, _, _, _⟩
  · exact dict_typeIs I g
  · obtain ⟨_, _, xs, _, dd⟩ := dt_rd I.hok e
    exact dd.typeIs
  · exact (dz_of I.hok e zo zk).typeIs
theorem dF_getItem {Q : Value → Shared → Prop} (hu : A.units + 1 < cLine) (I : Inv X pins σ H s) (g : DGetF X.prog X.w H a y (some v)) (ry : RelV y u) (h : ∀ w' s', Inv X pins σ H s' → RelV v w' → Q w' s') :
    wpAny (model X.prog X.w) A (getItem (.ref a) u) Q E s := by
  rcases g with g | ⟨kvs, k, b, ob, e, ey, eb, l⟩ | ⟨xs, ep, kvs, k, b, ob, e, zo, zk, zv, ey, eb, l⟩
  · exact d_getItem hu I g ry h
  · subst ey
    cases (show u = Value.ref b from ry)
    obtain ⟨z, hd, xs, rel, dd⟩ := dt_rd I.hok e
    obtain ⟨w', hw, rw'⟩ := RelO.some_of (v := v) (o := (atKey xs k).map (·.2)) (by rw [l]; exact rel.val k)
    obtain ⟨p, hp, hp2⟩ := Option.map_eq_some_iff.mp hw
    refine wpAny_getItem_heap (tupleKind_room_in1 hu) (key_ofF I.hok eb) dd hp ?_
    rw [hp2]
    exact h w' _ (I.tok _) rw'
  · subst ey
    cases (show u = Value.ref b from ry)
    obtain ⟨w', hw, rw'⟩ := RelO.some_of (v := v) (o := (atKey xs k).map (·.2)) (by rw [l]; exact zv_val zv k)
    obtain ⟨p, hp, hp2⟩ := Option.map_eq_some_iff.mp hw
    refine wpAny_getItem_heap (tupleKind_room_in1 hu) (key_ofF I.hok eb) (dz_of I.hok e zo zk) hp ?_
    rw [hp2]
    exact h w' _ (I.tok _) rw'
end
section
variable {X : Cx} {o i : Expr} {pos : Pos} {td ty : TE}
def tDGetF (P : Program) (w : World) (td ty : TE) : TE := fun σ H Q => td σ H fun x H1 => ty σ H1 fun y H2 => ∃ a v, x = .ref a ∧ DGetF P w H2 a y (some v) ∧ Q v H2
theorem pe_dgetF (hu : X.A.units + 1 < cLine) (ho : PE X o td) (hi : PE X i ty) (hs : NoSl i) : PE X (.Subscript o i pos) (tDGetF X.prog X.w td ty) := by
  refine ⟨fun pins s σ H Q I h => ?_⟩
  refine subD_of PySem.F.slot_dict_getitem.lookup hs (thn (ho.run pins s σ H _ I h) fun u s1 ⟨x, H1, I1, rx, q1⟩ => thn (hi.run pins s1 σ H1 _ I1 q1) fun iv s2 ⟨y, H2, I2, ry, a, v, ex, g, q2⟩ => ?_)
  subst ex
  obtain rfl : u = Value.ref a := rx
  exact ⟨dF_typeIs I2 g, dF_getItem hu I2 g ry fun w' s3 I3 rw' => ⟨v, H2, I3, rw', q2⟩⟩
end
theorem sqT_fz {K : PySem.W.Frag} {H : Hp} {a : Addr} {ob : Obj} {xs : List V} (h : H a = some (.frz ob (.tup xs))) : SqT K H a xs := .inl (.inr ⟨ob, h⟩)
end Ev
/-! text Ev1 -/
set_option Elab.async false
set_option linter.all false
set_option maxRecDepth 100000
set_option maxHeartbeats 4000000
namespace Ev
open PySem L2

abbrev wd (X : Cx) : Wd := ⟨X.K, X.mg, X.prog, X.w⟩
/-- a read value, or one's own object by its slot -/
inductive AR where
  | val (d : D) | rf (i : Nat)
abbrev Fe := Env → Option (Rv × Env)
abbrev Fd := Env → Option (D × Env)
abbrev Fr := Env → Option (AR × Env)
abbrev Ft := Env → Option (Bool × Env)
abbrev Fa := Env → Option (List AR × Env)
abbrev Fl := Env → Option (List D × Env)

def contAt (ρ : Env) (i : Nat) : Option C := (ρ[i]?).bind Sl.cont
def deref (ρ : Env) : AR → Option D
  | .val d => some d
  | .rf i => (contAt ρ i).map C.toD
def derefs (ρ : Env) : List AR → Option (List D)
  | [] => some []
  | a :: as => (deref ρ a).bind fun d => (derefs ρ as).map (d :: ·)

theorem contAt_some {ρ : Env} {i : Nat} {c : C} (h : contAt ρ i = some c) : ∃ s, ρ[i]? = some s ∧ s.cont = some c := by
  unfold contAt at h
  cases e : ρ[i]? with
  | none => rw [e] at h; cases h
  | some s => rw [e] at h; exact ⟨s, rfl, h⟩

def AROk (W : Wd) (loc : Loc) (v : V) (Hf : Hp) : AR → Prop
  | .val d => Rp W Hf v d
  | .rf i => v = .ref (loc i)
theorem AROk.mono {W : Wd} {loc : Loc} {v : V} {Hf Hf' : Hp} (e : ∀ b o, Hf b = some o → Hf' b = some o) : ∀ {a : AR}, AROk W loc v Hf a → AROk W loc v Hf' a
  | .val _, h => Rp.mono e h
  | .rf _, h => h
def ARsOk (W : Wd) (loc : Loc) (Hf : Hp) : List V → List AR → Prop
  | [], [] => True
  | v :: vs, a :: as => AROk W loc v Hf a ∧ ARsOk W loc Hf vs as
  | _, _ => False
theorem ARsOk.mono {W : Wd} {loc : Loc} {Hf Hf' : Hp} (e : ∀ b o, Hf b = some o → Hf' b = some o) : ∀ {vs : List V} {as : List AR}, ARsOk W loc Hf vs as → ARsOk W loc Hf' vs as
  | [], [], _ => trivial
  | _ :: _, _ :: _, h => ⟨AROk.mono e h.1, ARsOk.mono e h.2⟩
  | [], _ :: _, h => h.elim
  | _ :: _, [], h => h.elim

/-- a value as it is read now: the thing itself may yet change, its parts don't -/
def RpB (W : Wd) (H Hf : Hp) (v : V) : D → Prop
  | .lst ds => ∃ a vs, v = .ref a ∧ H a = some (.lst vs) ∧ RpL W Hf vs ds
  | .dct false ds => ∃ a ks, v = .ref a ∧ H a = some (.dK ks) ∧ RpK W Hf ks ds
  | .dct true ds => ∃ a ks, v = .ref a ∧ TabAt W H a ks ∧ RpT W Hf ks ds
  | .obj c ds => ∃ a Cc dx vfs, v = .ref a ∧ H a = some (.ins Cc dx vfs) ∧ W.mg c = some (.ref Cc) ∧ RpF W Hf vfs ds
  | d => Rp W Hf v d
theorem Rp.b {W : Wd} {H Hf : Hp} {v : V} {d : D} (h : Rp W Hf v d) (hs : ∀ a o, Hf a = some o → H a = some o) : RpB W H Hf v d := by
  cases h with
  | non => exact .non
  | bl b => exact .bl b
  | int i => exact .int i
  | str x => exact .str x
  | tup a n b => exact .tup a n b
  | lst a b => exact ⟨_, _, rfl, hs _ _ a, b⟩
  | dK a b => exact ⟨_, _, rfl, hs _ _ a, b⟩
  | dT a b => exact ⟨_, _, rfl, a.mono hs, b⟩
  | obj a m b => exact ⟨_, _, _, _, rfl, hs _ _ a, m, b⟩
  | scr a => exact .scr a
  | raw a b => exact .raw a b
  | gf h => exact .gf h
  | exc a m x b => exact .exc a m x b
theorem OwnAt.b {W : Wd} {H Hf : Hp} {p : Addr} {c : C} (h : OwnAt W H Hf p c) (hs : ∀ a o, Hf a = some o → H a = some o) : RpB W H Hf (.ref p) c.toD := by
  cases c with
  | lst ds => obtain ⟨vs, a, b⟩ := h; exact ⟨_, _, rfl, a, b⟩
  | dct t ds =>
    cases t with
    | false => obtain ⟨ks, h1, h2⟩ := h; exact ⟨_, _, rfl, h1, h2⟩
    | true => obtain ⟨ks, h1, h2⟩ := h; exact ⟨_, _, rfl, .inl h1, h2⟩
  | ins c fs => obtain ⟨Cc, dx, vfs, a, m, b⟩ := h; exact ⟨_, _, _, _, rfl, a, m, b⟩
  | dz ds => obtain ⟨ks, xs, ep, h1, h2, h3, h4, h5⟩ := h; exact ⟨_, _, rfl, .inr ⟨xs, ep, h1, h2, h3.mono hs, h4⟩, h5⟩
theorem deref_b {W : Wd} {ρ : Env} {loc : Loc} {σ : St} {H Hf : Hp} {v : V} {a : AR} {d : D} (s : SOk W ρ loc σ H Hf) (h : AROk W loc v Hf a) (e : deref ρ a = some d) : RpB W H Hf v d := by
  cases a with
  | val x =>
    have : x = d := Option.some.inj e
    subst this
    exact Rp.b h s.sub
  | rf i =>
    cases hc : contAt ρ i with
    | none => simp [deref, hc] at e
    | some c =>
      simp [deref, hc] at e
      subst e
      obtain ⟨sl, h1, h2⟩ := contAt_some hc
      have hv : v = .ref (loc i) := h
      subst hv
      exact (s.own i sl c h1 h2).2.2.b s.sub
def RpBs (W : Wd) (H Hf : Hp) : List V → List D → Prop
  | [], [] => True
  | v :: vs, a :: as => RpB W H Hf v a ∧ RpBs W H Hf vs as
  | _, _ => False
theorem derefs_b {W : Wd} {ρ : Env} {loc : Loc} {σ : St} {H Hf : Hp} (s : SOk W ρ loc σ H Hf) : ∀ {vs : List V} {as : List AR} {ds : List D}, ARsOk W loc Hf vs as → derefs ρ as = some ds → RpBs W H Hf vs ds
  | [], [], ds, _, e => by
    have : ds = [] := (Option.some.inj e).symm
    subst this; trivial
  | v :: vs, a :: as, ds, h, e => by
    cases e1 : deref ρ a with
    | none => simp [derefs, e1] at e
    | some d =>
      cases e2 : derefs ρ as with
      | none => simp [derefs, e1, e2] at e
      | some ds' =>
        simp [derefs, e1, e2] at e
        subst e
        exact ⟨deref_b s h.1 e1, derefs_b s h.2 e2⟩
  | [], _ :: _, _, h, _ => h.elim
  | _ :: _, [], _, h, _ => h.elim

/-! ### readings -/
def tX (W : Wd) (F : Fe) : TE := fun σ H Q => ∃ ρ loc Hf r ρ', SOk W ρ loc σ H Hf ∧ F ρ = some (r, ρ') ∧
  ∀ v H' Hf', Ge ρ loc H Hf ρ' H' Hf' → SOk W ρ' loc σ H' Hf' → RvOk W H v H' Hf' r → Q v H'
def tD (W : Wd) (F : Fd) : TE := fun σ H Q => ∃ ρ loc Hf r ρ', SOk W ρ loc σ H Hf ∧ F ρ = some (r, ρ') ∧
  ∀ v H' Hf', Ge ρ loc H Hf ρ' H' Hf' → SOk W ρ' loc σ H' Hf' → Rp W Hf' v r → Q v H'
def tR (W : Wd) (F : Fr) : TE := fun σ H Q => ∃ ρ loc Hf r ρ', SOk W ρ loc σ H Hf ∧ F ρ = some (r, ρ') ∧
  ∀ v H' Hf', Ge ρ loc H Hf ρ' H' Hf' → SOk W ρ' loc σ H' Hf' → AROk W loc v Hf' r → Q v H'
def tT (W : Wd) (F : Ft) : TT := fun σ H Q => ∃ ρ loc Hf r ρ', SOk W ρ loc σ H Hf ∧ F ρ = some (r, ρ') ∧
  ∀ H' Hf', Ge ρ loc H Hf ρ' H' Hf' → SOk W ρ' loc σ H' Hf' → Q r H'
def tA (W : Wd) (F : Fa) : TA := fun σ H Q => ∃ ρ loc Hf r ρ', SOk W ρ loc σ H Hf ∧ F ρ = some (r, ρ') ∧
  ∀ vs H' Hf', Ge ρ loc H Hf ρ' H' Hf' → SOk W ρ' loc σ H' Hf' → ARsOk W loc Hf' vs r → Q vs H'
def tL (W : Wd) (F : Fl) : TA := fun σ H Q => ∃ ρ loc Hf r ρ', SOk W ρ loc σ H Hf ∧ F ρ = some (r, ρ') ∧
  ∀ vs H' Hf', Ge ρ loc H Hf ρ' H' Hf' → SOk W ρ' loc σ H' Hf' → RpL W Hf' vs r → Q vs H'

abbrev PX (X : Cx) (e : Expr) (F : Fe) := PE X e (tX (wd X) F)
abbrev PD (X : Cx) (e : Expr) (F : Fd) := PE X e (tD (wd X) F)
abbrev PR (X : Cx) (e : Expr) (F : Fr) := PE X e (tR (wd X) F)
abbrev PB (X : Cx) (e : Expr) (F : Ft) := PT X e (tT (wd X) F)
abbrev PAs (X : Cx) (es : List Expr) (F : Fa) := PA X es (tA (wd X) F)
abbrev PLs (X : Cx) (es : List Expr) (F : Fl) := PA X es (tL (wd X) F)

section
variable {X : Cx} {e a b c : Expr}
theorem pe_imp {t t' : TE} (h : PE X e t) (k : ∀ σ H Q, t' σ H Q → t σ H Q) : PE X e t' := ⟨fun pins s σ H Q I w => h.run pins s σ H Q I (k σ H Q w)⟩
theorem pt_imp {t t' : TT} (h : PT X e t) (k : ∀ σ H Q, t' σ H Q → t σ H Q) : PT X e t' := ⟨fun pins s σ H Q I w => h.run pins s σ H Q I (k σ H Q w)⟩
theorem pw_imp {t t' : TT} (h : PW X e t) (k : ∀ σ H Q, t' σ H Q → t σ H Q) : PW X e t' := ⟨fun wh pins s σ H Q I w => h.run wh pins s σ H Q I (k σ H Q w)⟩
theorem pa_imp {es : List Expr} {t t' : TA} (h : PA X es t) (k : ∀ σ H Q, t' σ H Q → t σ H Q) : PA X es t' := ⟨fun pos pins s σ H Q I w => h.run pos pins s σ H Q I (k σ H Q w)⟩
theorem ps_imp {st : Stmt} {t t' : TS} (h : PS X st t) (k : ∀ D σ H, t' D σ H → t D σ H) : PS X st t' := ⟨fun pins s σ H D I w => h.run pins s σ H D I (k D σ H w)⟩
theorem pss_imp {st : List Stmt} {t t' : TS} (h : PSs X st t) (k : ∀ D σ H, t' D σ H → t D σ H) : PSs X st t' := ⟨fun pins s σ H D I w => h.run pins s σ H D I (k D σ H w)⟩
theorem pe_or2 {t u : TE} (h : PE X e t) (k : PE X e u) : PE X e (fun σ H Q => t σ H Q ∨ u σ H Q) :=
  ⟨fun pins s σ H Q I w => w.elim (h.run pins s σ H Q I) (k.run pins s σ H Q I)⟩
/-! ### fixing what is new -/
/-- the thing at p becomes fixed -/
theorem fix_own {W : Wd} {ρ ρ' : Env} {loc : Loc} {σ : St} {H Hf H' Hf' : Hp} {p : Addr} {cc : C} (g : Ge ρ loc H Hf ρ' H' Hf') (s : SOk W ρ' loc σ H' Hf') (hp : H p = none) (hp' : Hf' p = none) (o : OwnAt W H' Hf' p cc)
    (hno : ¬ IsOwn ρ' loc p) : ∃ Hf2, Ge ρ loc H Hf ρ' H' Hf2 ∧ SOk W ρ' loc σ H' Hf2 ∧ Rp W Hf2 (.ref p) cc.toD := by
  obtain ⟨u, hu⟩ := Option.ne_none_iff_exists'.mp o.there
  have sb : ∀ a o, (upd Hf' p u) a = some o → H' a = some o := fun a o h => by
    by_cases q : a = p
    · subst q; rw [upd_same] at h; exact hu.trans h
    · rw [upd_ne q] at h; exact s.sub a o h
  have up : ∀ b o, Hf' b = some o → (upd Hf' p u) b = some o := fun b o h => by rw [upd_ne (ne_of_none h hp')]; exact h
  refine ⟨upd Hf' p u, ⟨g.there, g.keep, fun a o h n => ?_, g.own, g.par, g.parK⟩, ⟨s.tab.fix o.nt up, sb, s.len, fun i d h => ?_, fun i t c h1 h2 => ?_, s.inj⟩, ?_⟩
  · rw [upd_ne (ne_of_none h hp)]; exact g.frz a o h n
  · obtain ⟨v, h1, r⟩ := s.imm i d h
    exact ⟨v, h1, r.mono up⟩
  · obtain ⟨x, y, z⟩ := s.own i t c h1 h2
    have ne : loc i ≠ p := fun q => hno ⟨i, t, c, h1, h2, q⟩
    exact ⟨x, by rw [upd_ne ne]; exact y, z.mono (fun _ q _ => q) up⟩
  · exact o.fixedRp hu hp'
/-- what is new and no one's own becomes fixed -/
theorem fix_at {W : Wd} {ρ ρ' : Env} {loc : Loc} {σ : St} {H Hf H' Hf' : Hp} {p : Addr} {u : HO} (g : Ge ρ loc H Hf ρ' H' Hf') (s : SOk W ρ' loc σ H' Hf') (hp : H p = none) (hp' : Hf' p = none) (hu : H' p = some u) (nu : NT u)
    (hno : ¬ IsOwn ρ' loc p) : Ge ρ loc H Hf ρ' H' (upd Hf' p u) ∧ SOk W ρ' loc σ H' (upd Hf' p u) ∧ ∀ b o, Hf' b = some o → (upd Hf' p u) b = some o := by
  have sb : ∀ a o, (upd Hf' p u) a = some o → H' a = some o := fun a o h => by
    by_cases q : a = p
    · subst q; rw [upd_same] at h; exact hu.trans h
    · rw [upd_ne q] at h; exact s.sub a o h
  have up : ∀ b o, Hf' b = some o → (upd Hf' p u) b = some o := fun b o h => by rw [upd_ne (ne_of_none h hp')]; exact h
  refine ⟨⟨g.there, g.keep, fun a o h n => ?_, g.own, g.par, g.parK⟩, ⟨s.tab.fix (ntb_some hu nu) up, sb, s.len, fun i d h => ?_, fun i t c h1 h2 => ?_, s.inj⟩, up⟩
  · rw [upd_ne (ne_of_none h hp)]; exact g.frz a o h n
  · obtain ⟨v, h1, r⟩ := s.imm i d h
    exact ⟨v, h1, r.mono up⟩
  · obtain ⟨x, y, z⟩ := s.own i t c h1 h2
    have ne : loc i ≠ p := fun q => hno ⟨i, t, c, h1, h2, q⟩
    exact ⟨x, by rw [upd_ne ne]; exact y, z.mono (fun _ q _ => q) up⟩
theorem rpl_mid {W : Wd} {Hf : Hp} {v : V} {d : D} {us2 : List V} {post : List D} (r : Rp W Hf v d) (r2 : RpL W Hf us2 post) : ∀ {us : List V} {pre : List D}, RpL W Hf us pre → RpL W Hf (us ++ v :: us2) (pre ++ d :: post)
  | [], [], .nil => .cons r r2
  | _ :: _, _ :: _, .cons q t => .cons q (rpl_mid r r2 t)
/-- a result, fixed where it is new -/
theorem fix_rv {W : Wd} {ρ ρ' : Env} {loc : Loc} {σ : St} {H Hf H' Hf' : Hp} {v : V} {r : Rv} (s0 : SOk W ρ loc σ H Hf) (g : Ge ρ loc H Hf ρ' H' Hf') (s : SOk W ρ' loc σ H' Hf') (h : RvOk W H v H' Hf' r) :
    ∃ Hf2, Ge ρ loc H Hf ρ' H' Hf2 ∧ SOk W ρ' loc σ H' Hf2 ∧ Rp W Hf2 v r.toD := by
  cases r with
  | imm d => exact ⟨Hf', g, s, h⟩
  | own cc =>
    obtain ⟨p, rfl, hp, hp', o⟩ := h
    exact fix_own g s hp hp' o fun z => s0.newNot hp (g.isOwn z)
  | mix pre xs post =>
    obtain ⟨p, a, rfl, hp, ha, ob, us, ws, us2, e1, en, r1, e2, r2, r3, fa, fp, ne⟩ := h
    obtain ⟨g1, s1, up1⟩ := fix_at g s ha fa e2 nt_lst fun z => s0.newNot ha (g.isOwn z)
    obtain ⟨g2, s2, up2⟩ := fix_at g1 s1 hp (by rw [upd_ne (Ne.symm ne)]; exact fp) e1 nt_frz fun z => s0.newNot hp (g.isOwn z)
    have up : ∀ b o, Hf' b = some o → _ := fun b o h => up2 b o (up1 b o h)
    refine ⟨_, g2, s2, .tup upd_same en (rpl_mid (.lst (up2 _ _ upd_same) (r2.mono up)) (r3.mono up) (r1.mono up))⟩
def fixF (F : Fe) : Fd := fun ρ => (F ρ).map fun x => (x.1.toD, x.2)
theorem pd_fix {F : Fe} (h : PX X e F) : PD X e (fixF F) := pe_imp h fun σ H Q ⟨ρ, loc, Hf, d, ρ', s, hF, k⟩ => by
  unfold fixF at hF
  cases q : F ρ with
  | none => rw [q] at hF; cases hF
  | some x =>
    obtain ⟨r, ρ1⟩ := x
    rw [q] at hF
    cases hF
    refine ⟨ρ, loc, Hf, r, _, s, q, fun v H' Hf' g s' o => ?_⟩
    obtain ⟨Hf2, g2, s2, r2⟩ := fix_rv s g s' o
    exact k v H' Hf2 g2 s2 r2
def immF (F : Fd) : Fe := fun ρ => (F ρ).map fun x => (.imm x.1, x.2)
theorem px_imm {F : Fd} (h : PD X e F) : PX X e (immF F) := pe_imp h fun σ H Q ⟨ρ, loc, Hf, d, ρ', s, hF, k⟩ => by
  unfold immF at hF
  cases q : F ρ with
  | none => rw [q] at hF; cases hF
  | some x =>
    obtain ⟨r, ρ1⟩ := x
    rw [q] at hF
    cases hF
    exact ⟨ρ, loc, Hf, r, _, s, q, fun v H' Hf' g s' o => k v H' Hf' g s' o⟩
def valF (F : Fd) : Fr := fun ρ => (F ρ).map fun x => (.val x.1, x.2)
theorem pr_val {F : Fd} (h : PD X e F) : PR X e (valF F) := pe_imp h fun σ H Q ⟨ρ, loc, Hf, d, ρ', s, hF, k⟩ => by
  unfold valF at hF
  cases q : F ρ with
  | none => rw [q] at hF; cases hF
  | some x =>
    obtain ⟨r, ρ1⟩ := x
    rw [q] at hF
    cases hF
    exact ⟨ρ, loc, Hf, r, _, s, q, fun v H' Hf' g s' o => k v H' Hf' g s' o⟩

/-! ### names -/
def varR (i : Nat) : Fr := fun ρ => match ρ[i]? with
  | some (.imm d) => some (.val d, ρ)
  | some (.own _) => some (.rf i, ρ)
  | some (.par _) => some (.rf i, ρ)
  | _ => none
def varD (i : Nat) : Fd := fun ρ => match ρ[i]? with
  | some (.imm d) => some (d, ρ)
  | some (.own c) => some (c.toD, ρ.set i (.imm c.toD))
  | _ => none
theorem SOk.lt {W : Wd} {ρ : Env} {loc : Loc} {σ : St} {H Hf : Hp} (s : SOk W ρ loc σ H Hf) {i : Nat} {x : Sl} (h : ρ[i]? = some x) : i < ρ.length := (List.getElem?_eq_some_iff.mp h).1
theorem pr_var {i : Nat} (h : PE X e (tVar i)) : PR X e (varR i) := pe_imp h fun σ H Q ⟨ρ, loc, Hf, d, ρ', s, hF, k⟩ => by
  unfold varR at hF
  split at hF
  · rename_i d' q
    cases hF
    obtain ⟨v, h1, r⟩ := s.imm i d' q
    exact ⟨v, h1, k v H Hf .refl s r⟩
  · rename_i c' q
    cases hF
    exact ⟨_, (s.own i _ c' q rfl).1, k _ H Hf .refl s rfl⟩
  · rename_i c' q
    cases hF
    exact ⟨_, (s.own i _ c' q rfl).1, k _ H Hf .refl s rfl⟩
  · cases hF
/-- a slot's object becomes fixed -/
theorem freeze {W : Wd} {ρ : Env} {loc : Loc} {σ : St} {H Hf : Hp} {i : Nat} {c : C} (s : SOk W ρ loc σ H Hf) (q : ρ[i]? = some (Sl.own c)) :
    ∃ Hf', Ge ρ loc H Hf (ρ.set i (.imm c.toD)) H Hf' ∧ SOk W (ρ.set i (.imm c.toD)) loc σ H Hf' ∧ Rp W Hf' (.ref (loc i)) c.toD := by
  have hi := s.lt q
  obtain ⟨hσ, hn, o⟩ := s.own i _ c q rfl
  obtain ⟨u, hu⟩ := Option.ne_none_iff_exists'.mp o.there
  have sb : ∀ a o, (upd Hf (loc i) u) a = some o → H a = some o := fun a o h => by
    by_cases z : a = loc i
    · subst z; rw [upd_same] at h; exact hu.trans h
    · rw [upd_ne z] at h; exact s.sub a o h
  have up : ∀ b o, Hf b = some o → (upd Hf (loc i) u) b = some o := fun b o h => by rw [upd_ne (ne_of_none h hn)]; exact h
  have rp : Rp W (upd Hf (loc i) u) (.ref (loc i)) c.toD := o.fixedRp hu hn
  have other : ∀ (j : Nat) (t : Sl), (ρ.set i (.imm c.toD))[j]? = some t → (j = i ∧ t = .imm c.toD) ∨ (j ≠ i ∧ ρ[j]? = some t) := fun j t h => by
    by_cases z : j = i
    · subst z; rw [List.getElem?_set_self hi] at h; exact .inl ⟨rfl, (Option.some.inj h).symm⟩
    · rw [List.getElem?_set_ne (Ne.symm z)] at h; exact .inr ⟨z, h⟩
  refine ⟨upd Hf (loc i) u, ⟨fun _ h => h, fun _ _ h _ _ => h, fun a o h n => ?_, fun j c' h => ?_, fun j c' h => ?_, fun j c' h => ?_⟩, ⟨s.tab.fix o.nt up, sb, by rw [List.length_set]; exact s.len, fun j d h => ?_, fun j t c' h1 h2 => ?_, fun j l t t' c1 c2 h1 h2 h3 h4 => ?_⟩, rp⟩
  · rw [upd_ne fun z => n ⟨i, _, c, q, rfl, z.symm⟩]
  · rcases other j _ h with ⟨_, z⟩ | ⟨_, z⟩
    · cases z
    · exact ⟨c', z⟩
  · rcases other j _ h with ⟨_, z⟩ | ⟨_, z⟩
    · cases z
    · exact ⟨c', z⟩
  · have z : j ≠ i := fun z => by subst z; rw [q] at h; cases h
    exact ⟨c', by rw [List.getElem?_set_ne (Ne.symm z)]; exact h⟩
  · rcases other j _ h with ⟨z, z2⟩ | ⟨_, z⟩
    · cases z2
      subst z
      exact ⟨_, hσ, rp⟩
    · obtain ⟨v, h1, r⟩ := s.imm j d z
      exact ⟨v, h1, r.mono up⟩
  · rcases other j _ h1 with ⟨z, z2⟩ | ⟨nj, z⟩
    · subst z2; cases h2
    · obtain ⟨x, y, w⟩ := s.own j t c' z h2
      have ne : loc j ≠ loc i := fun e => nj (s.inj j i t _ c' c z q h2 rfl e)
      exact ⟨x, by rw [upd_ne ne]; exact y, w.mono (fun _ q _ => q) up⟩
  · rcases other j _ h1 with ⟨_, z2⟩ | ⟨_, z⟩
    · subst z2; cases h3
    · rcases other l _ h2 with ⟨_, z2⟩ | ⟨_, z'⟩
      · subst z2; cases h4
      · exact s.inj j l t t' c1 c2 z z' h3 h4
theorem pd_var {i : Nat} (h : PE X e (tVar i)) : PD X e (varD i) := pe_imp h fun σ H Q ⟨ρ, loc, Hf, d, ρ', s, hF, k⟩ => by
  unfold varD at hF
  split at hF
  · rename_i d' q
    cases hF
    obtain ⟨v, h1, r⟩ := s.imm i _ q
    exact ⟨v, h1, k v H Hf .refl s r⟩
  · rename_i c' q
    cases hF
    obtain ⟨Hf', g, s', r⟩ := freeze s q
    exact ⟨_, (s.own i _ c' q rfl).1, k _ H Hf' g s' r⟩
  · cases hF

/-! ### constants -/
def constF (d : D) : Fd := fun ρ => some (d, ρ)
theorem pd_const {v : V} {d : D} (h : PE X e (tC v)) (r : ∀ W H, Rp W H v d) : PD X e (constF d) := pe_imp h fun σ H Q ⟨ρ, loc, Hf, d', ρ', s, hF, k⟩ => by
  cases hF
  exact k v H Hf .refl s (r _ _)

/-! ### lists of expressions -/
def nilA : Fa := fun ρ => some ([], ρ)
def consA (F : Fr) (G : Fa) : Fa := fun ρ => (F ρ).bind fun x => (G x.2).map fun y => (x.1 :: y.1, y.2)
theorem pas_nil : PAs X [] nilA := pa_imp pa_nil fun σ H Q ⟨ρ, loc, Hf, r, ρ', s, hF, k⟩ => by
  cases hF
  exact k [] H Hf .refl s trivial
theorem pas_cons {es : List Expr} {F : Fr} {G : Fa} (ha : PR X e F) (hr : PAs X es G) (hs : starEach (e :: es) X.env = (false, eval e X.env) :: starEach es X.env) : PAs X (e :: es) (consA F G) :=
  pa_imp (pa_cons ha hr hs) fun σ H Q ⟨ρ, loc, Hf, r, ρ', s, hF, k⟩ => by
    unfold consA at hF
    obtain ⟨⟨a, ρ1⟩, q1, hF⟩ := Option.bind_eq_some_iff.mp hF
    obtain ⟨⟨as, ρ2⟩, q2, hF⟩ := Option.map_eq_some_iff.mp hF
    cases hF
    refine ⟨ρ, loc, Hf, a, ρ1, s, q1, fun v H1 Hf1 g1 s1 o1 => ⟨ρ1, loc, Hf1, as, ρ2, s1, q2, fun vs H2 Hf2 g2 s2 o2 => ?_⟩⟩
    exact k (v :: vs) H2 Hf2 (g1.trans g2) s2 ⟨o1.mono (g2.fixed s1), o2⟩
def nilL : Fl := fun ρ => some ([], ρ)
def consL (F : Fd) (G : Fl) : Fl := fun ρ => (F ρ).bind fun x => (G x.2).map fun y => (x.1 :: y.1, y.2)
theorem pls_nil : PLs X [] nilL := pa_imp pa_nil fun σ H Q ⟨ρ, loc, Hf, r, ρ', s, hF, k⟩ => by
  cases hF
  exact k [] H Hf .refl s .nil
theorem pls_cons {es : List Expr} {F : Fd} {G : Fl} (ha : PD X e F) (hr : PLs X es G) (hs : starEach (e :: es) X.env = (false, eval e X.env) :: starEach es X.env) : PLs X (e :: es) (consL F G) :=
  pa_imp (pa_cons ha hr hs) fun σ H Q ⟨ρ, loc, Hf, r, ρ', s, hF, k⟩ => by
    unfold consL at hF
    obtain ⟨⟨a, ρ1⟩, q1, hF⟩ := Option.bind_eq_some_iff.mp hF
    obtain ⟨⟨as, ρ2⟩, q2, hF⟩ := Option.map_eq_some_iff.mp hF
    cases hF
    refine ⟨ρ, loc, Hf, a, ρ1, s, q1, fun v H1 Hf1 g1 s1 o1 => ⟨ρ1, loc, Hf1, as, ρ2, s1, q2, fun vs H2 Hf2 g2 s2 o2 => ?_⟩⟩
    exact k (v :: vs) H2 Hf2 (g1.trans g2) s2 (.cons (o1.mono (g2.fixed s1)) o2)

/-! ### displays -/
def tupF (G : Fl) : Fe := fun ρ => (G ρ).bind fun y => if y.1.length ≤ sizeLine then some (.imm (.tup y.1), y.2) else none
def lstF (G : Fl) : Fe := fun ρ => (G ρ).bind fun y => if y.1.length ≤ sizeLine then some (.own (.lst y.1), y.2) else none
theorem px_tup {es : List Expr} {G : Fl} {k p} (h : PLs X es G) : PX X (.Tuple es k p) (tupF G) := pe_imp (pe_tupF h) fun σ H Q ⟨ρ, loc, Hf, r, ρ', s, hF, k⟩ => by
  unfold tupF at hF
  obtain ⟨⟨ds, ρ1⟩, q1, hF⟩ := Option.bind_eq_some_iff.mp hF
  split at hF
  · rename_i hz
    cases hF
    refine ⟨ρ, loc, Hf, ds, _, s, q1, fun vs H1 Hf1 g1 s1 o1 => ⟨by rw [o1.length]; exact hz, fun p u ⟨ob, hn, eu⟩ hp => ?_⟩⟩
    subst eu
    have E := Ext.newF s1.sub hp (.frz ob (.tup vs))
    exact k _ _ _ (g1.trans E.ge) (s1.ext E) (.tup upd_same hn (o1.mono (E.fixed s1.sub)))
  · cases hF
theorem px_lst {es : List Expr} {G : Fl} {p} (h : PLs X es G) : PX X (.List es p) (lstF G) := pe_imp (pe_lst h) fun σ H Q ⟨ρ, loc, Hf, r, ρ', s, hF, k⟩ => by
  unfold lstF at hF
  obtain ⟨⟨ds, ρ1⟩, q1, hF⟩ := Option.bind_eq_some_iff.mp hF
  split at hF
  · rename_i hz
    cases hF
    refine ⟨ρ, loc, Hf, ds, _, s, q1, fun vs H1 Hf1 g1 s1 o1 => ⟨by rw [o1.length]; exact hz, fun p hp => ?_⟩⟩
    have E := Ext.newO s1.sub hp (.lst vs)
    have hpH : H p = none := g1.there p hp
    have hpf : Hf1 p = none := by
      cases z : Hf1 p with
      | none => rfl
      | some u => rw [s1.sub p u z] at hp; cases hp
    exact k _ _ _ (g1.trans E.ge) (s1.ext E) ⟨p, rfl, hpH, hpf, vs, upd_same, o1.mono (E.fixed s1.sub)⟩
  · cases hF
end
end Ev
/-! text Ev2 -/
set_option Elab.async false
set_option linter.all false
set_option maxRecDepth 100000
set_option maxHeartbeats 4000000
namespace Ev
open PySem L2

/-! ### data as the library's values and data -/
def flat : D → Option V
  | .non => some .non
  | .bl b => some (.bl b)
  | .int i => some (.int i)
  | .str s => some (.str s)
  | _ => none
mutual
def py : D → PyData
  | .non => .none
  | .bl b => .bool b
  | .int i => .int i
  | .str s => .str s
  | .tup xs => .tuple (pyL xs)
  | .lst xs => .list (pyL xs)
  | .dct _ _ => .dict []
  | .obj _ _ => .dict []
  | .scr _ => .dict []
  | .raw .. => .dict []
  | .gf _ => .dict []
  | .exc _ _ => .dict []
def pyL : List D → List PyData
  | [] => []
  | x :: xs => py x :: pyL xs
end
section
variable {W : Wd} {H Hf : Hp}
theorem Rp.flat {v : V} {d : D} (h : Rp W H v d) {u : V} (e : flat d = some u) : v = u := by
  cases h <;> first | (cases e; rfl) | cases e
mutual
theorem Rp.dp : ∀ {v : V} {d : D}, Rp W H v d → (py d).canLay0 = true → Dp W.K H v (py d)
  | _, _, .non, _ => .non
  | _, _, .bl b, _ => .bl b
  | _, _, .int i, _ => .int i
  | _, _, .str x, _ => .str x
  | _, _, .tup h _ r, k => .tup (sqT_fz h) (RpL.dp r (by simpa [py, PyData.canLay0] using k))
  | _, _, .lst h r, k => .lst (.of h) (RpL.dp r (by simpa [py, PyData.canLay0] using k))
  | _, _, .dK h r, k => by simp [py, PyData.canLay0] at k
  | _, _, .dT h r, k => by simp [py, PyData.canLay0] at k
  | _, _, .obj h m r, k => by simp [py, PyData.canLay0] at k
  | _, _, .scr h, k => by simp [py, PyData.canLay0] at k
  | _, _, .raw _ _, k => by simp [py, PyData.canLay0] at k
  | _, _, .gf h, k => by simp [py, PyData.canLay0] at k
  | _, _, .exc h m x r, k => by simp [py, PyData.canLay0] at k
theorem RpL.dp : ∀ {v : List V} {d : List D}, RpL W H v d → PyData.canLayAll0 (pyL d) = true → DpAll W.K H v (pyL d)
  | _, _, .nil, _ => .nil
  | _, _, .cons r t, k => by
    simp only [pyL, PyData.canLayAll0, Bool.and_eq_true] at k
    exact .cons (Rp.dp r k.1) (RpL.dp t k.2)
end
theorem RpB.up {v : V} {d : D} (h : RpB W H Hf v d) (hs : ∀ a o, Hf a = some o → H a = some o) : Rp W H v d := by
  cases d with
  | lst ds => obtain ⟨a, vs, rfl, h1, h2⟩ := h; exact .lst h1 (h2.mono hs)
  | dct t ds =>
    cases t with
    | false => obtain ⟨a, ks, rfl, h1, h2⟩ := h; exact .dK h1 (h2.mono hs)
    | true => obtain ⟨a, ks, rfl, h1, h2⟩ := h; exact .dT h1 (h2.mono hs)
  | obj c ds => obtain ⟨a, Cc, dx, vfs, rfl, h1, m, h2⟩ := h; exact .obj h1 m (h2.mono hs)
  | non => exact Rp.mono hs h
  | bl b => exact Rp.mono hs h
  | int i => exact Rp.mono hs h
  | str x => exact Rp.mono hs h
  | tup xs => exact Rp.mono hs h
  | scr ns => exact Rp.mono hs h
  | raw => exact Rp.mono hs h
  | gf x => exact Rp.mono hs h
  | exc c fs => exact Rp.mono hs h
theorem RpB.flat {v : V} {d : D} (h : RpB W H Hf v d) {u : V} (e : flat d = some u) : v = u := by
  cases d <;> first | cases e; done | exact Rp.flat h e
end

/-! ### two operands -/
abbrev Sub (Hf H : Hp) : Prop := ∀ a o, Hf a = some o → H a = some o
/-- the rule r does on data what f says -/
def DOp (W : Wd) (r : R2) (f : D → D → Option Rv) : Prop := ∀ (x y : V) (d e : D) (z : Rv) (H Hf : Hp) (Q : VK), Sub Hf H → RpB W H Hf x d → RpB W H Hf y e → f d e = some z →
  (∀ v H' Hf', Ext H Hf H' Hf' → RvOk W H v H' Hf' z → Q v H') → r x y H Q
def DOpB (W : Wd) (r : R2) (f : D → D → Option Bool) : Prop := ∀ (x y : V) (d e : D) (z : Bool) (H Hf : Hp) (Q : VK), Sub Hf H → RpB W H Hf x d → RpB W H Hf y e → f d e = some z → Q (.bl z) H → r x y H Q
def addD : D → D → Option Rv
  | .int i, .int j => some (.imm (.int (i + j)))
  | .str x, .str y => if x.length + y.length ≤ sizeLine then some (.imm (.str (x ++ y))) else none
  | .lst xs, .lst ys => if xs.length + ys.length ≤ sizeLine then some (.own (.lst (xs ++ ys))) else none
  | .tup xs, .tup ys => if xs.length + ys.length ≤ sizeLine then some (.imm (.tup (xs ++ ys))) else none
  | _, _ => none
def rAddD (K : PySem.W.Frag) : R2 := fun x y H Q => rI0 (fun i j => .int (i + j)) x y H Q ∨ ((∃ i j, x = .str i ∧ y = .str j ∧ i.length + j.length ≤ sizeLine ∧ Q (.str (i ++ j)) H) ∨ (rCat x y H Q ∨ rCatF K x y H Q))
theorem op_addD {X : Cx} : OpR X (binaryOp .Add) (rAddD X.K) := op_add.or (op_add_str.or (op_cat.or op_catF))
theorem dop_add {W : Wd} : DOp W (rAddD W.K) addD := fun x y d e z H Hf Q s a b q k => by
  unfold addD at q
  split at q
  · cases q
    cases a; cases b
    exact .inl ⟨_, _, rfl, rfl, k _ H Hf (.refl s) (.int _)⟩
  · split at q
    · rename_i hz
      cases q
      cases a; cases b
      exact .inr (.inl ⟨_, _, rfl, rfl, hz, k _ H Hf (.refl s) (.str _)⟩)
    · cases q
  · split at q
    · rename_i hz
      cases q
      obtain ⟨p1, vs, rfl, h1, r1⟩ := a
      obtain ⟨p2, ws, rfl, h2, r2⟩ := b
      refine .inr (.inr (.inl ⟨p1, p2, vs, ws, rfl, rfl, h1, h2, by rw [r1.length, r2.length]; exact hz, fun p hp => ?_⟩))
      have E := Ext.newO s hp (.lst (vs ++ ws))
      refine k _ _ _ E ⟨p, rfl, hp, ?_, _, upd_same, r1.append r2⟩
      cases w : Hf p with
      | none => rfl
      | some u => rw [s p u w] at hp; cases hp
    · cases q
  · split at q
    · rename_i hz
      cases q
      cases a with
      | tup h1 n1 r1 =>
      cases b with
      | tup h2 n2 r2 =>
      rename_i p1 ob1 vs p2 ob2 ws
      refine .inr (.inr (.inr ⟨p1, p2, vs, ws, rfl, rfl, sqT_fz (s _ _ h1), sqT_fz (s _ _ h2), by rw [r1.length, r2.length]; exact hz, fun z => ?_, fun _ z => ?_, fun _ _ p u ⟨ob, hn, eu⟩ hp => ?_⟩))
      · subst z; cases r1
        exact k _ H Hf (.refl s) (.tup h2 n2 r2)
      · subst z; cases r2
        refine k _ H Hf (.refl s) ?_
        rw [List.append_nil]
        exact .tup h1 n1 r1
      · subst eu
        have E := Ext.newF s hp (.frz ob (.tup (vs ++ ws)))
        exact k _ _ _ E (.tup upd_same hn ((r1.append r2).mono (E.fixed s)))
    · cases q
  · cases q

def intOp (f : Int → Int → Option Int) : D → D → Option Rv
  | .int i, .int j => (f i j).map fun z => .imm (.int z)
  | _, _ => none
theorem dop_int {W : Wd} {C : Int → Int → Prop} {g : Int → Int → Int} {f : Int → Int → Option Int} (hf : ∀ i j z, f i j = some z → C i j ∧ g i j = z) : DOp W (rI C fun i j => .int (g i j)) (intOp f) := fun x y d e z H Hf Q s a b q k => by
  unfold intOp at q
  split at q
  · obtain ⟨w, q1, q2⟩ := Option.map_eq_some_iff.mp q
    cases q2
    cases a; cases b
    obtain ⟨h1, h2⟩ := hf _ _ _ q1
    exact ⟨_, _, rfl, rfl, h1, k _ H Hf (.refl s) (by subst h2; exact .int _)⟩
  · cases q
def subI (i j : Int) : Option Int := some (i - j)
theorem op_subD {X : Cx} : OpR X (binaryOp .Sub) (rI (fun _ _ => True) fun i j => .int (i - j)) := opI fun _ _ _ _ _ _ _ _ q => PyProof.Rows.sub_int q
theorem dop_sub {W : Wd} : DOp W (rI (fun _ _ => True) fun i j => .int (i - j)) (intOp subI) := dop_int fun i j z h => ⟨trivial, Option.some.inj h⟩
/-- what may stand as sizes of factors -/
def small64 (i : Int) : Bool := decide (-(2 ^ 64) < i) && decide (i < 2 ^ 64)
def mulI (i j : Int) : Option Int := if small64 i || small64 j then some (i * j) else if i.natAbs.log2 + j.natAbs.log2 < 1000000 then some (i * j) else none
def mulD : D → D → Option Rv
  | .int i, .int j => (mulI i j).map fun z => .imm (.int z)
  | .lst xs, .int k => if -(2 ^ 63) ≤ k ∧ k < 2 ^ 63 ∧ xs.length * k.toNat ≤ sizeLine then some (.own (.lst (List.replicate k.toNat xs).flatten)) else none
  | .tup xs, .int k => if xs ≠ [] ∧ 2 ≤ k ∧ k ≤ 1000 ∧ xs.length ≤ 1000 then some (.imm (.tup (List.replicate k.toNat xs).flatten)) else none
  | _, _ => none
theorem RpL.rep {W : Wd} {H : Hp} {vs : List V} {ds : List D} (h : RpL W H vs ds) : ∀ k : Nat, RpL W H (List.replicate k vs).flatten (List.replicate k ds).flatten
  | 0 => .nil
  | k + 1 => by
    rw [List.replicate_succ, List.replicate_succ, List.flatten_cons, List.flatten_cons]
    exact h.append (h.rep k)
def rMulD : R2 := fun x y H Q => rI CMul (fun i j => .int (i * j)) x y H Q ∨ (rI CMulW (fun i j => .int (i * j)) x y H Q ∨ rRep x y H Q)
theorem op_mulD {X : Cx} : OpR X (binaryOp .Mult) rMulD := op_mul.or (op_mulW.or op_rep)
def mulD' : D → D → Option Rv
  | .tup _, _ => none
  | d, e => mulD d e
theorem dop_mul {W : Wd} : DOp W rMulD mulD' := fun x y d e z H Hf Q s a b q k => by
  unfold mulD' at q
  split at q
  · cases q
  · rename_i nt
    unfold mulD at q
    split at q
    · obtain ⟨w, q1, q2⟩ := Option.map_eq_some_iff.mp q
      cases q2
      cases a; cases b
      unfold mulI at q1
      split at q1
      · rename_i hc
        cases q1
        refine .inl ⟨_, _, rfl, rfl, ?_, k _ H Hf (.refl s) (.int _)⟩
        unfold small64 at hc
        simp only [Bool.or_eq_true, Bool.and_eq_true, decide_eq_true_eq] at hc
        exact hc
      · split at q1
        · rename_i hc
          cases q1
          exact .inr (.inl ⟨_, _, rfl, rfl, hc, k _ H Hf (.refl s) (.int _)⟩)
        · cases q1
    · split at q
      · rename_i xs kk hz
        cases q
        obtain ⟨p1, vs, rfl, h1, r1⟩ := a
        cases b
        refine .inr (.inr ⟨p1, _, vs, rfl, rfl, h1, hz.1, hz.2.1, by rw [r1.length]; exact hz.2.2, fun p hp => ?_⟩)
        have E := Ext.newO s hp (.lst (List.replicate kk.toNat vs).flatten)
        refine k _ _ _ E ⟨p, rfl, hp, ?_, _, upd_same, r1.rep _⟩
        cases w : Hf p with
        | none => rfl
        | some u => rw [s p u w] at hp; cases hp
      · cases q
    · exact (nt _ rfl).elim
    · cases q
def fdivI (i j : Int) : Option Int := if j ≠ 0 ∧ j.natAbs < 1073741824 then some (i.fdiv j) else if 0 < j ∧ j.natAbs.log2 < 9000 then some (i / j) else none
def rFdiv : R2 := fun x y H Q => rI CDivN (fun i j => .int (i.fdiv j)) x y H Q ∨ rI CDivW (fun i j => .int (i / j)) x y H Q
theorem op_fdivD {X : Cx} : OpR X (binaryOp .FloorDiv) rFdiv := op_fdivN.or op_fdivW
theorem dop_fdiv {W : Wd} : DOp W rFdiv (intOp fdivI) := fun x y d e z H Hf Q s a b q k => by
  unfold intOp at q
  split at q
  · obtain ⟨w, q1, q2⟩ := Option.map_eq_some_iff.mp q
    cases q2
    cases a; cases b
    unfold fdivI at q1
    split at q1
    · rename_i hc
      cases q1
      exact .inl ⟨_, _, rfl, rfl, hc, k _ H Hf (.refl s) (.int _)⟩
    · split at q1
      · rename_i hc
        cases q1
        exact .inr ⟨_, _, rfl, rfl, hc, k _ H Hf (.refl s) (.int _)⟩
      · cases q1
  · cases q
def modI (i j : Int) : Option Int := if j ≠ 0 then some (i.fmod j) else none
theorem dop_mod {W : Wd} : DOp W (rI (fun _ j => j ≠ 0) fun i j => .int (i.fmod j)) (intOp modI) := dop_int fun i j z h => by
  unfold modI at h
  split at h
  · rename_i c; cases h; exact ⟨c, rfl⟩
  · cases h
def powI (i j : Int) : Option Int := if 0 ≤ j ∧ j ≤ 1000000 ∧ i.natAbs < 2 ^ 64 then some (i ^ j.toNat) else none
theorem dop_pow {W : Wd} : DOp W (rI CPow fun i j => .int (i ^ j.toNat)) (intOp powI) := dop_int fun i j z h => by
  unfold powI at h
  split at h
  · rename_i c; cases h; exact ⟨c, rfl⟩
  · cases h

/-! ### comparisons -/
def eqD (d e : D) : Option Bool := match flat d, flat e with
  | some a, some b => if scal a b then some (decide (a = b)) else none
  | _, _ => if SeqAt.shaped (py d) && SeqAt.shaped (py e) then some (PyData.eqv (py d) (py e)) else none
def rEqX (K : PySem.W.Frag) : R2 := fun x y H Q => rEq x y H Q ∨ rEqD K x y H Q
def rNeX (K : PySem.W.Frag) : R2 := fun x y H Q => rNe x y H Q ∨ rNeD K x y H Q
def neD (d e : D) : Option Bool := (eqD d e).map (!·)
theorem dop_eq {W : Wd} : DOpB W (rEqX W.K) eqD := fun x y d e z H Hf Q s a b q k => by
  unfold eqD at q
  split at q
  · rename_i u w hu hw
    split at q
    · rename_i hc
      cases q
      rw [a.flat hu, b.flat hw]
      exact .inl ⟨hc, k⟩
    · cases q
  · split at q
    · rename_i hc
      cases q
      rw [Bool.and_eq_true] at hc
      exact .inr ⟨_, _, (a.up s).dp (SeqAt.canLay_of_shaped hc.1), (b.up s).dp (SeqAt.canLay_of_shaped hc.2), hc.1, hc.2, k⟩
    · cases q
theorem dop_ne {W : Wd} : DOpB W (rNeX W.K) neD := fun x y d e z H Hf Q s a b q k => by
  unfold neD at q
  obtain ⟨z', q1, q2⟩ := Option.map_eq_some_iff.mp q
  subst q2
  clear q
  have q := q1
  clear q1
  unfold eqD at q
  split at q
  · rename_i u w hu hw
    split at q
    · rename_i hc
      cases q
      rw [a.flat hu, b.flat hw]
      exact .inl ⟨hc, k⟩
    · cases q
  · split at q
    · rename_i hc
      cases q
      rw [Bool.and_eq_true] at hc
      exact .inr ⟨_, _, (a.up s).dp (SeqAt.canLay_of_shaped hc.1), (b.up s).dp (SeqAt.canLay_of_shaped hc.2), hc.1, hc.2, k⟩
    · cases q
end Ev
/-! text Ev3 -/
set_option Elab.async false
set_option linter.all false
set_option maxRecDepth 100000
set_option maxHeartbeats 4000000
namespace Ev
open PySem L2

theorem RvOk.back {W : Wd} {H H2 H' Hf' : Hp} {v : V} {r : Rv} (h : RvOk W H2 v H' Hf' r) (t : ∀ a, H2 a = none → H a = none) : RvOk W H v H' Hf' r := by
  cases r with
  | imm d => exact h
  | own c => obtain ⟨p, e, h1, h2, h3⟩ := h; exact ⟨p, e, t _ h1, h2, h3⟩
  | mix pre xs post => obtain ⟨p, a, e, h1, h2, h3⟩ := h; exact ⟨p, a, e, t _ h1, t _ h2, h3⟩

section
variable {X : Cx} {e a b c : Expr}

/-! ### two operands -/
def binF (f : D → D → Option Rv) (FA FB : Fr) : Fe := fun ρ => (FA ρ).bind fun x => (FB x.2).bind fun y => (deref y.2 x.1).bind fun d => (deref y.2 y.1).bind fun e => (f d e).map fun z => (z, y.2)
def binB (f : D → D → Option Bool) (FA FB : Fr) : Ft := fun ρ => (FA ρ).bind fun x => (FB x.2).bind fun y => (deref y.2 x.1).bind fun d => (deref y.2 y.1).bind fun e => (f d e).map fun z => (z, y.2)
theorem binF_some {f : D → D → Option Rv} {FA FB : Fr} {ρ ρ' : Env} {z : Rv} (h : binF f FA FB ρ = some (z, ρ')) :
    ∃ a ρ1 b d e, FA ρ = some (a, ρ1) ∧ FB ρ1 = some (b, ρ') ∧ deref ρ' a = some d ∧ deref ρ' b = some e ∧ f d e = some z := by
  unfold binF at h
  obtain ⟨⟨a, ρ1⟩, h1, h⟩ := Option.bind_eq_some_iff.mp h
  obtain ⟨⟨b, ρ2⟩, h2, h⟩ := Option.bind_eq_some_iff.mp h
  obtain ⟨d, h3, h⟩ := Option.bind_eq_some_iff.mp h
  obtain ⟨e, h4, h⟩ := Option.bind_eq_some_iff.mp h
  obtain ⟨z', h5, h⟩ := Option.map_eq_some_iff.mp h
  cases h
  exact ⟨a, ρ1, b, d, e, h1, h2, h3, h4, h5⟩
theorem binB_some {f : D → D → Option Bool} {FA FB : Fr} {ρ ρ' : Env} {z : Bool} (h : binB f FA FB ρ = some (z, ρ')) :
    ∃ a ρ1 b d e, FA ρ = some (a, ρ1) ∧ FB ρ1 = some (b, ρ') ∧ deref ρ' a = some d ∧ deref ρ' b = some e ∧ f d e = some z := by
  unfold binB at h
  obtain ⟨⟨a, ρ1⟩, h1, h⟩ := Option.bind_eq_some_iff.mp h
  obtain ⟨⟨b, ρ2⟩, h2, h⟩ := Option.bind_eq_some_iff.mp h
  obtain ⟨d, h3, h⟩ := Option.bind_eq_some_iff.mp h
  obtain ⟨e, h4, h⟩ := Option.bind_eq_some_iff.mp h
  obtain ⟨z', h5, h⟩ := Option.map_eq_some_iff.mp h
  cases h
  exact ⟨a, ρ1, b, d, e, h1, h2, h3, h4, h5⟩
/-- the reading of two operands under a rule -/
theorem read2 {W : Wd} {r : R2} {f : D → D → Option Rv} (hd : DOp W r f) {FA FB : Fr} {σ : St} {H : Hp} {Q : VK} (h : tX W (binF f FA FB) σ H Q) : tOp r (tR W FA) (tR W FB) σ H Q := by
  obtain ⟨ρ, loc, Hf, z, ρ', s, hF, k⟩ := h
  obtain ⟨a, ρ1, b, d, e, h1, h2, h3, h4, h5⟩ := binF_some hF
  exact ⟨ρ, loc, Hf, a, ρ1, s, h1, fun v H1 Hf1 g1 s1 o1 => ⟨ρ1, loc, Hf1, b, ρ', s1, h2, fun u H2 Hf2 g2 s2 o2 =>
    hd v u d e z H2 Hf2 Q s2.sub (deref_b s2 (o1.mono (g2.fixed s1)) h3) (deref_b s2 o2 h4) h5 fun w H' Hf' E R =>
      k w H' Hf' (g1.trans (g2.trans E.ge)) (s2.ext E) (R.back fun x q => g1.there x (g2.there x q))⟩⟩
theorem px_bin {op : Operator} {r : R2} {f : D → D → Option Rv} {FA FB : Fr} {pos} (ho : OpR X (binaryOp op) r) (hd : DOp (wd X) r f) (ha : PR X a FA) (hb : PR X b FB) : PX X (.BinOp a op b pos) (binF f FA FB) :=
  pe_imp (pe_op ho ha hb) fun _ _ _ h => read2 hd h
def boolF (F : Ft) : Fd := fun ρ => (F ρ).map fun x => (.bl x.1, x.2)
theorem read2B {W : Wd} {r : R2} {f : D → D → Option Bool} (hd : DOpB W r f) {FA FB : Fr} {σ : St} {H : Hp} {Q : Bool → Hp → Prop} (h : tT W (binB f FA FB) σ H Q) : tTest (tOp r (tR W FA) (tR W FB)) σ H Q := by
  obtain ⟨ρ, loc, Hf, z, ρ', s, hF, k⟩ := h
  obtain ⟨a, ρ1, b, d, e, h1, h2, h3, h4, h5⟩ := binB_some hF
  exact ⟨ρ, loc, Hf, a, ρ1, s, h1, fun v H1 Hf1 g1 s1 o1 => ⟨ρ1, loc, Hf1, b, ρ', s1, h2, fun u H2 Hf2 g2 s2 o2 =>
    hd v u d e z H2 Hf2 _ s2.sub (deref_b s2 (o1.mono (g2.fixed s1)) h3) (deref_b s2 o2 h4) h5 ⟨z, rfl, k H2 Hf2 (g1.trans g2) s2⟩⟩⟩
theorem read2V {W : Wd} {r : R2} {f : D → D → Option Bool} (hd : DOpB W r f) {FA FB : Fr} {σ : St} {H : Hp} {Q : VK} (h : tD W (boolF (binB f FA FB)) σ H Q) : tOp r (tR W FA) (tR W FB) σ H Q := by
  obtain ⟨ρ, loc, Hf, z, ρ', s, hF, k⟩ := h
  obtain ⟨⟨z', ρ2⟩, hF1, q⟩ := Option.map_eq_some_iff.mp hF
  cases q
  obtain ⟨a, ρ1, b, d, e, h1, h2, h3, h4, h5⟩ := binB_some hF1
  exact ⟨ρ, loc, Hf, a, ρ1, s, h1, fun v H1 Hf1 g1 s1 o1 => ⟨ρ1, loc, Hf1, b, _, s1, h2, fun u H2 Hf2 g2 s2 o2 =>
    hd v u d e z' H2 Hf2 _ s2.sub (deref_b s2 (o1.mono (g2.fixed s1)) h3) (deref_b s2 o2 h4) h5 (k _ H2 Hf2 (g1.trans g2) s2 (.bl _))⟩⟩
theorem pb_cmp {op : CmpOp} {r : R2} {f : D → D → Option Bool} {FA FB : Fr} {pos} (ho : OpR X (compareOp op) r) (hd : DOpB (wd X) r f) (ha : PR X a FA) (hb : PR X b FB) (hm : behindInMarks op b = false) : PB X (.Compare a [op] [b] pos) (binB f FA FB) :=
  pt_imp (pt_cmpR ho ha hb hm) fun _ _ _ h => read2B hd h
theorem pd_cmp {op : CmpOp} {r : R2} {f : D → D → Option Bool} {FA FB : Fr} {pos} (ho : OpR X (compareOp op) r) (hd : DOpB (wd X) r f) (ha : PR X a FA) (hb : PR X b FB) (hm : behindInMarks op b = false) : PD X (.Compare a [op] [b] pos) (boolF (binB f FA FB)) :=
  pe_imp (pe_cmpR ho ha hb hm) fun _ _ _ h => read2V hd h
/-! ### tests -/
def orB (F G : Ft) : Ft := fun ρ => (F ρ).bind fun x => if x.1 = true then some (true, x.2) else G x.2
def notB (F : Ft) : Ft := fun ρ => (F ρ).map fun x => (!x.1, x.2)
theorem pb_or1 {F : Ft} {pos} (ha : PB X a F) : PW X (.BoolOp .Or [a] pos) (tT (wd X) F) := pw_or1 ha
theorem pb_or {F G : Ft} {rest : List Expr} {pos} (ha : PB X a F) (hb : PW X (.BoolOp .Or (b :: rest) pos) (tT (wd X) G)) : PW X (.BoolOp .Or (a :: b :: rest) pos) (tT (wd X) (orB F G)) :=
  pw_imp (pw_or ha hb) fun σ H Q ⟨ρ, loc, Hf, z, ρ', s, hF, k⟩ => by
    unfold orB at hF
    obtain ⟨⟨z1, ρ1⟩, h1, hF⟩ := Option.bind_eq_some_iff.mp hF
    refine ⟨ρ, loc, Hf, z1, ρ1, s, h1, fun H1 Hf1 g1 s1 => ?_⟩
    cases z1 with
    | false =>
      simp only [Bool.false_eq_true, if_false] at hF ⊢
      exact ⟨ρ1, loc, Hf1, z, ρ', s1, hF, fun H2 Hf2 g2 s2 => k H2 Hf2 (g1.trans g2) s2⟩
    | true =>
      simp only [if_true] at hF ⊢
      cases hF
      exact k H1 Hf1 g1 s1
theorem pb_not {F : Ft} {pos} (ha : PB X a F) : PB X (.UnaryOp .Not a pos) (notB F) := pt_imp (pt_not ha) fun σ H Q ⟨ρ, loc, Hf, z, ρ', s, hF, k⟩ => by
  obtain ⟨⟨z1, ρ1⟩, h1, hF⟩ := Option.map_eq_some_iff.mp hF
  cases hF
  exact ⟨ρ, loc, Hf, z1, _, s, h1, k⟩
/-- .. as values: bools all but the last -/
def andD (F G : Fd) : Fd := fun ρ => (F ρ).bind fun x => match x.1 with
  | .bl true => G x.2
  | .bl false => some (.bl false, x.2)
  | _ => none
theorem pd_one {F : Fd} {op pos} (h : PD X a F) : PD X (.BoolOp op [a] pos) F := pe_one h
theorem pd_and {F G : Fd} {rest : List Expr} {pos} (ha : PD X a F) (hb : PD X (.BoolOp .And (b :: rest) pos) G) : PD X (.BoolOp .And (a :: b :: rest) pos) (andD F G) :=
  pe_imp (pe_and ha hb) fun σ H Q ⟨ρ, loc, Hf, z, ρ', s, hF, k⟩ => by
    unfold andD at hF
    obtain ⟨⟨z1, ρ1⟩, h1, hF⟩ := Option.bind_eq_some_iff.mp hF
    refine ⟨ρ, loc, Hf, z1, ρ1, s, h1, fun v H1 Hf1 g1 s1 o1 => ?_⟩
    dsimp only at hF
    split at hF
    · cases o1
      refine ⟨true, rfl, ?_⟩
      rw [if_pos rfl]
      exact ⟨ρ1, loc, Hf1, z, ρ', s1, hF, fun u H2 Hf2 g2 s2 o2 => k u H2 Hf2 (g1.trans g2) s2 o2⟩
    · cases o1
      cases hF
      refine ⟨false, rfl, ?_⟩
      rw [if_neg (by decide)]
      exact k _ H1 Hf1 g1 s1 (.bl _)
    · cases hF
/-- truth of a value -/
def truD : D → Option Bool
  | .non => some false
  | .bl b => some b
  | .int i => some (i != 0)
  | .str y => if y.length ≤ sizeLine then some ((y.length : Int) != 0) else none
  | .tup xs => some (!xs.isEmpty)
  | .lst xs => some (!xs.isEmpty)
  | _ => none
theorem isEmpty_rp {W : Wd} {H : Hp} {vs : List V} {ds : List D} (h : RpL W H vs ds) : vs.isEmpty = ds.isEmpty := by cases h <;> rfl
theorem truV_of {W : Wd} {H Hf : Hp} {v : V} {d : D} {b : Bool} (h : RpB W H Hf v d) (hs : Sub Hf H) (e : truD d = some b) : TruV W.K v H b := by
  cases d with
  | non => cases h; cases e; rfl
  | bl b => cases h; cases e; rfl
  | int i => cases h; cases e; rfl
  | str x =>
    cases h
    unfold truD at e
    dsimp only at e
    split at e
    · rename_i c; cases e; exact ⟨c, rfl⟩
    · cases e
  | tup xs =>
    cases e
    cases h with
    | tup h1 _ r => exact .inr (.inl ⟨_, sqT_fz (hs _ _ h1), by rw [isEmpty_rp r]⟩)
  | lst xs =>
    cases e
    obtain ⟨p, vs, rfl, h1, r⟩ := h
    exact .inl ⟨_, .of h1, by rw [isEmpty_rp r]⟩
  | dct _ _ => cases e
  | obj _ _ => cases e
  | scr _ => cases e
  | raw => cases e
  | gf _ => cases e
  | exc _ _ => cases e
def truF (F : Fr) : Ft := fun ρ => (F ρ).bind fun x => (deref x.2 x.1).bind fun d => (truD d).map fun z => (z, x.2)
theorem pb_tru {F : Fr} (ha : PR X a F) (he : ∀ whole, isTrue a X.env whole = (do let v ← whole; standAt a.pos; holding [v] (truthy v))) : PB X a (truF F) :=
  pt_imp (pt_truth ha he) fun σ H Q ⟨ρ, loc, Hf, z, ρ', s, hF, k⟩ => by
    unfold truF at hF
    obtain ⟨⟨z1, ρ1⟩, h1, hF⟩ := Option.bind_eq_some_iff.mp hF
    obtain ⟨d, h2, hF⟩ := Option.bind_eq_some_iff.mp hF
    obtain ⟨w, h3, hF⟩ := Option.map_eq_some_iff.mp hF
    cases hF
    exact ⟨ρ, loc, Hf, z1, _, s, h1, fun v H1 Hf1 g1 s1 o1 => ⟨_, truV_of (deref_b s1 o1 h2) s1.sub h3, k H1 Hf1 g1 s1⟩⟩
def iteF (T : Ft) (F G : Fe) : Fe := fun ρ => (T ρ).bind fun x => if x.1 = true then F x.2 else G x.2
theorem px_ite {T : Ft} {F G : Fe} {pos} (hc : PB X c T) (ha : PX X a F) (hb : PX X b G) : PX X (.IfExp c a b pos) (iteF T F G) := pe_imp (pe_ifExp hc ha hb) fun σ H Q ⟨ρ, loc, Hf, z, ρ', s, hF, k⟩ => by
  unfold iteF at hF
  obtain ⟨⟨z1, ρ1⟩, h1, hF⟩ := Option.bind_eq_some_iff.mp hF
  refine ⟨ρ, loc, Hf, z1, ρ1, s, h1, fun H1 Hf1 g1 s1 => ?_⟩
  cases z1 with
  | true =>
    simp only [if_true] at hF ⊢
    exact ⟨ρ1, loc, Hf1, z, ρ', s1, hF, fun u H2 Hf2 g2 s2 o2 => k u H2 Hf2 (g1.trans g2) s2 (o2.back g1.there)⟩
  | false =>
    simp only [Bool.false_eq_true, if_false] at hF ⊢
    exact ⟨ρ1, loc, Hf1, z, ρ', s1, hF, fun u H2 Hf2 g2 s2 o2 => k u H2 Hf2 (g1.trans g2) s2 (o2.back g1.there)⟩
end
end Ev
/-! text Ev4 -/
set_option Elab.async false
set_option linter.all false
set_option maxRecDepth 100000
set_option maxHeartbeats 4000000
namespace Ev
open PySem L2

/-! ### the shape of an argument list -/
def noStar : Expr → Bool
  | .Starred _ _ => false
  | _ => true
theorem starEach_cons {e : Expr} {es : List Expr} {env : PySem.Env} (h : noStar e = true) : starEach (e :: es) env = (false, eval e env) :: starEach es env := by
  cases e <;> first | rfl | cases h
theorem starEach_plain {env : PySem.Env} (pos : Pos) : ∀ {es : List Expr}, es.all noStar = true → (backTo pos (starEach es env)).any (·.1) = false
  | [], _ => rfl
  | e :: es, h => by
    rw [List.all_cons, Bool.and_eq_true] at h
    rw [starEach_cons h.1]
    show (false || (backTo pos (starEach es env)).any (·.1)) = false
    rw [starEach_plain pos h.2]; rfl

/-! ### tables -/
def findK (kvs : List (D × D)) (k : Key) : Option D := (kvs.find? fun p => decide (keyD p.1 = some k)).map (·.2)
def isTK (d : D) (k : List Key) : Bool := match d with
  | .tup ds => decide (keysD ds = some k)
  | _ => false
def findT (kvs : List (D × D)) (k : List Key) : Option D := (kvs.find? fun p => isTK p.1 k).map (·.2)
section
variable {W : Wd} {H Hf : Hp}
theorem RpK.find {k : Key} : ∀ {ks : List (Key × V)} {ds : List (D × D)}, RpK W H ks ds →
    (∀ d, findK ds k = some d → ∃ v, valV ks k = some v ∧ Rp W H v d) ∧ (findK ds k = none → valV ks k = none)
  | _, _, .nil => ⟨fun d e => (by cases e), fun _ => rfl⟩
  | _, _, .cons (k := k') (kd := kd) hk r t => by
    obtain ⟨i1, i2⟩ := RpK.find (k := k) t
    by_cases e : k' = k
    · subst e
      have e1 : ∀ v vs, valV ((k', v) :: vs) k' = some v := fun v vs => valV_pos (p := (k', v)) rfl
      refine ⟨fun d h => ?_, fun h => ?_⟩
      · simp only [findK, List.find?_cons, hk, decide_true, Option.map_some, Option.some.injEq] at h
        subst h
        exact ⟨_, e1 _ _, r⟩
      · simp [findK, List.find?_cons, hk] at h
    · have ne : (decide (keyD kd = some k)) = false := by rw [hk]; simpa using e
      have e1 : ∀ v vs, valV ((k', v) :: vs) k = valV vs k := fun v vs => valV_neg (p := (k', v)) e
      refine ⟨fun d h => ?_, fun h => ?_⟩
      · rw [e1]
        refine i1 d ?_
        simpa [findK, List.find?_cons, ne] using h
      · rw [e1]
        refine i2 ?_
        simpa [findK, List.find?_cons, ne] using h
theorem RpT.find {k : List Key} : ∀ {ks : List (List Key × V)} {ds : List (D × D)}, RpT W H ks ds →
    (∀ d, findT ds k = some d → ∃ v, valV ks k = some v ∧ Rp W H v d) ∧ (findT ds k = none → valV ks k = none)
  | _, _, .nil => ⟨fun d e => (by cases e), fun _ => rfl⟩
  | _, _, .cons (k := k') (kd := kd) hk r t => by
    obtain ⟨i1, i2⟩ := RpT.find (k := k) t
    by_cases e : k' = k
    · subst e
      have e1 : ∀ v vs, valV ((k', v) :: vs) k' = some v := fun v vs => valV_pos (p := (k', v)) rfl
      have it : isTK (.tup kd) k' = true := by simp [isTK, hk]
      refine ⟨fun d h => ?_, fun h => ?_⟩
      · simp only [findT, List.find?_cons, it, Option.map_some, Option.some.injEq] at h
        subst h
        exact ⟨_, e1 _ _, r⟩
      · simp [findT, List.find?_cons, it] at h
    · have it : isTK (.tup kd) k = false := by simp [isTK, hk, e]
      have e1 : ∀ v vs, valV ((k', v) :: vs) k = valV vs k := fun v vs => valV_neg (p := (k', v)) e
      refine ⟨fun d h => ?_, fun h => ?_⟩
      · rw [e1]
        refine i1 d ?_
        simpa [findT, List.find?_cons, it] using h
      · rw [e1]
        refine i2 ?_
        simpa [findT, List.find?_cons, it] using h
theorem keyD_rp {v : V} {d : D} {k : Key} (h : Rp W H v d) (e : keyD d = some k) : v = kV k := by
  cases h <;> first | (cases e; rfl) | cases e
theorem keysD_rp : ∀ {vs : List V} {ds : List D} {ks : List Key}, RpL W H vs ds → keysD ds = some ks → vs = ks.map kV
  | _, _, _, .nil, e => by cases e; rfl
  | _, _, _, .cons r t, e => by
    unfold keysD at e
    obtain ⟨k, h1, e⟩ := Option.bind_eq_some_iff.mp e
    obtain ⟨ks, h2, e⟩ := Option.map_eq_some_iff.mp e
    subst e
    rw [keyD_rp r h1, keysD_rp t h2]; rfl
end
/-- what a dict holds at a key: not told (the wrong kind of key), nothing, something -/
def lookD (t : Bool) (kvs : List (D × D)) (kd : D) : Option (Option D) :=
  match t, kd with
  | true, .tup ds => (keysD ds).map fun k => findT kvs k
  | false, kd => (keyD kd).map fun k => findK kvs k
  | _, _ => none
theorem lookD_ok {W : Wd} {H Hf : Hp} (hs : Sub Hf H) {v u : V} {t : Bool} {kvs : List (D × D)} {kd : D} {o : Option D} (hd : RpB W H Hf v (.dct t kvs)) (hk : Rp W H u kd) (e : lookD t kvs kd = some o) :
    ∃ a ov, v = .ref a ∧ DGetF W.P W.w H a u ov ∧ (∀ d, o = some d → ∃ w, ov = some w ∧ Rp W Hf w d) ∧ (o = none → ov = none) := by
  unfold lookD at e
  split at e
  · obtain ⟨a, ks, rfl, h1, r⟩ := hd
    obtain ⟨k, q1, q2⟩ := Option.map_eq_some_iff.mp e
    cases hk with
    | tup ht hn rt =>
      rename_i b ob vs
      have hv := keysD_rp rt q1
      obtain ⟨f1, f2⟩ := r.find (k := k)
      have g : DGetF W.P W.w H a (.ref b) (valV ks k) := by
        rcases h1 with h1 | ⟨xs, ep, z1, z2, z3, z4⟩
        · exact .inr (.inl ⟨ks, k, b, ob, .inl h1, rfl, by rw [ht, hv], rfl⟩)
        · exact .inr (.inr ⟨xs, ep, ks, k, b, ob, z1, z2, z3, z4, rfl, by rw [ht, hv], rfl⟩)
      exact ⟨a, _, rfl, g, fun d q => f1 d (q2.trans q), fun q => f2 (q2.trans q)⟩
  · obtain ⟨a, ks, rfl, h1, r⟩ := hd
    obtain ⟨k, q1, q2⟩ := Option.map_eq_some_iff.mp e
    obtain ⟨f1, f2⟩ := r.find (k := k)
    rw [keyD_rp hk q1]
    exact ⟨a, _, rfl, .inl (DGet.k h1), fun d q => f1 d (q2.trans q), fun q => f2 (q2.trans q)⟩
  · cases e
end Ev
/-! text Ev5 -/
set_option Elab.async false
set_option linter.all false
set_option maxRecDepth 100000
set_option maxHeartbeats 4000000
namespace Ev
open PySem L2

/-! ### subscripts -/
def plainIx : Expr → Bool
  | .Slice _ _ _ _ => false
  | _ => true
theorem plainIx_ok {b : Expr} (h : plainIx b = true) : PlainIx b := by
  intro o i
  cases b <;> first | rfl | cases h
theorem atI_rp {W : Wd} {H : Hp} {vs : List V} {ds : List D} {i : Int} {d : D} (r : RpL W H vs ds) (h : atI ds i = some d) : ∃ v, atI vs i = some v ∧ Rp W H v d := by
  unfold atI at h ⊢
  rw [r.length]
  obtain ⟨j, h1, h2⟩ := Option.bind_eq_some_iff.mp h
  obtain ⟨v, h3, h4⟩ := r.get h2
  exact ⟨v, by rw [h1]; exact h3, h4⟩
def ixD : D → D → Option Rv
  | .lst xs, .int i => (atI xs i).map .imm
  | .tup xs, .int i => (atI xs i).map .imm
  | .str z, .int i => if z.length ≤ sizeLine then (atI z.cps.toList i).map fun c => .imm (.str ⟨#[c]⟩) else none
  | .dct t kvs, k => (lookD t kvs k).bind fun o => o.map .imm
  | _, _ => none
def rDG (P : Program) (w : World) : R2 := fun x y H Q => ∃ a v, x = .ref a ∧ DGetF P w H a y (some v) ∧ Q v H
def isDct : D → Bool
  | .dct _ _ => true
  | _ => false
def ixN' (d e : D) : Option Rv := if isDct d then none else ixD d e
def ixK (d e : D) : Option Rv := if isDct d then ixD d e else none
theorem dop_ix {W : Wd} : DOp W (rIx W.K) ixN' := fun x y d e z H Hf Q s a b q k => by
  unfold ixN' at q
  split at q
  · cases q
  · unfold ixD at q
    split at q
    · obtain ⟨w, q1, q2⟩ := Option.map_eq_some_iff.mp q
      subst q2
      obtain ⟨p, vs, rfl, h1, r⟩ := a
      cases b
      obtain ⟨v, h2, rv⟩ := atI_rp r q1
      exact .inl ⟨p, vs, _, v, rfl, rfl, .of h1, h2, k v H Hf (.refl s) rv⟩
    · obtain ⟨w, q1, q2⟩ := Option.map_eq_some_iff.mp q
      subst q2
      cases a with
      | tup h1 _ r =>
      cases b
      obtain ⟨v, h2, rv⟩ := atI_rp r q1
      exact .inr (.inl ⟨_, _, _, v, rfl, rfl, sqT_fz (s _ _ h1), h2, k v H Hf (.refl s) rv⟩)
    · split at q
      · rename_i hz
        obtain ⟨w, q1, q2⟩ := Option.map_eq_some_iff.mp q
        subst q2
        cases a; cases b
        exact .inr (.inr ⟨_, _, w, rfl, rfl, hz, q1, k _ H Hf (.refl s) (.str _)⟩)
      · cases q
    · simp_all [isDct]
    · cases q
theorem dop_dget {W : Wd} : DOp W (rDG W.P W.w) ixK := fun x y d e z H Hf Q s a b q k => by
  unfold ixK at q
  split at q
  · unfold ixD at q
    split at q
    · simp_all [isDct]
    · simp_all [isDct]
    · simp_all [isDct]
    · obtain ⟨o, q1, q2⟩ := Option.bind_eq_some_iff.mp q
      obtain ⟨w, q3, q4⟩ := Option.map_eq_some_iff.mp q2
      subst q4
      obtain ⟨p, ov, rfl, g, f1, _⟩ := lookD_ok s a (b.up s) q1
      obtain ⟨v, h1, rv⟩ := f1 w q3
      subst h1
      exact ⟨p, v, rfl, g, k v H Hf (.refl s) rv⟩
    · cases q
  · cases q

section
variable {X : Cx} {e a b c : Expr}
theorem px_ix {FA FB : Fr} {pos} (hu : X.A.units + 1 < cLine) (ha : PR X a FA) (hb : PR X b FB) (hp : plainIx b = true) : PX X (.Subscript a b pos) (binF ixD FA FB) := by
  have p1 := pe_ix (pos := pos) (ix_seq (X := X)) ha hb (plainIx_ok hp)
  have p2 := pe_dgetF (pos := pos) hu ha hb (plainIx_ok hp)
  refine pe_imp (pe_or2 p1 p2) fun σ H Q h => ?_
  have h' := h
  obtain ⟨ρ, loc, Hf, z, ρ', s, hF, k⟩ := h'
  obtain ⟨x, ρ1, y, d, e, h1, h2, h3, h4, h5⟩ := binF_some hF
  by_cases hd : isDct d = true
  · refine .inr (read2 (dop_dget (W := wd X)) ⟨ρ, loc, Hf, z, ρ', s, ?_, k⟩)
    unfold binF
    simp only [h1, h2, h3, h4, Option.bind_some, ixK, hd, if_true, h5, Option.map_some]
  · refine .inl (read2 (dop_ix (W := wd X)) ⟨ρ, loc, Hf, z, ρ', s, ?_, k⟩)
    unfold binF
    simp only [h1, h2, h3, h4, Option.bind_some, ixN', hd, h5, Option.map_some]
    rfl

/-! ### in -/
end
end Ev
/-! text Ev6 -/
set_option Elab.async false
set_option linter.all false
set_option maxRecDepth 100000
set_option maxHeartbeats 4000000
namespace Ev
open PySem L2

section
variable {X : Cx} {e a b c : Expr}
/-! ### in, not in, with dicts -/
/-! ### slices -/
abbrev Fo := Env → Option (Option Int × Env)
def noneO : Fo := fun ρ => some (none, ρ)
def someO (F : Fd) : Fo := fun ρ => (F ρ).bind fun x => match x.1 with
  | .int i => some (some i, x.2)
  | _ => none
def tO (W : Wd) (F : Fo) : TO := fun σ H Q => ∃ ρ loc Hf r ρ', SOk W ρ loc σ H Hf ∧ F ρ = some (r, ρ') ∧ ∀ H' Hf', Ge ρ loc H Hf ρ' H' Hf' → SOk W ρ' loc σ H' Hf' → Q r H'
theorem po_imp {o : Option Expr} {t t' : TO} (h : PO X o t) (k : ∀ σ H Q, t' σ H Q → t σ H Q) : PO X o t' := ⟨fun pins s σ H Q I w => h.run pins s σ H Q I (k σ H Q w)⟩
theorem po_noneD : PO X none (tO (wd X) noneO) := po_imp po_none fun σ H Q ⟨ρ, loc, Hf, z, ρ', s, hF, k⟩ => by
  cases hF
  exact k H Hf .refl s
theorem po_someD {F : Fd} (h : PD X e F) : PO X (some e) (tO (wd X) (someO F)) := po_imp (po_some h) fun σ H Q ⟨ρ, loc, Hf, z, ρ', s, hF, k⟩ => by
  unfold someO at hF
  obtain ⟨⟨d, ρ1⟩, q1, hF⟩ := Option.bind_eq_some_iff.mp hF
  refine ⟨ρ, loc, Hf, d, ρ1, s, q1, fun v H1 Hf1 g1 s1 o1 => ?_⟩
  dsimp only at hF
  split at hF
  · cases o1
    cases hF
    exact ⟨_, rfl, k H1 Hf1 g1 s1⟩
  · cases hF
def cutD {α : Type} (xs : List α) (lo hi : Option Int) : List α := (xs.drop (HT.sIx xs.length 0 lo)).take (HT.sIx xs.length xs.length hi - HT.sIx xs.length 0 lo)
def slD (d : D) (lo hi : Option Int) : Option Rv := match d with
  | .lst xs => some (.own (.lst (cutD xs lo hi)))
  | .tup xs => some (.imm (.tup (cutD xs lo hi)))
  | .str z => if z.length ≤ sizeLine then some (.imm (.str (cutS z lo hi))) else none
  | .scr ns => some (.own (.lst ((cutD ns lo hi).map D.int)))
  | _ => none
def rSlX (K : PySem.W.Frag) : V → Option Int → Option Int → Hp → VK → Prop := fun x lo hi H Q => rSlF K x lo hi H Q ∨ (rSlL K x lo hi H Q ∨ rSlS x lo hi H Q)
theorem sl_X : SlR X (rSlX X.K) := sl_tupF.or (sl_list.or sl_str)
theorem cutD_rp {W : Wd} {H : Hp} {vs : List V} {ds : List D} (r : RpL W H vs ds) (lo hi : Option Int) : RpL W H (cutV vs lo hi) (cutD ds lo hi) := by
  unfold cutV cutD
  rw [r.length]
  exact (r.drop _).take _
theorem cutD_map {α β : Type} (f : α → β) (xs : List α) (lo hi : Option Int) : cutD (xs.map f) lo hi = (cutD xs lo hi).map f := by
  unfold cutD
  rw [List.length_map, List.map_take, List.map_drop]
theorem free_of {Hf H : Hp} (s : Sub Hf H) {p : Addr} (hp : H p = none) : Hf p = none := by
  cases w : Hf p with
  | none => rfl
  | some u => rw [s p u w] at hp; cases hp
theorem slD_ok {W : Wd} {v : V} {d : D} {lo hi : Option Int} {z : Rv} {H Hf : Hp} {Q : VK} (s : Sub Hf H) (a : RpB W H Hf v d) (q : slD d lo hi = some z) (k : ∀ v H' Hf', Ext H Hf H' Hf' → RvOk W H v H' Hf' z → Q v H') : rSlX W.K v lo hi H Q := by
  unfold slD at q
  split at q
  · cases q
    obtain ⟨p, vs, rfl, h1, r⟩ := a
    exact .inr (.inl ⟨p, vs, rfl, .of h1, fun p' hp => k _ _ _ (Ext.newO s hp _) ⟨p', rfl, hp, free_of s hp, _, upd_same, cutD_rp r lo hi⟩⟩)
  · cases q
    cases a with
    | tup h1 n1 r =>
    rename_i xs p ob1 vs
    refine .inl ⟨p, vs, rfl, sqT_fz (s _ _ h1), fun hw => ?_, fun _ p' u ⟨ob, hn, eu⟩ hp => ?_⟩
    · refine k _ H Hf (.refl s) ?_
      have e : cutD xs lo hi = xs := by
        unfold cutD
        rw [r.length] at hw
        rw [hw.1, hw.2, List.drop_zero, Nat.sub_zero, List.take_length]
      rw [e]
      exact .tup h1 n1 r
    · subst eu
      have E := Ext.newF s hp (.frz ob (.tup (cutV vs lo hi)))
      exact k _ _ _ E (.tup upd_same hn ((cutD_rp r lo hi).mono (E.fixed s)))
  · split at q
    · rename_i hz
      cases q
      cases a
      exact .inr (.inr ⟨_, rfl, hz, k _ H Hf (.refl s) (.str _)⟩)
    · cases q
  · cases q
    cases a with
    | scr h1 =>
    rename_i ns p
    refine .inr (.inl ⟨p, _, rfl, sqL_mono s h1, fun p' hp => k _ _ _ (Ext.newO s hp _) ⟨p', rfl, hp, free_of s hp, _, upd_same, ?_⟩⟩)
    show RpL W Hf (cutD (ns.map V.int) lo hi) _
    rw [cutD_map]
    exact RpL.ints _
  · cases q
def slF (FA : Fr) (FL FH : Fo) : Fe := fun ρ => (FA ρ).bind fun x => (FL x.2).bind fun l => (FH l.2).bind fun h => (deref h.2 x.1).bind fun d => (slD d l.1 h.1).map fun z => (z, h.2)
theorem px_sl {FA : Fr} {FL FH : Fo} {lo hi : Option Expr} {p2 pos} (ha : PR X a FA) (hl : PO X lo (tO (wd X) FL)) (hh : PO X hi (tO (wd X) FH)) : PX X (.Subscript a (.Slice lo hi none p2) pos) (slF FA FL FH) :=
  pe_imp (pe_slice sl_X ha hl hh) fun σ H Q ⟨ρ, loc, Hf, z, ρ', s, hF, k⟩ => by
    unfold slF at hF
    obtain ⟨⟨x, ρ1⟩, q1, hF⟩ := Option.bind_eq_some_iff.mp hF
    obtain ⟨⟨l, ρ2⟩, q2, hF⟩ := Option.bind_eq_some_iff.mp hF
    obtain ⟨⟨h, ρ3⟩, q3, hF⟩ := Option.bind_eq_some_iff.mp hF
    obtain ⟨d, q4, hF⟩ := Option.bind_eq_some_iff.mp hF
    obtain ⟨z', q5, hF⟩ := Option.map_eq_some_iff.mp hF
    cases hF
    refine ⟨ρ, loc, Hf, x, ρ1, s, q1, fun v H1 Hf1 g1 s1 o1 => ⟨ρ1, loc, Hf1, l, ρ2, s1, q2, fun H2 Hf2 g2 s2 => ⟨ρ2, loc, Hf2, h, _, s2, q3, fun H3 Hf3 g3 s3 => ?_⟩⟩⟩
    exact slD_ok s3.sub (deref_b s3 (o1.mono fun b o q => g3.fixed s2 b o (g2.fixed s1 b o q)) q4) q5 fun w H' Hf' E R =>
      k w H' Hf' (g1.trans (g2.trans (g3.trans E.ge))) (s3.ext E) (R.back fun x q => g1.there x (g2.there x (g3.there x q)))
/-! ### calls of built-ins -/
def DCall (W : Wd) (r : List V → Hp → VK → Prop) (f : List D → Option Rv) : Prop := ∀ (vs : List V) (ds : List D) (z : Rv) (H Hf : Hp) (Q : VK), Sub Hf H → RpBs W H Hf vs ds → f ds = some z →
  (∀ v H' Hf', Ext H Hf H' Hf' → RvOk W H v H' Hf' z → Q v H') → r vs H Q
def callF (f : List D → Option Rv) (FA : Fa) : Fe := fun ρ => (FA ρ).bind fun x => (derefs x.2 x.1).bind fun ds => (f ds).map fun z => (z, x.2)
theorem readC {W : Wd} {r : List V → Hp → VK → Prop} {f : List D → Option Rv} (hd : DCall W r f) {FA : Fa} {σ : St} {H : Hp} {Q : VK} (h : tX W (callF f FA) σ H Q) : tCB r (tA W FA) σ H Q := by
  obtain ⟨ρ, loc, Hf, z, ρ', s, hF, k⟩ := h
  unfold callF at hF
  obtain ⟨⟨as, ρ1⟩, q1, hF⟩ := Option.bind_eq_some_iff.mp hF
  obtain ⟨ds, q2, hF⟩ := Option.bind_eq_some_iff.mp hF
  obtain ⟨z', q3, hF⟩ := Option.map_eq_some_iff.mp hF
  cases hF
  exact ⟨ρ, loc, Hf, as, _, s, q1, fun vs H1 Hf1 g1 s1 o1 => hd vs ds _ H1 Hf1 Q s1.sub (derefs_b s1 o1 q2) q3 fun v H' Hf' E R => k v H' Hf' (g1.trans E.ge) (s1.ext E) (R.back g1.there)⟩
theorem RpBs.one {W : Wd} {H Hf : Hp} {vs : List V} {d : D} (h : RpBs W H Hf vs [d]) : ∃ v, vs = [v] ∧ RpB W H Hf v d := by
  match vs, h with
  | [v], h => exact ⟨v, rfl, h.1⟩
theorem RpBs.two {W : Wd} {H Hf : Hp} {vs : List V} {d e : D} (h : RpBs W H Hf vs [d, e]) : ∃ v u, vs = [v, u] ∧ RpB W H Hf v d ∧ RpB W H Hf u e := by
  match vs, h with
  | [v, u], h => exact ⟨v, u, rfl, h.1, h.2.1⟩
theorem px_callB {x : Str} {id : String} {r : List V → Hp → VK → Prop} {f : List D → Option Rv} {FA : Fa} {es : List Expr} {p pos : Pos} (hc : CallR X (.builtin id) r) (hd : DCall (wd X) r f) (hg : Gl X x) (hm : X.mg x = none) (hv : bootBuiltins x = some (.builtin id))
    (ha : PAs X (e :: es) FA) (hs : (e :: es).all noStar = true) (hn : x ≠ "__name__") (hdb : (x == ("__debug__" : Str)) = false) : PX X (.Call (.Name x p) (e :: es) [] pos) (callF f FA) := by
  rw [List.all_cons, Bool.and_eq_true] at hs
  exact pe_imp (pe_callB hc hg hm hv ha hn hdb (starEach_cons hs.1) (starEach_plain pos hs.2)) fun _ _ _ h => readC hd h
theorem px_callTy {x : Str} {T : String} {r : List V → Hp → VK → Prop} {f : List D → Option Rv} {FA : Fa} {es : List Expr} {p pos : Pos} (hc : CallR X (.type T) r) (hd : DCall (wd X) r f) (hg : Gl X x) (hm : X.mg x = none) (hv : bootBuiltins x = some (.type T))
    (ha : PAs X (e :: es) FA) (hs : (e :: es).all noStar = true) (hn : x ≠ "__name__") (hdb : (x == ("__debug__" : Str)) = false) : PX X (.Call (.Name x p) (e :: es) [] pos) (callF f FA) := by
  rw [List.all_cons, Bool.and_eq_true] at hs
  exact pe_imp (pe_callTy hc hg hm hv ha hn hdb (starEach_cons hs.1) (starEach_plain pos hs.2)) fun _ _ _ h => readC hd h
end
end Ev
/-! text Ev7 -/
set_option Elab.async false
set_option linter.all false
set_option maxRecDepth 100000
set_option maxHeartbeats 4000000
namespace Ev
open PySem L2

section
variable {W : Wd} {H Hf : Hp}
theorem RpB.seq {v : V} {d : D} (h : RpB W H Hf v d) (s : Sub Hf H) : (∀ ds, d = .lst ds → ∃ p vs, v = .ref p ∧ SqL W.K H p vs ∧ RpL W Hf vs ds) ∧ (∀ ds, d = .tup ds → ∃ p vs, v = .ref p ∧ SqT W.K H p vs ∧ RpL W Hf vs ds) := by
  refine ⟨fun ds e => ?_, fun ds e => ?_⟩
  · subst e; obtain ⟨p, vs, rfl, h1, r⟩ := h; exact ⟨p, vs, rfl, .of h1, r⟩
  · subst e
    cases h with
    | tup h1 _ r => exact ⟨_, _, rfl, sqT_fz (s _ _ h1), r⟩
end
def lenD : List D → Option Rv
  | [.lst xs] => some (.imm (.int xs.length))
  | [.tup xs] => some (.imm (.int xs.length))
  | [.str z] => if z.length ≤ sizeLine then some (.imm (.int z.length)) else none
  | [.scr ns] => some (.imm (.int ns.length))
  | _ => none
theorem dc_len {W : Wd} : DCall W (fun xs H Q => ∃ x n, xs = [x] ∧ LenV W.K x H n ∧ Q (.int n) H) lenD := fun vs ds z H Hf Q s a q k => by
  unfold lenD at q
  split at q
  · cases q
    obtain ⟨v, rfl, p, vs, rfl, h1, r⟩ := a.one
    refine ⟨_, _, rfl, .inl ⟨vs, .of h1, rfl⟩, k _ H Hf (.refl s) ?_⟩
    rw [r.length]; exact .int _
  · cases q
    obtain ⟨v, rfl, b⟩ := a.one
    cases b with
    | tup h1 _ r =>
    refine ⟨_, _, rfl, .inr ⟨_, sqT_fz (s _ _ h1), rfl⟩, k _ H Hf (.refl s) ?_⟩
    rw [r.length]; exact .int _
  · split at q
    · rename_i hz
      cases q
      obtain ⟨v, rfl, b⟩ := a.one
      cases b
      exact ⟨_, _, rfl, ⟨hz, rfl⟩, k _ H Hf (.refl s) (.int _)⟩
    · cases q
  · cases q
    obtain ⟨v, rfl, b⟩ := a.one
    cases b with
    | scr h1 =>
    refine ⟨_, _, rfl, .inl ⟨_, sqL_mono s h1, rfl⟩, k _ H Hf (.refl s) ?_⟩
    rw [List.length_map]; exact .int _
  · cases q
def listD : List D → Option Rv
  | [.lst xs] => some (.own (.lst xs))
  | [.tup xs] => some (.own (.lst xs))
  | [.scr ns] => some (.own (.lst (ns.map .int)))
  | _ => none
theorem dc_list {W : Wd} : DCall W (fun xs H Q => ∃ p ys, xs = [.ref p] ∧ (SqL W.K H p ys ∨ SqT W.K H p ys) ∧ ∀ l, H l = none → Q (.ref l) (upd H l (.lst ys))) listD := fun vs ds z H Hf Q s a q k => by
  unfold listD at q
  split at q
  · cases q
    obtain ⟨v, rfl, p, vs, rfl, h1, r⟩ := a.one
    exact ⟨p, vs, rfl, .inl (.of h1), fun l hl => k _ _ _ (Ext.newO s hl _) ⟨l, rfl, hl, free_of s hl, vs, upd_same, r⟩⟩
  · cases q
    obtain ⟨v, rfl, b⟩ := a.one
    cases b with
    | tup h1 _ r => exact ⟨_, _, rfl, .inr (sqT_fz (s _ _ h1)), fun l hl => k _ _ _ (Ext.newO s hl _) ⟨l, rfl, hl, free_of s hl, _, upd_same, r⟩⟩
  · cases q
    obtain ⟨v, rfl, b⟩ := a.one
    cases b with
    | scr h1 => exact ⟨_, _, rfl, .inl (sqL_mono s h1), fun l hl => k _ _ _ (Ext.newO s hl _) ⟨l, rfl, hl, free_of s hl, _, upd_same, RpL.ints _⟩⟩
  · cases q
def tupleD : List D → Option Rv
  | [.lst xs] => some (.imm (.tup xs))
  | [.tup xs] => some (.imm (.tup xs))
  | _ => none
theorem dc_tuple {W : Wd} : DCall W (fun xs H Q => ∃ p ys, xs = [.ref p] ∧ ((SqL W.K H p ys ∧ ∀ l u, FT ys u → H l = none → Q (.ref l) (upd H l u)) ∨ (SqT W.K H p ys ∧ Q (.ref p) H))) tupleD := fun vs ds z H Hf Q s a q k => by
  unfold tupleD at q
  split at q
  · cases q
    obtain ⟨v, rfl, p, vs, rfl, h1, r⟩ := a.one
    refine ⟨p, vs, rfl, .inl ⟨.of h1, fun l u ⟨ob, hn, eu⟩ hl => ?_⟩⟩
    subst eu
    have E := Ext.newF s hl (.frz ob (.tup vs))
    exact k _ _ _ E (.tup upd_same hn (r.mono (E.fixed s)))
  · cases q
    obtain ⟨v, rfl, b⟩ := a.one
    cases b with
    | tup h1 n1 r => exact ⟨_, _, rfl, .inr ⟨sqT_fz (s _ _ h1), k _ H Hf (.refl s) (.tup h1 n1 r)⟩⟩
  · cases q
end Ev
/-! text Ev8 -/
set_option Elab.async false
set_option linter.all false
set_option maxRecDepth 100000
set_option maxHeartbeats 4000000
namespace Ev
open PySem L2

/-! ### what is walked -/
/-- the turns give these, in order, while what is fixed stays -/
structure Feed (W : Wd) (J : It) (Hf : Hp) (items : List D) : Prop where
  go : ∀ (i : Nat) (d : D) (H' Hf' : Hp), items[i]? = some d → (∀ a o, Hf a = some o → Hf' a = some o) → Sub Hf' H' → J.go i H' ∧ ∀ x H3, J.yld i H' x H3 → ∃ Hf3, Ext H' Hf' H3 Hf3 ∧ Rp W Hf3 x d
  stop : ∀ (H' Hf' : Hp), (∀ a o, Hf a = some o → Hf' a = some o) → Sub Hf' H' → J.stop items.length H'
theorem Feed.list {W : Wd} {Hf : Hp} {a : Addr} {vs : List V} {ds : List D} (h : Hf a = some (.lst vs)) (r : RpL W Hf vs ds) : Feed W (Itl W.K a) Hf ds where
  go := fun i d H' Hf' e m s => by
    obtain ⟨v, h1, rv⟩ := r.get e
    have hq : SqL W.K H' a vs := .of (s _ _ (m _ _ h))
    refine ⟨⟨vs, v, hq, h1⟩, fun x H3 ⟨e1, e2⟩ => ?_⟩
    subst e1
    have := e2 vs hq
    rw [h1] at this; cases this
    exact ⟨Hf', .refl s, rv.mono m⟩
  stop := fun H' Hf' m s => ⟨vs, .of (s _ _ (m _ _ h)), by rw [r.length]; exact Nat.le_refl _⟩
theorem Feed.tup {W : Wd} {Hf : Hp} {a : Addr} {vs : List V} {ds : List D} {ob : Obj} (h : Hf a = some (.frz ob (.tup vs))) (r : RpL W Hf vs ds) : Feed W (Itt W.K a) Hf ds where
  go := fun i d H' Hf' e m s => by
    obtain ⟨v, h1, rv⟩ := r.get e
    have hq : SqT W.K H' a vs := sqT_fz (s _ _ (m _ _ h))
    refine ⟨⟨vs, v, hq, h1⟩, fun x H3 ⟨e1, e2⟩ => ?_⟩
    subst e1
    have := e2 vs hq
    rw [h1] at this; cases this
    exact ⟨Hf', .refl s, rv.mono m⟩
  stop := fun H' Hf' m s => ⟨vs, sqT_fz (s _ _ (m _ _ h)), by rw [r.length]; exact Nat.le_refl _⟩
/-- lo, lo + c, .. -/
def rgD (lo c : Int) (n : Nat) : List D := (List.range n).map fun i => D.int (lo + (i : Nat) * c)
theorem Feed.rng {W : Wd} {Hf : Hp} {lo : Int} {n : Nat} : Feed W (Itr lo n) Hf (rgD lo 1 n) where
  go := fun i d H' Hf' e m s => by
    unfold rgD at e
    rw [List.getElem?_map] at e
    obtain ⟨j, h1, h2⟩ := Option.map_eq_some_iff.mp e
    obtain ⟨hi, h3⟩ := List.getElem?_eq_some_iff.mp h1
    rw [List.length_range] at hi
    rw [List.getElem_range] at h3
    subst h3
    refine ⟨hi, fun x H3 ⟨e1, e2⟩ => ?_⟩
    subst e1; subst e2; subst h2
    refine ⟨Hf', .refl s, ?_⟩
    rw [Int.mul_one]
    exact .int _
  stop := fun H' Hf' m s => by
    show n ≤ (rgD lo 1 n).length
    unfold rgD
    rw [List.length_map, List.length_range]
    exact Nat.le_refl _
def signsD (z : Str) : List D := z.cps.toList.map fun c => D.str ⟨#[c]⟩
theorem Feed.signs {W : Wd} {Hf : Hp} {z : Str} : Feed W (Its z) Hf (signsD z) where
  go := fun i d H' Hf' e m s => by
    unfold signsD at e
    rw [List.getElem?_map] at e
    obtain ⟨j, h1, h2⟩ := Option.map_eq_some_iff.mp e
    rw [Array.getElem?_toList] at h1
    refine ⟨(Array.getElem?_eq_some_iff.mp h1).1, fun x H3 ⟨e1, c, e2, e3⟩ => ?_⟩
    subst e1
    rw [h1] at e2; cases e2
    subst e3; subst h2
    exact ⟨Hf', .refl s, .str _⟩
  stop := fun H' Hf' m s => by
    show z.cps.size ≤ (signsD z).length
    unfold signsD
    rw [List.length_map, Array.length_toList]
    exact Nat.le_refl _

abbrev Fi := Env → Option (List D × Env)
def tI (W : Wd) (F : Fi) : TI := fun σ H R => ∃ ρ loc Hf items ρ', SOk W ρ loc σ H Hf ∧ F ρ = some (items, ρ') ∧
  ∀ J H' Hf', Ge ρ loc H Hf ρ' H' Hf' → SOk W ρ' loc σ H' Hf' → Feed W J Hf' items → R J H'
abbrev PIt (X : Cx) (tg e : Expr) (F : Fi) := PI X tg e (tI (wd X) F)
section
variable {X : Cx} {tg e a b c : Expr}
theorem pi_imp {t t' : TI} (h : PI X tg e t) (k : ∀ σ H R, t' σ H R → t σ H R) : PI X tg e t' := ⟨fun pins s σ H R I w => h.run pins s σ H R I (k σ H R w)⟩
theorem pi_or2 {t u : TI} (h : PI X tg e t) (k : PI X tg e u) : PI X tg e (fun σ H R => t σ H R ∨ u σ H R) := ⟨fun pins s σ H R I w => w.elim (h.run pins s σ H R I) (k.run pins s σ H R I)⟩
/-- a list, a tuple, a text -/
def seqI : D → Option (List D)
  | .lst xs => some xs
  | .tup xs => some xs
  | .str z => some (signsD z)
  | _ => none
def seqF (F : Fd) : Fi := fun ρ => (F ρ).bind fun x => (seqI x.1).map fun ds => (ds, x.2)
theorem pit_seq {F : Fd} (h : PD X e F) : PIt X tg e (seqF F) := pi_imp (pi_or2 (pi_list h) (pi_or2 (pi_tup h) (pi_str h))) fun σ H R ⟨ρ, loc, Hf, items, ρ', s, hF, k⟩ => by
  unfold seqF at hF
  obtain ⟨⟨d, ρ1⟩, q1, hF⟩ := Option.bind_eq_some_iff.mp hF
  obtain ⟨ds, q2, hF⟩ := Option.map_eq_some_iff.mp hF
  cases hF
  unfold seqI at q2
  split at q2
  · rename_i xs hx
    cases q2
    refine .inl ⟨ρ, loc, Hf, d, _, s, q1, fun v H1 Hf1 g1 s1 o1 => ?_⟩
    dsimp only at hx
    subst hx
    cases o1 with
    | lst h1 r => exact ⟨_, rfl, ⟨_, .of (s1.sub _ _ h1)⟩, k _ H1 Hf1 g1 s1 (Feed.list h1 r)⟩
  · rename_i xs hx
    cases q2
    refine .inr (.inl ⟨ρ, loc, Hf, d, _, s, q1, fun v H1 Hf1 g1 s1 o1 => ?_⟩)
    dsimp only at hx
    subst hx
    cases o1 with
    | tup h1 _ r => exact ⟨_, rfl, ⟨_, sqT_fz (s1.sub _ _ h1)⟩, k _ H1 Hf1 g1 s1 (Feed.tup h1 r)⟩
  · rename_i z hx
    cases q2
    refine .inr (.inr ⟨ρ, loc, Hf, d, _, s, q1, fun v H1 Hf1 g1 s1 o1 => ?_⟩)
    dsimp only at hx
    subst hx
    cases o1
    exact ⟨_, rfl, k _ H1 Hf1 g1 s1 Feed.signs⟩
  · cases q2
/-- range -/
def okI (i : Int) : Bool := decide (-(2 ^ 62) ≤ i) && decide (i < 2 ^ 62)
def rng1 : List D → Option (List D)
  | [.int j] => if okI j then some (rgD 0 1 j.toNat) else none
  | _ => none
theorem okI_ok {i : Int} (h : okI i = true) : -(2 ^ 62) ≤ i ∧ i < 2 ^ 62 := by
  unfold okI at h
  rw [Bool.and_eq_true, decide_eq_true_eq, decide_eq_true_eq] at h
  exact h
def rngF (f : List D → Option (List D)) (FA : Fa) : Fi := fun ρ => (FA ρ).bind fun x => (derefs x.2 x.1).bind fun ds => (f ds).map fun z => (z, x.2)
theorem RpBs.three {W : Wd} {H Hf : Hp} {vs : List V} {d e f : D} (h : RpBs W H Hf vs [d, e, f]) : ∃ v u w, vs = [v, u, w] ∧ RpB W H Hf v d ∧ RpB W H Hf u e ∧ RpB W H Hf w f := by
  match vs, h with
  | [v, u, w], h => exact ⟨v, u, w, rfl, h.1, h.2.1, h.2.2.1⟩
theorem rng_read {W : Wd} {f : List D → Option (List D)} {FA : Fa} {σ : St} {H : Hp} {R : It → Hp → Prop} {T : List V → Hp → Prop} (h : tI W (rngF f FA) σ H R)
    (k : ∀ vs ds z H1 Hf1, RpBs W H1 Hf1 vs ds → f ds = some z → (∀ J, Feed W J Hf1 z → R J H1) → T vs H1) : tA W FA σ H T := by
  obtain ⟨ρ, loc, Hf, items, ρ', s, hF, kk⟩ := h
  unfold rngF at hF
  obtain ⟨⟨as, ρ1⟩, q1, hF⟩ := Option.bind_eq_some_iff.mp hF
  obtain ⟨ds, q2, hF⟩ := Option.bind_eq_some_iff.mp hF
  obtain ⟨z, q3, hF⟩ := Option.map_eq_some_iff.mp hF
  cases hF
  exact ⟨ρ, loc, Hf, as, _, s, q1, fun vs H1 Hf1 g1 s1 o1 => k vs ds _ H1 Hf1 (derefs_b s1 o1 q2) q3 fun J f => kk J H1 Hf1 g1 s1 f⟩
theorem pit_rng1 {FA : Fa} {p pos : Pos} (hg : Gl X "range") (hm : X.mg "range" = none) (ha : PAs X [a] FA) (hs : noStar a = true) : PIt X tg (.Call (.Name "range" p) [a] [] pos) (rngF rng1 FA) :=
  pi_imp (pi_range1 hg hm ha (starEach_cons hs)) fun σ H R h => rng_read h fun vs ds z H1 Hf1 o q kk => by
    unfold rng1 at q
    split at q
    · split at q
      · rename_i hz
        cases q
        obtain ⟨v, hv, o1⟩ := o.one
        cases o1
        exact ⟨_, hv, (okI_ok hz).1, (okI_ok hz).2, kk _ Feed.rng⟩
      · cases q
    · cases q
end
end Ev
/-! text Ev9 -/
set_option Elab.async false
set_option linter.all false
set_option maxRecDepth 100000
set_option maxHeartbeats 4000000
namespace Ev
open PySem L2

/-! ### states behind a store -/
def upL (loc : Loc) (i : Nat) (p : Addr) : Loc := fun j => if j = i then p else loc j
def isPar : Option Sl → Bool
  | some (.par _) => true
  | _ => false
def putV (i : Nat) (r : Rv) (ρ : Env) : Option Env :=
  if i < ρ.length ∧ isPar ρ[i]? = false then (match r with | .imm d => some (ρ.set i (.imm d)) | .own c => some (ρ.set i (.own c)) | .mix _ _ _ => none) else none
section
variable {W : Wd} {ρ ρ' : Env} {loc : Loc} {σ : St} {H Hf H' Hf' : Hp}
theorem set_cases {ρ : Env} {i j : Nat} {x t : Sl} (h : (ρ.set i x)[j]? = some t) : (j = i ∧ t = x) ∨ (j ≠ i ∧ ρ[j]? = some t) := by
  by_cases z : j = i
  · subst z
    by_cases hl : j < ρ.length
    · rw [List.getElem?_set_self hl] at h
      exact .inl ⟨rfl, (Option.some.inj h).symm⟩
    · rw [List.getElem?_eq_none (by simpa using hl)] at h; cases h
  · rw [List.getElem?_set_ne (Ne.symm z)] at h; exact .inr ⟨z, h⟩
theorem SOk.putImm {i : Nat} {d : D} {v : V} (s : SOk W ρ loc σ H Hf) (r : Rp W Hf v d) (hi : i < ρ.length) : SOk W (ρ.set i (.imm d)) loc (σ.set i (some v)) H Hf where
  tab := s.tab
  sub := s.sub
  len := by rw [List.length_set, List.length_set]; exact s.len
  imm := fun j e h => by
    rcases set_cases h with ⟨rfl, q⟩ | ⟨n, q⟩
    · cases q
      exact ⟨v, by rw [List.getElem?_set_self (by rw [s.len]; exact hi)], r⟩
    · obtain ⟨u, h1, h2⟩ := s.imm j e q
      exact ⟨u, by rw [List.getElem?_set_ne (Ne.symm n)]; exact h1, h2⟩
  own := fun j t c h1 h2 => by
    rcases set_cases h1 with ⟨_, q⟩ | ⟨n, q⟩
    · subst q; cases h2
    · obtain ⟨a, b, o⟩ := s.own j t c q h2
      exact ⟨by rw [List.getElem?_set_ne (Ne.symm n)]; exact a, b, o⟩
  inj := fun j l t u c e h1 h2 h3 h4 => by
    rcases set_cases h1 with ⟨_, q⟩ | ⟨_, q⟩
    · subst q; cases h3
    · rcases set_cases h2 with ⟨_, q'⟩ | ⟨_, q'⟩
      · subst q'; cases h4
      · exact s.inj j l t u c e q q' h3 h4
theorem SOk.putOwn {i : Nat} {c : C} {p : Addr} (s : SOk W ρ loc σ H Hf) (hn : Hf p = none) (o : OwnAt W H Hf p c) (no : ¬ IsOwn ρ loc p) (hi : i < ρ.length) :
    SOk W (ρ.set i (.own c)) (upL loc i p) (σ.set i (some (.ref p))) H Hf where
  tab := s.tab
  sub := s.sub
  len := by rw [List.length_set, List.length_set]; exact s.len
  imm := fun j e h => by
    rcases set_cases h with ⟨_, q⟩ | ⟨n, q⟩
    · cases q
    · obtain ⟨u, h1, h2⟩ := s.imm j e q
      exact ⟨u, by rw [List.getElem?_set_ne (Ne.symm n)]; exact h1, h2⟩
  own := fun j t c' h1 h2 => by
    rcases set_cases h1 with ⟨rfl, q⟩ | ⟨n, q⟩
    · subst q
      cases h2
      have e : upL loc j p j = p := if_pos rfl
      rw [e]
      exact ⟨by rw [List.getElem?_set_self (by rw [s.len]; exact hi)], hn, o⟩
    · have e : upL loc i p j = loc j := if_neg n
      rw [e]
      obtain ⟨a, b, o⟩ := s.own j t c' q h2
      exact ⟨by rw [List.getElem?_set_ne (Ne.symm n)]; exact a, b, o⟩
  inj := fun j l t u c1 c2 h1 h2 h3 h4 h5 => by
    rcases set_cases h1 with ⟨e1, q⟩ | ⟨n1, q⟩
    · rcases set_cases h2 with ⟨e2, q'⟩ | ⟨n2, q'⟩
      · rw [e1, e2]
      · exfalso
        have e : upL loc i p l = loc l := if_neg n2
        have e' : upL loc i p j = p := if_pos e1
        rw [e, e'] at h5
        exact no ⟨l, u, c2, q', h4, h5.symm⟩
    · rcases set_cases h2 with ⟨e2, q'⟩ | ⟨n2, q'⟩
      · exfalso
        have e : upL loc i p j = loc j := if_neg n1
        have e' : upL loc i p l = p := if_pos e2
        rw [e, e'] at h5
        exact no ⟨j, t, c1, q, h3, h5⟩
      · have e1 : upL loc i p j = loc j := if_neg n1
        have e2 : upL loc i p l = loc l := if_neg n2
        rw [e1, e2] at h5
        exact s.inj j l t u c1 c2 q q' h3 h4 h5
/-- behind an expression and the store of its value -/
theorem put_ok {i : Nat} {r : Rv} {ρ2 : Env} {v : V} (s0 : SOk W ρ loc σ H Hf) (g : Ge ρ loc H Hf ρ' H' Hf') (s : SOk W ρ' loc σ H' Hf') (o : RvOk W H v H' Hf' r) (hp : putV i r ρ' = some ρ2) :
    ∃ loc2, Go ρ loc H Hf ρ2 loc2 H' Hf' ∧ SOk W ρ2 loc2 (σ.set i (some v)) H' Hf' := by
  unfold putV at hp
  split at hp
  · rename_i hc
    have par1 : ∀ (x : Sl), (∀ c, x ≠ .par c) → ∀ (j : Nat) (c' : C), (ρ'.set i x)[j]? = some (Sl.par c') → j ≠ i ∧ ρ'[j]? = some (Sl.par c') := fun x hx j c' h => by
      rcases set_cases h with ⟨_, q⟩ | q
      · exact absurd q.symm (hx c')
      · exact q
    have par2 : ∀ (j : Nat) (c : C), ρ'[j]? = some (Sl.par c) → j ≠ i := fun j c h e => by
      subst e
      rw [h] at hc
      cases hc.2
    cases r with
    | mix _ _ _ => cases hp
    | imm d =>
      cases hp
      refine ⟨loc, ⟨g.there, g.keep, g.frz, fun j c h => ?_, fun j c h => ?_, fun j c h => ?_⟩, s.putImm o hc.1⟩
      · obtain ⟨n, q⟩ := par1 _ (fun c e => by cases e) j c h
        exact ⟨g.par j c q, rfl⟩
      · obtain ⟨c', q⟩ := g.parK j c h
        exact ⟨c', by rw [List.getElem?_set_ne (Ne.symm (par2 j c' q))]; exact q⟩
      · rcases set_cases h with ⟨_, q⟩ | ⟨_, q⟩
        · cases q
        · obtain ⟨c2, q2⟩ := g.own j c q
          exact .inr ⟨j, c2, q2, rfl⟩
    | own cc =>
      cases hp
      obtain ⟨p, rfl, hp, hpf, oo⟩ := o
      refine ⟨upL loc i p, ⟨g.there, g.keep, g.frz, fun j c h => ?_, fun j c h => ?_, fun j c h => ?_⟩, s.putOwn hpf oo (fun z => s0.newNot hp (g.isOwn z)) hc.1⟩
      · obtain ⟨n, q⟩ := par1 _ (fun c e => by cases e) j c h
        exact ⟨g.par j c q, if_neg n⟩
      · obtain ⟨c', q⟩ := g.parK j c h
        exact ⟨c', by rw [List.getElem?_set_ne (Ne.symm (par2 j c' q))]; exact q⟩
      · rcases set_cases h with ⟨e, q⟩ | ⟨n, q⟩
        · refine .inl ?_
          have e' : upL loc i p j = p := if_pos e
          rw [e']; exact hp
        · obtain ⟨c2, q2⟩ := g.own j c q
          have e' : upL loc i p j = loc j := if_neg n
          rw [e']
          exact .inr ⟨j, c2, q2, rfl⟩
  · cases hp
end

/-! ### targets -/
inductive Tg where
  | nm (i : Nat) | tp (ts : List Tg)
mutual
def asg : Tg → D → Env → Option Env
  | .nm i, d, ρ => putV i (.imm d) ρ
  | .tp ts, .tup ds, ρ => asgL ts ds ρ
  | .tp ts, .lst ds, ρ => asgL ts ds ρ
  | .tp _, _, _ => none
def asgL : List Tg → List D → Env → Option Env
  | [], [], ρ => some ρ
  | t :: ts, d :: ds, ρ => (asg t d ρ).bind fun ρ1 => asgL ts ds ρ1
  | _, _, _ => none
end
mutual
def tvs : Tg → List Nat
  | .nm i => [i]
  | .tp ts => tvsL ts
def tvsL : List Tg → List Nat
  | [] => []
  | t :: ts => tvs t ++ tvsL ts
end
def Out (σ σ' : St) (vs : List Nat) : Prop := ∀ j, j ∉ vs → σ'[j]? = σ[j]?
def tG (W : Wd) (t : Tg) : TG := fun v σ H Q => ∃ ρ loc Hf d ρ', SOk W ρ loc σ H Hf ∧ Rp W Hf v d ∧ asg t d ρ = some ρ' ∧ ∀ σ', Out σ σ' (tvs t) → Ge ρ loc H Hf ρ' H Hf → SOk W ρ' loc σ' H Hf → Q σ' H
section
variable {X : Cx} {e a b c : Expr}
theorem pg_imp {t t' : TG} (h : PG X e t) (k : ∀ v σ H Q, t' v σ H Q → t v σ H Q) : PG X e t' := ⟨fun pins s σ H v u Q I r w => h.run pins s σ H v u Q I r (k v σ H Q w)⟩
theorem put_imm {W : Wd} {ρ ρ' : Env} {loc : Loc} {σ : St} {H Hf : Hp} {i : Nat} {d : D} {v : V} (s : SOk W ρ loc σ H Hf) (r : Rp W Hf v d) (h : putV i (.imm d) ρ = some ρ') : Ge ρ loc H Hf ρ' H Hf ∧ SOk W ρ' loc (σ.set i (some v)) H Hf := by
  have h' := h
  unfold putV at h
  split at h
  · rename_i hc
    cases h
    refine ⟨⟨fun _ h => h, fun _ _ h _ _ => h, fun _ _ _ _ => rfl, fun j c h => ?_, fun j c h => ?_, fun j c h => ?_⟩, s.putImm r hc.1⟩
    · rcases set_cases h with ⟨_, q⟩ | ⟨_, q⟩
      · cases q
      · exact ⟨c, q⟩
    · rcases set_cases h with ⟨_, q⟩ | ⟨_, q⟩
      · cases q
      · exact ⟨c, q⟩
    · have n : j ≠ i := fun e => by
        subst e
        rw [h] at hc
        cases hc.2
      exact ⟨c, by rw [List.getElem?_set_ne (Ne.symm n)]; exact h⟩
  · cases h
theorem pgt_name {i : Nat} (h : PG X e (gName i)) : PG X e (tG (wd X) (.nm i)) := pg_imp h fun v σ H Q ⟨ρ, loc, Hf, d, ρ', s, r, hp, k⟩ => by
  unfold asg at hp
  obtain ⟨g, s'⟩ := put_imm s r hp
  refine k _ (fun j hj => ?_) g s'
  rw [List.getElem?_set_ne]
  intro e
  subst e
  exact hj (by unfold tvs; exact List.mem_singleton.mpr rfl)
/-! ### statements -/
inductive Fw where
  | nx | bk | ct | rt (r : Rv)
abbrev Fs := Env → Option (Fw × Env)
/-- what is handed back -/
def RtOk (W : Wd) (ρ : Env) (loc : Loc) (H : Hp) (v : V) (H' Hf' : Hp) : Rv → Prop
  | .imm d => Rp W Hf' v d
  | .own c => ∃ p, v = .ref p ∧ Hf' p = none ∧ OwnAt W H' Hf' p c ∧ (H p = none ∨ ∃ (j : Nat) (c' : C), ρ[j]? = some (Sl.own c') ∧ loc j = p)
  | .mix pre xs post => ∃ p a, v = .ref p ∧ H p = none ∧ MixAt W H' Hf' p a pre xs post ∧ (H a = none ∨ ∃ (j : Nat) (c' : C), ρ[j]? = some (Sl.own c') ∧ loc j = a)
def Post (W : Wd) (D : Ends) (ρ : Env) (loc : Loc) (H : Hp) (σ' : St) (H' Hf' : Hp) : Fw → Prop
  | .nx => D.nx σ' H'
  | .bk => D.bk σ' H'
  | .ct => D.ct σ' H'
  | .rt r => ∀ v, RtOk W ρ loc H v H' Hf' r → D.rt v H'
def tS (W : Wd) (F : Fs) : TS := fun D σ H => ∃ ρ loc Hf fl ρ', SOk W ρ loc σ H Hf ∧ F ρ = some (fl, ρ') ∧
  ∀ σ' loc' H' Hf', Go ρ loc H Hf ρ' loc' H' Hf' → SOk W ρ' loc' σ' H' Hf' → Post W D ρ loc H σ' H' Hf' fl
abbrev PSt (X : Cx) (st : Stmt) (F : Fs) := PS X st (tS (wd X) F)
abbrev PSts (X : Cx) (st : List Stmt) (F : Fs) := PSs X st (tS (wd X) F)
theorem RtOk.back {W : Wd} {ρ ρ1 : Env} {loc loc1 : Loc} {H Hf H1 Hf1 H' Hf' : Hp} {v : V} {r : Rv} (g : Go ρ loc H Hf ρ1 loc1 H1 Hf1) (h : RtOk W ρ1 loc1 H1 v H' Hf' r) : RtOk W ρ loc H v H' Hf' r := by
  cases r with
  | imm d => exact h
  | mix pre xs post =>
    obtain ⟨p, a, h1, h2, h3, h4⟩ := h
    refine ⟨p, a, h1, g.there _ h2, h3, ?_⟩
    rcases h4 with z | ⟨j, c', z1, z2⟩
    · exact .inl (g.there _ z)
    · rcases g.own j c' z1 with q | ⟨k, c2, q1, q2⟩
      · exact .inl (z2 ▸ q)
      · exact .inr ⟨k, c2, q1, q2.trans z2⟩
  | own c =>
    obtain ⟨p, h1, h2, h3, h4⟩ := h
    refine ⟨p, h1, h2, h3, ?_⟩
    rcases h4 with z | ⟨j, c', z1, z2⟩
    · exact .inl (g.there _ z)
    · rcases g.own j c' z1 with q | ⟨k, c2, q1, q2⟩
      · exact .inl (z2 ▸ q)
      · exact .inr ⟨k, c2, q1, q2.trans z2⟩
theorem Post.back {W : Wd} {D : Ends} {ρ ρ1 : Env} {loc loc1 : Loc} {H Hf H1 Hf1 H' Hf' : Hp} {σ' : St} {fl : Fw} (g : Go ρ loc H Hf ρ1 loc1 H1 Hf1) (h : Post W D ρ loc H σ' H' Hf' fl) : Post W D ρ1 loc1 H1 σ' H' Hf' fl := by
  cases fl with
  | nx => exact h
  | bk => exact h
  | ct => exact h
  | rt r => exact fun v o => h v (o.back g)
def skipS : Fs := fun ρ => some (.nx, ρ)
def seqS (F G : Fs) : Fs := fun ρ => (F ρ).bind fun x => match x.1 with
  | .nx => G x.2
  | fl => some (fl, x.2)
theorem psts_nil : PSts X [] skipS := pss_imp pss_nil fun D σ H ⟨ρ, loc, Hf, fl, ρ', s, hF, k⟩ => by
  cases hF
  exact k σ loc H Hf .refl s
theorem seq_read {W : Wd} {F G : Fs} {D : Ends} {σ : St} {H : Hp} (h : tS W (seqS F G) D σ H) : tSeq (tS W F) (tS W G) D σ H := by
  obtain ⟨ρ, loc, Hf, fl, ρ', s, hF, k⟩ := h
  unfold seqS at hF
  obtain ⟨⟨f1, ρ1⟩, q1, hF⟩ := Option.bind_eq_some_iff.mp hF
  refine ⟨ρ, loc, Hf, f1, ρ1, s, q1, fun σ1 loc1 H1 Hf1 g1 s1 => ?_⟩
  cases f1 with
  | nx =>
    dsimp only at hF
    exact ⟨ρ1, loc1, Hf1, fl, ρ', s1, hF, fun σ2 loc2 H2 Hf2 g2 s2 => (k σ2 loc2 H2 Hf2 (g1.trans s1 g2) s2).back g1⟩
  | bk => cases hF; exact k σ1 loc1 H1 Hf1 g1 s1
  | ct => cases hF; exact k σ1 loc1 H1 Hf1 g1 s1
  | rt r => cases hF; exact k σ1 loc1 H1 Hf1 g1 s1
theorem psts_cons {st : Stmt} {rest : List Stmt} {F G : Fs} (h1 : PSt X st F) (h2 : PSts X rest G) : PSts X (st :: rest) (seqS F G) := pss_imp (pss_cons h1 h2) fun D σ H h => seq_read h
def dropS (F : Fe) : Fs := fun ρ => (F ρ).map fun x => (.nx, x.2)
theorem pst_expr {F : Fe} {pos} (h : PX X e F) (hs : swapsWith e none pos.line X.env = pure false) : PSt X (.Expr e pos) (dropS F) := ps_imp (ps_expr h hs) fun D σ H ⟨ρ, loc, Hf, fl, ρ', s, hF, k⟩ => by
  unfold dropS at hF
  obtain ⟨⟨r, ρ1⟩, q1, q2⟩ := Option.map_eq_some_iff.mp hF
  cases q2
  exact ⟨ρ, loc, Hf, r, _, s, q1, fun v H' Hf' g s' o => k σ loc H' Hf' g.go s'⟩
def retS (F : Fe) : Fs := fun ρ => (F ρ).map fun x => (.rt x.1, x.2)
theorem pst_ret {F : Fe} {pos} (h : PX X e F) : PSt X (.Return (some e) pos) (retS F) := ps_imp (ps_ret h) fun D σ H ⟨ρ, loc, Hf, fl, ρ', s, hF, k⟩ => by
  unfold retS at hF
  obtain ⟨⟨r, ρ1⟩, q1, q2⟩ := Option.map_eq_some_iff.mp hF
  cases q2
  refine ⟨ρ, loc, Hf, r, _, s, q1, fun v H' Hf' g s' o => k σ loc H' Hf' g.go s' v ?_⟩
  cases r with
  | imm d => exact o
  | own c => obtain ⟨p, h1, h2, h3, h4⟩ := o; exact ⟨p, h1, h3, h4, .inl h2⟩
  | mix pre xs post => obtain ⟨p, a, h1, h2, h3, h4⟩ := o; exact ⟨p, a, h1, h2, h4, .inl h3⟩
def retVar (i : Nat) : Fs := fun ρ => match ρ[i]? with
  | some (.imm d) => some (.rt (.imm d), ρ)
  | some (.own c) => some (.rt (.own c), ρ)
  | _ => none
theorem pst_retVar {i : Nat} {pos} (h : PE X e (tVar i)) : PSt X (.Return (some e) pos) (retVar i) := ps_imp (ps_ret h) fun D σ H ⟨ρ, loc, Hf, fl, ρ', s, hF, k⟩ => by
  unfold retVar at hF
  split at hF
  · rename_i d q
    cases hF
    obtain ⟨v, h1, r⟩ := s.imm i d q
    exact ⟨v, h1, k σ loc H Hf .refl s v r⟩
  · rename_i c q
    cases hF
    obtain ⟨h1, h2, h3⟩ := s.own i _ c q rfl
    exact ⟨_, h1, k σ loc H Hf .refl s _ ⟨_, rfl, h2, h3, .inr ⟨i, c, q, rfl⟩⟩⟩
  · cases hF
def ifS (T : Ft) (F G : Fs) : Fs := fun ρ => (T ρ).bind fun x => if x.1 = true then F x.2 else G x.2
theorem pst_if {T : Ft} {F G : Fs} {as bs : List Stmt} {pos} (hc : PB X c T) (ha : PSts X as F) (hb : PSts X bs G) : PSt X (.If c as bs pos) (ifS T F G) := ps_imp (ps_if hc ha hb) fun D σ H ⟨ρ, loc, Hf, fl, ρ', s, hF, k⟩ => by
  unfold ifS at hF
  obtain ⟨⟨z1, ρ1⟩, h1, hF⟩ := Option.bind_eq_some_iff.mp hF
  refine ⟨ρ, loc, Hf, z1, ρ1, s, h1, fun H1 Hf1 g1 s1 => ?_⟩
  cases z1 with
  | true =>
    simp only [if_true] at hF ⊢
    exact ⟨ρ1, loc, Hf1, fl, ρ', s1, hF, fun σ2 loc2 H2 Hf2 g2 s2 => (k σ2 loc2 H2 Hf2 (g1.go.trans s1 g2) s2).back g1.go⟩
  | false =>
    simp only [Bool.false_eq_true, if_false] at hF ⊢
    exact ⟨ρ1, loc, Hf1, fl, ρ', s1, hF, fun σ2 loc2 H2 Hf2 g2 s2 => (k σ2 loc2 H2 Hf2 (g1.go.trans s1 g2) s2).back g1.go⟩
/-- x = e -/
def setS (i : Nat) (F : Fe) : Fs := fun ρ => (F ρ).bind fun x => (putV i x.1 x.2).map fun ρ' => (.nx, ρ')
theorem set_read {W : Wd} {i : Nat} {F : Fe} {D : Ends} {σ : St} {H : Hp} (h : tS W (setS i F) D σ H) : tAsg (tX W F) (gName i) D σ H := by
  obtain ⟨ρ, loc, Hf, fl, ρ', s, hF, k⟩ := h
  unfold setS at hF
  obtain ⟨⟨r, ρ1⟩, q1, hF⟩ := Option.bind_eq_some_iff.mp hF
  obtain ⟨ρ2, q2, q3⟩ := Option.map_eq_some_iff.mp hF
  cases q3
  refine ⟨ρ, loc, Hf, r, ρ1, s, q1, fun v H' Hf' g s' o => ?_⟩
  obtain ⟨loc2, g2, s2⟩ := put_ok s g s' o q2
  exact k _ loc2 H' Hf' g2 s2
end
end Ev
/-! text Ev10 -/
set_option Elab.async false
set_option linter.all false
set_option maxRecDepth 100000
set_option maxHeartbeats 4000000
namespace Ev
open PySem L2

/-! ### loops -/
def loopF (t : Tg) (B : Fs) : List D → Fs
  | [], ρ => some (.nx, ρ)
  | d :: ds, ρ => (asg t d ρ).bind fun ρ1 => (B ρ1).bind fun y => match y.1 with
    | .nx => loopF t B ds y.2
    | .ct => loopF t B ds y.2
    | .bk => some (.nx, y.2)
    | .rt r => some (.rt r, y.2)
def forS (t : Tg) (FI : Fi) (B : Fs) : Fs := fun ρ => (FI ρ).bind fun x => loopF t B x.1 x.2
section
variable {X : Cx} {tg e a b c : Expr}
theorem for_read {W : Wd} {t : Tg} {FI : Fi} {B : Fs} {D : Ends} {σ : St} {H : Hp} (h : tS W (forS t FI B) D σ H) : tFor (tI W FI) (tG W t) (tS W B) D σ H := by
  obtain ⟨ρ, loc, Hf, fl, ρ', s, hF, k⟩ := h
  unfold forS at hF
  obtain ⟨⟨items, ρ1⟩, q1, hF⟩ := Option.bind_eq_some_iff.mp hF
  dsimp only at hF
  refine ⟨ρ, loc, Hf, items, ρ1, s, q1, fun J H1 Hf1 g1 s1 feed => ?_⟩
  refine ⟨fun i m σ' H' => m = items.length - i ∧ i ≤ items.length ∧ ∃ ρi loci Hfi, SOk W ρi loci σ' H' Hfi ∧ Go ρ loc H Hf ρi loci H' Hfi ∧ (∀ a o, Hf1 a = some o → Hfi a = some o) ∧ loopF t B (items.drop i) ρi = some (fl, ρ'),
    ⟨_, rfl, Nat.zero_le _, ρ1, loc, Hf1, s1, g1.go, fun _ _ h => h, hF⟩, ?_⟩
  rintro i m σ' H' ⟨rfl, hi, ρi, loci, Hfi, si, gi, fi, hl⟩
  by_cases hlt : i < items.length
  · have hd : items[i]? = some items[i] := List.getElem?_eq_getElem hlt
    have hdrop : items.drop i = items[i] :: items.drop (i + 1) := List.drop_eq_getElem_cons hlt
    rw [hdrop] at hl
    unfold loopF at hl
    obtain ⟨ρ2, q2, hl⟩ := Option.bind_eq_some_iff.mp hl
    obtain ⟨⟨f1, ρ3⟩, q3, hl⟩ := Option.bind_eq_some_iff.mp hl
    obtain ⟨go, yl⟩ := feed.go i _ H' Hfi hd fi si.sub
    refine .inr ⟨go, _, fun σ2 H2 h => h, fun x H3 y => ?_⟩
    obtain ⟨Hf3, E, r⟩ := yl x H3 y
    have s3 := si.ext E
    have g3 : Go ρ loc H Hf ρi loci H3 Hf3 := gi.trans si E.ge.go
    refine ⟨ρi, loci, Hf3, _, ρ2, s3, r, q2, fun σ4 _ g4 s4 => ?_⟩
    have g5 := g3.trans s3 g4.go
    refine ⟨ρ2, loci, Hf3, f1, ρ3, s4, q3, fun σ6 loc6 H6 Hf6 g6 s6 => ?_⟩
    have g7 := g5.trans s4 g6
    have fx : ∀ a o, Hf1 a = some o → Hf6 a = some o := fun a o q => g6.fixed s4 a o (E.fixed si.sub a o (fi a o q))
    cases f1 with
    | nx => exact ⟨_, by omega, rfl, hlt, ρ3, loc6, Hf6, s6, g7, fx, hl⟩
    | ct => exact ⟨_, by omega, rfl, hlt, ρ3, loc6, Hf6, s6, g7, fx, hl⟩
    | bk => cases hl; exact k σ6 loc6 H6 Hf6 g7 s6
    | rt rv =>
      cases hl
      exact fun v o => k σ6 loc6 H6 Hf6 g7 s6 v (o.back g5)
  · have e : i = items.length := by omega
    subst e
    rw [List.drop_length] at hl
    cases hl
    exact .inl ⟨feed.stop H' Hfi fi si.sub, k σ' loci H' Hfi gi si⟩
theorem pst_for {t : Tg} {FI : Fi} {B : Fs} {body : List Stmt} {pos : Pos} (hp : PassesOwn (model X.prog X.w) X.A X.env X.xe) (hc : X.calm = true) (hi : PIt X tg e FI) (hg : PG X tg (tG (wd X) t)) (hb : PSts X body B)
    (hs : ∀ x, foldedSetIterable e X.env x = pure x) : PSt X (.For tg e body [] pos) (forS t FI B) := ps_imp (ps_for hp hc hi hg hb hs) fun D σ H h => for_read h
end

/-! ### comprehensions -/
def wipeE (ρ : Env) : List Nat → Env
  | [] => ρ
  | v :: vs => (wipeE ρ vs).set v .un
/-- the slots vs as in ρ, the others as in ρb -/
def backE (ρ ρb : Env) (vs : List Nat) : Env := (List.range ρb.length).map fun j => if j ∈ vs then (ρ[j]?).getD .un else (ρb[j]?).getD .un
theorem wipeE_len (ρ : Env) : ∀ vs, (wipeE ρ vs).length = ρ.length
  | [] => rfl
  | v :: vs => by unfold wipeE; rw [List.length_set, wipeE_len ρ vs]
theorem wipeE_in {ρ : Env} {j : Nat} {t : Sl} : ∀ {vs : List Nat}, (wipeE ρ vs)[j]? = some t → (j ∈ vs ∧ t = .un) ∨ (j ∉ vs ∧ ρ[j]? = some t)
  | [], h => .inr ⟨by simp, h⟩
  | v :: vs, h => by
    unfold wipeE at h
    rcases set_cases h with ⟨e, q⟩ | ⟨n, q⟩
    · exact .inl ⟨by rw [e]; exact List.mem_cons_self, q⟩
    · rcases wipeE_in q with ⟨e, q⟩ | ⟨n2, q⟩
      · exact .inl ⟨List.mem_cons_of_mem _ e, q⟩
      · exact .inr ⟨by simp only [List.mem_cons, not_or]; exact ⟨n, n2⟩, q⟩
theorem wipeE_out {ρ : Env} {j : Nat} : ∀ {vs : List Nat}, j ∉ vs → (wipeE ρ vs)[j]? = ρ[j]?
  | [], _ => rfl
  | v :: vs, h => by
    simp only [List.mem_cons, not_or] at h
    unfold wipeE
    rw [List.getElem?_set_ne (Ne.symm h.1)]
    exact wipeE_out h.2
theorem wipe_out' {σ : St} {i : Nat} : ∀ {vs : List Nat}, i ∉ vs → (wipe σ vs)[i]? = σ[i]?
  | [], _ => rfl
  | v :: vs, h => by
    simp only [List.mem_cons, not_or] at h
    unfold wipe
    rw [List.getElem?_set_ne (Ne.symm h.1)]
    exact wipe_out' h.2
theorem wipe_in' {σ : St} {i : Nat} : ∀ {vs : List Nat}, i ∈ vs → (wipe σ vs)[i]? = if i < σ.length then some none else none
  | v :: vs, h => by
    unfold wipe
    by_cases e : v = i
    · subst e
      by_cases hl : v < σ.length
      · rw [List.getElem?_set_self (by rw [wipe_length]; exact hl), if_pos hl]
      · rw [List.getElem?_eq_none (by rw [List.length_set, wipe_length]; omega), if_neg hl]
    · rw [List.getElem?_set_ne e]
      rcases List.mem_cons.mp h with q | q
      · exact absurd q.symm e
      · exact wipe_in' q
theorem wipe_eq {σ σ' : St} {vs ws : List Nat} (hl : σ'.length = σ.length) (h : Out σ σ' ws) (hs : ∀ i ∈ ws, i ∈ vs) : wipe σ' vs = wipe σ vs := by
  apply List.ext_getElem?
  intro j
  by_cases hj : j ∈ vs
  · rw [wipe_in' hj, wipe_in' hj, hl]
  · rw [wipe_out' hj, wipe_out' hj]
    exact h j fun q => hj (hs j q)
section
variable {W : Wd} {ρ ρ' : Env} {loc loc' : Loc} {σ : St} {H Hf H' Hf' : Hp}
theorem SOk.wipe (s : SOk W ρ loc σ H Hf) (vs : List Nat) : SOk W (wipeE ρ vs) loc (wipe σ vs) H Hf where
  tab := s.tab
  sub := s.sub
  len := by rw [wipe_length, wipeE_len]; exact s.len
  imm := fun j d h => by
    rcases wipeE_in h with ⟨_, q⟩ | ⟨n, q⟩
    · cases q
    · obtain ⟨v, h1, r⟩ := s.imm j d q
      exact ⟨v, by rw [wipe_out' n]; exact h1, r⟩
  own := fun j t c h1 h2 => by
    rcases wipeE_in h1 with ⟨_, q⟩ | ⟨n, q⟩
    · subst q; cases h2
    · obtain ⟨x, y, o⟩ := s.own j t c q h2
      exact ⟨by rw [wipe_out' n]; exact x, y, o⟩
  inj := fun j l t u c d h1 h2 h3 h4 h5 => by
    rcases wipeE_in h1 with ⟨_, q⟩ | ⟨_, q⟩
    · subst q; cases h3
    · rcases wipeE_in h2 with ⟨_, q'⟩ | ⟨_, q'⟩
      · subst q'; cases h4
      · exact s.inj j l t u c d q q' h3 h4 h5
theorem Ge.wiped {vs : List Nat} (g : Ge (wipeE ρ vs) loc H Hf ρ' H' Hf') : Ge (wipeE ρ vs) loc H Hf (wipeE ρ' vs) H' Hf' where
  there := g.there
  keep := g.keep
  frz := g.frz
  own := fun i c h => by
    rcases wipeE_in h with ⟨_, q⟩ | ⟨_, q⟩
    · cases q
    · exact g.own i c q
  par := fun i c h => by
    rcases wipeE_in h with ⟨_, q⟩ | ⟨_, q⟩
    · cases q
    · exact g.par i c q
  parK := fun i c h => by
    rcases wipeE_in h with ⟨_, q⟩ | ⟨n, q⟩
    · cases q
    · obtain ⟨c', q'⟩ := g.parK i c h
      exact ⟨c', by rw [wipeE_out n]; exact q'⟩
/-- a thing apart changes -/
theorem SOk.other (s : SOk W ρ loc σ H Hf) {p : Addr} {u : HO} (hf : Hf p = none) (no : ¬ IsOwn ρ loc p) (nt : ∀ ps, H p ≠ some (.tbl ps)) : SOk W ρ loc σ (upd H p u) Hf where
  tab := s.tab.upd nt
  sub := fun a o h => by rw [upd_ne (ne_of_none h hf)]; exact s.sub a o h
  len := s.len
  imm := s.imm
  own := fun j t c h1 h2 => by
    obtain ⟨x, y, o⟩ := s.own j t c h1 h2
    have ne : loc j ≠ p := fun e => no ⟨j, t, c, h1, h2, e⟩
    exact ⟨x, y, o.mono (fun v q _ => by rw [upd_ne ne]; exact q) fun _ _ q => q⟩
  inj := s.inj
theorem Ge.other (g : Ge ρ loc H Hf ρ' H' Hf') {p : Addr} {u : HO} (hp : H p = none) : Ge ρ loc H Hf ρ' (upd H' p u) Hf' where
  there := fun a h => by
    by_cases e : a = p
    · rw [e]; exact hp
    · rw [upd_ne e] at h; exact g.there a h
  keep := fun a o h n => by rw [upd_ne (ne_of_none h hp)]; exact g.keep a o h n
  frz := g.frz
  own := g.own
  par := g.par
  parK := g.parK
theorem Ge.step {ρ1 : Env} {H1 Hf1 : Hp} (g : Ge ρ loc H Hf ρ1 H1 Hf1) (E : Ext H1 Hf1 H' Hf') : Ge ρ loc H Hf ρ1 H' Hf' := g.trans E.ge
theorem backE_get {ρ ρb : Env} {vs : List Nat} {j : Nat} {t : Sl} (hl : ρ.length = ρb.length) (h : (backE ρ ρb vs)[j]? = some t) : (j ∈ vs ∧ ρ[j]? = some t) ∨ (j ∉ vs ∧ ρb[j]? = some t) := by
  unfold backE at h
  rw [List.getElem?_map] at h
  obtain ⟨k, h1, h2⟩ := Option.map_eq_some_iff.mp h
  obtain ⟨hk, h3⟩ := List.getElem?_eq_some_iff.mp h1
  rw [List.length_range] at hk
  rw [List.getElem_range] at h3
  subst h3
  by_cases hj : j ∈ vs
  · rw [if_pos hj] at h2
    refine .inl ⟨hj, ?_⟩
    rw [List.getElem?_eq_getElem (by omega)] at h2 ⊢
    exact congrArg some h2
  · rw [if_neg hj] at h2
    refine .inr ⟨hj, ?_⟩
    rw [List.getElem?_eq_getElem hk] at h2 ⊢
    exact congrArg some h2
theorem backE_of {ρ ρb : Env} {vs : List Nat} {j : Nat} {t : Sl} (hl : ρ.length = ρb.length) (h : (j ∈ vs ∧ ρ[j]? = some t) ∨ (j ∉ vs ∧ ρb[j]? = some t)) : (backE ρ ρb vs)[j]? = some t := by
  have hj : j < ρb.length := by
    rcases h with ⟨_, q⟩ | ⟨_, q⟩
    · rw [← hl]; exact (List.getElem?_eq_some_iff.mp q).1
    · exact (List.getElem?_eq_some_iff.mp q).1
  unfold backE
  rw [List.getElem?_map, List.getElem?_range hj]
  show some (if j ∈ vs then (ρ[j]?).getD Sl.un else (ρb[j]?).getD Sl.un) = some t
  rcases h with ⟨hm, q⟩ | ⟨hm, q⟩
  · rw [if_pos hm, q]; rfl
  · rw [if_neg hm, q]; rfl
/-- behind a block -/
theorem SOk.back {ρb : Env} {vs : List Nat} (s1 : SOk W ρ loc σ H Hf) (g : Ge (wipeE ρ vs) loc H Hf ρb H' Hf') (sb : SOk W ρb loc (L2.wipe σ vs) H' Hf') (fx : ∀ a o, Hf a = some o → Hf' a = some o) :
    SOk W (backE ρ ρb vs) loc σ H' Hf' ∧ Ge ρ loc H Hf (backE ρ ρb vs) H' Hf' := by
  have hl : ρ.length = ρb.length := by rw [← sb.len, wipe_length, s1.len]
  have notOwn : ∀ a, ¬ IsOwn ρ loc a → ¬ IsOwn (wipeE ρ vs) loc a := fun a n ⟨i, t, c, h1, h2, h3⟩ => by
    rcases wipeE_in h1 with ⟨_, q⟩ | ⟨_, q⟩
    · subst q; cases h2
    · exact n ⟨i, t, c, q, h2, h3⟩
  -- an object of a wiped slot stays
  have wiped : ∀ (j : Nat) (t : Sl) (c : C), j ∈ vs → ρ[j]? = some t → t.cont = some c → ¬ IsOwn (wipeE ρ vs) loc (loc j) := fun j t c hj h1 h2 ⟨i, u, d, k1, k2, k3⟩ => by
    rcases wipeE_in k1 with ⟨_, q⟩ | ⟨n, q⟩
    · subst q; cases k2
    · exact n (s1.inj i j u t d c q h1 k2 h2 k3 ▸ hj)
  have ownb : ∀ (j : Nat) (t : Sl) (c : C), ρb[j]? = some t → t.cont = some c → ∃ u d, ρ[j]? = some u ∧ u.cont = some d := fun j t c h1 h2 => by
    cases t with
    | un => cases h2
    | imm d => cases h2
    | own c' =>
      obtain ⟨d, q⟩ := g.own j c' h1
      rcases wipeE_in q with ⟨_, z⟩ | ⟨_, z⟩
      · cases z
      · exact ⟨_, d, z, rfl⟩
    | par c' =>
      obtain ⟨d, q⟩ := g.par j c' h1
      rcases wipeE_in q with ⟨_, z⟩ | ⟨_, z⟩
      · cases z
      · exact ⟨_, d, z, rfl⟩
  refine ⟨⟨sb.tab, sb.sub, ?_, fun j d h => ?_, fun j t c h1 h2 => ?_, fun j l t u c d h1 h2 h3 h4 h5 => ?_⟩, ⟨g.there, fun a o h n => g.keep a o h (notOwn a n), fun a o h n => g.frz a o h (notOwn a n), fun j c h => ?_, fun j c h => ?_, fun j c h => ?_⟩⟩
  · unfold backE; rw [List.length_map, List.length_range, ← hl]; exact s1.len
  · rcases backE_get hl h with ⟨_, q⟩ | ⟨n, q⟩
    · obtain ⟨v, x, r⟩ := s1.imm j d q
      exact ⟨v, x, r.mono fx⟩
    · obtain ⟨v, x, r⟩ := sb.imm j d q
      exact ⟨v, by rw [wipe_out' n] at x; exact x, r⟩
  · rcases backE_get hl h1 with ⟨m, q⟩ | ⟨n, q⟩
    · obtain ⟨x, y, o⟩ := s1.own j t c q h2
      have no := wiped j t c m q h2
      obtain ⟨u, hu⟩ := Option.ne_none_iff_exists'.mp o.there
      exact ⟨x, (g.frz _ u hu no).trans y, o.mono (fun v z => g.keep _ v z no) fx⟩
    · obtain ⟨x, y, o⟩ := sb.own j t c q h2
      exact ⟨by rw [wipe_out' n] at x; exact x, y, o⟩
  · have a1 : ∃ u' d', ρ[j]? = some u' ∧ u'.cont = some d' := by
      rcases backE_get hl h1 with ⟨_, q⟩ | ⟨_, q⟩
      · exact ⟨t, c, q, h3⟩
      · exact ownb j t c q h3
    have a2 : ∃ u' d', ρ[l]? = some u' ∧ u'.cont = some d' := by
      rcases backE_get hl h2 with ⟨_, q⟩ | ⟨_, q⟩
      · exact ⟨u, d, q, h4⟩
      · exact ownb l u d q h4
    obtain ⟨u1, d1, q1, q2⟩ := a1
    obtain ⟨u2, d2, q3, q4⟩ := a2
    exact s1.inj j l u1 u2 d1 d2 q1 q3 q2 q4 h5
  · rcases backE_get hl h with ⟨_, q⟩ | ⟨_, q⟩
    · exact ⟨c, q⟩
    · obtain ⟨d, q⟩ := g.own j c q
      rcases wipeE_in q with ⟨_, z⟩ | ⟨_, z⟩
      · cases z
      · exact ⟨d, z⟩
  · rcases backE_get hl h with ⟨_, q⟩ | ⟨_, q⟩
    · exact ⟨c, q⟩
    · obtain ⟨d, q⟩ := g.par j c q
      rcases wipeE_in q with ⟨_, z⟩ | ⟨_, z⟩
      · cases z
      · exact ⟨d, z⟩
  · by_cases m : j ∈ vs
    · exact ⟨c, backE_of hl (.inl ⟨m, h⟩)⟩
    · obtain ⟨c', q⟩ := g.parK j c (by rw [wipeE_out m]; exact h)
      exact ⟨c', backE_of hl (.inr ⟨m, q⟩)⟩
end
mutual
theorem asg_length : ∀ {t : Tg} {d : D} {ρ ρ' : Env}, asg t d ρ = some ρ' → ρ'.length = ρ.length
  | .nm i, d, ρ, ρ', h => by
    unfold asg putV at h
    split at h
    · cases h; rw [List.length_set]
    · cases h
  | .tp ts, .tup ds, ρ, ρ', h => by unfold asg at h; exact asgL_length h
  | .tp ts, .lst ds, ρ, ρ', h => by unfold asg at h; exact asgL_length h
  | .tp _, .non, _, _, h => by unfold asg at h; cases h
  | .tp _, .bl _, _, _, h => by unfold asg at h; cases h
  | .tp _, .int _, _, _, h => by unfold asg at h; cases h
  | .tp _, .str _, _, _, h => by unfold asg at h; cases h
  | .tp _, .dct _ _, _, _, h => by unfold asg at h; cases h
  | .tp _, .obj _ _, _, _, h => by unfold asg at h; cases h
  | .tp _, .scr _, _, _, h => by unfold asg at h; cases h
theorem asgL_length : ∀ {ts : List Tg} {ds : List D} {ρ ρ' : Env}, asgL ts ds ρ = some ρ' → ρ'.length = ρ.length
  | [], [], ρ, ρ', h => by unfold asgL at h; cases h; rfl
  | [], _ :: _, _, _, h => by unfold asgL at h; cases h
  | _ :: _, [], _, _, h => by unfold asgL at h; cases h
  | t :: ts, d :: ds, ρ, ρ', h => by
    unfold asgL at h
    obtain ⟨ρ1, q1, q2⟩ := Option.bind_eq_some_iff.mp h
    rw [asgL_length q2, asg_length q1]
end
theorem wipe_wipe (σ : St) (vs : List Nat) : wipe (wipe σ vs) vs = wipe σ vs := by
  apply List.ext_getElem?
  intro j
  by_cases hj : j ∈ vs
  · rw [wipe_in' hj, wipe_in' hj, wipe_length]
  · rw [wipe_out' hj]
/-- one clause -/
def lcF (t : Tg) (T : Ft) (FE : Fd) (vs : List Nat) : List D → Env → Option (List D × Env)
  | [], ρ => some ([], ρ)
  | d :: ds, ρ => (asg t d ρ).bind fun ρ1 => (T ρ1).bind fun x => if x.1 = true then (FE x.2).bind fun y => (lcF t T FE vs ds (wipeE y.2 vs)).map fun z => (y.1 :: z.1, z.2) else lcF t T FE vs ds (wipeE x.2 vs)
def compF (t : Tg) (FI : Fi) (T : Ft) (FE : Fd) (vs : List Nat) : Fe := fun ρ => if (tvs t).all (fun i => decide (i ∈ vs)) = true then (FI ρ).bind fun x => if x.1.length ≤ sizeLine then (lcF t T FE vs x.1 (wipeE x.2 vs)).map fun y => (.own (.lst y.1), backE x.2 y.2 vs) else none else none
theorem lc_read {W : Wd} {t : Tg} {FI : Fi} {T : Ft} {FE : Fd} {vs : List Nat} {σ : St} {H : Hp} {Q : VK} (h : tX W (compF t FI T FE vs) σ H Q) : tLc (tI W FI) (tG W t) (tT W T) (tD W FE) vs σ H Q := by
  obtain ⟨ρ, loc, Hf, rv, ρ', s, hF, k⟩ := h
  unfold compF at hF
  split at hF
  · rename_i htv
    obtain ⟨⟨items, ρ1⟩, q1, hF⟩ := Option.bind_eq_some_iff.mp hF
    dsimp only at hF
    split at hF
    · rename_i hz
      obtain ⟨⟨fin, ρb⟩, q2, q3⟩ := Option.map_eq_some_iff.mp hF
      cases q3
      have htv' : ∀ i ∈ tvs t, i ∈ vs := fun i hi => of_decide_eq_true (List.all_eq_true.mp htv i hi)
      refine ⟨ρ, loc, Hf, items, ρ1, s, q1, fun J H1 Hf1 g1 s1 feed D hD => ?_⟩
      have hDf : Hf1 D = none := free_of s1.sub hD
      have noD : ¬ IsOwn (wipeE ρ1 vs) loc D := (s1.wipe vs).newNot hD
      refine ⟨fun i m H' => m = items.length - i ∧ i ≤ items.length ∧ ∃ ρi Hfi accV accD rest, SOk W ρi loc (wipe σ vs) H' Hfi ∧ Ge (wipeE ρ1 vs) loc H1 Hf1 ρi H' Hfi ∧ H' D = some (.lst accV) ∧ Hfi D = none ∧
        RpL W Hfi accV accD ∧ accD.length ≤ i ∧ (∀ a o, Hf1 a = some o → Hfi a = some o) ∧ lcF t T FE vs (items.drop i) ρi = some (rest, ρb) ∧ fin = accD ++ rest, ⟨_, rfl, Nat.zero_le _, wipeE ρ1 vs, Hf1, [], [], fin, (s1.wipe vs).other hDf noD (ntb_none hD), Ge.refl.other hD, upd_same, hDf, .nil, Nat.le_refl _, fun _ _ h => h, q2, rfl⟩, ?_⟩
      rintro i m H' ⟨rfl, hi, ρi, Hfi, accV, accD, rest, si, gi, hDi, hDfi, ra, hal, fi, hl, hfin⟩
      by_cases hlt : i < items.length
      · have hd : items[i]? = some items[i] := List.getElem?_eq_getElem hlt
        have hdrop : items.drop i = items[i] :: items.drop (i + 1) := List.drop_eq_getElem_cons hlt
        rw [hdrop] at hl
        unfold lcF at hl
        obtain ⟨ρ2, p2, hl⟩ := Option.bind_eq_some_iff.mp hl
        obtain ⟨⟨bb, ρ3⟩, p3, hl⟩ := Option.bind_eq_some_iff.mp hl
        obtain ⟨go, yl⟩ := feed.go i _ H' Hfi hd fi si.sub
        refine .inr ⟨go, _, fun H2 h => h, fun x H3 y => ?_⟩
        obtain ⟨Hf3, E, r⟩ := yl x H3 y
        have s3 := si.ext E
        refine ⟨ρi, loc, Hf3, _, ρ2, s3, r, p2, fun σ4 u4 g4 s4 => ?_⟩
        have hwl : wipe σ4 vs = wipe σ vs := by
          have hlen : σ4.length = (wipe σ vs).length := by rw [s4.len, asg_length p2, ← si.len]
          rw [wipe_eq hlen u4 htv', wipe_wipe]
        refine ⟨hwl, ?_⟩
        have g5 : Ge (wipeE ρ1 vs) loc H1 Hf1 ρ2 H3 Hf3 := (gi.step E).trans g4
        refine ⟨ρ2, loc, Hf3, bb, ρ3, s4, p3, fun H5 Hf5 g6 s6 => ?_⟩
        have g7 := g5.trans g6
        have hD3 : H3 D = some (.lst accV) := E.keep _ _ hDi
        have hDf3 : Hf3 D = none := (E.frz _ _ hDi).trans hDfi
        have hD5 : H5 D = some (.lst accV) := g6.keep _ _ hD3 (fun z => noD (g5.isOwn z)) nt_lst
        have hDf5 : Hf5 D = none := (g6.frz _ _ hD3 fun z => noD (g5.isOwn z)).trans hDf3
        have fx5 : ∀ a o, Hfi a = some o → Hf5 a = some o := fun a o q => g6.fixed s4 a o (E.fixed si.sub a o q)
        cases bb with
        | true =>
          simp only [if_true] at hl ⊢
          obtain ⟨⟨y1, ρ4⟩, p4, hl⟩ := Option.bind_eq_some_iff.mp hl
          obtain ⟨⟨rest', ρb'⟩, p5, p6⟩ := Option.map_eq_some_iff.mp hl
          cases p6
          refine ⟨ρ3, loc, Hf5, y1, ρ4, s6, p4, fun v H7 Hf7 g8 s8 rv => ?_⟩
          have g9 := g7.trans g8
          have hD7 : H7 D = some (.lst accV) := g8.keep _ _ hD5 (fun z => noD (g7.isOwn z)) nt_lst
          have hDf7 : Hf7 D = none := (g8.frz _ _ hD5 fun z => noD (g7.isOwn z)).trans hDf5
          have fx7 : ∀ a o, Hfi a = some o → Hf7 a = some o := fun a o q => g8.fixed s6 a o (fx5 a o q)
          have hlen : accV.length < sizeLine := by
            rw [ra.length]
            exact Nat.lt_of_le_of_lt hal (Nat.lt_of_lt_of_le hlt hz)
          refine ⟨accV, hD7, hlen, _, by omega, rfl, hlt, wipeE ρ4 vs, Hf7, accV ++ [v], accD ++ [y1], rest', ?_, ?_, upd_same, hDf7, (ra.mono fx7).append (.cons rv .nil), ?_, fun a o q => fx7 a o (fi a o q), p5, ?_⟩
          · have s9 := (s8.wipe vs)
            rw [hwl] at s9
            exact s9.other hDf7 (fun z => noD (g9.wiped.isOwn z)) (ntb_some hD7 nt_lst)
          · exact g9.wiped.other hD
          · rw [List.length_append, List.length_singleton]; omega
          · rw [hfin, List.append_assoc]; rfl
        | false =>
          simp only [Bool.false_eq_true, if_false] at hl ⊢
          refine ⟨_, by omega, rfl, hlt, wipeE ρ3 vs, Hf5, accV, accD, rest, ?_, g7.wiped, hD5, hDf5, ra.mono fx5, by omega, fun a o q => fx5 a o (fi a o q), hl, hfin⟩
          have s9 := (s6.wipe vs)
          rw [hwl] at s9
          exact s9
      · have e : i = items.length := by omega
        subst e
        rw [List.drop_length] at hl
        cases hl
        refine .inl ⟨feed.stop H' Hfi fi si.sub, ?_⟩
        obtain ⟨s9, g9⟩ := s1.back gi si fi
        refine k _ H' Hfi (g1.trans g9) s9 ⟨D, rfl, g1.there _ hD, hDfi, accV, hDi, ?_⟩
        rw [hfin, List.append_nil]
        exact ra
    · cases hF
  · cases hF
end Ev
/-! text Ev11 -/
set_option Elab.async false
set_option linter.all false
set_option maxRecDepth 100000
set_option maxHeartbeats 4000000
namespace Ev
open PySem L2

/-! ### what a def of the text is worth -/
inductive Ar where
  | imm (d : D) | own (c : C)
/-- of its arguments: what it hands back, and what its mutable arguments hold then -/
abbrev Fn := List Ar → Option (Rv × List C)
def Ar.sl : Ar → Sl
  | .imm d => .imm d
  | .own c => .par c
/-- the arguments as they are handed in; loc: where the mutable ones stand -/
def ArOk (W : Wd) (loc : Loc) (H Hf : Hp) : Nat → List V → List Ar → Prop
  | _, [], [] => True
  | n, v :: vs, .imm d :: as => Rp W Hf v d ∧ ArOk W loc H Hf (n + 1) vs as
  | n, v :: vs, .own c :: as => (v = .ref (loc n) ∧ Hf (loc n) = none ∧ OwnAt W H Hf (loc n) c) ∧ ArOk W loc H Hf (n + 1) vs as
  | _, _, _ => False
def isOwnAr (as : List Ar) (i : Nat) : Bool := match as[i]? with
  | some (.own _) => true
  | _ => false
def Apart (loc : Loc) (as : List Ar) : Prop := ∀ i j, isOwnAr as i = true → isOwnAr as j = true → loc i = loc j → i = j
/-- .. what they hold behind the call -/
def CsOk (W : Wd) (loc : Loc) (H Hf : Hp) : Nat → List Ar → List C → Prop
  | _, [], [] => True
  | n, .imm _ :: as, cs => CsOk W loc H Hf (n + 1) as cs
  | n, .own _ :: as, c :: cs => (Hf (loc n) = none ∧ OwnAt W H Hf (loc n) c) ∧ CsOk W loc H Hf (n + 1) as cs
  | _, _, _ => False
def OwnA (loc : Loc) (as : List Ar) (a : Addr) : Prop := ∃ i, isOwnAr as i = true ∧ loc i = a
structure GoC (loc : Loc) (as : List Ar) (H Hf H' Hf' : Hp) : Prop where
  sub : Sub Hf' H'
  there : ∀ a, H' a = none → H a = none
  keep : ∀ a o, H a = some o → ¬ OwnA loc as a → NT o → H' a = some o
  frz : ∀ a o, H a = some o → ¬ OwnA loc as a → Hf' a = Hf a
/-- the promise -/
def spF (W : Wd) (F : Fn) : Sp := fun vs H Q _ => ∃ Hf loc as r cs, Sub Hf H ∧ TabsOk W H Hf ∧ ArOk W loc H Hf 0 vs as ∧ Apart loc as ∧ F as = some (r, cs) ∧
  ∀ v H' Hf', GoC loc as H Hf H' Hf' → TabsOk W H' Hf' → CsOk W loc H' Hf' 0 as cs → RvOk W H v H' Hf' r → Q v H'

/-- a call of the def at f, n values and the keywords ks written, keeps the promise sp of them all -/
structure CallOk (P : Program) (w : World) (K : PySem.W.Frag) (mg : Str → Option Value) (base : Heap) (k : Nat) (f : Addr) (n : Nat) (ks : List Str) (sp : Sp) : Prop where
  run : ∀ (A : Around) (outer : List PySem.Env) (s : Shared) (H : Hp) (us ws : List Value) (vs zs : List V) (Q : VK), Room k A → A.guards = some [] → Env0 P w K mg base A outer s H → us.length = n → ws.length = ks.length → Vals vs us → Vals zs ws →
    sp (vs ++ zs) H Q E0 → codeAny (model P w) A (.call (.ref f) ⟨us, ks.zip ws⟩) (CR CX0 outer P w H s Q E0) s
theorem CallOk.mono {P : Program} {w : World} {K : PySem.W.Frag} {mg : Str → Option Value} {base : Heap} {k j : Nat} {f : Addr} {n : Nat} {ks : List Str} {sp : Sp} (c : CallOk P w K mg base k f n ks sp) (h : k ≤ j) : CallOk P w K mg base j f n ks sp :=
  ⟨fun A outer s H us ws vs zs Q hr => c.run A outer s H us ws vs zs Q (hr.mono h)⟩
theorem CallOk.imp {P : Program} {w : World} {K : PySem.W.Frag} {mg : Str → Option Value} {base : Heap} {k : Nat} {f : Addr} {n : Nat} {ks : List Str} {sp sp' : Sp} (c : CallOk P w K mg base k f n ks sp) (h : ∀ vs H Q, sp' vs H Q E0 → sp vs H Q E0) : CallOk P w K mg base k f n ks sp' :=
  ⟨fun A outer s H us ws vs zs Q hr hg e l1 l2 r1 r2 hs => c.run A outer s H us ws vs zs Q hr hg e l1 l2 r1 r2 (h _ _ _ hs)⟩

section
variable {X : Cx} {e a b c : Expr} {k : Nat} {f : Addr} {ks : List Str} {sp : Sp}
theorem run_call {pins : List (Addr × Obj)} {σ : St} {H : Hp} {s : Shared} {Q : VK} {us ws : List Value} {vs zs : List V} (c : CallOk X.prog X.w X.K X.mg X.base k f us.length ks sp) (hr : Room k X.A) (hgd : X.A.guards = some [])
    (I : Inv X pins σ H s) (r : Vals vs us) (rz : Vals zs ws) (hl : ws.length = ks.length) (h : sp (vs ++ zs) H Q E0) : wpAny (model X.prog X.w) X.A (call (.ref f) us (ks.zip ws)) (EP X pins σ Q) X.xe s := by
  have q := c.run X.A X.stack s H us ws vs zs Q hr hgd I.env0 rfl hl r rz h
  refine wpAny_call (codeAny_mono q fun res s' hq => ?_)
  cases res with
  | error _ => exact False.elim hq
  | ok fl => cases fl <;> first | exact I.after hq | exact False.elim hq

/-! ### the arguments of a call -/
def arsOf (ρ : Env) : List AR → Option (List Ar)
  | [] => some []
  | .val d :: as => (arsOf ρ as).map (Ar.imm d :: ·)
  | .rf i :: as => (contAt ρ i).bind fun c => (arsOf ρ as).map (Ar.own c :: ·)
def refsOf : List AR → List Nat
  | [] => []
  | .val _ :: as => refsOf as
  | .rf i :: as => i :: refsOf as
def Sl.put (c : C) : Sl → Sl
  | .own _ => .own c
  | .par _ => .par c
  | s => s
def setC (ρ : Env) (i : Nat) (c : C) : Env := match ρ[i]? with
  | some s => ρ.set i (s.put c)
  | none => ρ
def setCs (ρ : Env) : List Nat → List C → Option Env
  | [], [] => some ρ
  | i :: is, c :: cs => setCs (setC ρ i c) is cs
  | _, _ => none
def nodupB : List Nat → Bool
  | [] => true
  | i :: is => !(is.contains i) && nodupB is
def applyU (F : Fn) (as : List AR) (ρ : Env) : Option (Rv × Env) := if nodupB (refsOf as) = true then (arsOf ρ as).bind fun bs => (F bs).bind fun y => (setCs ρ (refsOf as) y.2).map fun ρ' => (y.1, ρ') else none
def userF (n : Nat) (F : Fn) (FA : Fa) : Fe := fun ρ => (FA ρ).bind fun x => if x.1.length = n then applyU F x.1 x.2 else none
/-- the slot of the n-th argument -/
def slotOf (as : List AR) (n : Nat) : Nat := match as[n]? with
  | some (.rf i) => i
  | _ => 0
theorem arsOf_get {ρ : Env} : ∀ {as : List AR} {bs : List Ar}, arsOf ρ as = some bs → ∀ n, isOwnAr bs n = true → ∃ i c, as[n]? = some (.rf i) ∧ contAt ρ i = some c ∧ bs[n]? = some (.own c)
  | [], bs, h, n, q => by cases h; simp [isOwnAr] at q
  | .val d :: as, bs, h, n, q => by
    unfold arsOf at h
    obtain ⟨bs', h1, h2⟩ := Option.map_eq_some_iff.mp h
    subst h2
    cases n with
    | zero => simp [isOwnAr] at q
    | succ n => exact arsOf_get h1 n (by simpa [isOwnAr] using q)
  | .rf i :: as, bs, h, n, q => by
    unfold arsOf at h
    obtain ⟨c, h0, h⟩ := Option.bind_eq_some_iff.mp h
    obtain ⟨bs', h1, h2⟩ := Option.map_eq_some_iff.mp h
    subst h2
    cases n with
    | zero => exact ⟨i, c, rfl, h0, rfl⟩
    | succ n => exact arsOf_get h1 n (by simpa [isOwnAr] using q)
theorem arOk_of {W : Wd} {ρ : Env} {loc : Loc} {σ : St} {H Hf : Hp} (s : SOk W ρ loc σ H Hf) (L : Loc) : ∀ {as : List AR} {vs : List V} {bs : List Ar} (n : Nat), ARsOk W loc Hf vs as → arsOf ρ as = some bs → (∀ j, L (n + j) = loc (slotOf as j)) → ArOk W L H Hf n vs bs
  | [], [], bs, n, _, h, _ => by cases h; trivial
  | .val d :: as, v :: vs, bs, n, o, h, hL => by
    unfold arsOf at h
    obtain ⟨bs', h1, h2⟩ := Option.map_eq_some_iff.mp h
    subst h2
    refine ⟨o.1, arOk_of s L (n + 1) o.2 h1 fun j => ?_⟩
    have := hL (j + 1)
    rw [show n + 1 + j = n + (j + 1) by omega, this]
    rfl
  | .rf i :: as, v :: vs, bs, n, o, h, hL => by
    unfold arsOf at h
    obtain ⟨c, h0, h⟩ := Option.bind_eq_some_iff.mp h
    obtain ⟨bs', h1, h2⟩ := Option.map_eq_some_iff.mp h
    subst h2
    obtain ⟨t, h3, h4⟩ := contAt_some h0
    obtain ⟨_, q2, q3⟩ := s.own i t c h3 h4
    have e : L n = loc i := hL 0
    refine ⟨⟨by rw [e]; exact o.1, by rw [e]; exact q2, by rw [e]; exact q3⟩, arOk_of s L (n + 1) o.2 h1 fun j => ?_⟩
    have := hL (j + 1)
    rw [show n + 1 + j = n + (j + 1) by omega, this]
    rfl
  | [], _ :: _, _, _, o, _, _ => o.elim
  | _ :: _, [], _, _, o, _, _ => o.elim
theorem mem_refs : ∀ {as : List AR} {n i : Nat}, as[n]? = some (.rf i) → i ∈ refsOf as
  | [], n, i, h => by simp at h
  | .val d :: as, 0, i, h => by simp at h
  | .rf j :: as, 0, i, h => by
    simp at h
    subst h
    exact List.mem_cons_self
  | .val d :: as, n + 1, i, h => mem_refs (as := as) (n := n) (by simpa using h)
  | .rf j :: as, n + 1, i, h => List.mem_cons_of_mem _ (mem_refs (as := as) (n := n) (by simpa using h))
theorem refs_inj : ∀ {as : List AR} {n m i : Nat}, nodupB (refsOf as) = true → as[n]? = some (.rf i) → as[m]? = some (.rf i) → n = m
  | [], n, m, i, _, h, _ => by simp at h
  | .val d :: as, 0, m, i, _, h, _ => by simp at h
  | .val d :: as, n + 1, 0, i, _, _, h => by simp at h
  | .val d :: as, n + 1, m + 1, i, hn, h1, h2 => congrArg (· + 1) (refs_inj (as := as) hn (by simpa using h1) (by simpa using h2))
  | .rf j :: as, 0, 0, i, _, _, _ => rfl
  | .rf j :: as, 0, m + 1, i, hn, h1, h2 => by
    simp at h1
    subst h1
    unfold refsOf nodupB at hn
    rw [Bool.and_eq_true] at hn
    have : j ∈ refsOf as := mem_refs (as := as) (n := m) (by simpa using h2)
    simp [this] at hn
  | .rf j :: as, n + 1, 0, i, hn, h2, h1 => by
    simp at h1
    subst h1
    unfold refsOf nodupB at hn
    rw [Bool.and_eq_true] at hn
    have : j ∈ refsOf as := mem_refs (as := as) (n := n) (by simpa using h2)
    simp [this] at hn
  | .rf j :: as, n + 1, m + 1, i, hn, h1, h2 => by
    unfold refsOf nodupB at hn
    rw [Bool.and_eq_true] at hn
    exact congrArg (· + 1) (refs_inj (as := as) hn.2 (by simpa using h1) (by simpa using h2))
end

/-! ### behind a call -/
section
variable {W : Wd} {ρ ρ' : Env} {loc : Loc} {σ : St} {H Hf H' Hf' : Hp}
theorem setC_get {i j : Nat} {c : C} {t : Sl} (h : (setC ρ i c)[j]? = some t) : (j = i ∧ ∃ s, ρ[i]? = some s ∧ t = s.put c) ∨ (j ≠ i ∧ ρ[j]? = some t) := by
  unfold setC at h
  split at h
  · rename_i s hs
    rcases set_cases h with ⟨e, q⟩ | q
    · exact .inl ⟨e, s, hs, q⟩
    · exact .inr q
  · rename_i hs
    refine .inr ⟨fun e => ?_, h⟩
    subst e
    rw [hs] at h; cases h
theorem setC_ne {i j : Nat} {c : C} (h : j ≠ i) : (setC ρ i c)[j]? = ρ[j]? := by
  unfold setC
  split
  · rw [List.getElem?_set_ne (Ne.symm h)]
  · rfl
theorem setC_self {i : Nat} {c : C} {s : Sl} (h : ρ[i]? = some s) : (setC ρ i c)[i]? = some (s.put c) := by
  unfold setC
  rw [h]
  exact List.getElem?_set_self (List.getElem?_eq_some_iff.mp h).1
theorem setC_len {i : Nat} {c : C} : (setC ρ i c).length = ρ.length := by
  unfold setC
  split
  · rw [List.length_set]
  · rfl
theorem put_own {s : Sl} {c c' : C} (h : s.put c = .own c') : ∃ d, s = .own d := by
  cases s with
  | own d => exact ⟨d, rfl⟩
  | un => cases h
  | imm d => cases h
  | par d => cases h
theorem put_par {s : Sl} {c c' : C} (h : s.put c = .par c') : ∃ d, s = .par d := by
  cases s with
  | par d => exact ⟨d, rfl⟩
  | un => cases h
  | imm d => cases h
  | own d => cases h
theorem put_imm' {s : Sl} {c : C} {d : D} (h : s.put c = .imm d) : s = .imm d := by
  cases s <;> first | exact h | cases h
theorem put_cont {s : Sl} {c c' : C} (h : (s.put c).cont = some c') : c' = c ∧ ∃ d, s.cont = some d := by
  cases s with
  | own d => cases h; exact ⟨rfl, d, rfl⟩
  | par d => cases h; exact ⟨rfl, d, rfl⟩
  | un => cases h
  | imm d => cases h
/-- kinds stay -/
theorem setCs_get : ∀ {is : List Nat} {cs : List C} {ρ ρ' : Env}, setCs ρ is cs = some ρ' → ρ'.length = ρ.length ∧
    (∀ (j : Nat) (c' : C), ρ'[j]? = some (Sl.own c') → ∃ c, ρ[j]? = some (Sl.own c)) ∧ (∀ (j : Nat) (c' : C), ρ'[j]? = some (Sl.par c') → ∃ c, ρ[j]? = some (Sl.par c)) ∧
    (∀ (j : Nat) (c : C), ρ[j]? = some (Sl.par c) → ∃ c', ρ'[j]? = some (Sl.par c')) ∧ (∀ (j : Nat) (d : D), ρ'[j]? = some (Sl.imm d) → ρ[j]? = some (Sl.imm d)) ∧ (∀ j, j ∉ is → ρ'[j]? = ρ[j]?)
  | [], [], ρ, ρ', h => by
    cases h
    exact ⟨rfl, fun j c h => ⟨c, h⟩, fun j c h => ⟨c, h⟩, fun j c h => ⟨c, h⟩, fun j d h => h, fun _ _ => rfl⟩
  | [], _ :: _, _, _, h => by cases h
  | _ :: _, [], _, _, h => by cases h
  | i :: is, c0 :: cs, ρ, ρ', h => by
    obtain ⟨l, a, b, p, d, z⟩ := setCs_get (ρ := setC ρ i c0) h
    refine ⟨l.trans setC_len, fun j c hh => ?_, fun j c hh => ?_, fun j c hh => ?_, fun j e hh => ?_, fun j hj => ?_⟩
    · obtain ⟨c1, q⟩ := a j c hh
      rcases setC_get q with ⟨e, s, h1, h2⟩ | ⟨_, q⟩
      · obtain ⟨d1, h3⟩ := put_own h2.symm
        subst h3; subst e
        exact ⟨d1, h1⟩
      · exact ⟨c1, q⟩
    · obtain ⟨c1, q⟩ := b j c hh
      rcases setC_get q with ⟨e, s, h1, h2⟩ | ⟨_, q⟩
      · obtain ⟨d1, h3⟩ := put_par h2.symm
        subst h3; subst e
        exact ⟨d1, h1⟩
      · exact ⟨c1, q⟩
    · by_cases e : j = i
      · subst e
        exact p j c0 (by rw [setC_self hh]; rfl)
      · exact p j c (by rw [setC_ne e]; exact hh)
    · have q := d j e hh
      rcases setC_get q with ⟨e', s, h1, h2⟩ | ⟨_, q⟩
      · have h3 := put_imm' h2.symm
        subst h3; subst e'
        exact h1
      · exact q
    · simp only [List.mem_cons, not_or] at hj
      rw [z j hj.2, setC_ne hj.1]
/-- what the changed slots hold -/
theorem setCs_own {L : Loc} : ∀ {as : List AR} {bs : List Ar} {cs : List C} {ρ ρ' : Env} (ρ0 : Env) (n : Nat), arsOf ρ0 as = some bs → nodupB (refsOf as) = true → setCs ρ (refsOf as) cs = some ρ' → CsOk W L H' Hf' n bs cs →
    (∀ j, L (n + j) = loc (slotOf as j)) → ∀ i ∈ refsOf as, ∀ (t : Sl) (c : C), ρ'[i]? = some t → t.cont = some c → Hf' (loc i) = none ∧ OwnAt W H' Hf' (loc i) c
  | [], bs, cs, ρ, ρ', ρ0, n, h, hn, hs, ho, hL, i, hi => by simp [refsOf] at hi
  | .val d :: as, bs, cs, ρ, ρ', ρ0, n, h, hn, hs, ho, hL, i, hi => by
    unfold arsOf at h
    obtain ⟨bs', h1, h2⟩ := Option.map_eq_some_iff.mp h
    subst h2
    refine setCs_own ρ0 (n + 1) h1 hn hs ho (fun j => ?_) i hi
    have := hL (j + 1)
    rw [show n + 1 + j = n + (j + 1) by omega, this]
    rfl
  | .rf k :: as, bs, [], ρ, ρ', ρ0, n, h, hn, hs, ho, hL, i, hi => by simp [refsOf, setCs] at hs
  | .rf k :: as, bs, c0 :: cs, ρ, ρ', ρ0, n, h, hn, hs, ho, hL, i, hi => by
    unfold arsOf at h
    obtain ⟨c, h0, h⟩ := Option.bind_eq_some_iff.mp h
    obtain ⟨bs', h1, h2⟩ := Option.map_eq_some_iff.mp h
    subst h2
    unfold refsOf nodupB at hn
    rw [Bool.and_eq_true] at hn
    have hs' : setCs (setC ρ k c0) (refsOf as) cs = some ρ' := hs
    by_cases e : i ∈ refsOf as
    · refine setCs_own ρ0 (n + 1) h1 hn.2 hs' ho.2 (fun j => ?_) i e
      have := hL (j + 1)
      rw [show n + 1 + j = n + (j + 1) by omega, this]
      rfl
    · have hik : i = k := by
        unfold refsOf at hi
        rcases List.mem_cons.mp hi with q | q
        · exact q
        · exact absurd q e
      subst hik
      intro t c1 ht hc
      have z := (setCs_get hs').2.2.2.2.2 i e
      rw [z] at ht
      rcases setC_get ht with ⟨_, s, q1, q2⟩ | ⟨q, _⟩
      · subst q2
        obtain ⟨q3, _⟩ := put_cont hc
        subst q3
        have e2 : L n = loc i := hL 0
        rw [← e2]
        exact ho.1
      · exact absurd rfl q
theorem arsOk_len {W : Wd} {loc : Loc} {Hf : Hp} : ∀ {vs : List V} {as : List AR}, ARsOk W loc Hf vs as → vs.length = as.length
  | [], [], _ => rfl
  | _ :: _, _ :: _, h => congrArg (· + 1) (arsOk_len h.2)
  | [], _ :: _, h => h.elim
  | _ :: _, [], h => h.elim
theorem call_core {ρ1 : Env} {H1 Hf1 : Hp} {F : Fn} {as : List AR} {vs : List V} {Q : VK} {r : Rv} (s1 : SOk W ρ1 loc σ H1 Hf1) (o1 : ARsOk W loc Hf1 vs as) (hF : applyU F as ρ1 = some (r, ρ'))
    (kk : ∀ v H' Hf', Ge ρ1 loc H1 Hf1 ρ' H' Hf' → SOk W ρ' loc σ H' Hf' → RvOk W H1 v H' Hf' r → Q v H') : spF W F vs H1 Q E0 := by
  unfold applyU at hF
  split at hF
  · rename_i hnd
    obtain ⟨bs, q2, hF⟩ := Option.bind_eq_some_iff.mp hF
    obtain ⟨⟨rv, cs⟩, q3, hF⟩ := Option.bind_eq_some_iff.mp hF
    obtain ⟨ρ2, q4, hF⟩ := Option.map_eq_some_iff.mp hF
    cases hF
    have hL : ∀ j, (fun n => loc (slotOf as n)) (0 + j) = loc (slotOf as j) := fun j => by rw [Nat.zero_add]
    have slot : ∀ n, isOwnAr bs n = true → ∃ i c t, as[n]? = some (.rf i) ∧ slotOf as n = i ∧ ρ1[i]? = some t ∧ t.cont = some c := fun n hn => by
      obtain ⟨i, c, h1, h2, _⟩ := arsOf_get q2 n hn
      obtain ⟨t, h3, h4⟩ := contAt_some h2
      exact ⟨i, c, t, h1, by unfold slotOf; rw [h1], h3, h4⟩
    refine ⟨Hf1, fun n => loc (slotOf as n), bs, _, cs, s1.sub, s1.tab, arOk_of s1 _ 0 o1 q2 hL, fun i j hi hj e => ?_, q3, fun v H' Hf' g tb o rvk => ?_⟩
    · obtain ⟨i1, c1, t1, a1, a2, a3, a4⟩ := slot i hi
      obtain ⟨i2, c2, t2, b1, b2, b3, b4⟩ := slot j hj
      have e' : loc i1 = loc i2 := by rw [← a2, ← b2]; exact e
      have := s1.inj i1 i2 t1 t2 c1 c2 a3 b3 a4 b4 e'
      subst this
      exact refs_inj hnd a1 b1
    · obtain ⟨sl, sOwn, sPar, sParK, sImm, sOut⟩ := setCs_get q4
      have notA : ∀ a, ¬ IsOwn ρ1 loc a → ¬ OwnA (fun n => loc (slotOf as n)) bs a := fun a n ⟨i, hi, e⟩ => by
        obtain ⟨i1, c1, t1, a1, a2, a3, a4⟩ := slot i hi
        exact n ⟨i1, t1, c1, a3, a4, by rw [← a2]; exact e⟩
      have fx : ∀ a o, Hf1 a = some o → Hf' a = some o := fun a o q => (g.frz a o (s1.sub a o q) (notA a (s1.notOwn q))).trans q
      have g2 : Ge ρ1 loc H1 Hf1 ρ' H' Hf' := ⟨g.there, fun a o h n => g.keep a o h (notA a n), fun a o h n => g.frz a o h (notA a n), sOwn, sPar, sParK⟩
      have s2 : SOk W ρ' loc σ H' Hf' := by
        refine ⟨tb, g.sub, s1.len.trans sl.symm, fun j d h => ?_, fun j t c h1 h2 => ?_, fun j l t u c d h1 h2 h3 h4 h5 => ?_⟩
        · obtain ⟨w', h1, r⟩ := s1.imm j d (sImm j d h)
          exact ⟨w', h1, r.mono fx⟩
        · have old : ∃ t0 c0, ρ1[j]? = some t0 ∧ t0.cont = some c0 := by
            cases t with
            | un => cases h2
            | imm d => cases h2
            | own c' => obtain ⟨c0, q⟩ := sOwn j c' h1; exact ⟨_, c0, q, rfl⟩
            | par c' => obtain ⟨c0, q⟩ := sPar j c' h1; exact ⟨_, c0, q, rfl⟩
          obtain ⟨t0, c0, k1, k2⟩ := old
          obtain ⟨x, y, z⟩ := s1.own j t0 c0 k1 k2
          by_cases hj : j ∈ refsOf as
          · obtain ⟨y', z'⟩ := setCs_own ρ1 0 q2 hnd q4 o hL j hj t c h1 h2
            exact ⟨x, y', z'⟩
          · have e1 := sOut j hj
            rw [h1] at e1
            rw [← e1] at k1
            cases k1
            rw [h2] at k2; cases k2
            have na : ¬ OwnA (fun n => loc (slotOf as n)) bs (loc j) := fun ⟨i, hi, e⟩ => by
              obtain ⟨i1, c1, t1, a1, a2, a3, a4⟩ := slot i hi
              have e' : loc i1 = loc j := by rw [← a2]; exact e
              have e3 := s1.inj i1 j t1 t c1 c a3 e1.symm a4 h2 e'
              subst e3
              exact hj (mem_refs a1)
            obtain ⟨u, hu⟩ := Option.ne_none_iff_exists'.mp z.there
            exact ⟨x, (g.frz _ u hu na).trans y, z.mono (fun w' q => g.keep _ w' q na) fx⟩
        · have old : ∀ (j : Nat) (t : Sl) (c : C), ρ'[j]? = some t → t.cont = some c → ∃ t0 c0, ρ1[j]? = some t0 ∧ t0.cont = some c0 := fun j t c h1 h2 => by
            cases t with
            | un => cases h2
            | imm d => cases h2
            | own c' => obtain ⟨c0, q⟩ := sOwn j c' h1; exact ⟨_, c0, q, rfl⟩
            | par c' => obtain ⟨c0, q⟩ := sPar j c' h1; exact ⟨_, c0, q, rfl⟩
          obtain ⟨t0, c0, k1, k2⟩ := old j t c h1 h3
          obtain ⟨u0, d0, k3, k4⟩ := old l u d h2 h4
          exact s1.inj j l t0 u0 c0 d0 k1 k3 k2 k4 h5
      exact kk v H' Hf' g2 s2 rvk
  · cases hF
theorem call_read {n : Nat} {F : Fn} {FA : Fa} {σ : St} {H : Hp} {Q : VK} {T : List V → Hp → Prop} (h : tX W (userF n F FA) σ H Q) (k : ∀ vs H1, vs.length = n → spF W F vs H1 Q E0 → T vs H1) : tA W FA σ H T := by
  obtain ⟨ρ, loc, Hf, r, ρ', s, hF, kk⟩ := h
  unfold userF at hF
  obtain ⟨⟨as, ρ1⟩, q1, hF⟩ := Option.bind_eq_some_iff.mp hF
  dsimp only at hF
  split at hF
  · rename_i hlen
    exact ⟨ρ, loc, Hf, as, ρ1, s, q1, fun vs H1 Hf1 g1 s1 o1 => k vs H1 ((arsOk_len o1).trans hlen) (call_core s1 o1 hF fun v H' Hf' g2 s2 rv => kk v H' Hf' (g1.trans g2) s2 (rv.back g1.there))⟩
  · cases hF
end
end Ev
/-! text Ev12 -/
set_option Elab.async false
set_option linter.all false
set_option maxRecDepth 100000
set_option maxHeartbeats 4000000
namespace Ev
open PySem L2

/-- what a body's context gives -/
structure Cq (X : Cx) (k : Nat) : Prop where
  calm : X.calm = true
  gd : X.A.guards = some []
  room : Room k X.A
  nd : X.N.Nodup
  xe : X.xe = fun _ _ => False
theorem Cq.own {X : Cx} {k : Nat} (q : Cq X k) : PassesOwn (model X.prog X.w) X.A X.env X.xe := by
  rw [q.xe]; exact PassesOwn.never
theorem Cq.blk {X : Cx} {k : Nat} (q : Cq X k) (s : Shared) (H : Hp) (scope : Scope) (cenv : PySem.Env) (fp : List Addr) : Cq (X.blk s H scope cenv fp) k := ⟨q.calm, q.gd, q.room, q.nd, rfl⟩

section
variable {X : Cx} {e a b c o : Expr} {k : Nat} {f : Addr} {F : Fn}
theorem px_call {x : Str} {es : List Expr} {FA : Fa} {p pos : Pos} (q : Cq X k) (hg : Gl X x) (hm : X.mg x = some (.ref f)) (hk : PySem.W.keepIn X.K (.ref f) = true) (co : CallOk X.prog X.w X.K X.mg X.base k f (e :: es).length [] (spF (wd X) F))
    (ha : PAs X (e :: es) FA) (hs : (e :: es).all noStar = true) (hdb : (x == ("__debug__" : Str)) = false) : PX X (.Call (.Name x p) (e :: es) [] pos) (userF (e :: es).length F FA) := by
  rw [List.all_cons, Bool.and_eq_true] at hs
  refine ⟨fun pins s σ H Q I h => wpAny_Call_Name_kw (ld_glob I hg hm ?_ hdb)⟩
  have hr := call_read (T := fun vs H1 => vs.length = (e :: es).length ∧ spF (wd X) F vs H1 Q E0) h fun vs H1 l z => ⟨l, z⟩
  refine PySem.W.callWith_K (h₀ := X.base) I.ok.mod.kin hk (thn (ha.run pos pins s σ H _ I hr) fun us s1 ⟨vs, H1, I1, r, l, z⟩ => ⟨I1.kIn, ?_⟩) (starEach_cons hs.1) (starEach_plain pos hs.2)
  have hl : us.length = (e :: es).length := r.length.symm.trans l
  exact run_call (ws := []) (zs := []) (hl ▸ co) q.room q.gd I1 r .nil rfl (by rw [List.append_nil]; exact z)
theorem pk_imp {kws : List Keyword} {t t' : TA} (h : PK X kws t) (kk : ∀ σ H Q, t' σ H Q → t σ H Q) : PK X kws t' := ⟨fun pos pins s σ H Q I w => h.run pos pins s σ H Q I (kk σ H Q w)⟩
theorem ARsOk.append {W : Wd} {loc : Loc} {Hf : Hp} : ∀ {vs ws : List V} {as bs : List AR}, ARsOk W loc Hf vs as → ARsOk W loc Hf ws bs → ARsOk W loc Hf (vs ++ ws) (as ++ bs)
  | [], _, [], _, _, h => h
  | _ :: _, _, _ :: _, _, h, h' => ⟨h.1, ARsOk.append h.2 h'⟩
  | [], _, _ :: _, _, h, _ => h.elim
  | _ :: _, _, [], _, h, _ => h.elim
end
end Ev
/-! text Ev13 -/
set_option Elab.async false
set_option linter.all false
set_option maxRecDepth 100000
set_option maxHeartbeats 4000000
namespace Ev
open PySem L2

/-! ### a def, by its body -/
def slots (n : Nat) (as : List Ar) : Env := as.map Ar.sl ++ List.replicate (n - as.length) .un
/-- what the given objects hold then -/
def csOf : Nat → List Ar → Env → Option (List C)
  | _, [], _ => some []
  | n, .imm _ :: as, ρ => csOf (n + 1) as ρ
  | n, .own _ :: as, ρ => match ρ[n]? with
    | some (.par c) => (csOf (n + 1) as ρ).map (c :: ·)
    | _ => none
/-- n: the number of slots, m: of parameters -/
def bodyF (n m : Nat) (B : Fs) : Fn := fun as => if as.length = m then (B (slots n as)).bind fun x => match x.1 with
  | .nx => (csOf 0 as x.2).map fun cs => (.imm .non, cs)
  | .rt r => (csOf 0 as x.2).map fun cs => (r, cs)
  | _ => none else none
section
variable {W : Wd} {loc : Loc} {H Hf : Hp}
theorem arOk_get : ∀ {as : List Ar} {vs : List V} (n : Nat), ArOk W loc H Hf n vs as → vs.length = as.length ∧ ∀ j, (∀ d, as[j]? = some (Ar.imm d) → ∃ v, vs[j]? = some v ∧ Rp W Hf v d) ∧
    (∀ c, as[j]? = some (Ar.own c) → vs[j]? = some (.ref (loc (n + j))) ∧ Hf (loc (n + j)) = none ∧ OwnAt W H Hf (loc (n + j)) c)
  | [], [], _, _ => ⟨rfl, fun j => ⟨fun d h => by simp at h, fun c h => by simp at h⟩⟩
  | .imm d :: as, v :: vs, n, h => by
    obtain ⟨l, g⟩ := arOk_get (n + 1) h.2
    refine ⟨congrArg (· + 1) l, fun j => ?_⟩
    cases j with
    | zero => exact ⟨fun d' e => ⟨v, rfl, by simp at e; exact e ▸ h.1⟩, fun c e => by simp at e⟩
    | succ j =>
      obtain ⟨g1, g2⟩ := g j
      refine ⟨fun d' e => g1 d' (by simpa using e), fun c e => ?_⟩
      have := g2 c (by simpa using e)
      rw [show n + 1 + j = n + (j + 1) by omega] at this
      exact this
  | .own c :: as, v :: vs, n, h => by
    obtain ⟨l, g⟩ := arOk_get (n + 1) h.2
    refine ⟨congrArg (· + 1) l, fun j => ?_⟩
    cases j with
    | zero =>
      refine ⟨fun d' e => by simp at e, fun c' e => ?_⟩
      simp at e
      subst e
      exact ⟨by rw [h.1.1]; rfl, h.1.2⟩
    | succ j =>
      obtain ⟨g1, g2⟩ := g j
      refine ⟨fun d' e => g1 d' (by simpa using e), fun c e => ?_⟩
      have := g2 c (by simpa using e)
      rw [show n + 1 + j = n + (j + 1) by omega] at this
      exact this
  | [], _ :: _, _, h => h.elim
  | .imm _ :: _, [], _, h => h.elim
  | .own _ :: _, [], _, h => h.elim
theorem slots_get {n : Nat} {as : List Ar} {j : Nat} {t : Sl} (h : (slots n as)[j]? = some t) : (∃ a, as[j]? = some a ∧ t = a.sl) ∨ (as.length ≤ j ∧ t = .un) := by
  unfold slots at h
  by_cases hj : j < as.length
  · rw [List.getElem?_append_left (by simpa using hj), List.getElem?_map] at h
    obtain ⟨a, h1, h2⟩ := Option.map_eq_some_iff.mp h
    exact .inl ⟨a, h1, h2.symm⟩
  · rw [List.getElem?_append_right (by simpa using hj), List.getElem?_replicate] at h
    split at h
    · cases h; exact .inr ⟨by omega, rfl⟩
    · cases h
theorem slots_par {n : Nat} {as : List Ar} {j : Nat} {t : Sl} {c : C} (h : (slots n as)[j]? = some t) (hc : t.cont = some c) : as[j]? = some (.own c) ∧ t = .par c ∧ isOwnAr as j = true := by
  rcases slots_get h with ⟨a, h1, h2⟩ | ⟨_, h2⟩
  · subst h2
    cases a with
    | imm d => cases hc
    | own c' => cases hc; exact ⟨h1, rfl, by unfold isOwnAr; rw [h1]⟩
  · subst h2; cases hc
theorem start_ok {N : Nat} {vs : List V} {as : List Ar} (hN : as.length ≤ N) (tb : TabsOk W H Hf) (hs : Sub Hf H) (h : ArOk W loc H Hf 0 vs as) (ap : Apart loc as) : SOk W (slots N as) loc (vs.map some ++ List.replicate (N - vs.length) none) H Hf := by
  obtain ⟨hl, g⟩ := arOk_get 0 h
  have at' : ∀ (j : Nat) (v : V), vs[j]? = some v → (vs.map some ++ List.replicate (N - vs.length) none)[j]? = some (some v) := fun j v e => by
    have hj : j < vs.length := (List.getElem?_eq_some_iff.mp e).1
    rw [List.getElem?_append_left (by simpa using hj), List.getElem?_map, e]; rfl
  refine ⟨tb, hs, ?_, fun j d e => ?_, fun j t c e1 e2 => ?_, fun i j t u c d e1 e2 e3 e4 e5 => ?_⟩
  · unfold slots
    simp only [List.length_append, List.length_map, List.length_replicate]
    omega
  · rcases slots_get e with ⟨a, h1, h2⟩ | ⟨_, h2⟩
    · cases a with
      | imm d' =>
        cases h2
        obtain ⟨v, q1, q2⟩ := (g j).1 d h1
        exact ⟨v, at' j v q1, q2⟩
      | own c => cases h2
    · cases h2
  · obtain ⟨h1, _, _⟩ := slots_par e1 e2
    obtain ⟨q1, q2, q3⟩ := (g j).2 c h1
    rw [Nat.zero_add] at q1 q2 q3
    exact ⟨at' j _ q1, q2, q3⟩
  · exact ap i j (slots_par e1 e3).2.2 (slots_par e2 e4).2.2 e5
theorem cs_of {loc' : Loc} {σ' : St} {ρ' : Env} (s : SOk W ρ' loc' σ' H Hf) (hp : ∀ (i : Nat) (c : C), ρ'[i]? = some (Sl.par c) → loc' i = loc i) : ∀ (n : Nat) (as : List Ar) (cs : List C), csOf n as ρ' = some cs → CsOk W loc H Hf n as cs
  | n, [], cs, h => by cases h; trivial
  | n, .imm d :: as, cs, h => cs_of s hp (n + 1) as cs h
  | n, .own c0 :: as, cs, h => by
    unfold csOf at h
    split at h
    · rename_i c q
      obtain ⟨cs', h1, h2⟩ := Option.map_eq_some_iff.mp h
      subst h2
      obtain ⟨_, y, z⟩ := s.own n _ c q rfl
      rw [hp n c q] at y z
      exact ⟨⟨y, z⟩, cs_of s hp (n + 1) as cs' h1⟩
    · cases h
end
section
variable {P : Program} {w : World} {K : PySem.W.Frag} {mg : Str → Option Value} {base : Heap}
/-- a def as it stands behind the top, and how it is called: n values, keywords ks; g: the bound values in the parameters' order -/
structure DefAt (K : PySem.W.Frag) (f : Addr) (qual : Str) (st : Stmt) (N ps : List Str) (n : Nat) (ks : List Str) (gV : List V → List V) : Prop where
  fd : ∃ (nm : Str) (oc : Value) (od : Option Addr) (dV kV doc pm : Value) (an : Option Addr) (cdv ct : Value) (osl : Array (Option Value)),
    K.lookup f = some ⟨oc, od, .func (PySem.W.fnOf nm qual (defArgs st) (defBody st) (defScope st) dV kV doc pm an cdv ct), osl⟩ ∧ PySem.W.codeIn K cdv qual = true ∧
    ∀ (s : Shared) (us ws : List Value), K.In s.heap → us.length = n → ws.length = ks.length → ∃ bs : List Value, BindsTo s (PySem.W.fnOf nm qual (defArgs st) (defBody st) (defScope st) dV kV doc pm an cdv ct) ⟨us, ks.zip ws⟩ (ps.zip bs) ∧ bs.length = ps.length ∧
      ∀ vs zs : List V, Vals vs us → Vals zs ws → Vals (gV (vs ++ zs)) bs
  sc : FnScope N ps (defScope st)
/-- the data version of the binding -/
def GOk (gV : List V → List V) (gA : List Ar → List Ar) : Prop := ∀ (W : Wd) (loc : Loc) (H Hf : Hp) (vs : List V) (as : List Ar), Sub Hf H → ArOk W loc H Hf 0 vs as → Apart loc as → (gA as).length = (gV vs).length →
  ∃ loc2, ArOk W loc2 H Hf 0 (gV vs) (gA as) ∧ Apart loc2 (gA as) ∧ (∀ a, OwnA loc2 (gA as) a → OwnA loc as a) ∧
    ∀ H' Hf' cs, CsOk W loc2 H' Hf' 0 (gA as) cs → CsOk W loc H' Hf' 0 as cs
theorem gOk_id : GOk id id := fun W loc H Hf vs as _ h a _ => ⟨loc, h, a, fun _ h => h, fun _ _ _ h => h⟩
theorem def_ok {f : Addr} {qual : Str} {st : Stmt} {N ps ks : List Str} {n k : Nat} {gV : List V → List V} {gA : List Ar → List Ar} {B : Fs} (d : DefAt K f qual st N ps n ks gV) (hg : GOk gV gA)
    (hb : ∀ X : Cx, X.prog = P → X.w = w → X.K = K → X.mg = mg → X.base = base → X.N = N → X.env.scope = defScope st → Cq X k → (∀ x, X.fn x = true) → PSts X (defBody st) B) :
    CallOk P w K mg base (k + 1) f n ks (spF ⟨K, mg, P, w⟩ fun as => bodyF N.length ps.length B (gA as)) := by
  obtain ⟨nm, oc, od, dV, kV, doc, pm, an, cdv, ct, osl, lk, hcd, hbind⟩ := d.fd
  have S := d.sc
  refine ⟨fun A outer s H us ws vs zs Q hr hgd e0 l1 l2 r1 r2 hsp => ?_⟩
  have KX : K.In s.heap := e0.mod.kin.keeps fun b o q => (e0.bs b o q).1
  obtain ⟨bs, hbs, hbl, hrel⟩ := hbind s us ws KX l1 l2
  have rb := hrel vs zs r1 r2
  obtain ⟨Hf, loc, as, r, cs, hsub, htb, har, hap, hF, kk⟩ := hsp
  unfold bodyF at hF
  dsimp only at hF
  split at hF
  · rename_i hlen
    have hv : (gV (vs ++ zs)).length = ps.length := rb.length.trans hbl
    obtain ⟨loc2, har2, hap2, hown2, hcs2⟩ := hg _ loc H Hf _ as hsub har hap (hlen.trans hv.symm)
    obtain ⟨⟨fl, ρ'⟩, q1, hF⟩ := Option.bind_eq_some_iff.mp hF
    have hkind : ∀ y ∈ ps.zip bs, (defScope st).names.lookup y.1 = some .local ∨ ((defScope st).names.lookup y.1 = some .cell ∧ ((cellsFrom (s.heap.objs.size + 1) (defScope st).names []).lookup y.1).isSome = true) := fun ⟨x, v⟩ hy =>
      (S.par x (List.of_mem_zip hy).1).imp id fun z => ⟨z, PySem.W.cellsFrom_some _ _ _ (.inl z)⟩
    refine codeAny_call_function hr.depth (KX _ _ lk) rfl S.co S.gen rfl (PySem.W.codeRec_of KX hcd) (hbs _ _ _ _ (wpAny_newFunctionEnv_cells S.kind hkind fun env he s1 x => ?_))
    subst he
    refine ⟨(e0.mod.nolimit.keeps fun b o q => (e0.bs b o q).1).keeps x.toInCall.keep, codeAny_func ?_⟩
    have I := inv_start (CX := CX0) (E := E0) S hr.hd e0 hv rb x
    have hpl : ps.length ≤ N.length := by
      have := congrArg List.length S.pre
      rw [List.length_take] at this
      omega
    have s0 : SOk ⟨K, mg, P, w⟩ (slots N.length (gA as)) loc2 (start N (gV (vs ++ zs))) H Hf := start_ok (by rw [hlen]; exact hpl) htb hsub har2 hap2
    have body := hb (cxOf CX0 P w K mg base N qual (defScope st) f cdv A outer s H E0).nox rfl rfl rfl rfl rfl rfl rfl ⟨rfl, hgd, hr.deeper _, S.nd, rfl⟩ (fun _ => rfl)
    -- what is handed back
    have fin : ∀ (rv : Rv) (ρ1 : Env) (v : V) (H' Hf' : Hp) (σ' : St) (loc' : Loc), Go (slots N.length (gA as)) loc2 H Hf ρ1 loc' H' Hf' → SOk ⟨K, mg, P, w⟩ ρ1 loc' σ' H' Hf' → RtOk ⟨K, mg, P, w⟩ (slots N.length (gA as)) loc2 H v H' Hf' rv →
        csOf 0 (gA as) ρ1 = some cs → rv = r → Q v H' := by
      intro rv ρ1 v H' Hf' σ' loc' g s1 o ec er
      subst er
      have own0 : ∀ a, IsOwn (slots N.length (gA as)) loc2 a → OwnA loc as a := fun a ⟨i, t, c, h1, h2, h3⟩ => hown2 a ⟨i, (slots_par h1 h2).2.2, h3⟩
      refine kk v H' Hf' ⟨s1.sub, g.there, fun a o h n => g.keep a o h fun z => n (own0 a z), fun a o h n => g.frz a o h fun z => n (own0 a z)⟩ s1.tab (hcs2 H' Hf' _ (cs_of s1 (fun i c q => (g.par i c q).2) 0 _ _ ec)) ?_
      cases rv with
      | imm d => exact o
      | own c =>
        obtain ⟨p, h1, h2, h3, h4⟩ := o
        rcases h4 with z | ⟨j, c', z1, _⟩
        · exact ⟨p, h1, z, h2, h3⟩
        · have := (slots_par z1 rfl).2.1
          cases this
      | mix pre xs post =>
        obtain ⟨p, a, h1, h2, h3, h4⟩ := o
        rcases h4 with z | ⟨j, c', z1, _⟩
        · exact ⟨p, a, h1, h2, z, h3⟩
        · have := (slots_par z1 rfl).2.1
          cases this
    have bd := body.nox.run [] s1 _ H { nx := fun _ H' => Q .non H', rt := Q } I ⟨slots N.length (gA as), loc2, Hf, fl, ρ', s0, q1, fun σ' loc' H' Hf' g s1 => by
      cases fl with
      | nx =>
        obtain ⟨cs', e1, e2⟩ := Option.map_eq_some_iff.mp hF
        cases e2
        exact fin (.imm .non) ρ' .non H' Hf' σ' loc' g s1 .non e1 rfl
      | rt rv =>
        obtain ⟨cs', e1, e2⟩ := Option.map_eq_some_iff.mp hF
        cases e2
        exact fun v o => fin _ ρ' v H' Hf' σ' loc' g s1 o e1 rfl
      | bk => cases hF
      | ct => cases hF⟩
    refine wpAny_mono bd (fun flow s' hs => ?_) fun _ _ hs => hs
    cases flow with
    | ret u =>
      obtain ⟨v, σ', H', J, rv, q⟩ := hs
      exact ⟨v, H', J.os, J.bare, J.base, J.hok, rv, q⟩
    | next =>
      obtain ⟨σ', H', J, q⟩ := hs
      exact ⟨V.non, H', J.os, J.bare, J.base, J.hok, rfl, q⟩
    | brk => obtain ⟨_, _, _, z⟩ := hs; exact False.elim z
    | cont => obtain ⟨_, _, _, z⟩ := hs; exact False.elim z
  · cases hF
end
end Ev
/-! text Ev14 -/
set_option Elab.async false
set_option linter.all false
set_option maxRecDepth 100000
set_option maxHeartbeats 4000000
namespace Ev
open PySem L2

/-! ### a receiver -/
def plainRecv : Expr → Bool
  | .Call (.Name _ _) [] [] _ => false
  | _ => true
theorem recv_base {o : Expr} {m : Str} {env : PySem.Env} (h : plainRecv o = true) : attributeBase o m env (eval o env) = eval o env := by
  unfold attributeBase
  split
  · cases h
  · rfl
theorem few_of {es : List Expr} {env : PySem.Env} {pos : Pos} (hs : es.all noStar = true) (hl : es.length < 29) :
    ((backTo pos (starEach es env)).all (fun x => !x.1) && (backToKw pos (keywordEach [] env)).all (fun x => x.1.isSome) && decide (es.length + ([] : List Keyword).length + (if ([] : List Keyword).isEmpty then 0 else 1) < 30)) = true := by
  have h1 : (backTo pos (starEach es env)).all (fun x => !x.1) = true := by
    have := starEach_plain (env := env) pos hs
    rw [List.any_eq_false] at this
    rw [List.all_eq_true]
    intro x hx
    have := this x hx
    simpa using this
  rw [h1]
  simp only [keywordEach, backToKw, List.map_nil, List.all_nil, Bool.true_and, decide_eq_true_eq]
  show es.length + 0 + 0 < 30
  omega

section
variable {X : Cx} {e a b c o : Expr} {k : Nat} {f C : Addr} {F : Fn}
theorem RpF.look {W : Wd} {H : Hp} {f : Str} : ∀ {vs : List (Str × V)} {ds : List (Str × D)}, RpF W H vs ds → (∀ d, ds.lookup f = some d → ∃ v, vs.lookup f = some v ∧ Rp W H v d) ∧ (ds.lookup f = none → vs.lookup f = none)
  | _, _, .nil => ⟨fun d h => (by cases h), fun _ => rfl⟩
  | _, _, .cons (f := g) r t => by
    obtain ⟨i1, i2⟩ := RpF.look (f := f) t
    by_cases e : f == g
    · refine ⟨fun d h => ?_, fun h => ?_⟩
      · simp only [List.lookup, e, Option.some.injEq] at h ⊢
        subst h
        exact ⟨_, rfl, r⟩
      · simp [List.lookup, e] at h
    · have e' : (f == g) = false := by simpa using e
      refine ⟨fun d h => ?_, fun h => ?_⟩
      · simp only [List.lookup, e'] at h ⊢
        exact i1 d h
      · simp only [List.lookup, e'] at h ⊢
        exact i2 h
/-- the classes whose parts are read: by the parts' names -/
structure FldOk (K : PySem.W.Frag) (mg : Str → Option Value) (c f : Str) : Prop where
  ok : ∀ C, mg c = some (.ref C) → Cls K C ∧ NoAttr K C f
theorem evalCall_attr {o : Expr} {m : Str} {apos pos : Pos} {es : List Expr} {env : PySem.Env} (hr : plainRecv o = true) (hl : (apos.endLine == pos.line) = true) (hs : es.all noStar = true) (h30 : es.length < 29) : ∃ pl : Sem Bool, eval (.Call (.Attribute o m apos) es [] pos) env = (do
      let ov ← eval o env
      standAt apos.atName
      let (f, first) ← holding [ov] (getMethod ov m pl)
      callWith pos f first (backTo pos (starEach es env)) (backToKw pos (keywordEach [] env))) := by
  refine ⟨(do return (← importBound o env).getD true), ?_⟩
  have hfew : methodCallForm (es.length + 0) (backTo pos (starEach es env)) (backToKw pos (keywordEach [] env)) = true := by
    have := few_of (env := env) (pos := pos) hs h30
    unfold methodCallForm
    rw [Bool.and_eq_true, Bool.and_eq_true] at this ⊢
    refine ⟨⟨?_, rfl⟩, ?_⟩
    · exact this.1.1
    · simp [keywordEach, backToKw]; omega
  show (do
    let ov ← attributeBase o m env (eval o env)
    standAt apos.atName
    methodCall o m apos pos env ov (es.length + ([] : List Keyword).length) (backTo pos (starEach es env)) (backToKw pos (keywordEach [] env))) = _
  rw [recv_base hr]
  unfold methodCall calleeOf methodCallPos
  simp only [List.length_nil, hfew, hl]
  simp
end
end Ev
/-! text Ev15 -/
set_option Elab.async false
set_option linter.all false
set_option maxRecDepth 100000
set_option maxHeartbeats 4000000
namespace Ev
open PySem L2

/-! ### one's own objects change -/
section
variable {W : Wd} {ρ ρ' : Env} {loc : Loc} {σ : St} {H Hf H' Hf' : Hp}
theorem chg_own {i : Nat} {t : Sl} {c c' : C} {u : HO} (s : SOk W ρ loc σ H Hf) (h1 : ρ[i]? = some t) (h2 : t.cont = some c) (o : OwnAt W (upd H (loc i) u) Hf (loc i) c') :
    SOk W (setC ρ i c') loc σ (upd H (loc i) u) Hf ∧ Ge ρ loc H Hf (setC ρ i c') (upd H (loc i) u) Hf := by
  obtain ⟨z1, z2, z3⟩ := s.own i t c h1 h2
  have hth : H (loc i) ≠ none := z3.there
  refine ⟨⟨s.tab.upd z3.nt, fun a x h => ?_, by rw [setC_len]; exact s.len, fun j d h => ?_, fun j t' d h3 h4 => ?_, fun j l t1 t2 d1 d2 a1 a2 a3 a4 a5 => ?_⟩, ⟨fun a h => ?_, fun a x h n _ => ?_, fun _ _ _ _ => rfl, fun j d h => ?_, fun j d h => ?_, fun j d h => ?_⟩⟩
  · rw [upd_ne (ne_of_none h z2)]; exact s.sub a x h
  · rcases setC_get h with ⟨_, s0, _, e⟩ | ⟨_, q⟩
    · have := put_imm' e.symm
      subst this
      rename_i e1 q1
      subst e1
      rw [h1] at q1
      cases q1
      cases h2
    · exact s.imm j d q
  · rcases setC_get h3 with ⟨e1, s0, q, e⟩ | ⟨n, q⟩
    · subst e1 e
      obtain ⟨rfl, _⟩ := put_cont h4
      exact ⟨z1, z2, o⟩
    · obtain ⟨x, y, w⟩ := s.own j t' d q h4
      have ne : loc j ≠ loc i := fun e => n (s.inj j i t' t d c q h1 h4 h2 e)
      exact ⟨x, y, w.mono (fun _ k _ => by rw [upd_ne ne]; exact k) fun _ _ k => k⟩
  · have r : ∀ (j : Nat) (t' : Sl) (d : C), (setC ρ i c')[j]? = some t' → t'.cont = some d → ∃ t0 d0, ρ[j]? = some t0 ∧ t0.cont = some d0 := fun j t' d h h' => by
      rcases setC_get h with ⟨e1, s0, q, e⟩ | ⟨n, q⟩
      · subst e
        obtain ⟨_, d0, q2⟩ := put_cont h'
        exact ⟨s0, d0, by rw [e1]; exact q, q2⟩
      · exact ⟨t', d, q, h'⟩
    obtain ⟨u1, e1, q1, q2⟩ := r j t1 d1 a1 a3
    obtain ⟨u2, e2, q3, q4⟩ := r l t2 d2 a2 a4
    exact s.inj j l u1 u2 e1 e2 q1 q3 q2 q4 a5
  · by_cases e : a = loc i
    · subst e; rw [upd_same] at h; cases h
    · rw [upd_ne e] at h; exact h
  · have ne : a ≠ loc i := fun e => n ⟨i, t, c, h1, h2, e.symm⟩
    rw [upd_ne ne]; exact h
  · rcases setC_get h with ⟨e1, s0, q, e⟩ | ⟨n, q⟩
    · obtain ⟨d0, q2⟩ := put_own e.symm
      subst q2
      exact ⟨d0, by rw [e1]; exact q⟩
    · exact ⟨d, q⟩
  · rcases setC_get h with ⟨e1, s0, q, e⟩ | ⟨n, q⟩
    · obtain ⟨d0, q2⟩ := put_par e.symm
      subst q2
      exact ⟨d0, by rw [e1]; exact q⟩
    · exact ⟨d, q⟩
  · by_cases e : j = i
    · subst e
      exact ⟨c', by rw [setC_self h]; rfl⟩
    · exact ⟨d, by rw [setC_ne e]; exact h⟩
end

/-! ### list methods that change the list -/
/-- of the items and the further values: what is handed back, and the items then -/
abbrev Gm := List D → List D → Option (D × List D)
def rfOf : AR → Option Nat
  | .rf i => some i
  | _ => none
def lstAt (ρ : Env) (i : Nat) : Option (List D) := match contAt ρ i with
  | some (.lst xs) => some xs
  | _ => none
theorem lstAt_some {ρ : Env} {i : Nat} {xs : List D} (h : lstAt ρ i = some xs) : ∃ s, ρ[i]? = some s ∧ s.cont = some (.lst xs) := by
  unfold lstAt at h
  split at h
  · rename_i ys q
    cases h
    exact contAt_some q
  · cases h
def mutF (g : Gm) (FR : Fr) (FL : Fl) : Fe := fun ρ => (FR ρ).bind fun x => (rfOf x.1).bind fun i => (lstAt x.2 i).bind fun _ => (FL x.2).bind fun y => (lstAt y.2 i).bind fun xs => (g xs y.1).map fun z => (.imm z.1, setC y.2 i (.lst z.2))
/-- such a rule -/
def DMut (W : Wd) (r : V → List V → Hp → VK → Prop) (g : Gm) : Prop := ∀ (p : Addr) (vs : List V) (xs ds : List D) (z : D) (ys : List D) (us : List V) (H Hf : Hp) (Q : VK), Sub Hf H → H p = some (.lst vs) → RpL W Hf vs xs → RpL W Hf us ds → g xs ds = some (z, ys) →
  (∀ v ws, Rp W Hf v z → RpL W Hf ws ys → Q v (upd H p (.lst ws))) → r (.ref p) us H Q
section
variable {X : Cx} {e a b c o : Expr} {m : Str}
theorem rfOf_some {a : AR} {i : Nat} (h : rfOf a = some i) : a = .rf i := by
  cases a with
  | val d => cases h
  | rf j => cases h; rfl
theorem mut_read {W : Wd} {r : V → List V → Hp → VK → Prop} {g : Gm} (hd : DMut W r g) {FR : Fr} {FL : Fl} {σ : St} {H : Hp} {Q : VK} (h : tX W (mutF g FR FL) σ H Q) :
    tBM W.K "list" r (tR W FR) (tL W FL) σ H Q := by
  obtain ⟨ρ, loc, Hf, rv, ρ', s, hF, k⟩ := h
  unfold mutF at hF
  obtain ⟨⟨x, ρ1⟩, q1, hF⟩ := Option.bind_eq_some_iff.mp hF
  obtain ⟨i, q0, hF⟩ := Option.bind_eq_some_iff.mp hF
  have := rfOf_some q0
  dsimp only at this
  subst this
  obtain ⟨xs0, q3, hF⟩ := Option.bind_eq_some_iff.mp hF
  obtain ⟨⟨ds, ρ2⟩, q2, hF⟩ := Option.bind_eq_some_iff.mp hF
  obtain ⟨xs, q5, hF⟩ := Option.bind_eq_some_iff.mp hF
  obtain ⟨⟨z, ys⟩, q4, q6⟩ := Option.map_eq_some_iff.mp hF
  cases q6
  obtain ⟨t1, h1, h2⟩ := lstAt_some q3
  obtain ⟨t2, h3, h4⟩ := lstAt_some q5
  refine ⟨ρ, loc, Hf, _, ρ1, s, q1, fun v H1 Hf1 g1 s1 o1 => ?_⟩
  obtain rfl : v = .ref (loc i) := o1
  obtain ⟨_, _, us0, w0, _⟩ := s1.own i t1 _ h1 h2
  refine ⟨.inl ⟨rfl, us0, SqL.of w0⟩, ρ1, loc, Hf1, ds, ρ2, s1, q2, fun vs H2 Hf2 g2 s2 r2 => ?_⟩
  obtain ⟨w1, w2, us, w3, w4⟩ := s2.own i t2 _ h3 h4
  refine hd (loc i) us xs ds z ys vs H2 Hf2 Q s2.sub w3 w4 r2 q4 fun v ws rz ry => ?_
  have s3 := chg_own (c' := .lst ys) s2 h3 h4 (u := .lst ws) ⟨ws, upd_same, ry⟩
  exact k v _ Hf2 (g1.trans (g2.trans s3.2)) s3.1 rz
theorem px_mut {id : String} {r : V → List V → Hp → VK → Prop} {g : Gm} {FR : Fr} {FL : Fl} {es : List Expr} {apos cpos : Pos} (slot : Slot "list" m id) (hty : typeOf (.builtin id) = pure (.type "method_descriptor")) (hm : MtR X id r) (hd : DMut (wd X) r g)
    (ho : PR X o FR) (ha : PLs X (e :: es) FL) (hr : plainRecv o = true) (hs : (e :: es).all noStar = true) (h30 : (e :: es).length < 29) (hl : (apos.endLine == cpos.line) = true) : PX X (.Call (.Attribute o m apos) (e :: es) [] cpos) (mutF g FR FL) := by
  have hs2 := hs
  rw [List.all_cons, Bool.and_eq_true] at hs2
  exact pe_imp (pe_bm PySem.F.plainAttrs_list slot hty hm ho ha (recv_base hr) (few_of hs h30) hl (starEach_cons hs2.1) (starEach_plain cpos hs2.2)) fun _ _ _ h => mut_read hd h
def appendG : Gm := fun xs ds => match ds with
  | [d] => if xs.length < sizeLine then some (.non, xs ++ [d]) else none
  | _ => none
theorem dm_append {W : Wd} : DMut W rAppend appendG := fun p vs xs ds z ys us H Hf Q s h r ru e k => by
  unfold appendG at e
  split at e
  · rename_i d
    split at e
    · rename_i hl
      cases e
      cases ru with
      | cons rd rn =>
        cases rn
        exact ⟨p, vs, _, rfl, rfl, h, by rw [r.length]; exact hl, k .non _ .non (r.append (.cons rd .nil))⟩
    · cases e
  · cases e
end
end Ev
/-! text Ev16 -/
set_option Elab.async false
set_option linter.all false
set_option maxRecDepth 100000
set_option maxHeartbeats 4000000
namespace Ev
open PySem L2

/-! ### dicts: store, display -/
def putKD (kvs : List (D × D)) (k : Key) (kd d : D) : List (D × D) := if (kvs.any fun p => decide (keyD p.1 = some k)) = true then kvs.map fun p => if keyD p.1 = some k then (p.1, d) else p else kvs ++ [(kd, d)]
def putTD (kvs : List (D × D)) (k : List Key) (kd d : D) : List (D × D) := if (kvs.any fun p => isTK p.1 k) = true then kvs.map fun p => if isTK p.1 k = true then (p.1, d) else p else kvs ++ [(kd, d)]
def putDK (kvs : List (D × D)) (kd d : D) : Option (List (D × D)) := if kvs.length < sizeLine then (keyD kd).map fun k => putKD kvs k kd d else none
def putDT (kvs : List (D × D)) (kds : List D) (d : D) : Option (List (D × D)) := if kvs.length < sizeLine then (keysD kds).map fun k => putTD kvs k (.tup kds) d else none
section
variable {W : Wd} {H Hf : Hp}
theorem RpK.len : ∀ {ks : List (Key × V)} {ds : List (D × D)}, RpK W H ks ds → ks.length = ds.length
  | _, _, .nil => rfl
  | _, _, .cons _ _ t => congrArg (· + 1) t.len
theorem RpT.len : ∀ {ks : List (List Key × V)} {ds : List (D × D)}, RpT W H ks ds → ks.length = ds.length
  | _, _, .nil => rfl
  | _, _, .cons _ _ t => congrArg (· + 1) t.len
theorem RpK.app {k : Key} {v : V} {kd d : D} (hk : keyD kd = some k) (r : Rp W H v d) : ∀ {ks : List (Key × V)} {ds : List (D × D)}, RpK W H ks ds → RpK W H (ks ++ [(k, v)]) (ds ++ [(kd, d)])
  | _, _, .nil => .cons hk r .nil
  | _, _, .cons a b t => .cons a b (t.app hk r)
theorem RpT.app {k : List Key} {v : V} {kd : List D} {d : D} (hk : keysD kd = some k) (r : Rp W H v d) : ∀ {ks : List (List Key × V)} {ds : List (D × D)}, RpT W H ks ds → RpT W H (ks ++ [(k, v)]) (ds ++ [(.tup kd, d)])
  | _, _, .nil => .cons hk r .nil
  | _, _, .cons a b t => .cons a b (t.app hk r)
theorem RpK.anyk {k : Key} : ∀ {ks : List (Key × V)} {ds : List (D × D)}, RpK W H ks ds → (ks.any fun kv => decide (kv.1 = k)) = ds.any fun p => decide (keyD p.1 = some k)
  | _, _, .nil => rfl
  | _, _, .cons (k := k1) (kd := kd) a b t => by
    rw [List.any_cons, List.any_cons, t.anyk]
    dsimp only
    rw [a]
    simp
theorem isTK_iff {kd : List D} {k1 k : List Key} (h : keysD kd = some k1) : isTK (.tup kd) k = decide (k1 = k) := by
  unfold isTK
  simp [h]
theorem RpT.anyk {k : List Key} : ∀ {ks : List (List Key × V)} {ds : List (D × D)}, RpT W H ks ds → (ks.any fun kv => decide (kv.1 = k)) = ds.any fun p => isTK p.1 k
  | _, _, .nil => rfl
  | _, _, .cons (k := k1) (kd := kd) a b t => by
    rw [List.any_cons, List.any_cons, t.anyk]
    dsimp only
    rw [isTK_iff a]
theorem RpK.chg {k : Key} {v : V} {d : D} (r : Rp W H v d) : ∀ {ks : List (Key × V)} {ds : List (D × D)}, RpK W H ks ds → RpK W H (ks.map fun kv => if kv.1 = k then (kv.1, v) else kv) (ds.map fun p => if keyD p.1 = some k then (p.1, d) else p)
  | _, _, .nil => .nil
  | _, _, .cons (k := k1) (kd := kd) a b t => by
    rw [List.map_cons, List.map_cons]
    by_cases e : k1 = k
    · subst e
      rw [if_pos (by dsimp only), if_pos (by dsimp only; exact a)]
      exact .cons a r (t.chg r)
    · rw [if_neg (by dsimp only; exact e), if_neg (by dsimp only; rw [a]; simp [e])]
      exact .cons a b (t.chg r)
theorem RpT.chg {k : List Key} {v : V} {d : D} (r : Rp W H v d) : ∀ {ks : List (List Key × V)} {ds : List (D × D)}, RpT W H ks ds → RpT W H (ks.map fun kv => if kv.1 = k then (kv.1, v) else kv) (ds.map fun p => if isTK p.1 k = true then (p.1, d) else p)
  | _, _, .nil => .nil
  | _, _, .cons (k := k1) (kd := kd) a b t => by
    rw [List.map_cons, List.map_cons]
    dsimp only
    rw [isTK_iff a]
    by_cases e : k1 = k
    · subst e
      rw [if_pos rfl, if_pos (by simp)]
      exact .cons a r (t.chg r)
    · rw [if_neg e, if_neg (by simp [e])]
      exact .cons a b (t.chg r)
theorem putDK_ok {kvs kvs' : List (D × D)} {kd d : D} {p : Addr} {y v : V} (s : Sub Hf H) (o : OwnAt W H Hf p (.dct false kvs)) (ry : Rp W Hf y kd) (rv : Rp W Hf v d) (e : putDK kvs kd d = some kvs') :
    ∃ u, DPut H p y v (upd H p u) ∧ OwnAt W (upd H p u) Hf p (.dct false kvs') := by
  unfold putDK at e
  split at e
  · rename_i hl
    obtain ⟨k, e1, e2⟩ := Option.map_eq_some_iff.mp e
    obtain ⟨ks, h1, r⟩ := o
    have ey : y = kV k := keyD_rp ry e1
    subst ey e2
    refine ⟨.dK (putK ks k v), .inl ⟨ks, k, h1, rfl, by rw [r.len]; exact hl, rfl⟩, _, upd_same, ?_⟩
    unfold putK putKD
    rw [r.anyk]
    split
    · exact r.chg rv
    · exact r.app e1 rv
  · cases e
theorem putDT_ok {kvs kvs' : List (D × D)} {kds : List D} {d : D} {p b : Addr} {vs : List V} {v : V} (o : OwnAt W H Hf p (.dct true kvs)) (hb : H b = some (.tup vs)) (rl : RpL W Hf vs kds) (rv : Rp W Hf v d) (e : putDT kvs kds d = some kvs') :
    ∃ u, DPut H p (.ref b) v (upd H p u) ∧ OwnAt W (upd H p u) Hf p (.dct true kvs') := by
  unfold putDT at e
  split at e
  · rename_i hl
    obtain ⟨k, e1, e2⟩ := Option.map_eq_some_iff.mp e
    obtain ⟨ks, h1, r⟩ := o
    have ey := keysD_rp rl e1
    subst ey e2
    refine ⟨.dT (putK ks k v), .inr ⟨ks, k, _, h1, rfl, hb, by rw [r.len]; exact hl, rfl⟩, _, upd_same, ?_⟩
    unfold putK putTD
    rw [r.anyk]
    split
    · exact r.chg rv
    · exact r.app e1 rv
  · cases e
end
def dctAt (ρ : Env) (i : Nat) : Option (Bool × List (D × D)) := match contAt ρ i with
  | some (.dct t kvs) => some (t, kvs)
  | _ => none
theorem dctAt_some {ρ : Env} {i : Nat} {x : Bool × List (D × D)} (h : dctAt ρ i = some x) : ∃ s, ρ[i]? = some s ∧ s.cont = some (.dct x.1 x.2) := by
  unfold dctAt at h
  split at h
  · rename_i t ys q
    cases h
    exact contAt_some q
  · cases h
/-- d[k] = v, d a slot -/
def dputS (FV : Fd) (FR : Fr) (FK : Fd) : Fs := fun ρ => (FV ρ).bind fun x => (FR x.2).bind fun y => (rfOf y.1).bind fun i => (FK y.2).bind fun z => (dctAt z.2 i).bind fun c => if c.1 = false then (putDK c.2 z.1 x.1).map fun kvs => (.nx, setC z.2 i (.dct false kvs)) else none
section
variable {X : Cx} {e a b c o i value : Expr}
theorem pst_dput {FV FK : Fd} {FR : Fr} {pos pos' : Pos} {k : Nat} (q : Cq X k) (ho : PR X o FR) (hi : PD X i FK) (hv : PD X value FV) (hs : swapsWith value (some (.Subscript o i pos')) pos.line X.env = pure false) :
    PSt X (.Assign [.Subscript o i pos'] value pos) (dputS FV FR FK) := ps_imp (ps_dput (hu_of q.room) ho hi hv hs) fun D σ H ⟨ρ, loc, Hf, fl, ρ', s, hF, kk⟩ => by
  unfold dputS at hF
  obtain ⟨⟨d, ρ1⟩, q1, hF⟩ := Option.bind_eq_some_iff.mp hF
  obtain ⟨⟨x, ρ2⟩, q2, hF⟩ := Option.bind_eq_some_iff.mp hF
  obtain ⟨j, q3, hF⟩ := Option.bind_eq_some_iff.mp hF
  have := rfOf_some q3
  dsimp only at this
  subst this
  obtain ⟨⟨kd, ρ3⟩, q4, hF⟩ := Option.bind_eq_some_iff.mp hF
  obtain ⟨⟨t, kvs⟩, q5, hF⟩ := Option.bind_eq_some_iff.mp hF
  split at hF
  · rename_i ht
    dsimp only at ht
    subst ht
    obtain ⟨kvs', q6, q7⟩ := Option.map_eq_some_iff.mp hF
    cases q7
    obtain ⟨sl, h3, h4⟩ := dctAt_some q5
    refine ⟨ρ, loc, Hf, d, ρ1, s, q1, fun v H1 Hf1 g1 s1 rv => ⟨ρ1, loc, Hf1, _, ρ2, s1, q2, fun u H2 Hf2 g2 s2 o2 => ⟨ρ2, loc, Hf2, kd, ρ3, s2, q4, fun y H3 Hf3 g3 s3 ry => ?_⟩⟩⟩
    obtain rfl : u = .ref (loc j) := o2
    obtain ⟨w1, w2, w3⟩ := s3.own j sl _ h3 h4
    obtain ⟨uo, hp, ho2⟩ := putDK_ok s3.sub w3 ry (rv.mono fun b o z => g3.fixed s2 b o (g2.fixed s1 b o z)) q6
    have s4 := chg_own s3 h3 h4 ho2
    exact ⟨loc j, _, rfl, hp, kk σ loc _ Hf3 (g1.trans (g2.trans (g3.trans s4.2))).go s4.1⟩
  · cases hF
/-- {'a': .., ..} -/
def dispL : List (Str × Fd) → Env → Option (List (D × D) × Env)
  | [], ρ => some ([], ρ)
  | (x, F) :: r, ρ => (F ρ).bind fun y => (dispL r y.2).map fun z => ((.str x, y.1) :: z.1, z.2)
def dispF (l : List (Str × Fd)) : Fe := fun ρ => if (l.map (·.1)).Nodup ∧ l.length ≤ 15 then (dispL l ρ).map fun z => (.own (.dct false z.1), z.2) else none
theorem disp_read {W : Wd} {σ : St} : ∀ {l : List (Str × Fd)} {H : Hp} {Q : List (V × V) → Hp → Prop} {ρ : Env} {loc : Loc} {Hf : Hp} {kvs : List (D × D)} {ρ' : Env}, SOk W ρ loc σ H Hf → dispL l ρ = some (kvs, ρ') →
    (∀ (ks : List (Key × V)) H' Hf', Ge ρ loc H Hf ρ' H' Hf' → SOk W ρ' loc σ H' Hf' → RpK W Hf' ks kvs → ks.map (·.1) = l.map (fun p => (Sum.inr p.1 : Key)) → Q (ks.map fun kv => (kV kv.1, kv.2)) H') → tPairs (l.map fun p => (tC (V.str p.1), tD W p.2)) σ H Q
  | [], H, Q, ρ, loc, Hf, kvs, ρ', s, h, k => by
    cases h
    exact k [] H Hf .refl s .nil rfl
  | (x, F) :: r, H, Q, ρ, loc, Hf, kvs, ρ', s, h, k => by
    unfold dispL at h
    obtain ⟨⟨d, ρ1⟩, q1, h⟩ := Option.bind_eq_some_iff.mp h
    obtain ⟨⟨kvs1, ρ2⟩, q2, q3⟩ := Option.map_eq_some_iff.mp h
    cases q3
    refine ⟨ρ, loc, Hf, d, ρ1, s, q1, fun v H1 Hf1 g1 s1 rv => disp_read s1 q2 fun ks H2 Hf2 g2 s2 rk ek => ?_⟩
    exact k ((Sum.inr x, v) :: ks) H2 Hf2 (g1.trans g2) s2 (.cons rfl (rv.mono (g2.fixed s1)) rk) (by rw [List.map_cons, List.map_cons, ek])
theorem putK_new {kvs : List (Key × V)} {k : Key} {v : V} (h : k ∉ kvs.map (·.1)) : putK kvs k v = kvs ++ [(k, v)] := by
  unfold putK
  rw [if_neg]
  intro z
  rw [List.any_eq_true] at z
  obtain ⟨p, h1, h2⟩ := z
  exact h (List.mem_map.mpr ⟨p, h1, of_decide_eq_true h2⟩)
theorem merge_new : ∀ {more kvs : List (Key × V)}, (kvs.map (·.1) ++ more.map (·.1)).Nodup → mergeK kvs more = kvs ++ more
  | [], kvs, _ => by simp [mergeK]
  | p :: more, kvs, h => by
    show mergeK (putK kvs p.1 p.2) more = _
    have h1 : p.1 ∉ kvs.map (·.1) := fun z => by
      rw [List.nodup_append] at h
      exact h.2.2 _ z _ (by rw [List.map_cons]; exact List.mem_cons_self) rfl
    rw [putK_new h1, merge_new (by rw [List.map_append]; simpa using h)]
    simp
theorem px_disp {keys : List (Option Expr)} {values : List Expr} {l : List (Str × Fd)} {pos : Pos} (h : PPs X pos keys values (l.map fun p => (tC (V.str p.1), tD (wd X) p.2))) (hall : keys.all (·.isSome) = true) (hl : keys.length = values.length) (h0 : keys ≠ []) (h15 : keys.length ≤ 15) : PX X (.Dict keys values pos) (dispF l) :=
  pe_imp (pe_disp h hall hl h0 h15) fun σ H Q ⟨ρ, loc, Hf, r, ρ', s, hF, k⟩ p hp => by
    unfold dispF at hF
    split at hF
    · rename_i hc
      obtain ⟨⟨kvs, ρ1⟩, q1, q2⟩ := Option.map_eq_some_iff.mp hF
      cases q2
      have hfp : Hf p = none := free_of s.sub hp
      have s0 : SOk (wd X) ρ loc σ (upd H p (.dK [])) Hf := s.other hfp (s.newNot hp) (ntb_none hp)
      refine disp_read s0 q1 fun ks H2 Hf2 g2 s2 rk ek => ?_
      have g3 : Ge ρ loc H Hf ρ1 H2 Hf2 := (Ge.refl.other hp).trans g2
      have hp2 : H2 p = some (.dK []) := g2.keep _ _ upd_same (s.newNot hp) nt_dK
      have hf2 : Hf2 p = none := (g2.frz _ _ upd_same (s.newNot hp)).trans hfp
      have nd : (ks.map (·.1)).Nodup := by
        rw [ek]
        have : (l.map fun p => (Sum.inr p.1 : Key)) = (l.map (·.1)).map Sum.inr := by rw [List.map_map]; rfl
        rw [this]
        exact List.Pairwise.map _ (fun a b n e => n (by injection e)) hc.1
      have hlen : ks.length ≤ 15 := by
        have := congrArg List.length ek
        rw [List.length_map, List.length_map] at this
        rw [this]; exact hc.2
      refine ⟨hp2, ks, rfl, hlen, ?_⟩
      rw [merge_new (by simpa using nd)]
      have no : ¬ IsOwn ρ1 loc p := fun z => s.newNot hp (g3.isOwn z)
      exact k _ _ Hf2 (g3.other hp) (s2.other hf2 no (ntb_some hp2 nt_dK)) ⟨p, rfl, hp, hf2, ks, upd_same, rk⟩
    · cases hF
/-- {} -/
def dnewF (t : Bool) : Fe := fun ρ => some (.own (.dct t []), ρ)
theorem px_dnewK {pos : Pos} : PX X (.Dict [] [] pos) (dnewF false) := pe_imp pe_dnewK fun σ H Q ⟨ρ, loc, Hf, r, ρ', s, hF, k⟩ p hp => by
  cases hF
  have hfp : Hf p = none := free_of s.sub hp
  exact k _ _ Hf (Ge.refl.other hp) (s.other hfp (s.newNot hp) (ntb_none hp)) ⟨p, rfl, hp, hfp, [], upd_same, .nil⟩
end

/-! ### x = e -/
section
variable {X : Cx} {e a b c o tg iter elt : Expr} {k : Nat}
theorem pst_set {i : Nat} {x : Str} {F : Fe} {pos' pos : Pos} (q : Cq X k) (hi : X.N[i]? = some x) (hx : L2.Loc X.env.scope x) (hf : X.fn x = true ∨ X.env.scope.names.lookup x = some .local) (he : PX X e F) (hs : swapsWith e (some (.Name x pos')) pos.line X.env = pure false) : PSt X (.Assign [.Name x pos'] e pos) (setS i F) :=
  ps_imp (ps_set q.nd hi hx he hs hf) fun D σ H h => set_read h
/-- the conditions -/
def yesT : Ft := fun ρ => some (true, ρ)
theorem px_comp {t : Tg} {FI : Fi} {T : Ft} {FE : Fd} {ifs : List Expr} {scope : Scope} {own : List (Str × Nat)} {pos : Pos} (q : Cq X k) (hi : PIt X tg iter FI) (ok : blkC X.N X.env.scope scope own = true)
    (hb : ∀ (s : Shared) (H : Hp) (C : Addr) (cl : List (Str × Addr)) (fp : List Addr), PG (X.blk s H scope (compEnvC scope cl C X.env) fp) tg (tG (wd X) t) ∧ PTs (X.blk s H scope (compEnvC scope cl C X.env) fp) ifs (tT (wd X) T) ∧ PE (X.blk s H scope (compEnvC scope cl C X.env) fp) elt (tD (wd X) FE))
    (hs : ∀ x, foldedSetIterable iter X.env x = pure x) : PX X (.ListComp elt [⟨tg, iter, ifs, 0⟩] scope pos) (compF t FI T FE (own.map (·.2))) :=
  pe_imp (pe_lc q.calm q.nd hi (blkOk_by ok) (fun s H C cl fp => (hb s H C cl fp).1) (fun s H C cl fp => (hb s H C cl fp).2.1) (fun s H C cl fp => (hb s H C cl fp).2.2) hs) fun _ _ _ h => lc_read h
end
end Ev
/-! text Ev17 -/
set_option Elab.async false
set_option linter.all false
set_option maxRecDepth 100000
set_option maxHeartbeats 4000000

/-! ### enumerate of a tuple -/
namespace Ev
open PySem PySem.Spec PyProof.Rows
open Sem (wp)
open AutoSeq1 (wpAny_loadPart')
section
variable {prog : Program} {w : World} {A : Around} {E : Value → Shared → Prop} {s : Shared}
end
end Ev
namespace Ev
open PySem L2
/-- items as they stand at each turn, each in a new pair -/
def ItE (S : Hp → List V → Prop) : It :=
  ⟨fun i H => ∃ (xs : List V) (x : V), S H xs ∧ xs[i]? = some x, fun i H v H' => ∃ T ob x, v = .ref T ∧ ob.dict = none ∧ H T = none ∧ H' = upd H T (.frz ob (.tup [.int (i : Nat), x])) ∧ ∀ xs, S H xs → xs[i]? = some x, fun i H => ∃ xs : List V, S H xs ∧ xs.length ≤ i⟩
/-! enumerate, as data -/
def enD (ds : List D) : List D := (List.range ds.length).map fun i => D.tup [.int (i : Nat), ds.getD i .non]
theorem enD_get {ds : List D} {i : Nat} {d : D} (h : (enD ds)[i]? = some d) : ∃ x, ds[i]? = some x ∧ d = .tup [.int (i : Nat), x] := by
  unfold enD at h
  rw [List.getElem?_map] at h
  obtain ⟨j, h1, h2⟩ := Option.map_eq_some_iff.mp h
  obtain ⟨hi, h3⟩ := List.getElem?_eq_some_iff.mp h1
  rw [List.length_range] at hi
  rw [List.getElem_range] at h3
  subst h3
  exact ⟨ds[i], List.getElem?_eq_getElem hi, by rw [← h2]; simp [List.getD, hi]⟩
theorem enD_len (ds : List D) : (enD ds).length = ds.length := by unfold enD; rw [List.length_map, List.length_range]
/-- a new pair, fixed at once -/
theorem Ext.pair {W : Wd} {H Hf : Hp} {T : Addr} {u : HO} (s : Sub Hf H) (hT : H T = none) : Ext H Hf (upd H T u) (upd Hf T u) := Ext.newF s hT u
theorem Feed.en {W : Wd} {Hf : Hp} {S : Hp → List V → Prop} {vs : List V} {ds : List D} (hS : ∀ H', Sub Hf H' → S H' vs) (r : RpL W Hf vs ds) : Feed W (ItE S) Hf (enD ds) where
  go := fun i d H' Hf' e m s => by
    obtain ⟨x, e1, rfl⟩ := enD_get e
    obtain ⟨v, h1, rv⟩ := r.get e1
    have hq : S H' vs := hS H' fun b o q => s _ _ (m _ _ q)
    refine ⟨⟨vs, v, hq, h1⟩, fun y H3 ⟨T, ob, x', e2, hn, hT, e3, e4⟩ => ?_⟩
    subst e2 e3
    have := e4 vs hq
    rw [h1] at this; cases this
    have hTf : Hf' T = none := free_of s hT
    exact ⟨upd Hf' T (.frz ob (.tup [.int (i : Nat), v])), Ext.pair (W := W) s hT, .tup upd_same hn (.cons (.int _) (.cons (rv.mono fun b o q => by rw [upd_ne (ne_of_none (m _ _ q) hTf)]; exact m _ _ q) .nil))⟩
  stop := fun H' Hf' m s => ⟨vs, hS H' fun b o q => s _ _ (m _ _ q), by rw [r.length, enD_len]; exact Nat.le_refl _⟩
theorem rp_tup {W : Wd} {H : Hp} {v : V} {ds : List D} (r : Rp W H v (.tup ds)) : ∃ a ob vs, v = .ref a ∧ H a = some (.frz ob (.tup vs)) ∧ ob.dict = none ∧ RpL W H vs ds := by
  cases r with
  | tup h hn rl => exact ⟨_, _, _, rfl, h, hn, rl⟩
end Ev
/-! text Ev18 -/
set_option Elab.async false
set_option linter.all false
set_option maxRecDepth 100000
set_option maxHeartbeats 4000000

/-! ### t[::-1] of a tuple -/
namespace Ev
open PySem PySem.Spec PyProof.Rows HT
section
variable {prog : Program} {w : World} {A : Around} {E : Value → Shared → Prop} {s : Shared}
end
end Ev
namespace Ev
open PySem L2 PyProof.Rows
section
variable {X : Cx}
/-! ### list(range(..)), tuple(range(..)) -/
end
end Ev
/-! text Ev19 -/
set_option Elab.async false
set_option linter.all false
set_option maxRecDepth 100000
set_option maxHeartbeats 4000000
namespace Ev
open PySem L2 PySem.Spec PyProof.Rows

/-! ### isinstance -/
/-- the name of a built-in type of a thing -/
def tyD : D → Option String
  | .non => some "NoneType"
  | .bl _ => some "bool"
  | .int _ => some "int"
  | .str _ => some "str"
  | .tup _ => some "tuple"
  | .lst _ => some "list"
  | .dct false _ => some "dict"
  | _ => none
theorem RpB.ty {W : Wd} {H Hf : Hp} {v : V} {d : D} {n : String} (h : RpB W H Hf v d) (s : Sub Hf H) (e : tyD d = some n) : TyX W.K H v (.type n) := by
  cases d with
  | non => cases e; have q : Rp W Hf v .non := h; cases q; exact .base .non
  | bl b => cases e; have q : Rp W Hf v (.bl b) := h; cases q; exact .base (.bl _)
  | int b => cases e; have q : Rp W Hf v (.int b) := h; cases q; exact .base (.int _)
  | str b => cases e; have q : Rp W Hf v (.str b) := h; cases q; exact .base (.str _)
  | tup xs => cases e; obtain ⟨a, ob, vs, rfl, h1, _⟩ := rp_tup h; exact .fTuple (s _ _ h1)
  | lst xs => cases e; obtain ⟨a, vs, rfl, h1, _⟩ := h; exact .base (.lst h1)
  | dct t kvs =>
    cases t with
    | false => cases e; obtain ⟨a, vs, rfl, h1, _⟩ := h; exact .base (.dK h1)
    | true => cases e
  | obj c fs => cases e
  | scr ns => cases e
  | raw => cases e
  | gf x => cases e
  | exc c fs => cases e
/-- isinstance(x, T), T a built-in type's name -/
def isiF (n : String) (FA : Fr) : Fd := fun ρ => (FA ρ).bind fun x => (deref x.2 x.1).bind fun d => (tyD d).bind fun m => (kitB m n).map fun b => (.bl b, x.2)
section
variable {X : Cx} {e a b c o : Expr}
theorem px_isi {n : String} {x tn : Str} {FA : Fr} {p pt pos : Pos} (hg : Gl X x) (hm : X.mg x = none) (hx : x = "isinstance") (hgt : Gl X tn) (hmt : X.mg tn = none) (hvt : bootBuiltins tn = some (.type n)) (ha : PR X a FA) (hs : noStar a = true)
    (hn2 : tn ≠ "__name__") (hd2 : (tn == ("__debug__" : Str)) = false) :
    PD X (.Call (.Name x p) [a, .Name tn pt] [] pos) (isiF n FA) := by
  subst hx
  have hb : PE X (.Name tn pt) (tC (.ty n)) := pe_bltn hgt hmt hvt rfl hn2 hd2
  refine pe_imp (pe_callB call_isi hg hm (by rfl) (pa_cons ha (pa_cons hb pa_nil (starEach_cons rfl)) (starEach_cons hs)) (by decide) (by decide) (starEach_cons hs) (starEach_plain pos rfl)) fun σ H Q ⟨ρ, loc, Hf, r, ρ', s, hF, kk⟩ => ?_
  unfold isiF at hF
  obtain ⟨⟨y, ρ1⟩, q1, hF⟩ := Option.bind_eq_some_iff.mp hF
  obtain ⟨d, q2, hF⟩ := Option.bind_eq_some_iff.mp hF
  obtain ⟨m, q3, hF⟩ := Option.bind_eq_some_iff.mp hF
  obtain ⟨z, q4, q5⟩ := Option.map_eq_some_iff.mp hF
  cases q5
  refine ⟨ρ, loc, Hf, y, _, s, q1, fun v H1 Hf1 g1 s1 o1 => ?_⟩
  exact ⟨v, .ty n, .type m, .type n, z, rfl, .ty n, (deref_b s1 o1 q2).ty s1.sub q3, kit_ty q4, kk _ H1 Hf1 g1 s1 (.bl z)⟩
/-- the classes of a tuple -/
inductive Tys (X : Cx) : List Expr → List String → Prop where
  | nil : Tys X [] []
  | cons {n : String} {tn : Str} {pt : Pos} {es : List Expr} {ns : List String} (hgt : Gl X tn) (hmt : X.mg tn = none) (hvt : bootBuiltins tn = some (.type n)) (hn2 : tn ≠ "__name__") (hd2 : (tn == ("__debug__" : Str)) = false) (t : Tys X es ns) : Tys X (.Name tn pt :: es) (n :: ns)
def tTys (ns : List String) : TA := fun _ H Q => Q (ns.map V.ty) H
theorem Tys.pa {es : List Expr} {ns : List String} (h : Tys X es ns) : PA X es (tTys ns) := by
  induction h with
  | nil => exact pa_imp pa_nil fun σ H Q w => w
  | cons hgt hmt hvt hn2 hd2 t ih =>
    rename_i n tn pt es ns
    have hb : PE X (.Name tn pt) (tC (.ty n)) := pe_bltn hgt hmt hvt rfl hn2 hd2
    exact pa_imp (pa_cons hb ih (starEach_cons rfl)) fun σ H Q w => w
end

/-! ### index -/
section
variable {X : Cx} {e a b c o : Expr}
/-- a method of a tracked tuple -/
def tBMT (r : V → List V → Hp → VK → Prop) (to : TE) (t : TA) : TE := fun σ H Q => to σ H fun x H1 => (∃ p ob xs, x = .ref p ∧ H1 p = some (.frz ob (.tup xs)) ∧ ob.dict = none) ∧ t σ H1 fun xs H2 => r x xs H2 Q
theorem pe_bmT {name : Str} {id : String} {es : List Expr} {to : TE} {t : TA} {apos cpos : Pos} {r : V → List V → Hp → VK → Prop} (slot : Slot "tuple" name id) (hty : typeOf (.builtin id) = pure (.type "method_descriptor")) (hm : MtR X id r) (ho : PE X o to) (ha : PA X (e :: es) t)
    (hr : plainRecv o = true) (hs : (e :: es).all noStar = true) (h30 : (e :: es).length < 29) (hline : (apos.endLine == cpos.line) = true) : PE X (.Call (.Attribute o name apos) (e :: es) [] cpos) (tBMT r to t) := by
  have hs2 := hs
  rw [List.all_cons, Bool.and_eq_true] at hs2
  refine ⟨fun pins s σ H Q I h => ?_⟩
  refine wpAny_Call_method_late (recv_base hr) (few_of hs h30) hline rfl (thn (ho.run pins s σ H _ I h) fun v s1 ⟨x, H1, I1, r1, ty, q1⟩ => ?_)
  obtain ⟨p, ob, xs, rfl, hp, hn⟩ := ty
  cases r1
  obtain ⟨g1, _, its, rv, o2, g2, g3, g4⟩ := (show ObjOk X.prog X.w H1 s1.heap p (.frz ob (.tup xs)) from I1.hok p _ hp)
  refine ⟨"tuple", id, PySem.F.plainAttrs_tuple, slot, hty, ⟨o2, g2, g3⟩, fun a ea => by cases ea; exact ⟨ob, g1, hn⟩, ?_⟩
  have hA := ha.run cpos pins s1 σ H1 _ I1 q1
  rw [starEach_cons hs2.1] at hA ⊢
  refine Calls.callWith_builtin (by show (false || (backTo cpos (starEach es X.env)).any (·.1)) = false; rw [starEach_plain cpos hs2.2] <;> rfl) (Calls.evalArgs_plain ?_)
  exact thn hA fun us s2 ⟨vs, H2, I2, r2, q2⟩ => hm pins s2 σ H2 (.ref p) vs (.ref p) us Q I2 rfl r2 q2
def isLst : D → Bool
  | .lst _ => true
  | _ => false
def isTup : D → Bool
  | .tup _ => true
  | _ => false
theorem isLst_eq {d : D} (h : isLst d = true) : ∃ xs, d = .lst xs := by
  cases d <;> first | exact ⟨_, rfl⟩ | cases h
theorem isTup_eq {d : D} (h : isTup d = true) : ∃ xs, d = .tup xs := by
  cases d <;> first | exact ⟨_, rfl⟩ | cases h
/-! ### repr -/
def reprOk (d : D) : Bool := (py d).canLay0 && (py d).showable && decide ((py d).depth ≤ 100) && decide ((py d).shown.length ≤ sizeLine)
def isRef : D → Bool
  | .tup _ => true
  | .lst _ => true
  | _ => false
def reprD : List D → Option Rv
  | [.int i] => if i.natAbs.log2 < 1920 then some (.imm (.str (py (.int i)).shown)) else none
  | [d] => if isRef d = true ∧ reprOk d = true then some (.imm (.str (py d).shown)) else none
  | _ => none
def rRepr (K : PySem.W.Frag) : List V → Hp → VK → Prop := fun xs H Q => (∃ i, xs = [.int i] ∧ i.natAbs.log2 < 1920 ∧ Q (.str (toString i)) H) ∨ ∃ a d, xs = [.ref a] ∧ Dp K H (.ref a) d ∧ d.canLay0 = true ∧ d.showable = true ∧ d.depth ≤ 100 ∧ d.shown.length ≤ sizeLine ∧ Q (.str d.shown) H
theorem call_reprD {k : Nat} (q : Cq X k) : CallR X (.builtin "repr") (rRepr X.K) := by
  intro pins s σ H xs us Q I r h
  rcases h with ⟨i, rfl, hz, q1⟩ | ⟨a, d, rfl, hd, h1, h2, h3, h4, q1⟩
  · obtain ⟨u, rfl, t, rfl⟩ := vals1 r
    exact PySem.P.repr_of_int hz ⟨.str _, H, I.tok _, ⟨_, rfl⟩, q1⟩
  · obtain ⟨u, rfl, ru⟩ := vals1 r
    cases ru
    obtain ⟨as, rd⟩ := Dp.reads I d _ _ hd rfl
    refine repr_of_reads' rd h2 (PyData.noDict_hsm (PyData.hasDict_of_canLay d h1)) q.gd (by have := q.room.un; omega) (fun _ _ e => e) (fun h' u tk hk => ?_) h4
    exact ⟨.str d.shown, H, I.kept hk, ⟨u, rfl⟩, q1⟩
theorem dc_repr {W : Wd} : DCall W (rRepr W.K) reprD := fun vs ds z H Hf Q s a q k => by
  unfold reprD at q
  split at q
  · rename_i i
    split at q
    · rename_i hz
      cases q
      obtain ⟨v, rfl, b⟩ := a.one
      cases b
      exact .inl ⟨i, rfl, hz, k _ H Hf (.refl s) (.str _)⟩
    · cases q
  · rename_i d _
    split at q
    · rename_i hc
      cases q
      obtain ⟨v, rfl, b⟩ := a.one
      obtain ⟨hr, hc⟩ := hc
      unfold reprOk at hc
      simp only [Bool.and_eq_true, decide_eq_true_eq] at hc
      obtain ⟨⟨⟨c1, c2⟩, c3⟩, c4⟩ := hc
      have dp := (b.up s).dp c1
      have hv : ∃ p, v = .ref p := by
        cases d with
        | tup xs => obtain ⟨p, _, _, e, _⟩ := rp_tup b; exact ⟨p, e⟩
        | lst xs => obtain ⟨p, _, e, _⟩ := b; exact ⟨p, e⟩
        | _ => cases hr
      obtain ⟨p, rfl⟩ := hv
      exact .inr ⟨p, _, rfl, dp, c1, c2, c3, c4, k _ H Hf (.refl s) (.str _)⟩
    · cases q
  · cases q
end
end Ev
/-! text Ev20 -/
set_option Elab.async false
set_option linter.all false
set_option maxRecDepth 100000
set_option maxHeartbeats 4000000
namespace Ev
open PySem L2

/-! ### several values at once, each may be an object of one's own -/
inductive RvsOk (W : Wd) (H H' Hf' : Hp) : List V → List Rv → List Addr → Prop
  | nil : RvsOk W H H' Hf' [] [] []
  | imm {v : V} {d : D} {vs : List V} {rs : List Rv} {as : List Addr} : Rp W Hf' v d → RvsOk W H H' Hf' vs rs as → RvsOk W H H' Hf' (v :: vs) (.imm d :: rs) as
  | own {p : Addr} {c : C} {vs : List V} {rs : List Rv} {as : List Addr} : H p = none → Hf' p = none → OwnAt W H' Hf' p c → p ∉ as → RvsOk W H H' Hf' vs rs as → RvsOk W H H' Hf' (.ref p :: vs) (.own c :: rs) (p :: as)
  | mix {v : V} {pre xs post : List D} {vs : List V} {rs : List Rv} {as : List Addr} : RvsOk W H H' Hf' vs rs as → RvsOk W H H' Hf' (v :: vs) (.mix pre xs post :: rs) as
theorem RvsOk.new {W : Wd} {H H' Hf' : Hp} : ∀ {vs : List V} {rs : List Rv} {as : List Addr}, RvsOk W H H' Hf' vs rs as → ∀ q ∈ as, H q = none
  | _, _, _, .nil => fun q h => by simp at h
  | _, _, _, .imm _ t => t.new
  | _, _, _, .mix t => t.new
  | _, _, _, .own h _ _ _ t => fun q hq => by
    rcases List.mem_cons.mp hq with z | z
    · exact z ▸ h
    · exact t.new q z
theorem RvsOk.back {W : Wd} {H H0 H' Hf' : Hp} (t : ∀ a, H a = none → H0 a = none) : ∀ {vs : List V} {rs : List Rv} {as : List Addr}, RvsOk W H H' Hf' vs rs as → RvsOk W H0 H' Hf' vs rs as
  | _, _, _, .nil => .nil
  | _, _, _, .imm r q => .imm r (q.back t)
  | _, _, _, .mix q => .mix (q.back t)
  | _, _, _, .own h a b c q => .own (t _ h) a b c (q.back t)
theorem RvsOk.len {W : Wd} {H H' Hf' : Hp} : ∀ {vs : List V} {rs : List Rv} {as : List Addr}, RvsOk W H H' Hf' vs rs as → vs.length = rs.length
  | _, _, _, .nil => rfl
  | _, _, _, .imm _ t => congrArg (· + 1) t.len
  | _, _, _, .mix t => congrArg (· + 1) t.len
  | _, _, _, .own _ _ _ _ t => congrArg (· + 1) t.len
/-- a new thing apart -/
theorem RvsOk.ext {W : Wd} {H H1 Hf1 H2 : Hp} (k : ∀ a o, H1 a = some o → H2 a = some o) : ∀ {vs : List V} {rs : List Rv} {as : List Addr}, RvsOk W H H1 Hf1 vs rs as → RvsOk W H H2 Hf1 vs rs as
  | _, _, _, .nil => .nil
  | _, _, _, .imm r q => .imm r (q.ext k)
  | _, _, _, .mix q => .mix (q.ext k)
  | _, _, _, .own h a b c q => .own h a (b.mono (fun o z _ => k _ _ z) fun _ _ z => z) c (q.ext k)
section
variable {X : Cx} {e : Expr} {es : List Expr}
end
section
variable {W : Wd} {ρ ρ1 ρ2 : Env} {loc loc1 : Loc} {σ0 σ σ1 : St} {H Hf H' Hf' : Hp}
end
section
variable {X : Cx} {a b c : Expr}
end
end Ev
/-! text Ev21 -/
set_option Elab.async false
set_option linter.all false
set_option maxRecDepth 100000
set_option maxHeartbeats 4000000
namespace Ev
open PySem L2

/-! ### what a text's walk is written with -/
structure Th where
  P : Program
  w : World
  K : PySem.W.Frag
  mg : Str → Option Value
  base : Heap
abbrev Th.W (Θ : Th) : Wd := ⟨Θ.K, Θ.mg, Θ.P, Θ.w⟩
def okSt (sc : Scope) (x : Str) : Bool := match sc.names.lookup x with
  | some .local => true
  | some .cell => true
  | _ => false
/-- sc: the scope as it is looked up, s0: as it is written (its own names may be stored) -/
structure In (Θ : Th) (N : List Str) (sc s0 : Scope) (k : Nat) (X : Cx) : Prop where
  prog : X.prog = Θ.P
  w : X.w = Θ.w
  K : X.K = Θ.K
  mg : X.mg = Θ.mg
  base : X.base = Θ.base
  N : X.N = N
  sc : X.env.scope = sc
  q : Cq X k
  st : ∀ x, okSt s0 x = true → L2.Loc X.env.scope x ∧ (X.fn x = true ∨ X.env.scope.names.lookup x = some .local)
theorem okSt_loc {sc : Scope} {x : Str} (h : okSt sc x = true) : L2.Loc sc x := by
  unfold okSt at h
  split at h
  · rename_i e; exact .inl e
  · rename_i e; exact .inr e
  · cases h
section
variable {Θ : Th} {N : List Str} {sc s0 : Scope} {k : Nat} {X : Cx}
theorem In.body {st : Stmt} (h1 : X.prog = Θ.P) (h2 : X.w = Θ.w) (h3 : X.K = Θ.K) (h4 : X.mg = Θ.mg) (h5 : X.base = Θ.base) (h6 : X.N = N) (h7 : X.env.scope = defScope st) (q : Cq X k) (hf : ∀ x, X.fn x = true) : In Θ N (defScope st) (defScope st) k X :=
  ⟨h1, h2, h3, h4, h5, h6, h7, q, fun x h => ⟨by rw [h7]; exact okSt_loc h, .inl (hf x)⟩⟩
theorem lookup_rel {scope sc : Scope} {x : Str} {kd : NameKind} (hk : kd ≠ .free) : ∀ {names : List (Str × NameKind)}, names.lookup x = some kd →
    (names.map fun (n, k) => if (k == NameKind.free && sc.kind == .function && sc.names.lookup n == some .cell) then (n, NameKind.cell) else (n, k)).lookup x = some kd
  | [], h => by simp at h
  | (n, k) :: r, h => by
    have ih := @lookup_rel scope sc x kd hk r
    show List.lookup x ((if (k == NameKind.free && sc.kind == .function && sc.names.lookup n == some .cell) = true then (n, NameKind.cell) else (n, k)) :: _) = _
    cases hx : x == n with
    | true =>
      simp only [List.lookup_cons, hx] at h
      cases h
      have hk' : (kd == NameKind.free) = false := by cases kd <;> first | rfl | exact absurd rfl hk
      rw [hk']
      simp [List.lookup_cons, hx]
    | false =>
      simp only [List.lookup_cons, hx] at h
      by_cases hc : (k == NameKind.free && sc.kind == .function && sc.names.lookup n == some .cell) = true
      · rw [if_pos hc]; simp only [List.lookup_cons, hx]; exact ih h
      · rw [if_neg hc]; simp only [List.lookup_cons, hx]; exact ih h
theorem In.blk (I : In Θ N sc s0 k X) (scope : Scope) (s : Shared) (H : Hp) (C : Addr) (cl : List (Str × Addr)) (fp : List Addr) : In Θ N (relS scope sc) scope k (X.blk s H scope (compEnvC scope cl C X.env) fp) where
  prog := I.prog
  w := I.w
  K := I.K
  mg := I.mg
  base := I.base
  N := I.N
  sc := by
    show relabel scope X.env = relS scope sc
    rw [← I.sc]; rfl
  q := I.q.blk s H scope _ fp
  st := fun x h => by
    have e : (X.blk s H scope (compEnvC scope cl C X.env) fp).env.scope = relS scope X.env.scope := rfl
    rw [e]
    rcases okSt_loc h with z | z
    · have := lookup_rel (scope := scope) (sc := X.env.scope) (x := x) (kd := .local) (by decide) z
      exact ⟨.inl this, .inr this⟩
    · have := lookup_rel (scope := scope) (sc := X.env.scope) (x := x) (kd := .cell) (by decide) z
      refine ⟨.inr this, .inl ?_⟩
      show (scope.names.lookup x == some .cell) = true
      rw [z]; rfl

/-- a name that is read, in slot i -/
def visB (N : List Str) (sc : Scope) (i : Nat) (x : Str) : Bool := decide (N[i]? = some x) && (match sc.names.lookup x with
  | some .local => true
  | some .cell => true
  | some .free => true
  | _ => false) && !(x == ("__debug__" : Str)) && !(x == ("__classdict__" : Str))
def stB (N : List Str) (s0 : Scope) (i : Nat) (x : Str) : Bool := decide (N[i]? = some x) && okSt s0 x
def glB (sc : Scope) (x : Str) : Bool := decide (sc.names.lookup x = some .globalImplicit)
def locB (N : List Str) (sc : Scope) (i : Nat) (x : Str) : Bool := decide (N[i]? = some x) && decide (sc.names.lookup x = some .local)
theorem In.pv (I : In Θ N sc s0 k X) {i : Nat} {x : Str} {pos : Pos} (h : visB N sc i x = true) : PE X (.Name x pos) (tVar i) := by
  unfold visB at h
  simp only [Bool.and_eq_true, decide_eq_true_eq, Bool.not_eq_true'] at h
  obtain ⟨⟨⟨h1, h2⟩, h3⟩, h4⟩ := h
  refine pe_var (by rw [I.N]; exact h1) ?_ h3 h4
  unfold Vis
  rw [I.sc]
  split at h2
  · rename_i e; exact .inl e
  · rename_i e; exact .inr (.inl e)
  · rename_i e; exact .inr (.inr e)
  · cases h2
theorem In.gl (I : In Θ N sc s0 k X) {x : Str} (h : glB sc x = true) : Gl X x := by
  unfold Gl PySem.Env.kindOf
  rw [I.sc]
  exact of_decide_eq_true h
theorem In.st2 (I : In Θ N sc s0 k X) {i : Nat} {x : Str} (h : stB N s0 i x = true) : X.N[i]? = some x ∧ L2.Loc X.env.scope x ∧ (X.fn x = true ∨ X.env.scope.names.lookup x = some .local) := by
  unfold stB at h
  rw [Bool.and_eq_true, decide_eq_true_eq] at h
  exact ⟨by rw [I.N]; exact h.1, I.st x h.2⟩
theorem In.loc2 (I : In Θ N sc s0 k X) {i : Nat} {x : Str} (h : locB N sc i x = true) : X.N[i]? = some x ∧ X.env.scope.names.lookup x = some .local := by
  unfold locB at h
  rw [Bool.and_eq_true, decide_eq_true_eq, decide_eq_true_eq] at h
  exact ⟨by rw [I.N]; exact h.1, by rw [I.sc]; exact h.2⟩
theorem In.m0 (I : In Θ N sc s0 k X) {x : Str} (h : Θ.mg x = none) : X.mg x = none := by rw [I.mg]; exact h
theorem In.hu (I : In Θ N sc s0 k X) : X.A.units + 65 < cLine := by have := I.q.room.un; omega

/-! names, constants -/
theorem s_r (I : In Θ N sc s0 k X) {i : Nat} {x : Str} {pos : Pos} (h : visB N sc i x = true) : PR X (.Name x pos) (varR i) := pr_var (I.pv h)
theorem s_d (I : In Θ N sc s0 k X) {i : Nat} {x : Str} {pos : Pos} (h : visB N sc i x = true) : PD X (.Name x pos) (varD i) := pd_var (I.pv h)
theorem s_int {i : Int} {j pos} : PD X (.Constant (.int i) j pos) (constF (.int i)) := pd_const pe_int fun _ _ => .int i
theorem s_str {x : Str} {j pos} : PD X (.Constant (.str x) j pos) (constF (.str x)) := pd_const pe_str fun _ _ => .str x
theorem s_bl {b : Bool} {j pos} : PD X (.Constant (.bool b) j pos) (constF (.bl b)) := pd_const pe_bl fun _ _ => .bl b
theorem s_non {j pos} : PD X (.Constant .none j pos) (constF .non) := pd_const pe_non fun _ _ => .non
/-- a module's constant -/
structure GlC (Θ : Th) (x : Str) (v : V) : Prop where
  ex : ∃ u, Θ.mg x = some u ∧ RelV v u
theorem s_gint (I : In Θ N sc s0 k X) {x : Str} {i : Int} {pos : Pos} (hg : glB sc x = true) (c : GlC Θ x (.int i)) (hd : (x == ("__debug__" : Str)) = false) : PD X (.Name x pos) (constF (.int i)) := by
  obtain ⟨u, h1, h2⟩ := c.ex
  exact pd_const (pe_glob (I.gl hg) (by rw [I.mg]; exact h1) h2 hd) fun _ _ => .int i
/-! operators -/
section
variable {a b c e o : Expr} {FA FB FC : Fr} {pos : Pos}
theorem s_add (ha : PR X a FA) (hb : PR X b FB) : PX X (.BinOp a .Add b pos) (binF addD FA FB) := px_bin op_addD (dop_add (W := wd X)) ha hb
theorem s_sub (ha : PR X a FA) (hb : PR X b FB) : PX X (.BinOp a .Sub b pos) (binF (intOp subI) FA FB) := px_bin op_subD (dop_sub (W := wd X)) ha hb
theorem s_mul (ha : PR X a FA) (hb : PR X b FB) : PX X (.BinOp a .Mult b pos) (binF mulD' FA FB) := px_bin op_mulD (dop_mul (W := wd X)) ha hb
theorem s_fdiv (ha : PR X a FA) (hb : PR X b FB) : PX X (.BinOp a .FloorDiv b pos) (binF (intOp fdivI) FA FB) := px_bin op_fdivD (dop_fdiv (W := wd X)) ha hb
theorem s_mod (ha : PR X a FA) (hb : PR X b FB) : PX X (.BinOp a .Mod b pos) (binF (intOp modI) FA FB) := px_bin op_modN (dop_mod (W := wd X)) ha hb
theorem s_pow (ha : PR X a FA) (hb : PR X b FB) : PX X (.BinOp a .Pow b pos) (binF (intOp powI) FA FB) := px_bin op_pow (dop_pow (W := wd X)) ha hb
theorem s_neg {i : Int} {j p2 : _} : PD X (.UnaryOp .USub (.Constant (.int i) j p2) pos) (constF (.int (-i))) := pe_imp (pe_un un_neg pe_int) fun σ H Q ⟨ρ, loc, Hf, d', ρ', s, hF, k⟩ => by
  cases hF
  exact ⟨i, rfl, k _ H Hf .refl s (.int _)⟩
/-- the comparisons' rules, as one -/
structure CmpR (op : CmpOp) (f : D → D → Option Bool) : Prop where
  ex : ∀ X : Cx, X.A.units + 65 < cLine → ∃ r, OpR X (compareOp op) r ∧ DOpB (wd X) r f
  nm : ∀ b, behindInMarks op b = false
theorem c_ne : CmpR .NotEq neD := ⟨fun X hu => ⟨_, op_ne.or (op_neD (by omega)), dop_ne (W := wd X)⟩, fun b => nomark b⟩
theorem sb_cmp (I : In Θ N sc s0 k X) {op : CmpOp} {f : D → D → Option Bool} (c : CmpR op f) (ha : PR X a FA) (hb : PR X b FB) : PB X (.Compare a [op] [b] pos) (binB f FA FB) := by
  obtain ⟨r, h1, h2⟩ := c.ex X I.hu
  exact pb_cmp h1 h2 ha hb (c.nm b)
theorem sd_cmp (I : In Θ N sc s0 k X) {op : CmpOp} {f : D → D → Option Bool} (c : CmpR op f) (ha : PR X a FA) (hb : PR X b FB) : PD X (.Compare a [op] [b] pos) (boolF (binB f FA FB)) := by
  obtain ⟨r, h1, h2⟩ := c.ex X I.hu
  exact pd_cmp h1 h2 ha hb (c.nm b)
theorem s_ix (I : In Θ N sc s0 k X) (ha : PR X a FA) (hb : PR X b FB) (hp : plainIx b = true) : PX X (.Subscript a b pos) (binF ixD FA FB) := px_ix (hu_of I.q.room) ha hb hp
end
end
end Ev
/-! text Ev22 -/
set_option Elab.async false
set_option linter.all false
set_option maxRecDepth 100000
set_option maxHeartbeats 4000000
namespace Ev
open PySem L2
theorem MtM.toR {X : Cx} {id : String} {r : V → List V → Hp → VK → Prop} (h : MtM X id r) : MtR X id r := h
section
variable {Θ : Th} {N : List Str} {sc s0 : Scope} {k : Nat} {X : Cx} {a b c e o : Expr} {es : List Expr} {FA FB FC : Fr} {FAs : Fa} {p pos : Pos}
/-! the tests' arms -/
/-- a test that is a BoolOp -/
theorem sb_w {F : Ft} (h : PW X e (tT (wd X) F)) : PB X e F := h.pt

/-! calls of built-ins -/
structure BltR (x : Str) (f : List D → Option Rv) : Prop where
  ex : ∀ (X : Cx) (k : Nat), Cq X k → (∃ id r, CallR X (.builtin id) r ∧ DCall (wd X) r f ∧ bootBuiltins x = some (.builtin id)) ∨ ∃ T r, CallR X (.type T) r ∧ DCall (wd X) r f ∧ bootBuiltins x = some (.type T)
  nn : x ≠ "__name__"
  nd : (x == ("__debug__" : Str)) = false
theorem s_blt (I : In Θ N sc s0 k X) {x : Str} {f : List D → Option Rv} (B : BltR x f) (hg : glB sc x = true) (hm : Θ.mg x = none) (ha : PAs X (e :: es) FAs) (hs : (e :: es).all noStar = true) : PX X (.Call (.Name x p) (e :: es) [] pos) (callF f FAs) := by
  rcases B.ex X k I.q with ⟨id, r, h1, h2, h3⟩ | ⟨T, r, h1, h2, h3⟩
  · exact px_callB h1 h2 (I.gl hg) (I.m0 hm) h3 ha hs B.nn B.nd
  · exact px_callTy h1 h2 (I.gl hg) (I.m0 hm) h3 ha hs B.nn B.nd
theorem b_len : BltR "len" lenD := ⟨fun X k q => .inl ⟨_, _, call_len, dc_len (W := wd X), by rfl⟩, by decide, by decide⟩
theorem b_list : BltR "list" listD := ⟨fun X k q => .inr ⟨_, _, call_list_of, dc_list (W := wd X), by rfl⟩, by decide, by decide⟩
theorem b_tuple : BltR "tuple" tupleD := ⟨fun X k q => .inr ⟨_, _, cr_tupF, dc_tuple (W := wd X), by rfl⟩, by decide, by decide⟩
/-! own forms -/
theorem s_isi (I : In Θ N sc s0 k X) {n : String} {tn : Str} {pt : Pos} (hg : glB sc "isinstance" = true) (hm : Θ.mg "isinstance" = none) (hgt : glB sc tn = true) (hmt : Θ.mg tn = none) (hvt : bootBuiltins tn = some (.type n)) (ha : PR X a FA) (hs : noStar a = true)
    (hn2 : tn ≠ "__name__") (hd2 : (tn == ("__debug__" : Str)) = false) : PD X (.Call (.Name "isinstance" p) [a, .Name tn pt] [] pos) (isiF n FA) := px_isi (I.gl hg) (I.m0 hm) rfl (I.gl hgt) (I.m0 hmt) hvt ha hs hn2 hd2
theorem s_rg1 (I : In Θ N sc s0 k X) {tg : Expr} (hg : glB sc "range" = true) (hm : Θ.mg "range" = none) (ha : PAs X [a] FAs) (hs : noStar a = true) : PIt X tg (.Call (.Name "range" p) [a] [] pos) (rngF rng1 FAs) := pit_rng1 (I.gl hg) (I.m0 hm) ha hs
/-! methods -/
theorem s_append {FL : Fl} {apos : Pos} (ho : PR X o FA) (ha : PLs X [e] FL) (hr : plainRecv o = true) (hs : ([e] : List Expr).all noStar = true) (hl : (apos.endLine == pos.line) = true) : PX X (.Call (.Attribute o "append" apos) [e] [] pos) (mutF appendG FA FL) :=
  px_mut PySem.F.slot_list_append PySem.F.type_list_append (MtM.toR mt_append) (dm_append (W := wd X)) ho ha hr hs (by simp) hl
end
end Ev
/-! text Ev23 -/
set_option Elab.async false
set_option linter.all false
set_option maxRecDepth 100000
set_option maxHeartbeats 4000000
namespace Ev
open PySem L2

/-! ### defs of the text -/
structure FnAt (Θ : Th) (x : Str) (n : Nat) (ks : List Str) (k : Nat) (F : Fn) : Prop where
  ex : ∃ f, Θ.mg x = some (.ref f) ∧ PySem.W.keepIn Θ.K (.ref f) = true ∧ CallOk Θ.P Θ.w Θ.K Θ.mg Θ.base k f n ks (spF Θ.W F)
theorem FnAt.mono {Θ : Th} {x : Str} {n : Nat} {ks : List Str} {j k : Nat} {F : Fn} (c : FnAt Θ x n ks j F) (h : j ≤ k) : FnAt Θ x n ks k F :=
  let ⟨f, h1, h2, h3⟩ := c.ex
  ⟨f, h1, h2, h3.mono h⟩
/-- the def st stands there under the name x -/
structure DefB (Θ : Th) (x qual : Str) (st : Stmt) (N ps : List Str) (n : Nat) (ks : List Str) (gV : List V → List V) (gA : List Ar → List Ar) : Prop where
  ex : ∃ f, Θ.mg x = some (.ref f) ∧ PySem.W.keepIn Θ.K (.ref f) = true ∧ DefAt Θ.K f qual st N ps n ks gV
  g : GOk gV gA
theorem mkFn {Θ : Th} {x qual : Str} {st : Stmt} {N ps : List Str} {n k : Nat} {ks : List Str} {gV : List V → List V} {gA : List Ar → List Ar} {B : Fs} (D : DefB Θ x qual st N ps n ks gV gA)
    (hb : ∀ X, In Θ N (defScope st) (defScope st) k X → PSts X (defBody st) B) : FnAt Θ x n ks (k + 1) (fun as => bodyF N.length ps.length B (gA as)) := by
  obtain ⟨f, h1, h2, d⟩ := D.ex
  exact ⟨f, h1, h2, def_ok d D.g fun X a b c d e f g q hf => hb X (.body a b c d e f g q hf)⟩

section
variable {Θ : Th} {N : List Str} {sc s0 : Scope} {k : Nat} {X : Cx} {a b c e o : Expr} {es : List Expr} {FA FB FC : Fr} {FAs : Fa} {p pos : Pos}
theorem In.call (I : In Θ N sc s0 k X) {x : Str} {n j : Nat} {ks : List Str} {F : Fn} (c : FnAt Θ x n ks j F) (hj : j ≤ k) : ∃ f, X.mg x = some (.ref f) ∧ PySem.W.keepIn X.K (.ref f) = true ∧ CallOk X.prog X.w X.K X.mg X.base k f n ks (spF (wd X) F) := by
  obtain ⟨f, h1, h2, h3⟩ := c.ex
  have e : wd X = Θ.W := by
    show (⟨X.K, X.mg, X.prog, X.w⟩ : Wd) = ⟨Θ.K, Θ.mg, Θ.P, Θ.w⟩
    rw [I.K, I.mg, I.prog, I.w]
  refine ⟨f, by rw [I.mg]; exact h1, by rw [I.K]; exact h2, ?_⟩
  rw [e, I.prog, I.w, I.K, I.mg, I.base]
  exact h3.mono hj
theorem s_call (I : In Θ N sc s0 k X) {x : Str} {j : Nat} {F : Fn} (c : FnAt Θ x (e :: es).length [] j F) (hj : j ≤ k) (hg : glB sc x = true) (ha : PAs X (e :: es) FAs) (hs : (e :: es).all noStar = true) (hdb : (x == ("__debug__" : Str)) = false) :
    PX X (.Call (.Name x p) (e :: es) [] pos) (userF (e :: es).length F FAs) := by
  obtain ⟨f, h1, h2, h3⟩ := I.call c hj
  exact px_call I.q (I.gl hg) h1 h2 h3 ha hs hdb
/-! statements -/
theorem s_set (I : In Θ N sc s0 k X) {i : Nat} {x : Str} {F : Fe} {pos' : Pos} (h : stB N s0 i x = true) (he : PX X e F) (hs : swapsWith e (some (.Name x pos')) pos.line X.env = pure false) : PSt X (.Assign [.Name x pos'] e pos) (setS i F) := by
  obtain ⟨h1, h2, h3⟩ := I.st2 h
  exact pst_set I.q h1 h2 h3 he hs
theorem s_nm (I : In Θ N sc s0 k X) {i : Nat} {x : Str} (h : stB N s0 i x = true) : PG X (.Name x p) (tG (wd X) (.nm i)) := by
  obtain ⟨h1, h2, h3⟩ := I.st2 h
  exact pgt_name (pg_name I.q.nd h1 h2 h3)
theorem noStarT_cons {es : List Expr} {env : PySem.Env} (h : noStar e = true) : (assignEach (e :: es) env).map (·.2) = assign e env :: (assignEach es env).map (·.2) := by
  cases e <;> first | rfl | cases h
theorem assignEach_len {env : PySem.Env} : ∀ {es : List Expr}, (assignEach es env).length = es.length
  | [] => rfl
  | e :: es => by
    have ih := @assignEach_len env es
    cases e <;> exact congrArg (· + 1) ih
theorem assignEach_plain {env : PySem.Env} : ∀ {es : List Expr}, es.all noStar = true → (assignEach es env).findIdx? (·.1) = none
  | [], _ => rfl
  | e :: es, h => by
    rw [List.all_cons, Bool.and_eq_true] at h
    have ih := @assignEach_plain env es h.2
    have : ∃ u, assignEach (e :: es) env = (false, u) :: assignEach es env := by
      obtain ⟨h1, _⟩ := h
      cases e <;> first | exact ⟨_, rfl⟩ | cases h1
    obtain ⟨u, hu⟩ := this
    rw [hu, List.findIdx?_cons]
    simp [ih]
theorem s_for (I : In Θ N sc s0 k X) {tg : Expr} {t : Tg} {FI : Fi} {B : Fs} {body : List Stmt} (hi : PIt X tg e FI) (hg : PG X tg (tG (wd X) t)) (hb : PSts X body B) (hs : ∀ x, foldedSetIterable e X.env x = pure x) : PSt X (.For tg e body [] pos) (forS t FI B) :=
  pst_for I.q.own I.q.calm hi hg hb hs
theorem s_comp (I : In Θ N sc s0 k X) {tg iter elt : Expr} {t : Tg} {FI : Fi} {T : Ft} {FE : Fd} {ifs : List Expr} {scope : Scope} {own : List (Str × Nat)} (hi : PIt X tg iter FI) (ok : blkC N sc scope own = true)
    (hb : ∀ Y, In Θ N (relS scope sc) scope k Y → PG Y tg (tG (wd Y) t) ∧ PTs Y ifs (tT (wd Y) T) ∧ PD Y elt FE) (hs : ∀ x, foldedSetIterable iter X.env x = pure x) : PX X (.ListComp elt [⟨tg, iter, ifs, 0⟩] scope pos) (compF t FI T FE (own.map (·.2))) :=
  px_comp I.q hi (by rw [I.N, I.sc]; exact ok) (fun s H C cl fp => hb _ (I.blk scope s H C cl fp)) hs
theorem s_yes {Y : Cx} : PTs Y [] (tT (wd Y) yesT) := by
  refine ⟨fun pins s σ H Q I h => ?_⟩
  obtain ⟨ρ, loc, Hf, r, ρ', s, hF, kk⟩ := h
  cases hF
  exact pts_nil.run pins _ σ H Q I (kk H Hf .refl s)
theorem s_dput (I : In Θ N sc s0 k X) {FV FK : Fd} {FR : Fr} {i value : Expr} {pos' : Pos} (ho : PR X o FR) (hi : PD X i FK) (hv : PD X value FV) (hs : swapsWith value (some (.Subscript o i pos')) pos.line X.env = pure false) : PSt X (.Assign [.Subscript o i pos'] value pos) (dputS FV FR FK) := pst_dput I.q ho hi hv hs
end
end Ev
/-! text Ev24 -/
set_option Elab.async false
set_option linter.all false
set_option maxRecDepth 100000
set_option maxHeartbeats 4000000
namespace Ev
open PySem L2
theorem psts_one {X : Cx} {st : Stmt} {F : Fs} (h : PSt X st F) : PSts X [st] F := pss_one h
end Ev
namespace Ev
open PySem L2
end Ev
/-! text Ev25 -/
set_option Elab.async false
set_option linter.all false
set_option maxRecDepth 100000
set_option maxHeartbeats 4000000
namespace Ev
open PySem PySem.Spec PyProof.Rows L2

/-! ### the law's end -/
theorem tabs_no {W : Wd} {H Hf : Hp} (h : lamNames = []) : TabsOk W H Hf := fun p hp => by
  unfold lamT at hp
  rw [h] at hp
  cases hp
theorem law_callD {P : Program} {w : World} {K : PySem.W.Frag} {mg mb : Str → Option Value} {k : Nat} {fa a : Addr} {s₁ : Shared} {vs : List Value} {ns : List Int} {F : Fn}
    (hno : lamNames = []) (KX : K.In s₁.heap) (hns : s₁.heap.Ns mainGlobals mg) (hb : s₁.heap.Ns builtinsNs mb) (hbb : ∀ x : Str, x ≠ "__name__" → mb x = bootBuiltins x) (hlim : s₁.heap.NoLimit) (hg : s₁.gens = #[])
    (ha : s₁.heap.get? a = some { cls := .type "list", data := .seq vs.toArray }) (hi : IntsAre vs ns) (hl : ns.length ≤ sizeLine) (hr : Room k callerA)
    (C : ∀ base : Heap, K.In base → base.Ns mainGlobals mg → CallOk P w K mg base k fa 1 [] (spF ⟨K, mg, P, w⟩ F)) (hF : F [.imm (.scr ns)] = some (.imm (.bl true), [])) :
    codeAny (model P w) callerA (.call (.ref fa) ⟨[.ref a], []⟩) (fun r s' => r = .ok (.ret (.bool true)) ∧ OldK s₁.heap s'.heap ∧ s'.os = s₁.os ∧ AllBare s'.gens) s₁ := by
  have rv := vals_ints hi
  have lenV := hi.length
  have core : ∀ H : Hp, Only H → SqL K H a (ns.map V.int) → HOk P w H s₁.heap → (∀ b, H b ≠ none → b = a) → (H a ≠ none → K.lookup a = none) →
      codeAny (model P w) callerA (.call (.ref fa) ⟨[.ref a], []⟩) (fun r s' => r = .ok (.ret (.bool true)) ∧ OldK s₁.heap s'.heap ∧ s'.os = s₁.os ∧ AllBare s'.gens) s₁ := by
    intro H hO hS hok hA hK
    have atA : ∀ {b : Addr} {u : HO}, H b = some u → b = a := fun {b u} q => hA b (by rw [q]; simp)
    have base_of : ∀ {b : Addr} {o : Obj}, s₁.heap.get? b = some o → H b = none → (hidT s₁.heap H).get? b = some o := fun e n => hidT_get e n
    have noA : ∀ {b : Addr} {o : Obj} {es : Array DictEntry} {ep : Nat}, s₁.heap.get? b = some o → o.data = .dict es ep → H b = none := fun {b o es ep} e d => by
      cases q : H b with
      | none => rfl
      | some u =>
        have e' := atA q
        subst e'
        rw [ha] at e; cases e
        cases (show Data.seq vs.toArray _ = Data.dict es ep from d)
    have nsK : ∀ {b : Addr} {m : Str → Option Value}, s₁.heap.Ns b m → (hidT s₁.heap H).Ns b m := fun {b m} ⟨o, es, ep, e, d, r⟩ => ⟨o, es, ep, base_of e (noA e d), d, r⟩
    have hKb : K.In (hidT s₁.heap H) := fun b o e => base_of (KX b o e) (by
      cases q : H b with
      | none => rfl
      | some u =>
        have e' := atA q
        subst e'
        rw [hK (by rw [q]; simp)] at e; cases e)
    have hM : Mod K mg (hidT s₁.heap H) := ⟨hKb, nsK hns, ⟨mb, nsK hb, hbb⟩, let ⟨mc, h1, h2⟩ := hlim; ⟨mc, nsK h1, h2⟩⟩
    have e0 : Env0 P w K mg (hidT s₁.heap H) callerA [] s₁ H := ⟨rfl, hM, fun b o e => of_hidT e, Nat.le_of_eq (hidT_size _ _), trivial, fun b hb => absurd (show b ∈ ([] : List Addr) from hb) (by simp), hok, .of_eq hg⟩
    have hsp : spF ⟨K, mg, P, w⟩ F [.ref a] H (fun v _ => v = .bl true) E0 := ⟨H, fun _ => 0, [.imm (.scr ns)], .imm (.bl true), [], fun _ _ q => q, tabs_no hno, ⟨.scr hS, trivial⟩, fun i j h1 _ _ => by
        cases i with
        | zero => cases h1
        | succ i => simp [isOwnAr] at h1, hF, fun v H' Hf' _ _ _ o => by cases o; rfl⟩
    refine codeAny_mono ((C _ hKb (nsK hns)).run callerA [] s₁ H [.ref a] [] [.ref a] [] _ hr rfl e0 rfl rfl (.cons rfl .nil) .nil hsp) fun r s' h => ?_
    cases r with
    | error e => exact False.elim h
    | ok fl =>
      cases fl with
      | next => exact False.elim h
      | brk => exact False.elim h
      | cont => exact False.elim h
      | ret u =>
        obtain ⟨v, H', os, bare, un, hok', r', q⟩ := h
        have q' : v = .bl true := q
        subst q'
        obtain rfl : u = Value.bool true := r'
        refine ⟨rfl, OldK.of_keep fun b o e => ?_, os, bare⟩
        cases q : H b with
        | none => exact un.keep b o e q (by intro z; exact absurd (show b ∈ ([] : List Addr) from z) (by simp)) (by simp)
        | some u =>
          rcases hO b with z | ⟨ob, xs, z⟩
          · rw [q] at z; cases z
          · have z2 := un.frzs b ob _ z
            obtain ⟨e1, _⟩ := hok b _ z
            obtain ⟨e2, _⟩ := hok' b _ z2
            rw [e] at e1; cases e1
            exact e2
  cases hk : K.lookup a with
  | some o =>
    have e := KX a o hk
    rw [ha] at e
    cases e
    refine core (fun _ => none) (fun _ => .inl rfl) (.inr ⟨_, vs.toArray, _, hk, rfl, rfl, rfl, by rw [List.size_toArray, lenV]; exact hl, by simpa using rv⟩) (fun b u z => by cases (show (none : Option HO) = some u from z)) (fun b z => absurd rfl z) fun z => absurd rfl z
  | none =>
    refine core (fun b => if b = a then some (.frz { cls := .type "list", data := .seq vs.toArray } (.lst (ns.map V.int))) else none) (fun b => ?_) (.inl (.inr ⟨{ cls := .type "list", data := .seq vs.toArray }, if_pos rfl⟩)) (fun b u z => ?_) (fun b z => ?_) fun _ => hk
    · by_cases hb : b = a
      · exact .inr ⟨_, _, if_pos hb⟩
      · exact .inl (if_neg hb)
    · by_cases hb : b = a
      · have z' := (if_pos hb).symm.trans z
        cases z'
        subst hb
        exact ⟨ha, by rw [List.length_map]; exact hl, vs, _, rv, ha⟩
      · cases (if_neg hb).symm.trans z
    · by_cases hb : b = a
      · exact hb
      · exact absurd (if_neg hb) z
theorem walkD (hno : lamNames = [] := by rfl) {l : PySem.W.OpenLaw} {n k : Nat} {q : Program} {loose : List Str} {XP : (Str → Option Value) → Heap → Prop} {YP : World → Heap → Prop} {d : DefRec} {K : Params → PySem.W.Frag} {F : Fn}
    (hn : l.most = some n) (hn2 : n ≤ sizeLine) (hdf : d.params.defaults = []) (hr : Room k callerA) (hY : ∀ (w : World) (h : Heap), YP w h → (K w.params).In h)
    (FF : ∀ (w : World) (mg : Str → Option Value) (h base : Heap), (K w.params).In h → h.Ns mainGlobals mg → FnAt ⟨l.prog, w, K w.params, mg, base⟩ d.name 1 [] k F) (hF : ∀ ns : List Int, ns.length ≤ n → F [.imm (.scr ns)] = some (.imm (.bl true), [])) :
    PySem.W.WalkO q loose XP YP l.row.toRowW d [] (fun f vs => PySem.call f vs) := by
  refine Att.attach_call hn hdf fun w s₀ s₁ mg mb fa o pm cd doc a vs ns G Y ho hd hcd hmg hobj hints hlen hg => ?_
  have KX := hY w _ Y
  refine law_callD hno KX G.T.g G.T.b G.T.builtins G.T.nolimit hg hobj hints (Nat.le_trans hlen hn2) hr (fun base hb hn => ?_) (hF ns hlen)
  obtain ⟨f, h1, h2, h3⟩ := (FF w mg s₁.heap base KX G.T.g).ex
  have e : some (Value.ref fa) = some (Value.ref f) := hmg.symm.trans h1
  cases e
  exact h3

/-! ### what the top has written -/
/-- by its facts, a def that is called with all its values, in order -/
theorem defB {Θ : Th} {h : Heap} {x : Str} {st : Stmt} {N ps ks : List Str} {n : Nat} {f : Addr} (X : Θ.K.In h) (G : h.Ns mainGlobals Θ.mg) {od an : Option Addr} {sl : Array (Option Value)} {oc kV dc pm cd ct : Value}
    (a : PySem.W.nsIn Θ.K mainGlobals x = some (some (.ref f))) (l : Θ.K.lookup f = some ⟨oc, od, .func (PySem.W.fnOf x x (defArgs st) (defBody st) (defScope st) .none kV dc pm an cd ct), sl⟩) (c : PySem.W.codeIn Θ.K cd x = true) (kp : PySem.W.keepIn Θ.K (.ref f) = true)
    (sc : FnScope N ps (defScope st)) (hn : n + ks.length = ps.length)
    (hb : ∀ (us ws : List Value), us.length = n → ws.length = ks.length → bindArgs (PySem.W.fnOf x x (defArgs st) (defBody st) (defScope st) .none kV dc pm an cd ct) ⟨us, ks.zip ws⟩ = pure (ps.zip (us ++ ws))) : DefB Θ x x st N ps n ks id id :=
  ⟨⟨f, PySem.W.mg_of X G a, kp, ⟨x, oc, od, .none, kV, dc, pm, an, cd, ct, sl, l, c, fun s us ws _ l1 l2 => ⟨us ++ ws, .of_eq (hb us ws l1 l2), by rw [List.length_append, l1, l2, hn], fun vs zs r1 r2 => r1.append r2⟩⟩, sc⟩, gOk_id⟩
end Ev
namespace Ev
open PySem PySem.Spec PyProof.Rows L2
end Ev
/-! text Ev26 -/
set_option Elab.async false
set_option linter.all false
set_option maxRecDepth 100000
set_option maxHeartbeats 4000000
namespace Ev
open PySem L2

/-! ### reading the mirrors: plain Lean from here on -/
/-- keeps simp out of what follows -/
inductive Dm {α : Type} (Φ : α → Prop) : Type
  | mk
def Ok {α : Type} (o : Option α) (Φ : α → Prop) (_d : Dm Φ := .mk) : Prop := ∃ x, o = some x ∧ Φ x
@[simp] theorem Ok_some {α : Type} {x : α} {Φ : α → Prop} : Ok (some x) Φ ↔ Φ x := ⟨fun ⟨_, e, h⟩ => by cases e; exact h, fun h => ⟨x, rfl, h⟩⟩
@[simp] theorem Ok_none {α : Type} {Φ : α → Prop} : Ok (none : Option α) Φ ↔ False := ⟨fun ⟨_, e, _⟩ => (by cases e), fun h => False.elim h⟩
@[simp ↓] theorem Ok_bind {α β : Type} {o : Option α} {f : α → Option β} {Φ : β → Prop} : Ok (o.bind f) Φ ↔ Ok o fun x => Ok (f x) Φ := by
  cases o with
  | none => simp [Ok_none]
  | some x => simp [Ok_some]
@[simp ↓] theorem Ok_map {α β : Type} {o : Option α} {f : α → β} {Φ : β → Prop} : Ok (o.map f) Φ ↔ Ok o fun x => Φ (f x) := by
  cases o with
  | none => simp [Ok_none]
  | some x => simp [Ok_some]
theorem Ok_if {α : Type} {c : Prop} [Decidable c] {a b : Option α} {Φ : α → Prop} : Ok (if c then a else b) Φ ↔ (c → Ok a Φ) ∧ (¬ c → Ok b Φ) := by
  by_cases h : c <;> simp [h]
theorem Ok_iff {α : Type} {c : Prop} [Decidable c] {a : Option α} {Φ : α → Prop} : Ok (if c then a else none) Φ ↔ c ∧ Ok a Φ := by
  by_cases h : c <;> simp [h, Ok_none]
theorem Ok.imp {α : Type} {o : Option α} {Φ Ψ : α → Prop} (h : Ok o Φ) (k : ∀ x, Φ x → Ψ x) : Ok o Ψ := let ⟨x, e, q⟩ := h; ⟨x, e, k x q⟩
theorem Ok.eq {α : Type} {o : Option α} {x : α} (h : o = some x) {Φ : α → Prop} (k : Φ x) : Ok o Φ := ⟨x, h, k⟩
theorem Ok.get {α : Type} {o : Option α} {Φ : α → Prop} (h : Ok o Φ) : ∃ x, o = some x ∧ Φ x := h
theorem ok_eq {α : Type} {o : Option α} {x : α} (h : Ok o (· = x)) : o = some x := by
  obtain ⟨y, e, q⟩ := h
  exact q ▸ e

theorem Ok_ext {α : Type} {o : Option α} {Φ Ψ : α → Prop} (h : ∀ x, Φ x ↔ Ψ x) : Ok o Φ ↔ Ok o Ψ := ⟨fun q => q.imp fun x => (h x).mp, fun q => q.imp fun x => (h x).mpr⟩

/-! loops -/
theorem loopF_rel {t : Tg} {B : Fs} (P : List D → Env → Prop) (Q : Fw → Env → Prop) (step : ∀ d ds ρ, P (d :: ds) ρ → Ok (asg t d ρ) fun ρ1 => Ok (B ρ1) fun y => match y.1 with
    | .nx => P ds y.2
    | .ct => P ds y.2
    | .bk => Q .nx y.2
    | .rt r => Q (.rt r) y.2) (fin : ∀ ρ, P [] ρ → Q .nx ρ) : ∀ (ds : List D) (ρ : Env), P ds ρ → Ok (loopF t B ds ρ) fun y => Q y.1 y.2
  | [], ρ, h => Ok_some.mpr (fin ρ h)
  | d :: ds, ρ, h => by
    unfold loopF
    rw [Ok_bind]
    refine (step d ds ρ h).imp fun ρ1 h1 => ?_
    rw [Ok_bind]
    refine h1.imp fun y h2 => ?_
    obtain ⟨fl, ρ2⟩ := y
    cases fl with
    | nx => exact loopF_rel P Q step fin ds ρ2 h2
    | ct => exact loopF_rel P Q step fin ds ρ2 h2
    | bk => exact Ok_some.mpr h2
    | rt r => exact Ok_some.mpr h2
end Ev
/-! text Ev27 -/
set_option Elab.async false
set_option linter.all false
set_option maxRecDepth 100000
set_option maxHeartbeats 4000000
namespace Ev
open PySem L2

/-! ### the pen of the laws -/
end Ev
/-! text Ev28 -/
set_option Elab.async false
set_option linter.all false
set_option maxRecDepth 100000
set_option maxHeartbeats 4000000
namespace Ev
open PySem L2

/-! ### the mirrors, applied: rules for simp -/
section
variable {ρ : Env} {i j : Nat} {F G : Fs} {T T2 : Ft} {FE FX FY : Fe} {FD FK : Fd} {FA FB FC : Fr} {FI : Fi} {AA AB : Fa} {LL : Fl} {d e : D}
@[simp ↓] theorem ap_skip {Φ : _ → Prop} : Ok (skipS ρ) Φ ↔ Ok (some (.nx, ρ)) Φ := Iff.rfl
@[simp ↓] theorem ap_seq {Φ : _ → Prop} : Ok (seqS F G ρ) Φ ↔ Ok ((F ρ).bind fun x => match x.1 with
    | .nx => G x.2
    | fl => some (fl, x.2)) Φ := Iff.rfl
@[simp ↓] theorem ap_if {Φ : _ → Prop} : Ok (ifS T F G ρ) Φ ↔ Ok ((T ρ).bind fun x => if x.1 = true then F x.2 else G x.2) Φ := Iff.rfl
@[simp ↓] theorem ap_set {Φ : _ → Prop} : Ok (setS i FE ρ) Φ ↔ Ok ((FE ρ).bind fun x => (putV i x.1 x.2).map fun ρ' => (.nx, ρ')) Φ := Iff.rfl
@[simp ↓] theorem ap_ret {Φ : _ → Prop} : Ok (retS FE ρ) Φ ↔ Ok ((FE ρ).map fun x => (.rt x.1, x.2)) Φ := Iff.rfl
@[simp ↓] theorem ap_drop {Φ : _ → Prop} : Ok (dropS FE ρ) Φ ↔ Ok ((FE ρ).map fun x => (.nx, x.2)) Φ := Iff.rfl
@[simp ↓] theorem ap_for {t : Tg} {Φ : _ → Prop} : Ok (forS t FI F ρ) Φ ↔ Ok ((FI ρ).bind fun x => loopF t F x.1 x.2) Φ := Iff.rfl
@[simp ↓] theorem ap_dput {Φ : _ → Prop} : Ok (dputS FD FA FK ρ) Φ ↔ Ok ((FD ρ).bind fun x => (FA x.2).bind fun y => (rfOf y.1).bind fun i => (FK y.2).bind fun z => (dctAt z.2 i).bind fun c => if c.1 = false then (putDK c.2 z.1 x.1).map fun kvs => (.nx, setC z.2 i (.dct false kvs)) else none) Φ := Iff.rfl
@[simp ↓] theorem ap_imm {Φ : _ → Prop} : Ok (immF FD ρ) Φ ↔ Ok ((FD ρ).map fun x => (.imm x.1, x.2)) Φ := Iff.rfl
@[simp ↓] theorem ap_fix {Φ : _ → Prop} : Ok (fixF FE ρ) Φ ↔ Ok ((FE ρ).map fun x => (x.1.toD, x.2)) Φ := Iff.rfl
@[simp ↓] theorem ap_val {Φ : _ → Prop} : Ok (valF FD ρ) Φ ↔ Ok ((FD ρ).map fun x => (.val x.1, x.2)) Φ := Iff.rfl
@[simp ↓] theorem ap_const {Φ : _ → Prop} : Ok (constF d ρ) Φ ↔ Ok (some (d, ρ)) Φ := Iff.rfl
@[simp ↓] theorem ap_bin {f : D → D → Option Rv} {Φ : _ → Prop} : Ok (binF f FA FB ρ) Φ ↔ Ok ((FA ρ).bind fun x => (FB x.2).bind fun y => (deref y.2 x.1).bind fun d => (deref y.2 y.1).bind fun e => (f d e).map fun z => (z, y.2)) Φ := Iff.rfl
@[simp ↓] theorem ap_binB {f : D → D → Option Bool} {Φ : _ → Prop} : Ok (binB f FA FB ρ) Φ ↔ Ok ((FA ρ).bind fun x => (FB x.2).bind fun y => (deref y.2 x.1).bind fun d => (deref y.2 y.1).bind fun e => (f d e).map fun z => (z, y.2)) Φ := Iff.rfl
@[simp ↓] theorem ap_bool {Φ : _ → Prop} : Ok (boolF T ρ) Φ ↔ Ok ((T ρ).map fun x => (.bl x.1, x.2)) Φ := Iff.rfl
@[simp ↓] theorem ap_ite {Φ : _ → Prop} : Ok (iteF T FX FY ρ) Φ ↔ Ok ((T ρ).bind fun x => if x.1 = true then FX x.2 else FY x.2) Φ := Iff.rfl
@[simp ↓] theorem ap_or {Φ : _ → Prop} : Ok (orB T T2 ρ) Φ ↔ Ok ((T ρ).bind fun x => if x.1 = true then some (true, x.2) else T2 x.2) Φ := Iff.rfl
@[simp ↓] theorem ap_not {Φ : _ → Prop} : Ok (notB T ρ) Φ ↔ Ok ((T ρ).map fun x => (!x.1, x.2)) Φ := Iff.rfl
@[simp ↓] theorem ap_tru {Φ : _ → Prop} : Ok (truF FA ρ) Φ ↔ Ok ((FA ρ).bind fun x => (deref x.2 x.1).bind fun d => (truD d).map fun z => (z, x.2)) Φ := Iff.rfl
@[simp ↓] theorem ap_nilA {Φ : _ → Prop} : Ok (nilA ρ) Φ ↔ Ok (some ([], ρ)) Φ := Iff.rfl
@[simp ↓] theorem ap_consA {Φ : _ → Prop} : Ok (consA FA AA ρ) Φ ↔ Ok ((FA ρ).bind fun x => (AA x.2).map fun y => (x.1 :: y.1, y.2)) Φ := Iff.rfl
@[simp ↓] theorem ap_nilL {Φ : _ → Prop} : Ok (nilL ρ) Φ ↔ Ok (some ([], ρ)) Φ := Iff.rfl
@[simp ↓] theorem ap_consL {Φ : _ → Prop} : Ok (consL FD LL ρ) Φ ↔ Ok ((FD ρ).bind fun x => (LL x.2).map fun y => (x.1 :: y.1, y.2)) Φ := Iff.rfl
@[simp ↓] theorem ap_tup {Φ : _ → Prop} : Ok (tupF LL ρ) Φ ↔ Ok (LL ρ) fun y => y.1.length ≤ sizeLine ∧ Φ (.imm (.tup y.1), y.2) := by
  unfold tupF
  rw [Ok_bind]
  exact Ok_ext fun y => Iff.trans Ok_iff (and_congr_right fun _ => Ok_some)
@[simp ↓] theorem ap_lst {Φ : _ → Prop} : Ok (lstF LL ρ) Φ ↔ Ok (LL ρ) fun y => y.1.length ≤ sizeLine ∧ Φ (.own (.lst y.1), y.2) := by
  unfold lstF
  rw [Ok_bind]
  exact Ok_ext fun y => Iff.trans Ok_iff (and_congr_right fun _ => Ok_some)
@[simp ↓] theorem ap_call {f : List D → Option Rv} {Φ : _ → Prop} : Ok (callF f AA ρ) Φ ↔ Ok ((AA ρ).bind fun x => (derefs x.2 x.1).bind fun ds => (f ds).map fun z => (z, x.2)) Φ := Iff.rfl
@[simp ↓] theorem ap_user {n : Nat} {f : Fn} {Φ : _ → Prop} : Ok (userF n f AA ρ) Φ ↔ Ok (AA ρ) fun x => x.1.length = n ∧ Ok (applyU f x.1 x.2) Φ := by
  unfold userF
  rw [Ok_bind]
  exact Ok_ext fun y => Ok_iff
@[simp ↓] theorem ap_seqI {Φ : _ → Prop} : Ok (seqF FD ρ) Φ ↔ Ok ((FD ρ).bind fun x => (seqI x.1).map fun ds => (ds, x.2)) Φ := Iff.rfl
@[simp ↓] theorem ap_rng {f : List D → Option (List D)} {Φ : _ → Prop} : Ok (rngF f AA ρ) Φ ↔ Ok ((AA ρ).bind fun x => (derefs x.2 x.1).bind fun ds => (f ds).map fun z => (z, x.2)) Φ := Iff.rfl
@[simp ↓] theorem ap_noneO {Φ : _ → Prop} : Ok (noneO ρ) Φ ↔ Ok (some (none, ρ)) Φ := Iff.rfl
@[simp ↓] theorem ap_sl {FL FH : Fo} {Φ : _ → Prop} : Ok (slF FA FL FH ρ) Φ ↔ Ok ((FA ρ).bind fun x => (FL x.2).bind fun l => (FH l.2).bind fun h => (deref h.2 x.1).bind fun d => (slD d l.1 h.1).map fun z => (z, h.2)) Φ := Iff.rfl
@[simp ↓] theorem ap_mut {g : Gm} {Φ : _ → Prop} : Ok (mutF g FA LL ρ) Φ ↔ Ok ((FA ρ).bind fun x => (rfOf x.1).bind fun i => (lstAt x.2 i).bind fun _ => (LL x.2).bind fun y => (lstAt y.2 i).bind fun xs => (g xs y.1).map fun z => (.imm z.1, setC y.2 i (.lst z.2))) Φ := Iff.rfl
@[simp ↓] theorem ap_isi {n : String} {Φ : _ → Prop} : Ok (isiF n FA ρ) Φ ↔ Ok ((FA ρ).bind fun x => (deref x.2 x.1).bind fun d => (tyD d).bind fun m => (kitB m n).map fun b => (.bl b, x.2)) Φ := Iff.rfl
@[simp ↓] theorem ap_disp {l : List (Str × Fd)} {Φ : _ → Prop} : Ok (dispF l ρ) Φ ↔ ((l.map (·.1)).Nodup ∧ l.length ≤ 15) ∧ Ok (dispL l ρ) fun z => Φ (.own (.dct false z.1), z.2) := by
  unfold dispF
  exact Iff.trans Ok_iff (and_congr_right fun _ => Ok_map)
@[simp ↓] theorem ap_displ0 {Φ : _ → Prop} : Ok (dispL [] ρ) Φ ↔ Φ ([], ρ) := Ok_some
@[simp ↓] theorem ap_displ {x : Str} {l : List (Str × Fd)} {Φ : _ → Prop} : Ok (dispL ((x, FD) :: l) ρ) Φ ↔ Ok (FD ρ) fun y => Ok (dispL l y.2) fun z => Φ ((.str x, y.1) :: z.1, z.2) := by
  rw [dispL, Ok_bind]
  exact Ok_ext fun y => Ok_map
@[simp] theorem tv_nm : tvs (.nm i) = [i] := rfl
@[simp] theorem tv_tp {ts : List Tg} : tvs (.tp ts) = tvsL ts := rfl
@[simp] theorem tv_nil : tvsL [] = [] := rfl
@[simp] theorem tv_cons {t : Tg} {ts : List Tg} : tvsL (t :: ts) = tvs t ++ tvsL ts := rfl
@[simp] theorem size_line : sizeLine = 16777216 := sizeLine_eq
@[simp ↓] theorem ap_comp {t : Tg} {vs : List Nat} {Φ : _ → Prop} : Ok (compF t FI T FD vs ρ) Φ ↔ (tvs t).all (fun i => decide (i ∈ vs)) = true ∧ Ok (FI ρ) fun x => x.1.length ≤ sizeLine ∧ Ok (lcF t T FD vs x.1 (wipeE x.2 vs)) fun y => Φ (.own (.lst y.1), backE x.2 y.2 vs) := by
  unfold compF
  refine Iff.trans Ok_iff (and_congr_right fun _ => ?_)
  rw [Ok_bind]
  refine Ok_ext fun x => Iff.trans Ok_iff (and_congr_right fun _ => Ok_map)
@[simp] theorem ap_wipe0 : wipeE ρ [] = ρ := rfl
@[simp] theorem ap_wipe1 {v : Nat} {vs : List Nat} : wipeE ρ (v :: vs) = (wipeE ρ vs).set v .un := rfl
@[simp ↓] theorem ap_varR {Φ : _ → Prop} : Ok (varR i ρ) Φ ↔ Ok (match ρ[i]? with
  | some (.imm d) => some (AR.val d, ρ)
  | some (.own _) => some (AR.rf i, ρ)
  | some (.par _) => some (AR.rf i, ρ)
  | _ => none) Φ := Iff.rfl
@[simp ↓] theorem ap_varD {Φ : _ → Prop} : Ok (varD i ρ) Φ ↔ Ok (match ρ[i]? with
  | some (.imm d) => some (d, ρ)
  | some (.own c) => some (c.toD, ρ.set i (.imm c.toD))
  | _ => none) Φ := Iff.rfl
@[simp ↓] theorem ap_retVar {Φ : _ → Prop} : Ok (retVar i ρ) Φ ↔ Ok (match ρ[i]? with
  | some (.imm d) => some (Fw.rt (.imm d), ρ)
  | some (.own c) => some (Fw.rt (.own c), ρ)
  | _ => none) Φ := Iff.rfl
@[simp ↓] theorem ap_applyU {f : Fn} {as : List AR} {Φ : _ → Prop} : Ok (applyU f as ρ) Φ ↔ nodupB (refsOf as) = true ∧ Ok (arsOf ρ as) fun bs => Ok (f bs) fun y => Ok (setCs ρ (refsOf as) y.2) fun ρ' => Φ (y.1, ρ') := by
  unfold applyU
  by_cases h : nodupB (refsOf as) = true
  · rw [if_pos h, Ok_bind]
    refine Iff.trans (Ok_ext fun x => ?_) (Iff.symm (and_iff_right h))
    rw [Ok_bind]
    exact Ok_ext fun y => Ok_map
  · rw [if_neg h]
    exact Iff.trans Ok_none (Iff.symm ⟨fun z => absurd z.1 h, False.elim⟩)
@[simp ↓] theorem ap_body {n m : Nat} {B : Fs} {as : List Ar} {Φ : _ → Prop} : Ok (bodyF n m B as) Φ ↔ as.length = m ∧ Ok (B (slots n as)) fun x => match x.1 with
  | .nx => Ok (csOf 0 as x.2) fun cs => Φ (.imm .non, cs)
  | .rt r => Ok (csOf 0 as x.2) fun cs => Φ (r, cs)
  | _ => False := by
  unfold bodyF
  by_cases h : as.length = m
  · rw [if_pos h, Ok_bind]
    refine Iff.trans (Ok_ext fun x => ?_) (Iff.symm (and_iff_right h))
    obtain ⟨fl, ρ'⟩ := x
    cases fl with
    | nx => exact Ok_map
    | rt r => exact Ok_map
    | bk => exact Ok_none
    | ct => exact Ok_none
  · rw [if_neg h]
    exact Iff.trans Ok_none (Iff.symm ⟨fun z => absurd z.1 h, False.elim⟩)
@[simp ↓] theorem ap_loop0 {t : Tg} {Φ : _ → Prop} : Ok (loopF t F [] ρ) Φ ↔ Φ (.nx, ρ) := Ok_some
@[simp ↓] theorem ap_loop {t : Tg} {ds : List D} {Φ : _ → Prop} : Ok (loopF t F (d :: ds) ρ) Φ ↔ Ok (asg t d ρ) fun ρ1 => Ok (F ρ1) fun y => match y.1 with
    | .nx => Ok (loopF t F ds y.2) Φ
    | .ct => Ok (loopF t F ds y.2) Φ
    | .bk => Φ (.nx, y.2)
    | .rt r => Φ (.rt r, y.2) := by
  rw [loopF, Ok_bind]
  refine Ok_ext fun ρ1 => ?_
  rw [Ok_bind]
  refine Ok_ext fun y => ?_
  obtain ⟨fl, ρ2⟩ := y
  cases fl <;> first | exact Iff.rfl | exact Ok_some
/-! reading a slot, by what stands there -/
@[simp] theorem dr_val : deref ρ (.val d) = some d := rfl
@[simp] theorem dr_rf : deref ρ (.rf i) = (contAt ρ i).map C.toD := rfl
@[simp] theorem drs_nil : derefs ρ [] = some [] := rfl
@[simp] theorem drs_cons {a : AR} {as : List AR} : derefs ρ (a :: as) = (deref ρ a).bind fun d => (derefs ρ as).map (d :: ·) := by
  cases h : deref ρ a <;> cases h2 : derefs ρ as <;> simp [derefs, h, h2]
@[simp] theorem rf_rf : rfOf (.rf i) = some i := rfl
@[simp] theorem co_lst {xs : List D} : C.toD (.lst xs) = .lst xs := rfl
@[simp] theorem co_dct {t : Bool} {xs : List (D × D)} : C.toD (.dct t xs) = .dct t xs := rfl
@[simp] theorem rv_imm : (Rv.imm d).toD = d := rfl
@[simp] theorem rv_own {c : C} : (Rv.own c).toD = c.toD := rfl
@[simp] theorem sl_par {c : C} : (Sl.par c).cont = some c := rfl
@[simp] theorem sl_own {c : C} : (Sl.own c).cont = some c := rfl
@[simp] theorem pt_par {c c' : C} : (Sl.par c).put c' = .par c' := rfl
@[simp] theorem pt_own {c c' : C} : (Sl.own c).put c' = .own c' := rfl
@[simp] theorem ar_imm : Ar.sl (.imm d) = .imm d := rfl
@[simp] theorem ar_own {c : C} : Ar.sl (.own c) = .par c := rfl
@[simp] theorem arsOf_nil : arsOf ρ [] = some [] := rfl
@[simp] theorem arsOf_val {as : List AR} : arsOf ρ (.val d :: as) = (arsOf ρ as).map (Ar.imm d :: ·) := rfl
@[simp] theorem arsOf_rf {as : List AR} : arsOf ρ (.rf i :: as) = (contAt ρ i).bind fun c => (arsOf ρ as).map (Ar.own c :: ·) := rfl
@[simp] theorem refs_nil : refsOf [] = [] := rfl
@[simp] theorem refs_val {as : List AR} : refsOf (.val d :: as) = refsOf as := rfl
@[simp] theorem refs_rf {as : List AR} : refsOf (.rf i :: as) = i :: refsOf as := rfl
@[simp] theorem nodupB_nil : nodupB [] = true := rfl
@[simp] theorem nodupB_one : nodupB [i] = true := by simp [nodupB]
@[simp] theorem setCs_nil : setCs ρ [] [] = some ρ := rfl
@[simp] theorem setCs_cons {is : List Nat} {c : C} {cs : List C} : setCs ρ (i :: is) (c :: cs) = setCs (setC ρ i c) is cs := rfl
end
section
variable {ρ : Env} {i n : Nat} {d : D} {c : C} {as : List Ar}
@[simp] theorem contAt_ap : contAt ρ i = (ρ[i]?).bind Sl.cont := rfl
@[simp] theorem csOf_nil : csOf n [] ρ = some [] := rfl
@[simp] theorem csOf_imm : csOf n (.imm d :: as) ρ = csOf (n + 1) as ρ := rfl
@[simp] theorem csOf_own : csOf n (.own c :: as) ρ = match ρ[n]? with
    | some (.par c) => (csOf (n + 1) as ρ).map (c :: ·)
    | _ => none := rfl
@[simp ↓] theorem ap_putI {Φ : _ → Prop} : Ok (putV i (.imm d) ρ) Φ ↔ (i < ρ.length ∧ isPar ρ[i]? = false) ∧ Φ (ρ.set i (.imm d)) := by
  unfold putV
  exact Iff.trans Ok_iff (and_congr_right fun _ => Ok_some)
@[simp ↓] theorem ap_putO {Φ : _ → Prop} : Ok (putV i (.own c) ρ) Φ ↔ (i < ρ.length ∧ isPar ρ[i]? = false) ∧ Φ (ρ.set i (.own c)) := by
  unfold putV
  exact Iff.trans Ok_iff (and_congr_right fun _ => Ok_some)
@[simp] theorem isPar_imm : isPar (some (.imm d)) = false := rfl
@[simp] theorem isPar_own : isPar (some (.own c)) = false := rfl
@[simp] theorem isPar_un : isPar (some .un) = false := rfl
@[simp] theorem setC_ap : setC ρ i c = match ρ[i]? with
  | some s => ρ.set i (s.put c)
  | none => ρ := rfl
@[simp] theorem dctAt_ap : dctAt ρ i = match (ρ[i]?).bind Sl.cont with
  | some (.dct t kvs) => some (t, kvs)
  | _ => none := rfl
@[simp] theorem lstAt_ap : lstAt ρ i = match (ρ[i]?).bind Sl.cont with
  | some (.lst xs) => some xs
  | _ => none := rfl
@[simp ↓] theorem ap_asgN {Φ : _ → Prop} : Ok (asg (.nm i) d ρ) Φ ↔ Ok (putV i (.imm d) ρ) Φ := by unfold asg; exact Iff.rfl
@[simp ↓] theorem ap_asgT {ts : List Tg} {xs : List D} {Φ : _ → Prop} : Ok (asg (.tp ts) (.tup xs) ρ) Φ ↔ Ok (asgL ts xs ρ) Φ := by unfold asg; exact Iff.rfl
@[simp ↓] theorem ap_asgL {ts : List Tg} {xs : List D} {Φ : _ → Prop} : Ok (asg (.tp ts) (.lst xs) ρ) Φ ↔ Ok (asgL ts xs ρ) Φ := by unfold asg; exact Iff.rfl
@[simp ↓] theorem ap_asg0 {Φ : _ → Prop} : Ok (asgL [] [] ρ) Φ ↔ Φ ρ := by unfold asgL; exact Ok_some
@[simp ↓] theorem ap_asgC {t : Tg} {ts : List Tg} {xs : List D} {Φ : _ → Prop} : Ok (asgL (t :: ts) (d :: xs) ρ) Φ ↔ Ok (asg t d ρ) fun ρ1 => Ok (asgL ts xs ρ1) Φ := by rw [asgL]; exact Ok_bind
end
section
variable {ρ : Env} {F G : Fd} {b : Bool}
@[simp ↓] theorem ap_andD {Φ : _ → Prop} : Ok (andD F G ρ) Φ ↔ Ok (F ρ) fun x => Ok (match x.1 with
    | .bl true => G x.2
    | .bl false => some (.bl false, x.2)
    | _ => none) Φ := by
  unfold andD
  refine Iff.trans Ok_bind ?_
  refine Ok_ext fun x => ?_
  obtain ⟨d, ρ'⟩ := x
  cases d <;> first | exact Iff.rfl | (rename_i b; cases b <;> exact Iff.rfl)
@[simp] theorem tru_bl : truD (.bl b) = some b := rfl
end
section
variable {ρ : Env} {F : Fd}
end
/-! operators -/
section
variable {i j : Int} {b c : Bool} {x y : Str} {xs ys : List D} {d e : D}
@[simp] theorem op_ii : addD (.int i) (.int j) = some (.imm (.int (i + j))) := rfl
theorem op_tt : addD (.tup xs) (.tup ys) = if xs.length + ys.length ≤ sizeLine then some (.imm (.tup (xs ++ ys))) else none := rfl
theorem op_ll : addD (.lst xs) (.lst ys) = if xs.length + ys.length ≤ sizeLine then some (.own (.lst (xs ++ ys))) else none := rfl
@[simp ↓] theorem ok_tt {Φ : _ → Prop} : Ok (addD (.tup xs) (.tup ys)) Φ ↔ xs.length + ys.length ≤ sizeLine ∧ Φ (.imm (.tup (xs ++ ys))) := by
  rw [op_tt]
  exact Iff.trans Ok_iff (and_congr_right fun _ => Ok_some)
@[simp ↓] theorem ok_ll {Φ : _ → Prop} : Ok (addD (.lst xs) (.lst ys)) Φ ↔ xs.length + ys.length ≤ sizeLine ∧ Φ (.own (.lst (xs ++ ys))) := by
  rw [op_ll]
  exact Iff.trans Ok_iff (and_congr_right fun _ => Ok_some)
@[simp] theorem op_sub' : intOp subI (.int i) (.int j) = some (.imm (.int (i - j))) := rfl
@[simp] theorem op_mod' : intOp modI (.int i) (.int j) = (modI i j).map fun z => .imm (.int z) := rfl
@[simp] theorem op_fdiv' : intOp fdivI (.int i) (.int j) = (fdivI i j).map fun z => .imm (.int z) := rfl
@[simp] theorem op_pow' : intOp powI (.int i) (.int j) = (powI i j).map fun z => .imm (.int z) := rfl
@[simp] theorem op_mul' : mulD' (.int i) (.int j) = (mulI i j).map fun z => .imm (.int z) := rfl
@[simp] theorem mod_pos {i j : Int} (h : 0 < j) : modI i j = some (i % j) := by
  unfold modI
  rw [if_pos (by omega)]
  congr 1
  exact Int.fmod_eq_emod_of_nonneg _ (by omega)
@[simp] theorem len_lst : lenD [.lst xs] = some (.imm (.int xs.length)) := rfl
@[simp] theorem len_tup : lenD [.tup xs] = some (.imm (.int xs.length)) := rfl
@[simp] theorem len_scr {ns : List Int} : lenD [.scr ns] = some (.imm (.int ns.length)) := rfl
@[simp] theorem list_lst : listD [.lst xs] = some (.own (.lst xs)) := rfl
@[simp] theorem list_tup : listD [.tup xs] = some (.own (.lst xs)) := rfl
@[simp] theorem tup_lst : tupleD [.lst xs] = some (.imm (.tup xs)) := rfl
@[simp] theorem tup_tup : tupleD [.tup xs] = some (.imm (.tup xs)) := rfl
@[simp] theorem seqI_lst : seqI (.lst xs) = some xs := rfl
@[simp] theorem seqI_tup : seqI (.tup xs) = some xs := rfl
@[simp] theorem sl_lst {lo hi : Option Int} : slD (.lst xs) lo hi = some (.own (.lst (cutD xs lo hi))) := rfl
@[simp] theorem sl_tup' {lo hi : Option Int} : slD (.tup xs) lo hi = some (.imm (.tup (cutD xs lo hi))) := rfl
@[simp] theorem sl_scr {ns : List Int} {lo hi : Option Int} : slD (.scr ns) lo hi = some (.own (.lst ((cutD ns lo hi).map D.int))) := rfl
@[simp] theorem ty_int : tyD (.int i) = some "int" := rfl
@[simp] theorem ty_lst : tyD (.lst xs) = some "list" := rfl
@[simp] theorem ty_tup : tyD (.tup xs) = some "tuple" := rfl
@[simp] theorem ix_lst : ixD (.lst xs) (.int i) = (atI xs i).map .imm := rfl
@[simp] theorem ix_tup' : ixD (.tup xs) (.int i) = (atI xs i).map .imm := rfl
@[simp] theorem kb_ii : kitB "int" "int" = some true := by decide +kernel
@[simp] theorem kb_ib : kitB "int" "bool" = some false := by decide +kernel
end
@[simp ↓] theorem ap_someO {F : Fd} {ρ : Env} {Φ : _ → Prop} : Ok (someO F ρ) Φ ↔ Ok ((F ρ).bind fun x => match x.1 with
  | .int i => some (some i, x.2)
  | _ => none) Φ := Iff.rfl
end Ev
/-! text Ev29 -/
set_option Elab.async false
set_option linter.all false
set_option maxRecDepth 100000
set_option maxHeartbeats 4000000
namespace Ev
open PySem L2

/-! ### ints in lists and tuples -/
theorem pyL_ints : ∀ ns : List Int, pyL (ns.map D.int) = ns.map PyData.int
  | [] => rfl
  | n :: ns => by rw [List.map_cons, List.map_cons]; show PyData.int n :: pyL (ns.map D.int) = _; rw [pyL_ints ns]
theorem lay_ints : ∀ ns : List Int, PyData.canLayAll0 (ns.map PyData.int) = true
  | [] => by simp [PyData.canLayAll0]
  | n :: ns => by simp [PyData.canLayAll0, PyData.canLay0, lay_ints ns]
theorem depth_ints : ∀ ns : List Int, PyData.depthAll (ns.map PyData.int) = 0
  | [] => by simp [PyData.depthAll]
  | n :: ns => by simp [PyData.depthAll, PyData.depth, depth_ints ns]
theorem eqv_ints : ∀ ns ms : List Int, PyData.eqvAll (ns.map PyData.int) (ms.map PyData.int) = decide (ns = ms)
  | [], [] => by simp [PyData.eqvAll]
  | [], _ :: _ => by simp [PyData.eqvAll]
  | _ :: _, [] => by simp [PyData.eqvAll]
  | n :: ns, m :: ms => by
    simp only [List.map_cons, PyData.eqvAll, PyData.eqv, eqv_ints ns ms, List.cons.injEq, Bool.decide_and]
    rfl
theorem shaped_lst' (ns : List Int) : SeqAt.shaped (py (.lst (ns.map D.int))) = true := by
  show SeqAt.shaped (.list (pyL (ns.map D.int))) = true
  rw [pyL_ints]
  simp [SeqAt.shaped, PyData.canLay0, PyData.depth, lay_ints, depth_ints]
theorem shaped_tup' (ns : List Int) : SeqAt.shaped (py (.tup (ns.map D.int))) = true := by
  show SeqAt.shaped (.tuple (pyL (ns.map D.int))) = true
  rw [pyL_ints]
  simp [SeqAt.shaped, PyData.canLay0, PyData.depth, lay_ints, depth_ints]
@[simp] theorem eq_lst (ns ms : List Int) : eqD (.lst (ns.map D.int)) (.lst (ms.map D.int)) = some (decide (ns = ms)) := by
  show (if SeqAt.shaped (py (.lst (ns.map D.int))) && SeqAt.shaped (py (.lst (ms.map D.int))) then some (PyData.eqv (.list (pyL (ns.map D.int))) (.list (pyL (ms.map D.int)))) else none) = _
  rw [shaped_lst', shaped_lst', pyL_ints, pyL_ints]
  simp only [PyData.eqv, eqv_ints]
  rfl
@[simp] theorem eq_tup (ns ms : List Int) : eqD (.tup (ns.map D.int)) (.tup (ms.map D.int)) = some (decide (ns = ms)) := by
  show (if SeqAt.shaped (py (.tup (ns.map D.int))) && SeqAt.shaped (py (.tup (ms.map D.int))) then some (PyData.eqv (.tuple (pyL (ns.map D.int))) (.tuple (pyL (ms.map D.int)))) else none) = _
  rw [shaped_tup', shaped_tup', pyL_ints, pyL_ints]
  simp only [PyData.eqv, eqv_ints]
  rfl
@[simp] theorem ne_lst (ns ms : List Int) : neD (.lst (ns.map D.int)) (.lst (ms.map D.int)) = some (!decide (ns = ms)) := by unfold neD; rw [eq_lst]; rfl
@[simp] theorem ne_tup (ns ms : List Int) : neD (.tup (ns.map D.int)) (.tup (ms.map D.int)) = some (!decide (ns = ms)) := by unfold neD; rw [eq_tup]; rfl
@[simp] theorem ne_lst0 (ns : List Int) : neD (.lst (ns.map D.int)) (.lst []) = some (!decide (ns = [])) := ne_lst ns []
@[simp] theorem ne_00 : neD (.lst []) (.lst []) = some false := ne_lst [] []
@[simp] theorem ne_int (i j : Int) : neD (.int i) (.int j) = some (!decide (i = j)) := by
  unfold neD eqD
  simp [flat, scal]
@[simp] theorem eq_int (i j : Int) : eqD (.int i) (.int j) = some (decide (i = j)) := by
  unfold eqD
  simp [flat, scal]
@[simp] theorem ne_str (x : Str) : neD (.str x) (.str x) = some false := by
  unfold neD eqD
  simp [flat, scal]
theorem atI_map {α β : Type} (f : α → β) (xs : List α) (i : Int) : atI (xs.map f) i = (atI xs i).map f := by
  unfold atI
  rw [List.length_map]
  cases ixN xs.length i with
  | none => rfl
  | some j => simp
theorem atI_nat' {α : Type} {xs : List α} {i : Nat} (h : i < xs.length) : atI xs (i : Int) = some xs[i] := by
  unfold atI ixN
  rw [if_pos (by omega), if_pos (by omega)]
  simp [h]
theorem fdiv_pos {i j : Int} (h : 0 < j) (h2 : j < 1073741824) : fdivI i j = some (i / j) := by
  unfold fdivI
  rw [if_pos (by omega)]
  congr 1
  exact Int.fdiv_eq_ediv_of_nonneg _ (by omega)
theorem mulI_l {i j : Int} (h : -(2 ^ 64) < i) (h2 : i < 2 ^ 64) : mulI i j = some (i * j) := by
  unfold mulI
  rw [if_pos]
  unfold small64
  rw [Bool.or_eq_true]
  left
  simp only [Bool.and_eq_true, decide_eq_true_eq]
  exact ⟨h, h2⟩
theorem mulI_r {i j : Int} (h : -(2 ^ 64) < j) (h2 : j < 2 ^ 64) : mulI i j = some (i * j) := by
  unfold mulI
  rw [if_pos]
  unfold small64
  rw [Bool.or_eq_true]
  right
  simp only [Bool.and_eq_true, decide_eq_true_eq]
  exact ⟨h, h2⟩
theorem rng1_nat {n : Nat} (h : n < 2 ^ 24) : rng1 [.int (n : Int)] = some ((List.range n).map fun i => D.int (i : Nat)) := by
  unfold rng1
  dsimp only
  have e : okI (n : Int) = true := by
    unfold okI
    rw [Bool.and_eq_true, decide_eq_true_eq, decide_eq_true_eq]
    omega
  rw [if_pos (by first | exact e | simp [e])]
  unfold rgD
  simp
/-! small numbers in lists and tuples -/
def nts (xs : List Nat) : List D := xs.map fun n => D.int (n : Nat)
theorem nts_eq (xs : List Nat) : nts xs = (xs.map fun n : Nat => (n : Int)).map D.int := by unfold nts; rw [List.map_map]; rfl
@[simp] theorem nts_len (xs : List Nat) : (nts xs).length = xs.length := by unfold nts; rw [List.length_map]
@[simp] theorem nts_nil : nts [] = [] := rfl
theorem nts_cons (x : Nat) (xs : List Nat) : nts (x :: xs) = D.int (x : Nat) :: nts xs := rfl
@[simp] theorem nts_app (xs ys : List Nat) : nts xs ++ nts ys = nts (xs ++ ys) := by unfold nts; rw [List.map_append]
@[simp] theorem nts_rev (xs : List Nat) : (nts xs).reverse = nts xs.reverse := by unfold nts; rw [List.map_reverse]
theorem natcast_inj : ∀ xs ys : List Nat, (xs.map (fun n : Nat => (n : Int)) = ys.map fun n : Nat => (n : Int)) ↔ xs = ys
  | [], [] => by simp
  | [], _ :: _ => by simp
  | _ :: _, [] => by simp
  | x :: xs, y :: ys => by
    rw [List.map_cons, List.map_cons, List.cons.injEq, List.cons.injEq, natcast_inj xs ys]
    constructor
    · rintro ⟨h1, h2⟩; exact ⟨by omega, h2⟩
    · rintro ⟨h1, h2⟩; exact ⟨by rw [h1], h2⟩
@[simp] theorem ne_nlst (xs ys : List Nat) : neD (.lst (nts xs)) (.lst (nts ys)) = some (!decide (xs = ys)) := by
  rw [nts_eq, nts_eq, ne_lst]
  simp only [natcast_inj]
@[simp] theorem ne_ntup (xs ys : List Nat) : neD (.tup (nts xs)) (.tup (nts ys)) = some (!decide (xs = ys)) := by
  rw [nts_eq, nts_eq, ne_tup]
  simp only [natcast_inj]
@[simp] theorem ne_nlst0 (xs : List Nat) : neD (.lst (nts xs)) (.lst []) = some (!decide (xs = [])) := ne_nlst xs []
theorem rng1_n {n : Nat} (h : n < 2 ^ 24) : rng1 [.int (n : Int)] = some (nts (List.range n)) := rng1_nat h
end Ev
/-! text M10 -/
set_option Elab.async false
set_option linter.all false
set_option maxRecDepth 100000
set_option maxHeartbeats 4000000
namespace Ev
open PySem L2

/-! ### neighbours that change places: plain lists -/
def exch {α : Type} : List α → Nat → List α
  | a :: b :: r, 0 => b :: a :: r
  | a :: r, p + 1 => a :: exch r p
  | l, _ => l
@[simp] theorem exch_nil {α : Type} (p : Nat) : exch ([] : List α) p = [] := by cases p <;> rfl
/-- the runners behind passes -/
def runs {α : Type} (l : List α) (w : List Nat) : List α := w.foldl exch l
abbrev stand (n : Nat) (w : List Nat) : List Nat := runs (List.range n) w
/-- the place of x -/
def place (x : Nat) (l : List Nat) : Nat := l.findIdx (· == x)
/-! the cuts that the programs make -/
theorem loop_nts {i : Nat} {B : Fs} (P : List Nat → Env → Prop) (step : ∀ p w ρ, P (p :: w) ρ → Ok (asg (.nm i) (.int (p : Nat)) ρ) fun ρ1 => Ok (B ρ1) fun y => y.1 = .nx ∧ P w y.2) {w : List Nat} {ρ : Env} (h : P w ρ) :
    Ok (loopF (.nm i) B (nts w) ρ) fun y => y.1 = .nx ∧ P [] y.2 := by
  refine (loopF_rel (fun ds ρ => ∃ w, ds = nts w ∧ P w ρ) (fun fl ρ => fl = .nx ∧ P [] ρ) ?_ ?_ (nts w) ρ ⟨w, rfl, h⟩)
  · rintro d ds ρ ⟨w, e, hp⟩
    cases w with
    | nil => cases e
    | cons p w =>
      rw [nts_cons] at e
      cases e
      refine (step p w ρ hp).imp fun ρ1 h1 => h1.imp fun y ⟨h2, h3⟩ => ?_
      obtain ⟨fl, ρ2⟩ := y
      dsimp only at h2
      subst h2
      exact ⟨w, rfl, h3⟩
  · rintro ρ ⟨w, e, hp⟩
    cases w with
    | nil => exact ⟨rfl, hp⟩
    | cons p w => cases e
/-! the told form: plain lists -/
def small (r : Nat) (l : List Nat) : List Nat := l.filter fun x => decide (x < r)
def back (l : List Nat) (r : Nat) : Nat := (small r (l.drop (place r l))).length
/-! repr of small numbers -/
end Ev
/-! text M11 -/
set_option Elab.async false
set_option linter.all false
set_option maxRecDepth 100000
set_option maxHeartbeats 4000000
namespace Ev
open PySem L2
end Ev
/-! text Ev30 -/
set_option Elab.async false
set_option linter.all false
set_option maxRecDepth 100000
set_option maxHeartbeats 4000000
/-! ### zip of two lists or tuples, mixed -/
namespace Ev
open PySem
open Sem (wp)
/-- t: a tuple, else a list -/
def SSq (t : Bool) (h : Heap) (l : Addr) (xs : Array Value) : Prop := if t = true then h.IsTuple l xs else h.IsList l xs
def SIt (t : Bool) (h : Heap) (i l : Addr) (k : Nat) : Prop := if t = true then h.IsTupleIter i l k else h.IsListIter i l k
theorem SIt.ob {t : Bool} {h : Heap} {i l : Addr} {k : Nat} (q : SIt t h i l k) : ∃ o, h.get? i = some o ∧ ∀ v, o.data ≠ .cell v := by
  cases t
  · obtain ⟨o, a, _, d⟩ := (show h.IsListIter i l k from q)
    exact ⟨o, a, fun v z => by rw [d] at z; cases z⟩
  · obtain ⟨o, a, _, d⟩ := (show h.IsTupleIter i l k from q)
    exact ⟨o, a, fun v z => by rw [d] at z; cases z⟩
theorem SIt.to {t : Bool} {h h' : Heap} {i l : Addr} {k : Nat} (q : SIt t h i l k) (e : ∀ o, h.get? i = some o → h'.get? i = some o) : SIt t h' i l k := by
  cases t
  · exact Heap.IsListIter.at (show h.IsListIter i l k from q) e
  · exact Heap.IsTupleIter.at (show h.IsTupleIter i l k from q) e
section
variable {prog : Program} {w : World} {A : Around} {E : Value → Shared → Prop} {s : Shared}
end
end Ev
/-! text Ev31 -/
set_option Elab.async false
set_option linter.all false
set_option maxRecDepth 100000
set_option maxHeartbeats 4000000
namespace Ev
open PySem PySem.Spec PyProof.Rows
open Sem (wp)
def itN : Bool → String
  | true => "tuple_iterator"
  | false => "list_iterator"
theorem SIt.new {t : Bool} {h : Heap} {i l : Addr} (e : h.get? i = some { cls := .type (itN t), data := .fields #[.ref l, .int 0 0] }) : SIt t h i l 0 := by
  cases t
  · exact (show h.IsListIter i l 0 from ⟨_, e, rfl, rfl⟩)
  · exact (show h.IsTupleIter i l 0 from ⟨_, e, rfl, rfl⟩)
section
variable {prog : Program} {w : World} {A : Around} {E : Value → Shared → Prop} {s : Shared}
end
end Ev
namespace Ev
open PySem L2
/-- a tracked list or tuple -/
def Sq (K : PySem.W.Frag) (t : Bool) (a : Addr) (H : Hp) (xs : List V) : Prop := if t = true then SqT K H a xs else SqL K H a xs
theorem Sq.inj {X : Cx} {pins : List (Addr × Obj)} {σ : St} {H : Hp} {s : Shared} {t : Bool} {a : Addr} {xs ys : List V} (I : Inv X pins σ H s) (q : Sq X.K t a H xs) (r : Sq X.K t a H ys) : xs = ys := by
  cases t
  · exact I.list_inj (show SqL X.K H a xs from q) r
  · exact I.tuple_inj (show SqT X.K H a xs from q) r
/-! zip, as data -/
end Ev
/-! text Ev32 -/
set_option Elab.async false
set_option linter.all false
set_option maxRecDepth 100000
set_option maxHeartbeats 4000000
namespace Ev
open PySem L2
/-! ### a new object of an own class -/
section
variable {X : Cx} {k : Nat} {f Cc : Addr} {F : Fn} {e o value : Expr} {es : List Expr}
/-! ### a part of one's own object stored -/
def putFD (f : Str) (d : D) : List (Str × D) → List (Str × D)
  | [] => [(f, d)]
  | (g, x) :: r => if g = f then (g, d) :: r else (g, x) :: putFD f d r
theorem RpF.put {W : Wd} {H : Hp} {f : Str} {v : V} {d : D} (rv : Rp W H v d) : ∀ {vs : List (Str × V)} {ds : List (Str × D)}, RpF W H vs ds → RpF W H (putF f v vs) (putFD f d ds)
  | _, _, .nil => .cons rv .nil
  | _, _, .cons (f := g) r t => by
    unfold putF putFD
    by_cases e : g = f
    · rw [if_pos e, if_pos e]; exact .cons rv t
    · rw [if_neg e, if_neg e]; exact .cons r (RpF.put rv t)
theorem RpF.len {W : Wd} {H : Hp} : ∀ {vs : List (Str × V)} {ds : List (Str × D)}, RpF W H vs ds → vs.length = ds.length
  | _, _, .nil => rfl
  | _, _, .cons _ t => congrArg (· + 1) t.len
end
end Ev
/-! text Ev33 -/
set_option Elab.async false
set_option linter.all false
set_option maxRecDepth 100000
set_option maxHeartbeats 4000000
namespace Ev
open PySem L2
/-! ### a table filled: o.g = {}, then two loops of stores o.g[a, b] = v -/
def kIn (t : Tg) (FV : Fd) (FK : Fl) : List D → Env → List (D × D) → Option (Env × List (D × D))
  | [], ρ, kvs => some (ρ, kvs)
  | d :: ds, ρ, kvs => (asg t d ρ).bind fun ρ1 => (FV ρ1).bind fun x => (FK x.2).bind fun z => if z.1.length ≤ sizeLine then (putDT kvs z.1 x.1).bind fun kvs' => kIn t FV FK ds z.2 kvs' else none
/-- no slot but the first holds an object -/
def Imms (ρ : Env) : Prop := ∀ (i : Nat) (s : Sl), ρ[i]? = some s → s.cont = none
/-- while it is filled: the object at x, its dict at q -/
structure KSt (W : Wd) (vfs : List (Str × V)) (Cc dx x q : Addr) (ρ : Env) (loc : Loc) (σ : St) (H Hf : Hp) (kvs : List (D × D)) : Prop where
  s : SOk W ρ loc σ H Hf
  no : Imms ρ
  z : σ[0]? = some (some (.ref x))
  hx : H x = some (.ins Cc dx vfs)
  fx : Hf x = none
  hq : ∃ ks, H q = some (.dT ks) ∧ RpT W Hf ks kvs
  fq : Hf q = none
theorem Imms.not {ρ : Env} (h : Imms ρ) {loc : Loc} {a : Addr} : ¬ IsOwn ρ loc a := fun ⟨i, s, c, h1, h2, _⟩ => by rw [h i s h1] at h2; cases h2
theorem Imms.ge {ρ ρ' : Env} {loc : Loc} {H Hf H' Hf' : Hp} (h : Imms ρ) (g : Ge ρ loc H Hf ρ' H' Hf') : Imms ρ' := fun i s e => by
  cases s with
  | un => rfl
  | imm d => rfl
  | own c =>
    obtain ⟨c', q⟩ := g.own i c e
    cases (h i _ q)
  | par c =>
    obtain ⟨c', q⟩ := g.par i c e
    cases (h i _ q)
/-- only x may have changed since H0 -/
structure Rl (x : Addr) (H0 Hf0 H Hf : Hp) : Prop where
  there : ∀ a, H a = none → H0 a = none
  keep : ∀ a o, H0 a = some o → a ≠ x → NT o → H a = some o
  frz : ∀ a o, H0 a = some o → a ≠ x → Hf a = Hf0 a
section
variable {W : Wd} {vfs : List (Str × V)} {Cc dx x q : Addr} {ρ ρ' : Env} {loc : Loc} {σ σ' : St} {H Hf H' Hf' H0 Hf0 : Hp} {kvs : List (D × D)}
theorem KSt.ge (k : KSt W vfs Cc dx x q ρ loc σ H Hf kvs) (g : Ge ρ loc H Hf ρ' H' Hf') (s : SOk W ρ' loc σ' H' Hf') (e : σ'[0]? = σ[0]?) : KSt W vfs Cc dx x q ρ' loc σ' H' Hf' kvs := by
  obtain ⟨ks, q1, q2⟩ := k.hq
  exact ⟨s, k.no.ge g, e.trans k.z, g.keep _ _ k.hx k.no.not nt_ins, (g.frz _ _ k.hx k.no.not).trans k.fx, ⟨ks, g.keep _ _ q1 k.no.not nt_dT, q2.mono (g.fixed k.s)⟩, (g.frz _ _ q1 k.no.not).trans k.fq⟩
theorem Rl.ge (r : Rl x H0 Hf0 H Hf) (no : Imms ρ) (g : Ge ρ loc H Hf ρ' H' Hf') : Rl x H0 Hf0 H' Hf' :=
  ⟨fun a h => r.there a (g.there a h), fun a o h n t => g.keep a o (r.keep a o h n t) no.not t, fun a o h n => let ⟨o1, h1⟩ := live_of r.there h; (g.frz a o1 h1 no.not).trans (r.frz a o h n)⟩
end
section
variable {W : Wd} {vfs : List (Str × V)} {Cc dx x q : Addr} {ρ ρ' : Env} {loc : Loc} {σ σ' : St} {H Hf H' Hf' H0 Hf0 Hf1 : Hp} {kvs : List (D × D)}
theorem KSt.own (k : KSt W vfs Cc dx x q ρ loc σ H Hf kvs) : OwnAt W H Hf q (.dct true kvs) := k.hq
/-- one store -/
theorem KSt.put (k : KSt W vfs Cc dx x q ρ loc σ H Hf kvs) (r : Rl x H0 Hf0 H Hf) (hx0 : H0 q = none) (hne : q ≠ x) {b : Addr} {vs : List V} {v : V} {kds : List D} {d : D} {kvs' : List (D × D)} (hb : H b = none) (rl : RpL W Hf vs kds) (rv : Rp W Hf v d) (e : putDT kvs kds d = some kvs') :
    ∃ u, DPut (upd H b (.tup vs)) q (.ref b) v (upd (upd H b (.tup vs)) q u) ∧ KSt W vfs Cc dx x q ρ loc σ (upd (upd H b (.tup vs)) q u) Hf kvs' ∧ Rl x H0 Hf0 (upd (upd H b (.tup vs)) q u) Hf := by
  have E := Ext.newO k.s.sub hb (.tup vs)
  have k1 := k.ge E.ge (k.s.ext E) rfl
  have r1 := r.ge k.no (E.ge (ρ := ρ) (loc := loc))
  obtain ⟨u, h1, h2⟩ := putDT_ok k1.own upd_same rl rv e
  obtain ⟨ks1, q1, _⟩ := k1.hq
  refine ⟨u, h1, ⟨k1.s.other k1.fq k1.no.not (ntb_some q1 nt_dT), k1.no, k1.z, by rw [upd_ne (Ne.symm hne)]; exact k1.hx, k1.fx, h2, k1.fq⟩, fun a z => ?_, fun a o z n t => ?_, r1.frz⟩
  · by_cases e1 : a = q
    · subst e1; exact hx0
    · rw [upd_ne e1] at z; exact r1.there a z
  · rw [upd_ne (ne_of_none z hx0)]; exact r1.keep a o z n t
variable {t t2 : Tg} {FV FN FP : Fd} {FK : Fl} {items : List D} {J : It} {En : Ends} {f g : Str} {ρe : Env} {kvse : List (D × D)} {m : V} {ms : List D}
end
end Ev
/-! text Ev34 -/
set_option Elab.async false
set_option linter.all false
set_option maxRecDepth 100000
set_option maxHeartbeats 4000000
namespace Ev
open PySem L2
section
variable {W : Wd} {vfs : List (Str × V)} {Cc dx x q : Addr} {ρ ρ' ρ2 : Env} {loc : Loc} {σ σ' : St} {H Hf H' Hf' H0 Hf0 Hf1 : Hp} {kvs kvse : List (D × D)}
variable {t t2 : Tg} {FV FN FP : Fd} {FK : Fl} {items es ms : List D} {d : D} {J : It} {En : Ends} {f g : Str} {ρe : Env} {m : V}
theorem RpF.app {W : Wd} {H : Hp} {f : Str} {v : V} {d : D} (rv : Rp W H v d) : ∀ {vs : List (Str × V)} {ds : List (Str × D)}, RpF W H vs ds → RpF W H (vs ++ [(f, v)]) (ds ++ [(f, d)])
  | _, _, .nil => .cons rv .nil
  | _, _, .cons r t => .cons r (RpF.app rv t)
end
end Ev
/-! text Ev35 -/
set_option Elab.async false
set_option linter.all false
set_option maxRecDepth 100000
set_option maxHeartbeats 4000000
namespace Ev
open PySem L2
section
variable {W : Wd} {t t2 : Tg} {FV FN FP : Fd} {FK : Fl} {En : Ends} {f g : Str} {p : Str → Str → Bool} {σ : St} {H : Hp}
end
section
variable {X : Cx} {k : Nat} {t t2 : Tg} {FV FN FP : Fd} {FK : Fl} {f g : Str} {p : Str → Str → Bool} {o1 o2 o3 o4 eP eN eV : Expr} {ts1 ts2 esK : List Expr} {k1 k2 kK : Nat} {pa pd p1 pz pf pc pz2 pf2 pc2 pg pK pS p4 p5 p6 pt1 pt2 : Pos}
end
end Ev
/-! text Ev36 -/
set_option Elab.async false
set_option linter.all false
set_option maxRecDepth 100000
set_option maxHeartbeats 4000000
/-! ### set(xs): what each step keeps is told by T -/
namespace Ev
open PySem PySem.Spec PyProof.Rows
section
variable {prog : Program} {w : World} {A : Around} {R : Result → Shared → Prop} {I : Addr} {fp : List Addr} {G : Array GenState → Array GenState → Prop} {n : Nat} {P : Nat → Value → Prop} {St : Nat → Shared → Prop} {T : Nat → Heap → Prop}
end
end Ev
/-! text Ev37 -/
set_option Elab.async false
set_option linter.all false
set_option maxRecDepth 100000
set_option maxHeartbeats 4000000
namespace Ev
open PySem PySem.Spec PyProof.Rows
section
variable {prog : Program} {w : World} {A : Around} {E : Value → Shared → Prop} {s : Shared}
end
end Ev
/-! text Ev38 -/
set_option Elab.async false
set_option linter.all false
set_option maxRecDepth 100000
set_option maxHeartbeats 4000000
namespace Ev
open PySem PySem.Spec PyProof.Rows
end Ev
/-! text Ev39 -/
set_option Elab.async false
set_option linter.all false
set_option maxRecDepth 100000
set_option maxHeartbeats 4000000
namespace Ev
open PySem PySem.Spec PyProof.Rows L2
end Ev
/-! text Ev40 -/
set_option Elab.async false
set_option linter.all false
set_option maxRecDepth 100000
set_option maxHeartbeats 4000000
namespace Ev
open PySem L2
end Ev
/-! text Ev41 -/
set_option Elab.async false
set_option linter.all false
set_option maxRecDepth 100000
set_option maxHeartbeats 4000000
namespace Ev
open PySem L2
/-! ### comprehensions of two clauses -/
end Ev
/-! text Ev42 -/
set_option Elab.async false
set_option linter.all false
set_option maxRecDepth 100000
set_option maxHeartbeats 4000000
namespace Ev
open PySem L2
section
variable {X : Cx} {tg iter tg1 iter1 elt : Expr} {k : Nat}
end
end Ev
/-! text Ev43 -/
set_option Elab.async false
set_option linter.all false
set_option maxRecDepth 100000
set_option maxHeartbeats 4000000
namespace Ev
open PySem L2

/-! ### own classes on the surface -/
/-- the class c as it stands behind the top: plain; fs are no attributes of it -/
structure ClB (Θ : Th) (c : Str) (fs : List Str) : Prop where
  ok : ∀ C, Θ.mg c = some (.ref C) → Cls Θ.K C ∧ ∀ f ∈ fs, NoAttr Θ.K C f
def flP (l : List (Str × List Str)) (c f : Str) : Bool := l.any fun z => z.1 == c && z.2.contains f
structure Flds (Θ : Th) (l : List (Str × List Str)) : Prop where
  ok : ∀ c f, flP l c f = true → FldOk Θ.K Θ.mg c f
theorem Flds.nil {Θ : Th} : Flds Θ [] := ⟨fun c f h => by simp [flP] at h⟩
theorem Flds.cons {Θ : Th} {c : Str} {fs : List Str} {l : List (Str × List Str)} (h : ClB Θ c fs) (t : Flds Θ l) : Flds Θ ((c, fs) :: l) := ⟨fun c' f e => by
  unfold flP at e
  rw [List.any_cons, Bool.or_eq_true] at e
  rcases e with e | e
  · rw [Bool.and_eq_true] at e
    obtain ⟨e1, e2⟩ := e
    have e1' : c = c' := by simpa using e1
    subst e1'
    exact ⟨fun C hC => ⟨(h.ok C hC).1, (h.ok C hC).2 f (by simpa using e2)⟩⟩
  · exact t.ok c' f e⟩
section
variable {Θ : Th} {N : List Str} {sc s0 : Scope} {k : Nat} {X : Cx} {a b c e o value : Expr} {es : List Expr} {FA FB : Fr} {FO FD : Fd} {FAs : Fa} {FL : Fl} {p pos : Pos}
theorem In.wd (I : In Θ N sc s0 k X) : wd X = Θ.W := by
  show (⟨X.K, X.mg, X.prog, X.w⟩ : Wd) = ⟨Θ.K, Θ.mg, Θ.P, Θ.w⟩
  rw [I.K, I.mg, I.prog, I.w]
theorem In.fl (I : In Θ N sc s0 k X) {l : List (Str × List Str)} (h : Flds Θ l) : ∀ c f, flP l c f = true → FldOk X.K X.mg c f := fun c f e => by
  rw [I.K, I.mg]; exact h.ok c f e
/-- n values -/
def chkL (n : Nat) (FL : Fl) : Fl := fun ρ => (FL ρ).bind fun x => if x.1.length = n then some x else none
theorem pls_chk {n : Nat} (h : PLs X es FL) : PLs X es (chkL n FL) := pa_imp h fun σ H Q ⟨ρ, loc, Hf, r, ρ', s, hF, kk⟩ => by
  unfold chkL at hF
  obtain ⟨x, q1, hF⟩ := Option.bind_eq_some_iff.mp hF
  split at hF
  · cases hF
    exact ⟨ρ, loc, Hf, _, _, s, q1, kk⟩
  · cases hF
theorem chkL_len {n : Nat} {ρ ρ' : Env} {ds : List D} (h : chkL n FL ρ = some (ds, ρ')) : ds.length = n := by
  unfold chkL at h
  obtain ⟨x, q1, h⟩ := Option.bind_eq_some_iff.mp h
  split at h
  · rename_i q
    cases h
    exact q
  · cases h
end

/-! ### what the top has written of a class -/
end Ev
/-! text Ev44 -/
set_option Elab.async false
set_option linter.all false
set_option maxRecDepth 100000
set_option maxHeartbeats 4000000
namespace Ev
open PySem L2

/-! ### simp rules for classes, texts, sets -/
section
variable {ρ : Env} {FO FD FD2 : Fd} {FA : Fr} {AA : Fa} {LL : Fl} {F : Fn} {p : Str → Str → Bool} {c m f : Str} {n : Nat}
@[simp ↓] theorem ap_chkL {Φ : _ → Prop} : Ok (chkL n LL ρ) Φ ↔ Ok (LL ρ) fun x => x.1.length = n ∧ Φ x := by
  unfold chkL
  rw [Ok_bind]
  exact Ok_ext fun y => Iff.trans Ok_iff (and_congr_right fun _ => Ok_some)
@[simp] theorem co_ins {fs : List (Str × D)} : C.toD (.ins c fs) = .obj c fs := rfl
@[simp] theorem ty_str {x : Str} : tyD (.str x) = some "str" := rfl
@[simp] theorem ty_non : tyD .non = some "NoneType" := rfl
@[simp] theorem ty_bl {b : Bool} : tyD (.bl b) = some "bool" := rfl
@[simp] theorem kb_ss : kitB "str" "str" = some true := by decide +kernel
@[simp] theorem seqI_str {z : Str} : seqI (.str z) = some (signsD z) := rfl
end
@[simp ↓] theorem ap_lc0 {t : Tg} {T : Ft} {FE : Fd} {vs : List Nat} {ρ : Env} {Φ : _ → Prop} : Ok (lcF t T FE vs [] ρ) Φ ↔ Φ ([], ρ) := Ok_some
@[simp ↓] theorem ap_lc {t : Tg} {T : Ft} {FE : Fd} {vs : List Nat} {d : D} {ds : List D} {ρ : Env} {Φ : _ → Prop} : Ok (lcF t T FE vs (d :: ds) ρ) Φ ↔ Ok (asg t d ρ) fun ρ1 => Ok (T ρ1) fun x => Ok (if x.1 = true then (FE x.2).bind fun y => (lcF t T FE vs ds (wipeE y.2 vs)).map fun z => (y.1 :: z.1, z.2) else lcF t T FE vs ds (wipeE x.2 vs)) Φ := by
  rw [lcF, Ok_bind]
  refine Ok_ext fun ρ1 => ?_
  rw [Ok_bind]
@[simp ↓] theorem ap_yes {ρ : Env} {Φ : _ → Prop} : Ok (yesT ρ) Φ ↔ Φ (true, ρ) := Ok_some
/-! lists, tuples of anything that f tells -/
end Ev
/-! text Ev45 -/
set_option Elab.async false
set_option linter.all false
set_option maxRecDepth 100000
set_option maxHeartbeats 4000000
namespace Ev
open PySem PySem.Spec PyProof.Rows L2 HT
/-! ### t += u, tuples -/
section
variable {prog : Program} {w : World} {A : Around} {E : Value → Shared → Prop} {s : Shared}
end
section
variable {X : Cx}
end
/-! ### x op= e -/
section
variable {X : Cx} {k : Nat} {e a b c o : Expr}
/-! ### xs[i] = e -/
end
section
variable {Θ : Th} {N : List Str} {sc s0 : Scope} {k : Nat} {X : Cx} {e o i value : Expr} {FR : Fr} {FV FK F : Fd}
end
section
variable {Θ : Th} {N : List Str} {sc s0 : Scope} {k : Nat} {X : Cx}
end
/-! for simp -/
section
variable {ρ : Env} {i : Nat} {f : D → D → Option Rv} {FD FV FK : Fd} {FR : Fr}
end
end Ev
/-! text Ev47 -/
set_option Elab.async false
set_option linter.all false
set_option maxRecDepth 100000
set_option maxHeartbeats 4000000
namespace Ev
open PySem PySem.Spec PyProof.Rows L2
/-! ### comprehensions of any number of clauses: what a clause does, by what the following ones do -/
abbrev NoX : Value → Shared → Prop := fun _ _ => False
section
variable {P : Program} {w : World} {A : Around} {elt : Expr} {gs : List Comprehension} {scope : Scope} {pos : Pos} {acc : Value} {env : PySem.Env} {d : Nat} {R : Result → Shared → Prop} {s : Shared}
/-- behind a clause's tests: the clause at d, or the element where there is none -/
def GoOn (P : Program) (w : World) (A : Around) (elt : Expr) (gs : List Comprehension) (scope : Scope) (pos : Pos) (acc : Value) (env : PySem.Env) (d : Nat) (G : Shared → Prop) (s : Shared) : Prop := match gs[d]? with
  | some g => wpAny (model P w) A (eval g.iter env) (fun x s1 => wpAny (model P w) A (pyIter x) (fun it s2 => codeAny (model P w) A (.compStart (.ListComp elt gs scope pos) d it acc env) (fun r s' => match r with
      | .ok _ => G s'
      | .error _ => False) s2) NoX s1) NoX s
  | none => wpAny (model P w) A (eval elt env) (fun x s1 => wpAny (model P w) A (call (.builtin "list.append") [acc, x]) (fun _ s2 => G s2) NoX s1) NoX s
end
/-! ### over the abstract state -/
section
variable {Z : Cx} {elt : Expr} {gs : List Comprehension} {scope : Scope} {pos : Pos} {D : Addr} {d : Nat} {vs vs' : List Nat}
/-- what is read of the slots that a comprehension's targets don't store to stays known -/
def Kept (vs : List Nat) (σ σ' : L2.St) : Prop := σ'.length = σ.length ∧ ∀ (j : Nat) (v : V), (wipe σ vs)[j]? = some (some v) → σ'[j]? = some (some v)
abbrev Rd := L2.St → Hp → (Hp → Prop) → Prop
def Goes (Z : Cx) (elt : Expr) (gs : List Comprehension) (scope : Scope) (pos : Pos) (D : Addr) (d : Nat) (vs : List Nat) (rd : Rd) : Prop :=
  ∀ (pins : List (Addr × Obj)) (s : Shared) (σ : L2.St) (H : Hp) (Nx : Hp → Prop) (G : Shared → Prop), Inv Z pins σ H s → rd σ H Nx → (∀ σ' H' s', Inv Z pins σ' H' s' → Kept vs σ σ' → Nx H' → G s') → GoOn Z.prog Z.w Z.A elt gs scope pos (.ref D) Z.env d G s
end
end Ev
/-! text Ev48 -/
set_option Elab.async false
set_option linter.all false
set_option maxRecDepth 100000
set_option maxHeartbeats 4000000
namespace Ev
open PySem PySem.Spec PyProof.Rows L2
section
variable {X : Cx} {tg iter elt : Expr} {ifs : List Expr} {gs : List Comprehension} {scope : Scope} {own : List (Str × Nat)} {vs' : List Nat} {wi : TI} {g : TG} {tt : TT} {nx : Addr → Rd} {pos : Pos}
end
end Ev
/-! text Ev49 -/
set_option Elab.async false
set_option linter.all false
set_option maxRecDepth 100000
set_option maxHeartbeats 4000000
namespace Ev
open PySem L2
/-! ### mirrors of comprehensions of any number of clauses -/
end Ev
/-! text Ev50 -/
set_option Elab.async false
set_option linter.all false
set_option maxRecDepth 100000
set_option maxHeartbeats 4000000
namespace Ev
open PySem L2
theorem Goes.imp {Z : Cx} {elt : Expr} {gs : List Comprehension} {scope : Scope} {pos : Pos} {D : Addr} {d : Nat} {vs : List Nat} {rd rd' : Rd} (h : Goes Z elt gs scope pos D d vs rd) (k : ∀ σ H Nx, rd' σ H Nx → rd σ H Nx) : Goes Z elt gs scope pos D d vs rd' :=
  fun pins s σ H Nx G I r hG => h pins s σ H Nx G I (k _ _ _ r) hG
section
variable {Θ : Th} {N : List Str} {sc s0 scope : Scope} {k : Nat} {X : Cx} {elt tg iter : Expr} {gs : List Comprehension} {ifs : List Expr} {pos : Pos} {d : Nat} {t : Tg} {FI : Fi} {T : Ft} {FE : Fd} {FN : Fl} {vs vs' : List Nat} {own : List (Str × Nat)}
end
/-! rules for simp -/
section
variable {ρ : Env} {t : Tg} {FI : Fi} {T : Ft} {FE : Fd} {FN : Fl} {vs : List Nat}
end
end Ev
/-! text Ev51 -/
set_option Elab.async false
set_option linter.all false
set_option maxRecDepth 100000
set_option maxHeartbeats 4000000
namespace Ev
open PySem L2
/-! ### list(d), dict(d), dict(pairs) -/
theorem rp_key {W : Wd} {H : Hp} {kd : D} {k : Key} (e : keyD kd = some k) : Rp W H (kV k) kd := by
  unfold keyD at e
  split at e
  · cases e; exact .int _
  · cases e; exact .str _
  · cases e
theorem RpK.keys {W : Wd} {H : Hp} : ∀ {ks : List (Key × V)} {ds : List (D × D)}, RpK W H ks ds → RpL W H (ks.map fun kv => kV kv.1) (ds.map (·.1))
  | _, _, .nil => .nil
  | _, _, .cons a _ t => .cons (rp_key a) t.keys
/-! ### {k: v for .. in ..}, keys ints or texts -/
theorem RpK.put {W : Wd} {Hf : Hp} {ks : List (Key × V)} {acc acc' : List (D × D)} {kd d : D} {y v : V} (r : RpK W Hf ks acc) (ry : Rp W Hf y kd) (rv : Rp W Hf v d) (e : putDK acc kd d = some acc') : ∃ k, y = kV k ∧ ks.length < sizeLine ∧ RpK W Hf (putK ks k v) acc' := by
  unfold putDK at e
  split at e
  · rename_i hl
    obtain ⟨k, e1, e2⟩ := Option.map_eq_some_iff.mp e
    subst e2
    refine ⟨k, keyD_rp ry e1, by rw [r.len]; exact hl, ?_⟩
    unfold putK putKD
    rw [r.anyk]
    split
    · exact r.chg rv
    · exact r.app e1 rv
  · cases e
section
variable {Θ : Th} {N : List Str} {sc s0 scope : Scope} {k : Nat} {X : Cx} {kx vx tg iter : Expr} {ifs : List Expr} {pos : Pos} {t : Tg} {FI : Fi} {T : Ft} {FK FV : Fd} {own : List (Str × Nat)}
end
section
variable {ρ : Env} {t : Tg} {FI : Fi} {T : Ft} {FK FV : Fd} {vs : List Nat}
end
end Ev
/-! text Ev57 -/
set_option Elab.async false
set_option linter.all false
set_option maxRecDepth 100000
set_option maxHeartbeats 4000000
namespace Ev
open PySem L2
/-! ### repr of a truth, of None -/
def rRepr1 : List V → Hp → VK → Prop := fun xs H Q => (∃ b, xs = [.bl b] ∧ Q (.str (if b then "True" else "False")) H) ∨ (xs = [.non] ∧ Q (.str "None") H)
theorem call_repr1 {X : Cx} : CallR X (.builtin "repr") rRepr1 := by
  intro pins s σ H xs us Q I r h
  rcases h with ⟨b, rfl, q⟩ | ⟨rfl, q⟩
  · obtain ⟨u, rfl, t⟩ := vals1 r
    cases t
    exact PySem.P.repr_of_bool ⟨.str _, H, I.tok _, ⟨_, rfl⟩, q⟩
  · obtain ⟨u, rfl, t⟩ := vals1 r
    cases t
    exact PySem.P.repr_of_none ⟨.str _, H, I.tok _, ⟨_, rfl⟩, q⟩
def reprXD : List D → Option Rv
  | [.bl b] => some (.imm (.str (if b then "True" else "False")))
  | [.non] => some (.imm (.str "None"))
  | ds => reprD ds
theorem dc_reprX {W : Wd} : DCall W (fun xs H Q => rRepr1 xs H Q ∨ rRepr W.K xs H Q) reprXD := fun vs ds z H Hf Q s a q k => by
  unfold reprXD at q
  split at q
  · cases q
    obtain ⟨v, rfl, b⟩ := a.one
    cases b
    exact .inl (.inl ⟨_, rfl, k _ H Hf (.refl s) (.str _)⟩)
  · cases q
    obtain ⟨v, rfl, b⟩ := a.one
    cases b
    exact .inl (.inr ⟨rfl, k _ H Hf (.refl s) (.str _)⟩)
  · exact .inr (dc_repr (W := W) vs ds z H Hf Q s a q k)
end Ev
/-! text Ev59 -/
set_option Elab.async false
set_option linter.all false
set_option maxRecDepth 100000
set_option maxHeartbeats 4000000
/-! ### dict(zip(xs, ys)), lists or tuples -/
namespace Ev
open PySem
open Sem (wp)
theorem SSq.to {t : Bool} {h h' : Heap} {l : Addr} {xs : Array Value} (q : SSq t h l xs) (e : ∀ o, h.get? l = some o → h'.get? l = some o) : SSq t h' l xs := by
  cases t
  · exact Heap.IsList.at (show h.IsList l xs from q) e
  · exact Heap.IsTuple.at (show h.IsTuple l xs from q) e
theorem SSq.ob {t : Bool} {h : Heap} {l : Addr} {xs : Array Value} (q : SSq t h l xs) : ∃ o, h.get? l = some o := by
  cases t
  · obtain ⟨o, a, _⟩ := (show h.IsList l xs from q)
    exact ⟨o, a⟩
  · obtain ⟨o, a, _⟩ := (show h.IsTuple l xs from q)
    exact ⟨o, a⟩
section
variable {prog : Program} {w : World} {A : Around} {E : Value → Shared → Prop} {s : Shared}
end
end Ev
/-! text Ev60 -/
set_option Elab.async false
set_option linter.all false
set_option maxRecDepth 100000
set_option maxHeartbeats 4000000
namespace Ev
open PySem L2
/-! as data -/
end Ev
/-! text Ev61 -/
set_option Elab.async false
set_option linter.all false
set_option maxRecDepth 100000
set_option maxHeartbeats 4000000
namespace Ev
open PySem L2
/-! ### dicts compared that are alike -/
end Ev
namespace Ev
open PySem L2
section
variable {Θ : Th} {N : List Str} {sc s0 : Scope} {k : Nat} {X : Cx} {e e2 : Expr} {FL : Fl} {p p2 q pos : Pos}
end
end Ev
/-! text Ev62 -/
set_option Elab.async false
set_option linter.all false
set_option maxRecDepth 100000
set_option maxHeartbeats 4000000
namespace Ev
open PySem PySem.Spec PyProof.Rows L2
end Ev
/-! text Ev63 -/
set_option Elab.async false
set_option linter.all false
set_option maxRecDepth 100000
set_option maxHeartbeats 4000000
namespace Ev
open PySem PySem.Spec PyProof.Rows PySem.SeqAt L2
/-! ### xs.count(e), xs a list or a tuple -/
def cntP (ds : List PyData) (d : PyData) : Nat := ds.countP fun y => PyData.eqv y d
def rLCount (K : PySem.W.Frag) : V → List V → Hp → VK → Prop := fun x xs H Q => ∃ (a : Addr) (y : V) (d : PyData) (ds : List PyData), x = V.ref a ∧ xs = [y] ∧ Dp K H (V.ref a) (.list ds) ∧ Dp K H y d ∧ SeqAt.shaped (.list ds) = true ∧ SeqAt.shaped d = true ∧ Q (.int (cntP ds d : Nat)) H
def rTCount (K : PySem.W.Frag) : V → List V → Hp → VK → Prop := fun x xs H Q => ∃ (a : Addr) (y : V) (d : PyData) (ds : List PyData), x = V.ref a ∧ xs = [y] ∧ Dp K H (V.ref a) (.tuple ds) ∧ Dp K H y d ∧ SeqAt.shaped (.tuple ds) = true ∧ SeqAt.shaped d = true ∧ Q (.int (cntP ds d : Nat)) H
theorem cnt_read {h : Heap} {its : List Value} {ds : List PyData} {as : List Addr} {d : PyData} (hx : PyData.canLayAll0 ds = true) (r : ReadsAll h its ds as) : its.countP (fun u => PyData.eqv (readOf h u) d) = cntP ds d := by
  unfold cntP
  rw [← SeqAt.readsAll_map ds its as hx r, List.countP_map]
  rfl
section
variable {X : Cx} {a o : Expr}
theorem mt_lcount (hu : X.A.units + 65 < cLine) : MtR X "list.count" (rLCount X.K) := by
  intro pins s σ H x xs v us Q I rx rxs h
  obtain ⟨a, y, d, ds, rfl, rfl, hl, hy, sl, sd, q⟩ := h
  cases rx
  obtain ⟨uy, rfl, ry⟩ := vals1 rxs
  obtain ⟨bs, r1⟩ := Dp.reads I d y uy hy ry
  have hxs : PyData.canLayAll0 ds = true := SeqAt.canLay_of_shaped sl
  cases hl with
  | lst hs ha =>
    obtain ⟨its, rv, ⟨⟨cls, dd, data, sls⟩, n, ho, hc, hdn, hdt⟩, hlen⟩ := I.list hs
    simp only at hc hdt
    subst hc hdt
    obtain ⟨as, h4⟩ := Dp.readsAll I ds _ its ha rv
    refine call_meets PySem.F.slot_list_count ⟨_, ho, rfl⟩ PySem.F.entry_list_count (PySem.F.args_list_count_2 _ _) (list_countAt a its.toArray n dd sls uy fun u => PyData.eqv (readOf s.heap u) d)
      ⟨ho, SeqAt.items_eqAt (vs := its.toArray) (show ReadsAll s.heap its.toArray.toList ds as from h4) r1 hxs (SeqAt.canLay_of_shaped sd) (room_in_shaped sd hu), ?_⟩
    have e := cnt_read (d := d) hxs h4
    refine ⟨.int (cntP ds d : Nat), H, I.tok _, ⟨s.toks, ?_⟩, q⟩
    rw [← e]
theorem mt_tcount (hu : X.A.units + 65 < cLine) : MtR X "tuple.count" (rTCount X.K) := by
  intro pins s σ H x xs v us Q I rx rxs h
  obtain ⟨a, y, d, ds, rfl, rfl, hl, hy, sl, sd, q⟩ := h
  cases rx
  obtain ⟨uy, rfl, ry⟩ := vals1 rxs
  obtain ⟨bs, r1⟩ := Dp.reads I d y uy hy ry
  have hxs : PyData.canLayAll0 ds = true := SeqAt.canLay_of_shaped sl
  cases hl with
  | tup hs ha =>
    obtain ⟨its, rv, ⟨⟨cls, dd, data, sls⟩, ho, hc, n, hdt⟩, hlen⟩ := I.tuple hs
    simp only at hc hdt
    subst hc hdt
    obtain ⟨as, h4⟩ := Dp.readsAll I ds _ its ha rv
    refine call_meets PySem.F.slot_tuple_count ⟨_, ho, rfl⟩ PySem.F.entry_tuple_count (PySem.F.args_tuple_count_2 _ _) (tuple_countAt a its.toArray n dd sls uy fun u => PyData.eqv (readOf s.heap u) d)
      ⟨ho, SeqAt.items_eqAt (vs := its.toArray) (show ReadsAll s.heap its.toArray.toList ds as from h4) r1 hxs (SeqAt.canLay_of_shaped sd) (room_in_shaped sd hu), ?_⟩
    have e := cnt_read (d := d) hxs h4
    refine ⟨.int (cntP ds d : Nat), H, I.tok _, ⟨s.toks, ?_⟩, q⟩
    rw [← e]
/-! as data -/
def cntD (d e : D) : Option Int := match d with
  | .lst xs => if SeqAt.shaped (.list (pyL xs)) = true ∧ SeqAt.shaped (py e) = true then some (cntP (pyL xs) (py e) : Nat) else none
  | .tup xs => if SeqAt.shaped (.tuple (pyL xs)) = true ∧ SeqAt.shaped (py e) = true then some (cntP (pyL xs) (py e) : Nat) else none
  | _ => none
def cntF (FR FA : Fr) : Fd := fun ρ => (FR ρ).bind fun x => (deref x.2 x.1).bind fun d0 => (FA x.2).bind fun y => (deref y.2 x.1).bind fun d => (deref y.2 y.1).bind fun e => if isLst d0 = isLst d ∧ isTup d0 = isTup d then (cntD d e).map fun j => (.int j, y.2) else none
theorem px_cnt {FR FA : Fr} {k : Nat} {apos pos : Pos} (q : Cq X k) (ho : PR X o FR) (ha : PR X a FA) (hr : plainRecv o = true) (hs : noStar a = true) (hl : (apos.endLine == pos.line) = true) : PD X (.Call (.Attribute o "count" apos) [a] [] pos) (cntF FR FA) := by
  have hu : X.A.units + 65 < cLine := by have := q.room.un; omega
  have hall : ([a] : List Expr).all noStar = true := by simp [hs]
  have h29 : ([a] : List Expr).length < 29 := by simp
  refine pe_imp (pe_or2 (pe_bm PySem.F.plainAttrs_list PySem.F.slot_list_count PySem.F.type_list_count (mt_lcount hu) ho (pa_cons ha pa_nil (starEach_cons hs)) (recv_base hr) (few_of hall h29) hl (starEach_cons hs) (starEach_plain pos rfl))
    (pe_bmT PySem.F.slot_tuple_count PySem.F.type_tuple_count (mt_tcount hu) ho (pa_cons ha pa_nil (starEach_cons hs)) hr hall h29 hl)) fun σ H Q ⟨ρ, loc, Hf, r, ρ', s, hF, kk⟩ => ?_
  unfold cntF at hF
  obtain ⟨⟨x, ρ1⟩, q1, hF⟩ := Option.bind_eq_some_iff.mp hF
  obtain ⟨d0, q2, hF⟩ := Option.bind_eq_some_iff.mp hF
  obtain ⟨⟨y, ρ2⟩, q3, hF⟩ := Option.bind_eq_some_iff.mp hF
  obtain ⟨d, q4, hF⟩ := Option.bind_eq_some_iff.mp hF
  obtain ⟨e, q5, hF⟩ := Option.bind_eq_some_iff.mp hF
  split at hF
  · rename_i hk
    obtain ⟨j, q6, q7⟩ := Option.map_eq_some_iff.mp hF
    cases q7
    unfold cntD at q6
    split at q6
    · rename_i xs
      split at q6
      · rename_i hsh
        cases q6
        refine .inl ⟨ρ, loc, Hf, x, ρ1, s, q1, fun v H1 Hf1 g1 s1 o1 => ?_⟩
        have ty0 : tyV X.K "list" v H1 := by
          obtain ⟨ys, rfl⟩ := isLst_eq (hk.1.trans rfl)
          obtain ⟨p, vs, rfl, h1, _⟩ := deref_b s1 o1 q2
          exact .inl ⟨rfl, vs, .of h1⟩
        refine ⟨ty0, ρ1, loc, Hf1, y, _, s1, q3, fun w H2 Hf2 g2 s2 o2 => ?_⟩
        have b1 := (deref_b s2 (o1.mono (g2.fixed s1)) q4)
        have b2 := (deref_b s2 o2 q5)
        have dp1 := (b1.up s2.sub).dp (SeqAt.canLay_of_shaped hsh.1)
        have dp2 := (b2.up s2.sub).dp (SeqAt.canLay_of_shaped hsh.2)
        obtain ⟨p, vs, rfl, h1, _⟩ := b1
        exact ⟨p, w, py e, pyL _, rfl, rfl, dp1, dp2, hsh.1, hsh.2, kk _ H2 Hf2 (g1.trans g2) s2 (.int _)⟩
      · cases q6
    · rename_i xs
      split at q6
      · rename_i hsh
        cases q6
        refine .inr ⟨ρ, loc, Hf, x, ρ1, s, q1, fun v H1 Hf1 g1 s1 o1 => ?_⟩
        have ty0 : ∃ p ob xs, v = .ref p ∧ H1 p = some (.frz ob (.tup xs)) ∧ ob.dict = none := by
          obtain ⟨ys, rfl⟩ := isTup_eq (hk.2.trans rfl)
          obtain ⟨p, ob, vs, rfl, h1, hn, _⟩ := rp_tup (deref_b s1 o1 q2)
          exact ⟨p, ob, vs, rfl, s1.sub _ _ h1, hn⟩
        refine ⟨ty0, ρ1, loc, Hf1, y, _, s1, q3, fun w H2 Hf2 g2 s2 o2 => ?_⟩
        have b1 := (deref_b s2 (o1.mono (g2.fixed s1)) q4)
        have b2 := (deref_b s2 o2 q5)
        have dp1 := (b1.up s2.sub).dp (SeqAt.canLay_of_shaped hsh.1)
        have dp2 := (b2.up s2.sub).dp (SeqAt.canLay_of_shaped hsh.2)
        obtain ⟨p, ob, vs, rfl, h1, _⟩ := rp_tup b1
        exact ⟨p, w, py e, pyL _, rfl, rfl, dp1, dp2, hsh.1, hsh.2, kk _ H2 Hf2 (g1.trans g2) s2 (.int _)⟩
      · cases q6
    · cases q6
  · cases hF
end
end Ev
namespace Ev
open PySem L2
section
variable {Θ : Th} {N : List Str} {sc s0 : Scope} {k : Nat} {X : Cx} {a o : Expr} {FA FB : Fr} {apos pos : Pos}
theorem s_count (I : In Θ N sc s0 k X) (ho : PR X o FA) (ha : PR X a FB) (hr : plainRecv o = true) (hs : noStar a = true) (hl : (apos.endLine == pos.line) = true) : PD X (.Call (.Attribute o "count" apos) [a] [] pos) (cntF FA FB) := px_cnt I.q ho ha hr hs hl
end
section
variable {FA FB : Fr} {ρ : Env}
@[simp ↓] theorem ap_cnt {Φ : _ → Prop} : Ok (cntF FA FB ρ) Φ ↔ Ok (FA ρ) fun x => Ok (deref x.2 x.1) fun d0 => Ok (FB x.2) fun y => Ok (deref y.2 x.1) fun d => Ok (deref y.2 y.1) fun e => (isLst d0 = isLst d ∧ isTup d0 = isTup d) ∧ Ok (cntD d e) fun j => Φ (.int j, y.2) := by
  unfold cntF
  rw [Ok_bind]
  refine Ok_ext fun x => ?_
  rw [Ok_bind]
  refine Ok_ext fun x => ?_
  rw [Ok_bind]
  refine Ok_ext fun x => ?_
  rw [Ok_bind]
  refine Ok_ext fun x => ?_
  rw [Ok_bind]
  refine Ok_ext fun x => ?_
  refine Iff.trans Ok_iff (and_congr_right fun _ => ?_)
  exact Ok_map
end
end Ev
/-! text Ev65 -/
set_option Elab.async false
set_option linter.all false
set_option maxRecDepth 100000
set_option maxHeartbeats 4000000
namespace Ev
open PySem L2
/-! ### xs[i], ys[j] = e, f -/
section
variable {X : Cx} {k : Nat} {e a b c o i o1 i1 o2 i2 value : Expr} {FR FR1 FR2 : Fr} {FV FK FK1 FK2 : Fd}
end
section
variable {Θ : Th} {N : List Str} {sc s0 : Scope} {k : Nat} {X : Cx} {o1 i1 o2 i2 value : Expr} {FR1 FR2 : Fr} {FV FK1 FK2 : Fd}
end
section
variable {FR FR1 FR2 : Fr} {FV FK FK1 FK2 : Fd} {ρ : Env} {d : D}
end
end Ev
/-! text Ev66 -/
set_option Elab.async false
set_option linter.all false
set_option maxRecDepth 100000
set_option maxHeartbeats 4000000
namespace Ev
open PySem L2
/-! ### lots: g = {}, then a loop of g.setdefault(k, []).append(v) -/
abbrev LotL := List (Key × List D)
def gAdd : LotL → Key → D → LotL
  | [], k, d => [(k, [d])]
  | p :: r, k, d => if p.1 = k then (p.1, p.2 ++ [d]) :: r else p :: gAdd r k d
def gPop : LotL → Key → Option (D × LotL)
  | [], _ => none
  | p :: r, k => if p.1 = k then (match p.2 with
    | [] => none
    | d :: ds => some (d, (p.1, ds) :: r)) else (gPop r k).map fun x => (x.1, p :: x.2)
/-- the lots at their lists -/
def LotsAt (W : Wd) (H Hf : Hp) : LotL → List (Key × Addr) → Prop
  | [], [] => True
  | p :: L, b :: B => b.1 = p.1 ∧ Hf b.2 = none ∧ (∃ vs, H b.2 = some (.lst vs) ∧ RpL W Hf vs p.2) ∧ LotsAt W H Hf L B
  | _, _ => False
abbrev dkB (B : List (Key × Addr)) : List (Key × V) := B.map fun b => (b.1, V.ref b.2)
section
variable {W : Wd} {H Hf H' Hf' : Hp}
theorem LotsAt.len : ∀ {L : LotL} {B : List (Key × Addr)}, LotsAt W H Hf L B → L.length = B.length
  | [], [], _ => rfl
  | _ :: _, _ :: _, h => congrArg (· + 1) (LotsAt.len h.2.2.2)
  | [], _ :: _, h => h.elim
  | _ :: _, [], h => h.elim
theorem LotsAt.mono (e : ∀ a o, H a = some o → Hf a = none → NT o → H' a = some o ∧ Hf' a = none) (ef : ∀ a o, Hf a = some o → Hf' a = some o) : ∀ {L : LotL} {B : List (Key × Addr)}, LotsAt W H Hf L B → LotsAt W H' Hf' L B
  | [], [], _ => True.intro
  | _ :: _, _ :: _, ⟨h1, h2, ⟨vs, h3, h4⟩, h5⟩ => by
    obtain ⟨q1, q2⟩ := e _ _ h3 h2 nt_lst
    exact ⟨h1, q2, ⟨vs, q1, h4.mono ef⟩, h5.mono e ef⟩
  | [], _ :: _, h => h.elim
  | _ :: _, [], h => h.elim
theorem LotsAt.get : ∀ {L : LotL} {B : List (Key × Addr)}, LotsAt W H Hf L B → ∀ (j : Nat) (b : Key × Addr), B[j]? = some b → ∃ ds vs, L[j]? = some (b.1, ds) ∧ Hf b.2 = none ∧ H b.2 = some (.lst vs) ∧ RpL W Hf vs ds
  | [], [], _, j, b, e => by simp at e
  | p :: L, c :: B, ⟨h1, h2, ⟨vs, h3, h4⟩, h5⟩, 0, b, e => by
    simp at e
    subst e
    exact ⟨p.2, vs, by rw [h1]; rfl, h2, h3, h4⟩
  | p :: L, c :: B, ⟨h1, h2, _, h5⟩, j + 1, b, e => by
    obtain ⟨ds, vs, q⟩ := LotsAt.get h5 j b (by simpa using e)
    exact ⟨ds, vs, by simpa using q.1, q.2⟩
  | [], _ :: _, h, _, _, _ => h.elim
  | _ :: _, [], h, _, _, _ => h.elim
/-- one list changes -/
theorem LotsAt.set {j : Nat} {k : Key} {b : Addr} {vs : List V} {ds : List D} (r : RpL W Hf vs ds) (hb : Hf b = none) : ∀ {L : LotL} {B : List (Key × Addr)} {j : Nat}, LotsAt W H Hf L B → (B.map (·.2)).Nodup → B[j]? = some (k, b) → LotsAt W (upd H b (.lst vs)) Hf (L.set j (k, ds)) B
  | [], [], j, _, _, e => by simp at e
  | p :: L, c :: B, 0, ⟨h1, h2, ⟨ws, h3, h4⟩, h5⟩, nd, e => by
    simp at e
    subst e
    rw [List.map_cons, List.nodup_cons] at nd
    refine ⟨rfl, hb, ⟨vs, upd_same, r⟩, ?_⟩
    have : ∀ {L : LotL} {B : List (Key × Addr)}, LotsAt W H Hf L B → b ∉ B.map (·.2) → LotsAt W (upd H b (.lst vs)) Hf L B := by
      intro L
      induction L with
      | nil => intro B h _; cases B with
        | nil => trivial
        | cons _ _ => exact h.elim
      | cons p L ih =>
        intro B h n
        cases B with
        | nil => exact h.elim
        | cons c B =>
          obtain ⟨g1, g2, ⟨ws, g3, g4⟩, g5⟩ := h
          have ne : c.2 ≠ b := fun e => n (by rw [List.map_cons, e]; exact List.mem_cons_self)
          exact ⟨g1, g2, ⟨ws, by rw [upd_ne ne]; exact g3, g4⟩, ih g5 fun z => n (List.mem_cons_of_mem _ z)⟩
    exact this h5 nd.1
  | p :: L, c :: B, j + 1, ⟨h1, h2, ⟨ws, h3, h4⟩, h5⟩, nd, e => by
    have e' : B[j]? = some (k, b) := by simpa using e
    rw [List.map_cons, List.nodup_cons] at nd
    have ne : c.2 ≠ b := fun z => nd.1 (by rw [z]; exact List.mem_map.mpr ⟨_, List.mem_of_getElem? e', rfl⟩)
    exact ⟨h1, h2, ⟨ws, by rw [upd_ne ne]; exact h3, h4⟩, LotsAt.set (j := j) r hb h5 nd.2 e'⟩
  | [], _ :: _, _, h, _, _ => h.elim
  | _ :: _, [], _, h, _, _ => h.elim
theorem LotsAt.app {k : Key} {b : Addr} {vs : List V} {ds : List D} (hf : Hf b = none) (hb : H b = some (.lst vs)) (r : RpL W Hf vs ds) : ∀ {L : LotL} {B : List (Key × Addr)}, LotsAt W H Hf L B → LotsAt W H Hf (L ++ [(k, ds)]) (B ++ [(k, b)])
  | [], [], _ => ⟨rfl, hf, ⟨vs, hb, r⟩, True.intro⟩
  | _ :: _, _ :: _, ⟨h1, h2, h3, h5⟩ => ⟨h1, h2, h3, LotsAt.app hf hb r h5⟩
  | [], _ :: _, h => h.elim
  | _ :: _, [], h => h.elim
/-- where a key is -/
theorem LotsAt.find {k : Key} : ∀ {L : LotL} {B : List (Key × Addr)}, LotsAt W H Hf L B → (valV (dkB B) k = none ∧ (∀ d, gAdd L k d = L ++ [(k, [d])]) ∧ gPop L k = none) ∨
    ∃ j b ds, B[j]? = some (k, b) ∧ L[j]? = some (k, ds) ∧ valV (dkB B) k = some (.ref b) ∧ (∀ d, gAdd L k d = L.set j (k, ds ++ [d])) ∧ ∀ d L', gPop L k = some (d, L') → ∃ ds', ds = d :: ds' ∧ L' = L.set j (k, ds')
  | [], [], _ => .inl ⟨rfl, fun _ => rfl, rfl⟩
  | p :: L, c :: B, ⟨h1, _, _, h5⟩ => by
    by_cases e : p.1 = k
    · refine .inr ⟨0, c.2, p.2, ?_, ?_, ?_, fun d => ?_, fun d L' h => ?_⟩
      · rw [← e, ← h1]; rfl
      · rw [← e]; rfl
      · unfold valV dkB
        rw [List.map_cons, List.find?_cons_of_pos (by simp [h1, e])]
        rfl
      · show (if p.1 = k then _ else _) = _
        rw [if_pos e, e]; rfl
      · unfold gPop at h
        rw [if_pos e] at h
        split at h
        · cases h
        · rename_i d' ds q
          cases h
          exact ⟨ds, q, by rw [e]; rfl⟩
    · have hv : valV (dkB (c :: B)) k = valV (dkB B) k := by
        unfold valV dkB
        rw [List.map_cons, List.find?_cons_of_neg (by simp [h1, e])]
      have ha : ∀ d, gAdd (p :: L) k d = p :: gAdd L k d := fun d => if_neg e
      have hp : gPop (p :: L) k = (gPop L k).map fun x => (x.1, p :: x.2) := if_neg e
      rcases LotsAt.find (k := k) h5 with ⟨q1, q2, q3⟩ | ⟨j, b, ds, q1, q2, q3, q4, q5⟩
      · exact .inl ⟨hv.trans q1, fun d => by rw [ha, q2]; rfl, by rw [hp, q3]; rfl⟩
      · refine .inr ⟨j + 1, b, ds, by simpa using q1, by simpa using q2, hv.trans q3, fun d => by rw [ha, q4]; rfl, fun d L' h => ?_⟩
        rw [hp] at h
        obtain ⟨⟨d1, L1⟩, z1, z2⟩ := Option.map_eq_some_iff.mp h
        cases z2
        obtain ⟨ds', z3, z4⟩ := q5 _ _ z1
        exact ⟨ds', z3, by rw [z4]; rfl⟩
  | [], _ :: _, h => h.elim
  | _ :: _, [], h => h.elim
end
theorem up_there {H0 H : Hp} {p : Addr} {u : HO} (t : ∀ a, H a = none → H0 a = none) (hp : H0 p = none) {a : Addr} (h : upd H p u a = none) : H0 a = none := by
  by_cases e : a = p
  · rw [e]; exact hp
  · rw [upd_ne e] at h; exact t a h
/-- while they are filled: the dict at q, in slot i -/
structure GSt (W : Wd) (i : Nat) (q : Addr) (H0 Hf0 : Hp) (ρ : Env) (loc : Loc) (σ : St) (H Hf : Hp) (L : LotL) (B : List (Key × Addr)) : Prop where
  s : SOk W ρ loc σ H Hf
  no : Imms ρ
  z : σ[i]? = some (some (.ref q))
  hq : H q = some (.dK (dkB B))
  fq : Hf q = none
  la : LotsAt W H Hf L B
  nd : (B.map (·.2)).Nodup
  nw : ∀ b ∈ B, H0 b.2 = none
  nq : H0 q = none
  E : ExtT H0 Hf0 H Hf
section
variable {W : Wd} {i : Nat} {q : Addr} {H0 Hf0 : Hp} {ρ ρ' : Env} {loc : Loc} {σ σ' : St} {H Hf H' Hf' Hf1 : Hp} {L : LotL} {B : List (Key × Addr)}
theorem GSt.ge (k : GSt W i q H0 Hf0 ρ loc σ H Hf L B) (g : Ge ρ loc H Hf ρ' H' Hf') (s : SOk W ρ' loc σ' H' Hf') (e : σ'[i]? = σ[i]?) : GSt W i q H0 Hf0 ρ' loc σ' H' Hf' L B :=
  ⟨s, k.no.ge g, e.trans k.z, g.keep _ _ k.hq k.no.not nt_dK, (g.frz _ _ k.hq k.no.not).trans k.fq, k.la.mono (fun a o h1 h2 t => ⟨g.keep _ _ h1 k.no.not t, (g.frz _ _ h1 k.no.not).trans h2⟩) (g.fixed k.s), k.nd, k.nw, k.nq,
    ⟨s.sub, fun a h => k.E.there a (g.there a h), fun a o h t => g.keep _ _ (k.E.keep a o h t) k.no.not t, fun a o h => let ⟨_, h1⟩ := live_of k.E.there h; (g.frz _ _ h1 k.no.not).trans (k.E.frz a o h)⟩⟩
theorem GSt.ne (k : GSt W i q H0 Hf0 ρ loc σ H Hf L B) {j : Nat} {b : Key × Addr} (e : B[j]? = some b) : b.2 ≠ q := fun z => by
  obtain ⟨ds, vs, _, _, h, _⟩ := k.la.get j b e
  rw [z, k.hq] at h; cases h
/-- a new lot -/
theorem GSt.new (k : GSt W i q H0 Hf0 ρ loc σ H Hf L B) {key : Key} {b : Addr} (hb : H b = some (.lst [])) (hf : Hf b = none) (h0 : H0 b = none) (nb : b ∉ B.map (·.2)) (hv : valV (dkB B) key = none) :
    GSt W i q H0 Hf0 ρ loc σ (upd H q (.dK (putK (dkB B) key (.ref b)))) Hf (L ++ [(key, [])]) (B ++ [(key, b)]) := by
  have hbq : b ≠ q := fun e => by rw [e, k.hq] at hb; cases hb
  have ek : putK (dkB B) key (.ref b) = dkB (B ++ [(key, b)]) := by
    rw [putK_new]
    · unfold dkB; rw [List.map_append]; rfl
    · intro hm
      obtain ⟨p, hp, e⟩ := List.mem_map.mp hm
      unfold valV at hv
      cases hf : (dkB B).find? fun kv => decide (kv.1 = key) with
      | some x => rw [hf] at hv; cases hv
      | none =>
        have := List.find?_eq_none.mp hf p hp
        simp [e] at this
  refine ⟨k.s.other k.fq k.no.not (ntb_some k.hq nt_dK), k.no, k.z, ?_, k.fq, ?_, ?_, ?_, k.nq, ⟨fun a o h => ?_, fun a h => up_there k.E.there k.nq h, fun a o h t => ?_, k.E.frz⟩⟩
  · rw [upd_same, ek]
  · have l1 : LotsAt W H Hf (L ++ [(key, [])]) (B ++ [(key, b)]) := k.la.app hf hb .nil
    have : ∀ {L : LotL} {B : List (Key × Addr)}, LotsAt W H Hf L B → LotsAt W (upd H q (.dK (putK (dkB B) key (.ref b)))) Hf L B → True := fun _ _ => trivial
    have l2 : ∀ {L : LotL} {B' : List (Key × Addr)} (u : HO), LotsAt W H Hf L B' → LotsAt W (upd H q u) Hf L B' ∨ ∃ b ∈ B', b.2 = q := by
      intro L
      induction L with
      | nil => intro B' u h; cases B' with
        | nil => exact .inl trivial
        | cons _ _ => exact h.elim
      | cons p L ih =>
        intro B' u h
        cases B' with
        | nil => exact h.elim
        | cons c B' =>
          obtain ⟨g1, g2, ⟨ws, g3, g4⟩, g5⟩ := h
          by_cases e : c.2 = q
          · exact .inr ⟨c, List.mem_cons_self, e⟩
          · rcases ih u g5 with z | ⟨x, hx, ex⟩
            · exact .inl ⟨g1, g2, ⟨ws, by rw [upd_ne e]; exact g3, g4⟩, z⟩
            · exact .inr ⟨x, List.mem_cons_of_mem _ hx, ex⟩
    rcases l2 (.dK (putK (dkB B) key (.ref b))) l1 with z | ⟨x, hx, ex⟩
    · exact z
    · exfalso
      rcases List.mem_append.mp hx with hx | hx
      · obtain ⟨j, hj⟩ := List.getElem?_of_mem hx
        exact k.ne hj ex
      · rw [List.mem_singleton.mp hx] at ex
        exact hbq ex
  · rw [List.map_append, List.nodup_append]
    refine ⟨k.nd, by simp, fun x hx y hy e => ?_⟩
    simp at hy
    subst hy
    exact nb (e ▸ hx)
  · intro x hx
    rcases List.mem_append.mp hx with hx | hx
    · exact k.nw x hx
    · rw [List.mem_singleton.mp hx]; exact h0
  · rw [upd_ne (ne_of_none h k.fq)]; exact k.s.sub a o h
  · rw [upd_ne (ne_of_none h k.nq)]; exact k.E.keep a o h t
/-- a list changes -/
theorem GSt.chg (k : GSt W i q H0 Hf0 ρ loc σ H Hf L B) {j : Nat} {key : Key} {b : Addr} {vs : List V} {ds : List D} (e : B[j]? = some (key, b)) (r : RpL W Hf vs ds) :
    GSt W i q H0 Hf0 ρ loc σ (upd H b (.lst vs)) Hf (L.set j (key, ds)) B := by
  obtain ⟨ds0, vs0, _, hf, hh, _⟩ := k.la.get j _ e
  have ne := k.ne e
  have h0 := k.nw _ (List.mem_of_getElem? e)
  refine ⟨k.s.other hf k.no.not (ntb_some hh nt_lst), k.no, k.z, by rw [upd_ne (Ne.symm ne)]; exact k.hq, k.fq, k.la.set (j := j) r hf k.nd e, k.nd, k.nw, k.nq, ⟨fun a o h => ?_, fun a h => up_there k.E.there h0 h, fun a o h t => ?_, k.E.frz⟩⟩
  · rw [upd_ne (ne_of_none h hf)]; exact k.s.sub a o h
  · rw [upd_ne (ne_of_none h h0)]; exact k.E.keep a o h t
end
end Ev
/-! text Ev67 -/
set_option Elab.async false
set_option linter.all false
set_option maxRecDepth 100000
set_option maxHeartbeats 4000000
namespace Ev
open PySem L2
section
variable {W : Wd} {i : Nat} {q : Addr} {H0 Hf0 : Hp} {ρ ρ' ρ3 ρ4 : Env} {loc : Loc} {σ σ' : St} {H Hf H' Hf' Hf1 : Hp} {L : LotL} {B : List (Key × Addr)}
variable {t : Tg} {FK FV : Fd} {F0 : Fe} {items : List D} {J : It} {En : Ends} {ρe : Env} {Le : LotL}
end
end Ev
/-! text Ev68 -/
set_option Elab.async false
set_option linter.all false
set_option maxRecDepth 100000
set_option maxHeartbeats 4000000
namespace Ev
open PySem L2
section
variable {W : Wd} {i : Nat} {q : Addr} {H0 Hf0 : Hp} {ρ ρ' : Env} {loc : Loc} {σ σ' : St} {H Hf H' Hf' Hf1 : Hp} {L : LotL} {B : List (Key × Addr)}
theorem LotsAt.other {p : Addr} {u : HO} : ∀ {L : LotL} {B : List (Key × Addr)}, LotsAt W H Hf L B → p ∉ B.map (·.2) → LotsAt W (upd H p u) Hf L B
  | [], [], _, _ => True.intro
  | _ :: _, c :: B, ⟨g1, g2, ⟨ws, g3, g4⟩, g5⟩, n => by
    rw [List.map_cons, List.mem_cons, not_or] at n
    exact ⟨g1, g2, ⟨ws, by rw [upd_ne (Ne.symm n.1)]; exact g3, g4⟩, LotsAt.other g5 n.2⟩
  | [], _ :: _, h, _ => h.elim
  | _ :: _, [], h, _ => h.elim
/-- another hidden thing -/
theorem GSt.other (k : GSt W i q H0 Hf0 ρ loc σ H Hf L B) {p : Addr} {u : HO} (hf : Hf p = none) (h0 : H0 p = none) (nq : q ≠ p) (nb : p ∉ B.map (·.2)) (nt : ∀ ps, H p ≠ some (.tbl ps)) : GSt W i q H0 Hf0 ρ loc σ (upd H p u) Hf L B :=
  ⟨k.s.other hf k.no.not nt, k.no, k.z, by rw [upd_ne nq]; exact k.hq, k.fq, k.la.other nb, k.nd, k.nw, k.nq,
    ⟨fun a o h => by rw [upd_ne (ne_of_none h hf)]; exact k.s.sub a o h, fun a h => up_there k.E.there h0 h, fun a o h t => by rw [upd_ne (ne_of_none h h0)]; exact k.E.keep a o h t, k.E.frz⟩⟩
theorem GSt.wiped (k : GSt W i q H0 Hf0 ρ loc σ H Hf L B) {vs : List Nat} (hv : i ∉ vs) : GSt W i q H0 Hf0 (wipeE ρ vs) loc (wipe σ vs) H Hf L B := by
  have no : Imms (wipeE ρ vs) := fun j u e => by
    rcases wipeE_in e with ⟨_, z⟩ | ⟨_, z⟩
    · subst z; rfl
    · exact k.no j u z
  exact ⟨k.s.wipe vs, no, (wipe_out' hv).trans k.z, k.hq, k.fq, k.la, k.nd, k.nw, k.nq, k.E⟩
theorem GSt.free (k : GSt W i q H0 Hf0 ρ loc σ H Hf L B) {D : Addr} (hD : H D = none) : Hf D = none ∧ H0 D = none ∧ q ≠ D ∧ D ∉ B.map (·.2) := by
  have n1 : q ≠ D := fun e => by rw [← e, k.hq] at hD; cases hD
  refine ⟨free_of k.s.sub hD, k.E.there D hD, n1, fun hm => ?_⟩
  obtain ⟨x, hx, ex⟩ := List.mem_map.mp hm
  obtain ⟨j, hj⟩ := List.getElem?_of_mem hx
  obtain ⟨_, _, _, _, hh, _⟩ := k.la.get j _ hj
  rw [ex, hD] at hh; cases hh
end
section
variable {W : Wd} {i : Nat} {t t2 : Tg} {FI FI2 : Fi} {FK FV FK2 : Fd} {F0 : Fe} {vs : List Nat} {En : Ends} {σ : St} {H : Hp}
end
section
variable {Θ : Th} {N : List Str} {sc s0 : Scope} {X : Cx} {k : Nat} {i : Nat} {t t2 : Tg} {FI FI2 : Fi} {FK FV FK2 : Fd} {x : Str} {tg tg2 iter iter2 eK eV eK2 : Expr} {scope : Scope} {own : List (Str × Nat)} {jc : Nat} {p1 pd p2 p3 p4 pl p5 p6 p7 p8 p9 q1 q2 q3 q4 q5 q6 q7 : Pos}
end
end Ev
/-! text Ev69 -/
set_option Elab.async false
set_option linter.all false
set_option maxRecDepth 100000
set_option maxHeartbeats 4000000
namespace Ev
open PySem PySem.Spec PyProof.Rows L2
/-! ### sorted(t), t a tuple of texts -/
section
variable {M0 : Program} {w0 : World} {A : Around} {E : Value → Shared → Prop} {s : Shared}
end
/-! ### texts in order -/
end Ev
/-! text Ev70 -/
set_option Elab.async false
set_option linter.all false
set_option maxRecDepth 100000
set_option maxHeartbeats 4000000
namespace Ev
open PySem L2
/-! ### xs += ys, xs a list of one's own -/
section
variable {X : Cx} {k : Nat} {e : Expr}
end
section
variable {Θ : Th} {N : List Str} {sc s0 : Scope} {k : Nat} {X : Cx} {e : Expr} {F : Fd}
end
section
variable {ρ : Env} {i : Nat} {FD : Fd}
end
end Ev
/-! text Ev71 -/
set_option Elab.async false
set_option linter.all false
set_option maxRecDepth 100000
set_option maxHeartbeats 4000000
namespace Ev
open PySem PySem.Spec PyProof.Rows L2
/-! ### dicts of one's own whose keys are tuples that live on as data -/
section
variable {P : Program} {w : World} {H : Hp} {h : Heap} {a b : Addr} {kvs ks : List (List L2.Key × V)} {xs : List (List L2.Key × Addr × Value)} {k : List L2.Key} {y : V} {u : Value} {ob : Obj}
theorem dz_new {h' : Heap} (d : h'.DictOfH (tupleKind (mixKind P w)) a xs) : ∃ ep, ∀ H' : Hp, ObjOk P w H' h' a (dZ P w a ep xs) := by
  obtain ⟨o, es, ep, h1, h2, h3, h4, _, _⟩ := d
  exact ⟨ep, fun _ => ⟨⟨o, es, h1, h2, h3, h4⟩, ⟨o, h1⟩, fun g1 g2 ⟨o, es, k1, k2, k3, k4⟩ kp => ⟨o, es, kp o k1, k2, k3, k4⟩⟩⟩
end
section
variable {X : Cx} {pins : List (Addr × Obj)} {σ : L2.St} {H : Hp} {s : Shared} {a b : Addr} {v : V} {u r : Value} {xs : List (List L2.Key × Addr × Value)} {k : List L2.Key} {ob : Obj} {A : Around} {E : Value → Shared → Prop}
end
theorem dz_empty {P : Program} {w : World} {H : Hp} (h : Heap) : ObjOk P w H (h.push { cls := .type "dict", data := .dict #[] }) h.objs.size (dZ P w h.objs.size 0 []) :=
  ⟨⟨_, #[], Heap.get?_push_size _ rfl, ⟨rfl, rfl, rfl⟩, rfl, rfl⟩, ⟨_, Heap.get?_push_size _ rfl⟩, fun g1 g2 ⟨o, es, k1, k2, k3, k4⟩ kp => ⟨o, es, kp o k1, k2, k3, k4⟩⟩
section
variable {X : Cx} {o i value ke ve : Expr} {td ty tv tk : TE} {pos pos' : Pos}
end
/-! ### as mirrors -/
section
variable {X : Cx} {o i value ke ve : Expr} {k : Nat} {FV FK : Fd} {FR : Fr} {pos pos' : Pos}
end
section
variable {Θ : Th} {N : List Str} {sc s0 : Scope} {k : Nat} {X : Cx} {o i value ke ve : Expr} {FV FK : Fd} {FR : Fr} {pos pos' : Pos}
end
section
variable {ρ : Env} {FV FK : Fd} {FR : Fr}
@[simp] theorem co_dz {kvs : List (D × D)} : C.toD (.dz kvs) = .dct true kvs := rfl
end
end Ev
/-! text Ev72 -/
set_option Elab.async false
set_option linter.all false
set_option maxRecDepth 100000
set_option maxHeartbeats 4000000
namespace Ev
open PySem L2
/-! ### d.get(k, e), d a dict with numbers or texts as keys -/
section
variable {X : Cx} {a b o : Expr}
end
end Ev
namespace Ev
open PySem L2
section
variable {Θ : Th} {N : List Str} {sc s0 : Scope} {k : Nat} {X : Cx} {a b o : Expr} {FR FA : Fr} {FB : Fd} {apos pos : Pos}
end
section
variable {FR FA : Fr} {FB : Fd} {ρ : Env}
end
end Ev
/-! text Ex1 -/
set_option Elab.async false
set_option linter.all false
set_option maxRecDepth 100000
set_option maxHeartbeats 4000000
namespace Ev
open PySem PySem.Spec PyProof.Rows L2

/-! ### what is raised: a second mirror -/
structure Ex where
  cls : Str
  fs : List (Str × D)
/-- the raised object's class and dict, as data -/
def ExAt (W : Wd) (cls : Value) (d : Option Addr) (Hf : Hp) (x : Ex) : Prop := ∃ (Cc : Addr) (vfs : List (Str × V)), W.mg x.cls = some (.ref Cc) ∧ cls = .ref Cc ∧ XdAt Hf d vfs ∧ RpF W Hf vfs x.fs
theorem ExAt.mono {W : Wd} {cls : Value} {d : Option Addr} {Hf Hf' : Hp} {x : Ex} (e : ∀ b o, Hf b = some o → Hf' b = some o) (h : ExAt W cls d Hf x) : ExAt W cls d Hf' x := by
  obtain ⟨Cc, vfs, h1, h2, h3, h4⟩ := h
  exact ⟨Cc, vfs, h1, h2, h3.mono e, h4.mono e⟩
abbrev Gx := Env → Option (Ex × Env)
abbrev WXr := Value → Option Addr → List (Option V) → Hp → Prop
section
variable {W : Wd} {K : WXr} {G G1 G2 : Gx} {σ : L2.St} {H : Hp}
end
section
variable {X : Cx} {e a b c : Expr} {es : List Expr} {st : Stmt} {l bs : List Stmt} {G G1 G2 : Gx} {pos p : Pos}
theorem PS.free {t : TS} (h : PS X.nox st t) : PS X st t := ⟨fun pn s σ H D I w => wpAny_mono (h.run pn s σ H D (I.wish _) w) (fun _ _ z => z.unwish) (fun _ _ z => z.elim)⟩
theorem PA.free {t : TA} (h : PA X.nox es t) : PA X es t := ⟨fun ps pn s σ H Q I w => wpAny_mono (h.run ps pn s σ H Q (I.wish _) w) (fun _ _ z => let ⟨v, H1, J, r, q⟩ := z; ⟨v, H1, J.unwish, r, q⟩) (fun _ _ z => z.elim)⟩
/-! or -/
/-! rows of statements -/
/-! statements of one expression -/
/-! loops -/
/-! expressions -/
end
end Ev
/-! text Ex2 -/
set_option Elab.async false
set_option linter.all false
set_option maxRecDepth 100000
set_option maxHeartbeats 4000000
namespace Ev
open PySem PySem.Spec PyProof.Rows L2

/-! ### a def that raises: of its arguments, all data -/
abbrev Fnx := List D → Option Ex
structure CallX (P : Program) (w : World) (K : PySem.W.Frag) (mg : Str → Option Value) (base : Heap) (k : Nat) (f : Addr) (n : Nat) (ks : List Str) (G : Fnx) : Prop where
  run : ∀ (A : Around) (outer : List PySem.Env) (s : Shared) (H : Hp) (us ws : List Value) (vs zs : List V) (E : XK), Room k A → A.guards = some [] → Env0 P w K mg base A outer s H → us.length = n → ws.length = ks.length → Vals vs us → Vals zs ws →
    (∃ Hf ds x, Sub Hf H ∧ TabsOk ⟨K, mg, P, w⟩ H Hf ∧ RpL ⟨K, mg, P, w⟩ Hf (vs ++ zs) ds ∧ G ds = some x ∧ ∀ cls d H' Hf', ExtT H Hf H' Hf' → TabsOk ⟨K, mg, P, w⟩ H' Hf' → ExAt ⟨K, mg, P, w⟩ cls d Hf' x → E cls d H') →
    codeAny (model P w) A (.call (.ref f) ⟨us, ks.zip ws⟩) (CR (L2.CX P w) outer P w H s (fun _ _ => False) E) s
theorem CallX.mono {P : Program} {w : World} {K : PySem.W.Frag} {mg : Str → Option Value} {base : Heap} {k j : Nat} {f : Addr} {n : Nat} {ks : List Str} {G : Fnx} (c : CallX P w K mg base k f n ks G) (h : k ≤ j) : CallX P w K mg base j f n ks G :=
  ⟨fun A outer s H us ws vs zs E hr => c.run A outer s H us ws vs zs E (hr.mono h)⟩
/-! ### calls that raise -/
section
variable {X : Cx} {e a b o : Expr} {es : List Expr} {k : Nat} {f C : Addr} {G : Fnx} {K : WXr}
end
end Ev
/-! text Ex3 -/
set_option Elab.async false
set_option linter.all false
set_option maxRecDepth 100000
set_option maxHeartbeats 4000000
namespace Ev
open PySem PySem.Spec PyProof.Rows L2

/-! ### own exception classes over a built-in one, with an __init__ of their own -/
structure XBase (x : Str) (B newId initId : String) (bmB : List Value) : Prop where
  new : XNew newId bmB
  ini : XIni B initId bmB
  stf : StoreFacts B bmB "object.__setattr__" "object"
  ty : typeOf (.type B) = pure (.type "type")
  stub : Manifest.isStub B = false
  hand : PySem.W.handedIn (.builtin initId) = true
  boot : bootBuiltins x = some (.type B)
  nn : x ≠ "__name__"
  nd : (x == ("__debug__" : Str)) = false
structure XCls (K : PySem.W.Frag) (C : Addr) (bmB : List Value) (newId : String) : Prop where
  q : PySem.W.excInitIn K C bmB newId = true
  ov : PySem.W.excOver K C bmB = true
  hd : PySem.W.hasDictIn K C = true
  sa : PySem.W.findIn K (.ref C) "__setattr__" = some (some (.builtin "object.__setattr__"))
  exC : PySem.W.subIn K (.ref C) (.type "BaseException") = some true
  tyC : PySem.W.typeIn K (.ref C) = some (.type "type")
  kC : PySem.W.keepIn K (.ref C) = true
section
variable {X : Cx} {pins : List (Addr × Obj)} {σ : L2.St} {H : Hp} {s : Shared} {a C : Addr} {f : Str} {y : V} {u : Value} {Q : Unit → Shared → Prop} {E : Value → Shared → Prop} {A : Around} {x : Str} {B newId initId : String} {bmB : List Value}
/-- the first part that an exception gets -/
theorem ost_x (XB : XBase x B newId initId bmB) (T : XCls X.K C bmB newId) (I : Inv X pins σ H s) (e : H a = some (exo a C none)) (hno : PySem.W.takerIn X.K C f = some none) (ry : RelV y u)
    (h : ∀ dx s', H dx = none → dx ≠ a → Inv X pins σ (upd (upd (upd H dx (exd dx [])) a (exo a C (some dx))) dx (exd dx [(f, y)])) s' → Q () s') : wpAny (model X.prog X.w) A (setAttr (.ref a) f u) Q E s := by
  obtain ⟨t1, ho⟩ := exo_at I.hok e
  obtain ⟨hp, g, d, t, os⟩ := s
  have J0 : PySem.W.InstAt hp a (PySem.W.excObj C t1 none .none) C none := ⟨ho, rfl, rfl, trivial⟩
  refine PySem.W.set_plain I.kIn J0 T.sa (PySem.W.osa_openX XB.stf I.kIn J0 T.ov hno fun b => ?_)
  obtain ⟨cd, hc, hd'⟩ := PySem.W.any_some T.hd
  refine wpAny_bind (wpAny_pure (wpAny_bind (PySem.W.instanceDict_exc ho (PySem.W.looks_clsIn I.kIn hc) hd' ?_)))
  have hda : hp.objs.size ≠ a := fun z => by
    have z2 := Heap.lt_size ho
    rw [← z] at z2
    exact Nat.lt_irrefl _ z2
  have hnd : H hp.objs.size = none := I.hok.fresh (Nat.le_refl _)
  have k1 : ∀ b o, hp.get? b = some o → (hp.push (PySem.W.dictOf [] 0)).get? b = some o := fun b o q => Heap.get?_push_of_some _ q
  have g1 : (hp.push (PySem.W.dictOf [] 0)).get? hp.objs.size = some (PySem.W.dictOf [] 0) := Heap.get?_push_at rfl rfl
  have n1 : (hp.push (PySem.W.dictOf [] 0)).Ns hp.objs.size (fun _ => none) := ⟨_, #[], _, g1, rfl, fun z hz => absurd hz (by simp), fun _ => rfl⟩
  have I1 : Inv X pins σ (upd H hp.objs.size (exd hp.objs.size [])) ⟨hp.push (PySem.W.dictOf [] 0), g, d, t, os⟩ := I.laid (t' := t) k1 (Nat.le_refl _) (exd_ok (Heap.Ns1.of_empty n1) fun _ => True.intro)
  have ea : (upd H hp.objs.size (exd hp.objs.size [])) a = some (exo a C none) := by rw [upd_ne hda.symm]; exact e
  have ho1 := k1 _ _ ho
  have ga : ((hp.push (PySem.W.dictOf [] 0)).update a fun o => { o with dict := some hp.objs.size }).get? a = some (PySem.W.excObj C t1 (some hp.objs.size) .none) := Heap.get?_update_self _ ho1 rfl
  have I2 : Inv X pins σ (upd (upd H hp.objs.size (exd hp.objs.size [])) a (exo a C (some hp.objs.size))) ⟨(hp.push (PySem.W.dictOf [] 0)).update a fun o => { o with dict := some hp.objs.size }, g, d, t, os⟩ :=
    I1.write (t' := t) (x := a) (e := a) (by rw [ea]; exact True.intro) (.inl rfl) (fun b o n q => (Heap.get?_update_other _ _ n.symm).trans q) ⟨_, ga⟩ (exo_ok ga)
  have n2 : ((hp.push (PySem.W.dictOf [] 0)).update a fun o => { o with dict := some hp.objs.size }).Ns hp.objs.size (fun _ => none) :=
    ⟨_, #[], _, (Heap.get?_update_other _ _ hda.symm).trans g1, rfl, fun z hz => absurd hz (by simp), fun _ => rfl⟩
  refine PySem.HandSPX.store_in_new n2 fun h3 t3 hn3 hs3 => ?_
  have I3 := I2.write (t' := t3) (h' := h3) (x := hp.objs.size) (e := hp.objs.size) (o := exd hp.objs.size [(f, y)]) (by rw [upd_ne hda, upd_same]; exact True.intro) (.inl rfl) (fun b o n q => (hs3.2 b n).trans q)
    (by obtain ⟨o, _, _, e', _⟩ := hn3; exact ⟨o, e'⟩) (exd_ok hn3 (relO_put (fs := []) ry fun _ => True.intro))
  exact h _ _ hnd hda I3
/-- B.__init__(self, ..) -/
theorem oinit_x {us : List Value} {Q : Value → Shared → Prop} (XB : XBase x B newId initId bmB) (T : XCls X.K C bmB newId) (I : Inv X pins σ H s) (e : H a = some (exo a C none)) (hl : us.length ≤ sizeLine) (h : ∀ s', Inv X pins σ H s' → Q .none s') :
    wpAny (model X.prog X.w) A (call (.builtin initId) (.ref a :: us)) Q E s := by
  obtain ⟨t1, ho⟩ := exo_at I.hok e
  obtain ⟨hp, g, d, t, os⟩ := s
  obtain ⟨nm, N, qn, bs, bm, hdct, sn, sub, ab, col, dd, k0, k1, k2, k3, k5, hC, hT⟩ := PySem.W.excInit_of I.kIn T.q
  refine wpAny_call (kx_init XB.ini hT hC ho hl fun h2 t2 k hx => ?_)
  have J := I.write (t' := t) (h' := h2) (x := a) (e := a) (o := exo a C none) (by rw [e]; exact True.intro) (.inl rfl) k ⟨_, hx⟩ (exo_ok hx)
  have same : upd H a (exo a C none) = H := funext fun b => by
    by_cases hb : b = a
    · rw [hb, upd_same, e]
    · rw [upd_ne hb]
  rw [same] at J
  exact h _ J
end
def tBI (K : PySem.W.Frag) (bmB : List Value) (newId : String) (ta : TA) : TE := fun σ H Q => ta σ H fun vs H1 => ∃ (a C : Addr) (ws : List V), vs = .ref a :: ws ∧ ws.length ≤ 1000 ∧ XCls K C bmB newId ∧ H1 a = some (exo a C none) ∧ Q .non H1
def tOX (K : PySem.W.Frag) (bmB : List Value) (newId : String) (f : Str) (to te : TE) : TS := fun D σ H => te σ H fun y H1 => to σ H1 fun x H2 => ∃ a C : Addr, x = .ref a ∧ XCls K C bmB newId ∧ PySem.W.takerIn K C f = some none ∧ H2 a = some (exo a C none) ∧
  ∀ dx, H2 dx = none → dx ≠ a → D.nx σ (upd (upd (upd H2 dx (exd dx [])) a (exo a C (some dx))) dx (exd dx [(f, y)]))
section
variable {X : Cx} {o e : Expr} {es : List Expr} {to te : TE} {ta : TA} {f x : Str} {p p' p1 p2 pos : Pos} {B newId initId : String} {bmB : List Value}
theorem pe_binit (XB : XBase x B newId initId bmB) (hg : Gl X x) (hm : X.mg x = none) (vV : PySem.W.findCls X.K (.type B) (.type "type") "__init__" = some (.val (.builtin initId))) (ha : PA X (e :: es) ta)
    (hs : (e :: es).all noStar = true) (hl : (p2.endLine == pos.line) = true) (h30 : (e :: es).length < 29) : PE X (.Call (.Attribute (.Name x p1) "__init__" p2) (e :: es) [] pos) (tBI X.K bmB newId ta) := by
  obtain ⟨pl, ht⟩ := evalCall_attr (o := .Name x p1) (m := "__init__") (env := X.env) (apos := p2) (pos := pos) (es := e :: es) rfl hl hs h30
  rw [List.all_cons, Bool.and_eq_true] at hs
  refine ⟨fun pins s σ H Q I h => ?_⟩
  refine PySem.W.methodCall_KW (pl := pl) (ld_blt I hg hm XB.boot ?_ XB.nn XB.nd) ht
  obtain ⟨m, fr⟩ := I.fr
  refine PySem.W.method_type fr I.ok.mod.kin XB.ty XB.stub vV XB.hand ?_
  show wpAny _ _ (callWith pos (Value.builtin initId) [] (backTo pos (starEach (e :: es) X.env)) []) _ _ _
  refine PyProof.Rows.callWith_method1 (thn (ha.run pos pins _ σ H _ (I.tok _) h) fun us s1 ⟨vs, H1, I1, r1, a, C, ws, ev, hz, T, ea, q⟩ => ?_) (starEach_cons hs.1) (starEach_plain pos hs.2)
  subst ev
  match us, r1 with
  | u0 :: ur, .cons ra rw' =>
    obtain rfl : u0 = Value.ref a := ra
    exact oinit_x XB T I1 ea (by rw [← Paired.length rw', sizeLine_eq]; omega) fun s' J => ⟨.non, H1, J, rfl, q⟩
theorem ps_ox (XB : XBase x B newId initId bmB) (ho : PE X o to) (he : PE X e te) (hs : swapsWith e (some (.Attribute o f p')) pos.line X.env = pure false) : PS X (.Assign [.Attribute o f p'] e pos) (tOX X.K bmB newId f to te) :=
  ⟨fun pins s σ H D I h => plainObj_wpAny_Assign_Attribute (thn (he.run pins s σ H _ I h) fun v s1 ⟨y, H1, I1, r1, q1⟩ => thn (ho.run pins s1 σ H1 _ I1 q1) fun u s2 ⟨z, H2, I2, r2, a, C, ex, T, hno, ea, q⟩ => by
    subst ex
    obtain rfl : u = Value.ref a := r2
    exact ost_x XB T I2 ea hno r1 fun dx s' n ne J => ⟨σ, _, J, q dx n ne⟩) hs⟩
end

/-! ### what an __init__ lays -/
abbrev InitF := List D → Option (List (Str × D))
/-- what stands behind it: parts given to the new thing at a, its dict at d -/
def laidX (H1 : Hp) (a C d : Addr) (vfs : List (Str × V)) : Hp := upd (upd (upd H1 d (exd d [])) a (exo a C (some d))) d (exd d vfs)
/-- self.fld = copied(par) -/
def initF (fld : Str) (Fc : Fn) : InitF
  | [d] => match Fc [.imm d] with
    | some (r, []) => some [(fld, r.toD)]
    | _ => none
  | _ => none
end Ev
/-! text Ex4 -/
set_option Elab.async false
set_option linter.all false
set_option maxRecDepth 100000
set_option maxHeartbeats 4000000
namespace Ev
open PySem PySem.Spec PyProof.Rows L2

/-! ### __init__(self, par): B.__init__(self, "..") and self.fld = copied(par) -/
section
variable {Θ : Th} {f C : Addr} {qual : Str} {st : Stmt} {x self par fld txt : Str} {B newId initId : String} {bmB : List Value} {k j : Nat} {Fc : Fn}
end

/-! ### such a thing made, and raised -/
theorem laidX_a {H1 : Hp} {a C d : Addr} {vfs : List (Str × V)} (ne : a ≠ d) : laidX H1 a C d vfs a = some (exo a C (some d)) := by
  unfold laidX
  rw [upd_ne ne, upd_same]
section
variable {X : Cx} {e : Expr} {es : List Expr} {x c : Str} {B newId initId : String} {bmB : List Value} {C f : Addr} {k n : Nat} {F : InitF} {FL : Fl} {p pos : Pos}
end
end Ev
/-! text Ex5 -/
set_option Elab.async false
set_option linter.all false
set_option maxRecDepth 100000
set_option maxHeartbeats 4000000
namespace Ev
open PySem PySem.Spec PyProof.Rows L2

/-! ### what was not tracked is tracked from now on -/
section
variable {X : Cx} {pins : List (Addr × Obj)} {σ : List (Option V)} {H : Hp} {s : Shared} {a : Addr}
end
/-! ### except clauses -/
/-- how the clause's test answers -/
def HTest (X : Cx) (t : Expr) (hit : Value → Option Bool) : Prop := ∀ (a : Addr) (pn pins : List (Addr × Obj)) (s : Shared) (σ : List (Option V)) (H : Hp) (cls : Value) (oe : Obj) (b : Bool) (Q : Bool → Shared → Prop) (E : Value → Shared → Prop),
  Inv (X.suite a pn) pins σ H s → s.heap.get? a = some oe → oe.cls = cls → hit cls = some b → (∀ h', (∀ c o, s.heap.get? c = some o → h'.get? c = some o) → Q b { s with heap := h' }) →
  wpAny (model X.prog X.w) (X.suite a pn).A (eval t X.env) (fun c s1 => wpAny (model X.prog X.w) (X.suite a pn).A (excMatches (.ref a) c) Q E s1) E s
section
variable {X : Cx}
section
variable {n : Str} {t : Expr} {i : Nat} {body suite : List Stmt} {b0 : Stmt} {pos pos' : Pos} {tb : WXr → TS} {ts : TS} {Wout : WXr} {hit : Value → Option Bool}
end
end
end Ev
/-! text Ex6 -/
set_option Elab.async false
set_option linter.all false
set_option maxRecDepth 100000
set_option maxHeartbeats 4000000
namespace Ev
open PySem PySem.Spec PyProof.Rows L2

/-! ### the try statement, mirrored -/
section
variable {X : Cx} {n : Str} {t : Expr} {i : Nat} {body suite : List Stmt} {b0 : Stmt} {pos pos' : Pos} {FB BS : Fs} {GB : Gx} {hit : Value → Option Bool} {hitS : Str → Option Bool}
end

/-! ### what is caught, asked later -/
theorem exc_inst {X : Cx} {pins : List (Addr × Obj)} {σ : List (Option V)} {H : Hp} {s : Shared} {a C : Addr} {od : Option Addr} {vfs : List (Str × V)} (I : Inv X pins σ H s) (h : H a = some (exOb a C od)) (x : XdAt H od vfs) : ∃ oe od', PySem.W.InstAt s.heap a oe C od' ∧
    ((od = none ∧ od' = none) ∨ ∃ d o mA, od = some d ∧ od' = some o ∧ s.heap.get? d = some o ∧ s.heap.Ns1 d mA ∧ ∀ f, RelO (vfs.lookup f) (mA f)) := by
  obtain ⟨⟨oe, vs, e1, e2, e3, e4⟩, _⟩ : ObjOk X.prog X.w H s.heap a (.ext fun h => ∃ (oe : Obj) (vs : Array Value), h.get? a = some oe ∧ oe.cls = .ref C ∧ oe.dict = od ∧ oe.data = .fields vs) := I.hok a _ h
  rcases x with ⟨x1, _⟩ | ⟨d, x1, x2⟩
  · exact ⟨oe, none, ⟨e1, e2, by unfold PySem.W.notCls; rw [e4] <;> rfl, by rw [e3, x1]; trivial⟩, .inl ⟨x1, rfl⟩⟩
  · obtain ⟨mA, hn, hr⟩ : ObjOk X.prog X.w H s.heap d (.xd vfs) := I.hok d _ x2
    obtain ⟨o, es, ep, ho, rest⟩ := id hn
    exact ⟨oe, some o, ⟨e1, e2, by unfold PySem.W.notCls; rw [e4] <;> rfl, by rw [e3, x1]; exact ho⟩, .inr ⟨d, o, mA, x1, rfl, ho, hn, hr⟩⟩
/-- isinstance(x, c) -/
def rIsx (K : PySem.W.Frag) : List V → Hp → VK → Prop := fun xs H Q => ∃ v c cv b, xs = [v, c] ∧ (∀ u, RelV c u → u = cv) ∧ ((v = .non ∧ PySem.W.kitOne K (.type "NoneType") cv = some b) ∨ ∃ a C od vfs, v = .ref a ∧ H a = some (exOb a C od) ∧ XdAt H od vfs ∧ ExcC K C ∧ PySem.W.kitOne K (.ref C) cv = some b) ∧
  (Q (.bl b) H)
theorem call_isx {X : Cx} : L2.CallR X (.builtin "isinstance") (rIsx X.K) := fun pins s σ H xs us Q I r ⟨v, c, cv, b, exs, hcv, hv, q⟩ => by
  subst exs
  match us, r with
  | [u1, u2], .cons r1 (.cons r2 .nil) =>
    have e2 := hcv _ r2
    subst e2
    rcases hv with ⟨rfl, hk⟩ | ⟨a, C, od, vfs, rfl, ha, hx, T, hk⟩
    · obtain rfl : u1 = Value.none := r1
      exact PySem.W.kia_one PySem.W.kitx_none I.kIn trivial hk (fun z => nomatch z) fun tk => ⟨.bl b, H, I.tok tk, rfl, q⟩
    · obtain rfl : u1 = Value.ref a := r1
      obtain ⟨oe, od', J, _⟩ := exc_inst I ha hx
      obtain ⟨cd, hc, _⟩ := PySem.W.any_some T.hd
      exact PySem.W.kia_one (PySem.W.kitx_exc (ox := oe) (od := od') (by rw [hc]; rfl) T.hg T.hk T.hs T.ha T.hn T.ht T.hm) I.kIn J hk (fun z => nomatch z) fun tk => ⟨.bl b, H, I.tok tk, rfl, q⟩
end Ev
/-! text Ex7 -/
set_option Elab.async false
set_option linter.all false
set_option maxRecDepth 100000
set_option maxHeartbeats 4000000
namespace Ev
open PySem PySem.Spec PyProof.Rows L2

theorem xb_ValueError : XBase "ValueError" "ValueError" "ValueError.__new__" "ValueError.__init__" [.type "ValueError", .type "Exception", .type "BaseException", .type "object"] := ⟨.of F.excBase_ValueError, .of F.excBase_ValueError, F.store_ValueError, by kernel_rfl, by decide +kernel, by decide +kernel, by rfl, by decide, by decide⟩
theorem xb_RuntimeError : XBase "RuntimeError" "RuntimeError" "RuntimeError.__new__" "RuntimeError.__init__" [.type "RuntimeError", .type "Exception", .type "BaseException", .type "object"] := ⟨.of F.excBase_RuntimeError, .of F.excBase_RuntimeError, F.store_RuntimeError, by kernel_rfl, by decide +kernel, by decide +kernel, by rfl, by decide, by decide⟩
theorem xb_IndexError : XBase "IndexError" "IndexError" "IndexError.__new__" "IndexError.__init__" [.type "IndexError", .type "LookupError", .type "Exception", .type "BaseException", .type "object"] := ⟨.of F.excBase_IndexError, .of F.excBase_IndexError, F.store_IndexError, by kernel_rfl, by decide +kernel, by decide +kernel, by rfl, by decide, by decide⟩
theorem xb_ArithmeticError : XBase "ArithmeticError" "ArithmeticError" "ArithmeticError.__new__" "ArithmeticError.__init__" [.type "ArithmeticError", .type "Exception", .type "BaseException", .type "object"] := ⟨.of F.excBase_ArithmeticError, .of F.excBase_ArithmeticError, F.store_ArithmeticError, by kernel_rfl, by decide +kernel, by decide +kernel, by rfl, by decide, by decide⟩
theorem xb_LookupError : XBase "LookupError" "LookupError" "LookupError.__new__" "LookupError.__init__" [.type "LookupError", .type "Exception", .type "BaseException", .type "object"] := ⟨.of F.excBase_LookupError, .of F.excBase_LookupError, F.store_LookupError, by kernel_rfl, by decide +kernel, by decide +kernel, by rfl, by decide, by decide⟩

theorem xb_KeyError : XBase "KeyError" "KeyError" "LookupError.__new__" "KeyError.__init__" keMro := ⟨ke_new, ke_ini, ke_store, by kernel_rfl, by decide +kernel, by decide +kernel, by rfl, by decide, by decide⟩

/-! ### the surface of what raises -/
theorem In.tr {Θ : Th} {N : List Str} {sc s0 : Scope} {k : Nat} {X : Cx} (I : In Θ N sc s0 k X) (pn : List (Addr × Obj)) : In Θ N sc s0 k (X.tr pn fun _ _ => False) :=
  ⟨I.prog, I.w, I.K, I.mg, I.base, I.N, I.sc, ⟨I.q.calm, I.q.gd, I.q.room, I.q.nd, rfl⟩, I.st⟩
section
variable {Θ : Th} {N : List Str} {sc s0 : Scope} {k : Nat} {X : Cx} {a b c e o : Expr} {es : List Expr} {FA : Fa} {FL : Fl} {p pos : Pos} {G : Gx}
end

/-! ### an error class, as the top has written it -/
end Ev
/-! text Ex8 -/
set_option Elab.async false
set_option linter.all false
set_option maxRecDepth 100000
set_option maxHeartbeats 4000000
namespace Ev
open PySem PySem.Spec PyProof.Rows L2

/-! ### what a lambda sees: the data of its maker -/
/-! ### the lambda is made -/
section
variable {X : Cx} {pins : List (Addr × Obj)} {σ : L2.St} {H : Hp} {s : Shared}
end
end Ev
/-! text Ex9 -/
set_option Elab.async false
set_option linter.all false
set_option maxRecDepth 100000
set_option maxHeartbeats 4000000
namespace Ev
open PySem PySem.Spec PyProof.Rows L2

/-! ### a def called, its very frame known -/
section
variable {P : Program} {w : World} {K : PySem.W.Frag} {mg : Str → Option Value} {base : Heap}
end

/-! ### what comes of a lambda's body -/
inductive Oc where
  | ok (d : D) | er (x : Ex)
/-- the lambda at f, called from a def that was entered at s0 -/
structure LamAt (P : Program) (w : World) (K : PySem.W.Frag) (mg : Str → Option Value) (base : Heap) (k : Nat) (outer : List PySem.Env) (s0 : Shared) (H0 : Hp) (f : Addr) (cs : List (Addr × Str)) (vs : List V) (ds : List D) (o : Oc) : Prop where
  fn : ∀ (Z : Cx) (pins : List (Addr × Obj)) (σ : L2.St) (H : Hp) (s : Shared), Z.outer = outer → Z.s_0 = s0 → Z.H_0 = H0 → Z.ex = [] → Inv Z pins σ H s → PySem.W.FnAt f s.heap
  run : ∀ (Z : Cx) (KK : WXr) (pins : List (Addr × Obj)) (σ : L2.St) (H Hf : Hp) (s : Shared) (Q : VK), Z.prog = P → Z.w = w → Z.K = K → Z.mg = mg → Z.base = base → Z.outer = outer → Z.stack = Z.env :: Z.outer → Z.s_0 = s0 → Z.H_0 = H0 → Z.ex = [] → Room (k + 1) Z.A → Z.A.guards = some [] → Takes Z KK →
    Inv Z pins σ H s → Sub Hf H → TabsOk ⟨K, mg, P, w⟩ H Hf → (∀ p ∈ cs, Hf p.1 = some (LamX.CodeO p.1 p.2)) → RpL ⟨K, mg, P, w⟩ Hf vs ds →
    (∀ d, o = .ok d → ∀ v H2 Hf2, ExtT H Hf H2 Hf2 → TabsOk ⟨K, mg, P, w⟩ H2 Hf2 → Rp ⟨K, mg, P, w⟩ Hf2 v d → Q v H2) →
    (∀ x, o = .er x → ∀ cls dd H2 Hf2, ExtT H Hf H2 Hf2 → TabsOk ⟨K, mg, P, w⟩ H2 Hf2 → ExAt ⟨K, mg, P, w⟩ cls dd Hf2 x → KK cls dd σ H2) →
    wpAny (model Z.prog Z.w) Z.A (call (.ref f) [] []) (EP Z pins σ Q) Z.xe s
section
variable {X : Cx} {pins : List (Addr × Obj)} {σ : L2.St} {H Hf : Hp} {s : Shared}
end
end Ev
/-! text Ex10 -/
set_option Elab.async false
set_option linter.all false
set_option maxRecDepth 100000
set_option maxHeartbeats 4000000
namespace Ev
open PySem PySem.Spec PyProof.Rows L2

/-! ### a def that calls what it got -/
structure LamIn (X : Cx) (k : Nat) (r : D) (o : Oc) : Prop where
  ex : ∃ u cs vs ds, r = .raw (.ref u) cs vs ds ∧ LamAt X.prog X.w X.K X.mg X.base k X.outer X.s_0 X.H_0 u cs vs ds o
  exs : X.ex = []
  stk : X.stack = X.env :: X.outer
  room : Room (k + 1) X.A
  gd : X.A.guards = some []
theorem LamIn.tr {X : Cx} {k : Nat} {r : D} {o : Oc} (L : LamIn X k r o) (pn : List (Addr × Obj)) (xe : Value → Shared → Prop) : LamIn (X.tr pn xe) k r o := ⟨L.ex, L.exs, L.stk, L.room, L.gd⟩
theorem LamIn.nox {X : Cx} {k : Nat} {r : D} {o : Oc} (L : LamIn X k r o) : LamIn X.nox k r o := ⟨L.ex, L.exs, L.stk, L.room, L.gd⟩
section
variable {X : Cx} {k i : Nat} {r : D} {o : Oc} {a : Str} {p1 p2 : Pos} {KK : WXr}
end
/-! ### the maker -/
end Ev
/-! text Ex11 -/
set_option Elab.async false
set_option linter.all false
set_option maxRecDepth 100000
set_option maxHeartbeats 4000000
namespace Ev
open PySem PySem.Spec PyProof.Rows L2

/-! ### the law's end, where lambdas are made -/
/-! ### the tables of the defs that make lambdas -/
end Ev
/-! text Ex12 -/
set_option Elab.async false
set_option linter.all false
set_option maxRecDepth 100000
set_option maxHeartbeats 4000000
namespace Ev
open PySem PySem.Spec PyProof.Rows L2

/-! ### what is caught, asked -/
structure XKn (Θ : Th) (c : Str) (fs : List Str) : Prop where
  ok : ∀ C, Θ.mg c = some (.ref C) → ExcC Θ.K C ∧ ∀ f ∈ fs, PySem.W.findIn Θ.K (.ref C) f = some none
structure XTab (Θ : Th) (l : List (Str × List Str)) : Prop where
  ok : ∀ p ∈ l, XKn Θ p.1 p.2
theorem XTab.nil {Θ : Th} : XTab Θ [] := ⟨fun p hp => nomatch hp⟩
theorem XTab.cons {Θ : Th} {c : Str} {fs : List Str} {l : List (Str × List Str)} (h : XKn Θ c fs) (t : XTab Θ l) : XTab Θ ((c, fs) :: l) := ⟨fun p hp => by
  rcases List.mem_cons.mp hp with e | e
  · subst e; exact h
  · exact t.ok p e⟩
def xtP (l : List (Str × List Str)) (c f : Str) : Bool := l.any fun p => p.1 == c && p.2.contains f
theorem XTab.at {Θ : Th} {l : List (Str × List Str)} {c f : Str} (t : XTab Θ l) (h : xtP l c f = true) : ∀ C, Θ.mg c = some (.ref C) → ExcC Θ.K C ∧ PySem.W.findIn Θ.K (.ref C) f = some none := fun C m => by
  unfold xtP at h
  obtain ⟨p, hp, e⟩ := List.any_eq_true.mp h
  rw [Bool.and_eq_true, beq_iff_eq] at e
  obtain ⟨a, b⟩ := (t.ok p hp).ok C (by rw [e.1]; exact m)
  exact ⟨a, b f (List.contains_iff_mem.mp e.2)⟩
/-- err.f -/
def excF (l : List (Str × List Str)) (f : Str) (FO : Fd) : Fd := fun ρ => (FO ρ).bind fun x => match x.1 with
  | .exc c fs => if xtP l c f = true then (fs.lookup f).map fun d => (d, x.2) else none
  | _ => none
/-- isinstance(err, c) -/
structure IsT (Θ : Th) (cv : Value) (tab : List (Str × Bool)) : Prop where
  non : PySem.W.kitOne Θ.K (.type "NoneType") cv = some false
  ok : ∀ p ∈ tab, ∀ C, Θ.mg p.1 = some (.ref C) → ExcC Θ.K C ∧ PySem.W.kitOne Θ.K (.ref C) cv = some p.2
theorem lookup_mem {tab : List (Str × Bool)} {c : Str} {b : Bool} (h : tab.lookup c = some b) : (c, b) ∈ tab := PySem.mem_of_lookup h
def isxD (tab : List (Str × Bool)) : D → Option Bool
  | .non => some false
  | .exc c _ => tab.lookup c
  | _ => none
def isxF (tab : List (Str × Bool)) (FO : Fd) : Fd := fun ρ => (FO ρ).bind fun x => (isxD tab x.1).map fun b => (.bl b, x.2)
section
variable {Θ : Th} {N : List Str} {sc s0 : Scope} {k : Nat} {X : Cx} {o a : Expr} {p pt pos : Pos} {FO : Fd}
theorem s_exc (I : In Θ N sc s0 k X) {l : List (Str × List Str)} {f : Str} (T : XTab Θ l) (ho : PD X o FO) (hb : attributeBase o f X.env (eval o X.env) = eval o X.env) : PD X (.Attribute o f pos) (excF l f FO) := by
  refine ⟨fun pins s σ H Q I0 ⟨ρ, loc, Hf, d, ρ', sk, hF, kk⟩ => ?_⟩
  unfold excF at hF
  obtain ⟨⟨x, ρ1⟩, q1, hF⟩ := Option.bind_eq_some_iff.mp hF
  cases x with
  | exc c fs =>
    dsimp only at hF
    split at hF
    · rename_i hx
      obtain ⟨d', q2, q3⟩ := Option.map_eq_some_iff.mp hF
      cases q3
      refine attr_of hb (thn (ho.run pins s σ H (fun v H1 => ∃ Hf1, Rp (wd X) Hf1 v (.exc c fs) ∧ Sub Hf1 H1 ∧ ∀ v', Rp (wd X) Hf1 v' d → Q v' H1) I0 ⟨ρ, loc, Hf, _, _, sk, q1, fun v H1 Hf1 g1 s1 r1 => ⟨Hf1, r1, s1.sub, fun v' r' => kk v' H1 Hf1 g1 s1 r'⟩⟩) fun u s1 hh => ?_)
      obtain ⟨v, H1, I1, rv, Hf1, rp, sb, k2⟩ := hh
      cases rp with
      | exc ha hm hxd hr =>
        rename_i a' Cc od vfs
        have iK : X.K = Θ.K := I.K
        have im : X.mg = Θ.mg := I.mg
        obtain ⟨T1, hno⟩ := T.at hx Cc (by rw [← im]; exact hm)
        rw [← iK] at T1 hno
        obtain rfl : u = Value.ref a' := rv
        obtain ⟨oe, od', J, dd⟩ := exc_inst I1 (sb _ _ ha) (hxd.mono sb)
        obtain ⟨v', hl, r'⟩ := (hr.look (f := f)).1 _ q2
        rcases dd with ⟨e1, e2⟩ | ⟨d1, o1, mA, e1, e2, e3, hn, hrel⟩
        · subst e1
          rcases hxd with ⟨_, z⟩ | ⟨_, z, _⟩
          · subst z; cases hl
          · cases z
        · subst e2
          obtain ⟨o2, ho2, hlk⟩ := lookIn_ns hn
          rw [e3] at ho2
          cases ho2
          obtain ⟨u', hu, ru⟩ := RelO.some_of (v := v') (o := mA f) (by rw [← hl]; exact hrel f)
          exact HandSPX.exc_get I1.kIn J T1.hg T1.hk T1.hs (PySem.W.findObj_own T1.hd hno rfl (by rw [hlk, hu])) (handed_of ru) ⟨v', H1, I1.tok _, ru, k2 v' r'⟩
    · cases hF
  | _ => cases hF
theorem px_isx (I : In Θ N sc s0 k X) {c : Expr} {cvV : V} {cv : Value} {tab : List (Str × Bool)} (T : IsT Θ cv tab) (hg : glB sc "isinstance" = true) (hm : Θ.mg "isinstance" = none) (hc : PE X c (tC cvV)) (hcv : ∀ u, RelV cvV u → u = cv) (ho : PD X o FO) (hs : noStar o = true) (hs2 : noStar c = true) :
    PD X (.Call (.Name "isinstance" p) [o, c] [] pos) (isxF tab FO) := by
  have iK : X.K = Θ.K := I.K
  have im : X.mg = Θ.mg := I.mg
  refine pe_imp (pe_callB call_isx (I.gl hg) (I.m0 hm) (by rfl) (pa_cons ho (pa_cons hc pa_nil (starEach_cons hs2)) (starEach_cons hs)) (by decide) (by decide) (starEach_cons hs) (starEach_plain pos (by simp [hs2]))) fun σ H Q ⟨ρ, loc, Hf, r, ρ', s, hF, kk⟩ => ?_
  unfold isxF at hF
  obtain ⟨⟨d, ρ1⟩, q1, hF⟩ := Option.bind_eq_some_iff.mp hF
  obtain ⟨b, q2, q3⟩ := Option.map_eq_some_iff.mp hF
  cases q3
  refine ⟨ρ, loc, Hf, d, _, s, q1, fun v H1 Hf1 g1 s1 r1 => ?_⟩
  refine ⟨v, cvV, cv, b, rfl, hcv, ?_, kk _ H1 Hf1 g1 s1 (.bl b)⟩
  rw [iK]
  cases d with
  | non => cases q2; cases r1; exact .inl ⟨rfl, T.non⟩
  | exc c fs =>
    cases r1 with
    | exc ha hm hxd hr =>
      obtain ⟨T1, T2⟩ := T.ok _ (lookup_mem q2) _ (by rw [← im]; exact hm)
      exact .inr ⟨_, _, _, _, rfl, s1.sub _ _ ha, hxd.mono s1.sub, T1, T2⟩
  | _ => cases q2
/-- a built-in class -/
theorem s_isxB (I : In Θ N sc s0 k X) {n : String} {tn : Str} {tab : List (Str × Bool)} (T : IsT Θ (.type n) tab) (hg : glB sc "isinstance" = true) (hm : Θ.mg "isinstance" = none) (hgt : glB sc tn = true) (hmt : Θ.mg tn = none) (hvt : bootBuiltins tn = some (.type n)) (ho : PD X o FO) (hs : noStar o = true)
    (hn2 : tn ≠ "__name__") (hd2 : (tn == ("__debug__" : Str)) = false) : PD X (.Call (.Name "isinstance" p) [o, .Name tn pt] [] pos) (isxF tab FO) :=
  px_isx I T hg hm (pe_bltn (v := .ty n) (I.gl hgt) (I.m0 hmt) hvt rfl hn2 hd2) (fun u r => (ClsV.ty n).eq r) ho hs rfl
theorem pe_glob {x : Str} {f : Addr} (hg : Gl X x) (hm : X.mg x = some (.ref f)) (hd : (x == ("__debug__" : Str)) = false) : PE X (.Name x p) (tC (.ref f)) := ⟨fun pins s σ H Q I q => ld_glob I hg hm ⟨.ref f, H, I, rfl, q⟩ hd⟩
/-- an own class -/
theorem s_isxO (I : In Θ N sc s0 k X) {tn : Str} {tab : List (Str × Bool)} (T : ∃ C, Θ.mg tn = some (.ref C) ∧ IsT Θ (.ref C) tab) (hg : glB sc "isinstance" = true) (hm : Θ.mg "isinstance" = none) (hgt : glB sc tn = true) (ho : PD X o FO) (hs : noStar o = true) (hd2 : (tn == ("__debug__" : Str)) = false) :
    PD X (.Call (.Name "isinstance" p) [o, .Name tn pt] [] pos) (isxF tab FO) := by
  obtain ⟨C, h1, T⟩ := T
  exact px_isx I T hg hm (pe_glob (I.gl hgt) (by rw [I.mg]; exact h1) hd2) (fun u r => r) ho hs rfl
end

/-! ### reversed(..), walked -/
/-! ### what is never asked, and what calls itself -/
theorem FnAt.none {Θ : Th} {x qual : Str} {st : Stmt} {N ps : List Str} {n k : Nat} {ks : List Str} {gV : List V → List V} {gA : List Ar → List Ar} (D : DefB Θ x qual st N ps n ks gV gA) : FnAt Θ x n ks k (fun _ => none) := by
  obtain ⟨f, h1, h2, d⟩ := D.ex
  exact ⟨f, h1, h2, ⟨fun A outer s H us ws vs zs Q hr hgd e0 l1 l2 r1 r2 ⟨Hf, loc, as, r, cs, _, _, _, _, hF, _⟩ => by cases hF⟩⟩

/-! ### try, of a def's body -/
def hitS (tab : List (Str × Bool)) : Str → Option Bool := fun c => tab.lookup c
end Ev
/-! text Ex13 -/
set_option Elab.async false
set_option linter.all false
set_option maxRecDepth 100000
set_option maxHeartbeats 4000000
namespace Ev
open PySem PySem.Spec PyProof.Rows L2

theorem PG.free {X : Cx} {tg : Expr} {g : TG} (h : PG X.nox tg g) : PG X tg g := ⟨fun pn s σ H v u Q I r w => wpAny_mono (h.run pn s σ H v u Q (I.wish _) r w) (fun _ _ z => let ⟨σ', H', J, q⟩ := z; ⟨σ', H', J.unwish, q⟩) (fun _ _ z => z.elim)⟩

/-! ### what the top has written, of errors -/
section
variable {Θ : Th} {h : Heap}
theorem only_mg {c : Str} {C C' : Addr} (X : Θ.K.In h) (G : h.Ns mainGlobals Θ.mg) (aC : PySem.W.nsIn Θ.K mainGlobals c = some (some (.ref C))) (m : Θ.mg c = some (.ref C')) : C' = C := by
  have := (PySem.W.mg_of X G aC).symm.trans m
  cases this
  rfl
theorem xKn {c : Str} {fs : List Str} {C : Addr} (X : Θ.K.In h) (G : h.Ns mainGlobals Θ.mg) (aC : PySem.W.nsIn Θ.K mainGlobals c = some (some (.ref C))) (T : ExcC Θ.K C) (n : ∀ f ∈ fs, PySem.W.findIn Θ.K (.ref C) f = some none) : XKn Θ c fs := ⟨fun C' m => by
  have e := only_mg X G aC m
  subst e
  exact ⟨T, n⟩⟩
end
section
variable {Θ : Th} {N : List Str} {sc s0 : Scope} {k i j : Nat} {X : Cx} {n x y e : Str} {body suite : List Stmt} {b0 : Stmt} {p p1 p2 p3 pos pos' : Pos} {FB BS : Fs} {GB : Gx} {tab : List (Str × Bool)}
end
end Ev
/-! text Ex14 -/
set_option Elab.async false
set_option linter.all false
set_option maxRecDepth 100000
set_option maxHeartbeats 4000000
namespace Ev
open PySem PySem.Spec PyProof.Rows L2

/-! ### side by side, where a value raises -/
section
variable {Θ : Th} {N : List Str} {sc s0 : Scope} {k : Nat} {X : Cx} {a b c : Expr} {G : Gx} {pos : Pos}
end
end Ev
/-! text Ex15 -/
set_option Elab.async false
set_option linter.all false
set_option maxRecDepth 100000
set_option maxHeartbeats 4000000
namespace Ev
open PySem PySem.W PyProof.Rows

/-! ### facts of the written part, by what k_is tells -/
section
variable {K : Frag} {C C0 f c P : Addr} {o o0 : Obj} {bm : List Value} {nw : String} {b : Bool}
theorem kit_same : kitOne K (.ref C) (.ref C) = some true := by
  unfold kitOne
  rw [if_pos (by simp)]
end
end Ev
/-! text Ex16 -/
set_option Elab.async false
set_option linter.all false
set_option maxRecDepth 100000
set_option maxHeartbeats 4000000
namespace Ev
open PySem PySem.W PyProof.Rows

/-! ### several defs that make lambdas -/
section
variable {K : Frag}
end

/-! ### a tuple of classes that is caught -/
open L2 PySem.Spec in
section
inductive MgAll (Θ : Th) : List Str → List Value → Prop
  | nil : MgAll Θ [] []
  | cons {x : Str} {C : Addr} {xs : List Str} {cs : List Value} : Θ.mg x = some (.ref C) → MgAll Θ xs cs → MgAll Θ (x :: xs) (.ref C :: cs)
theorem MgAll.len {Θ : Th} {xs : List Str} {cs : List Value} (m : MgAll Θ xs cs) : cs.length = xs.length := by
  induction m with
  | nil => rfl
  | cons _ _ ih => rw [List.length_cons, List.length_cons, ih]
variable {Θ : Th} {N : List Str} {sc s0 : Scope} {k i : Nat} {X : Cx} {n : Str} {es : List Expr} {xs : List Str} {kt : Nat} {body suite : List Stmt} {b0 : Stmt} {p pos pos' : Pos} {FB BS : Fs} {GB : Gx} {tab : List (Str × Bool)}
end
end Ev
/-! text Ex17 -/
set_option Elab.async false
set_option linter.all false
set_option maxRecDepth 100000
set_option maxHeartbeats 4000000
namespace Ev
open PySem PySem.Spec PyProof.Rows L2

/-! ### a method that raises -/
section
variable {X : Cx} {e o : Expr} {es : List Expr} {k : Nat} {f C : Addr} {G : Fnx}
end
end Ev
/-! text Ex18 -/
set_option Elab.async false
set_option linter.all false
set_option maxRecDepth 100000
set_option maxHeartbeats 4000000
namespace Ev
open PySem L2

/-! ### repr of a text -/
def rReprS : List V → Hp → VK → Prop := fun xs H Q => ∃ x, xs = [.str x] ∧ (reprText x).length ≤ sizeLine ∧ Q (.str (reprText x)) H
theorem call_reprS {X : Cx} : CallR X (.builtin "repr") rReprS := by
  intro pins s σ H xs us Q I r h
  obtain ⟨x, rfl, hz, q⟩ := h
  obtain ⟨u, rfl, t, rfl⟩ := vals1 r
  exact PySem.P.repr_of_str ⟨.str _, H, I.tok _, ⟨_, rfl⟩, q⟩ hz
def reprSD : List D → Option Rv
  | [.str x] => if (reprText x).length ≤ sizeLine then some (.imm (.str (reprText x))) else none
  | ds => reprXD ds
theorem dc_reprS {W : Wd} : DCall W (fun xs H Q => rReprS xs H Q ∨ (rRepr1 xs H Q ∨ rRepr W.K xs H Q)) reprSD := fun vs ds z H Hf Q s a q k => by
  unfold reprSD at q
  split at q
  · rename_i x
    split at q
    · rename_i hz
      cases q
      obtain ⟨v, rfl, b⟩ := a.one
      cases b
      exact .inl ⟨x, rfl, hz, k _ H Hf (.refl s) (.str _)⟩
    · cases q
  · exact .inr (dc_reprX (W := W) vs ds z H Hf Q s a q k)
end Ev
/-! text Ex19 -/
set_option Elab.async false
set_option linter.all false
set_option maxRecDepth 100000
set_option maxHeartbeats 4000000
namespace Ev
open PySem L2

/-! ### repr of an empty dict -/
def rReprE : List V → Hp → VK → Prop := fun xs H Q => ∃ a, xs = [.ref a] ∧ H a = some (.dK []) ∧ Q (.str (PyData.dict []).shown) H
theorem call_reprE {X : Cx} {k : Nat} (q : Cq X k) : CallR X (.builtin "repr") rReprE := by
  intro pins s σ H xs us Q I r h
  obtain ⟨a, rfl, hd, q1⟩ := h
  obtain ⟨u, rfl, ru⟩ := vals1 r
  cases ru
  obtain ⟨od, I1⟩ := I.lock hd trivial
  obtain ⟨hs, hgd, hx, es, ep, vs, hdt, hsz, kv, hm⟩ := I1.frzK upd_same
  have e0 : es.toList = [] := by
    have : es.size = 0 := hsz
    exact List.eq_nil_of_length_eq_zero (by rw [Array.length_toList]; exact this)
  have rd : Reads s.heap (.ref a) (.dict []) [a] := .dict (kvs := []) (as := []) (bs := []) hgd hx.1 hdt (by rw [e0]; exact .nil) (by rw [e0]; exact .nil)
  have sm : sysModules ∉ [a] := fun z => by
    rw [List.mem_singleton] at z
    subst z
    revert hs
    decide
  exact repr_of_reads' rd (by decide +kernel) (fun _ => sm) q.gd (by have := q.room.un; show _ + (1 + 1) < _; omega) (fun _ _ e => e) (fun h' u tk hk => ⟨.str _, H, I.kept hk, ⟨u, rfl⟩, q1⟩) (by decide +kernel)
def reprED : List D → Option Rv
  | [.dct false []] => some (.imm (.str (PyData.dict []).shown))
  | ds => reprSD ds
theorem dc_reprE {W : Wd} : DCall W (fun xs H Q => rReprE xs H Q ∨ (rReprS xs H Q ∨ (rRepr1 xs H Q ∨ rRepr W.K xs H Q))) reprED := fun vs ds z H Hf Q s a q k => by
  unfold reprED at q
  split at q
  · cases q
    obtain ⟨v, rfl, b⟩ := a.one
    obtain ⟨d, ks, rfl, h1, r⟩ := b
    cases r
    exact .inl ⟨d, rfl, h1, k _ H Hf (.refl s) (.str _)⟩
  · exact .inr (dc_reprS (W := W) vs ds z H Hf Q s a q k)
/-! ### {k: v for k, v in thing.items()}, where thing is an empty dict -/
section
variable {Θ : Th} {N : List Str} {sc s0 scope : Scope} {k : Nat} {X : Cx} {kx vx e : Expr} {ifs elts : List Expr} {kk : Nat} {pos apos cpos tpos : Pos} {t : Tg} {T : Ft} {FK FV : Fd} {own : List (Str × Nat)}
end
end Ev
/-! text Ex20 -/
set_option Elab.async false
set_option linter.all false
set_option maxRecDepth 100000
set_option maxHeartbeats 4000000
namespace Ev
open PySem L2

/-! ### a def as data, and the call of what an expression tells -/
section
variable {Θ : Th} {N : List Str} {sc s0 : Scope} {k : Nat} {X : Cx} {e fe : Expr} {es : List Expr} {FAs : Fa} {FE : Fd} {p pos : Pos}
end
end Ev
/-! text Ex21 -/
set_option Elab.async false
set_option linter.all false
set_option maxRecDepth 100000
set_option maxHeartbeats 4000000
namespace Ev
open PySem PySem.Spec PyProof.Rows L2

/-! ### several except clauses -/
abbrev Cl1 := Nat × (Value → Option Bool) × TS
inductive Clauses (X : Cx) : List ExceptHandler → List Cl1 → Prop
  | nil : Clauses X [] []
  | cons {n : Str} {t : Expr} {i : Nat} {b0 : Stmt} {suite : List Stmt} {pos' : Pos} {hit : Value → Option Bool} {ts : TS} {hs : List ExceptHandler} {cl : List Cl1} : X.N[i]? = some n → X.env.kindOf n = some .local → HTest X t hit → (∀ (a : Addr) (pn : List (Addr × Obj)), PSs (X.suite a pn) (b0 :: suite) ts) → Clauses X hs cl →
    Clauses X (.ExceptHandler (some t) (some n) (b0 :: suite) pos' :: hs) ((i, hit, ts) :: cl)
  /-- without a name: its slot lies behind all slots -/
  | consN {t : Expr} {i : Nat} {b0 : Stmt} {suite : List Stmt} {pos' : Pos} {hit : Value → Option Bool} {ts : TS} {hs : List ExceptHandler} {cl : List Cl1} : X.N.length ≤ i → HTest X t hit → (∀ (a : Addr) (pn : List (Addr × Obj)), PSs (X.suite a pn) (b0 :: suite) ts) → Clauses X hs cl →
    Clauses X (.ExceptHandler (some t) none (b0 :: suite) pos' :: hs) ((i, hit, ts) :: cl)
section
variable {X : Cx} {body : List Stmt} {pos : Pos} {tb : WXr → TS} {Wout : WXr}
end
end Ev
/-! text Ex22 -/
set_option Elab.async false
set_option linter.all false
set_option maxRecDepth 100000
set_option maxHeartbeats 4000000
namespace Ev
open PySem PySem.Spec PyProof.Rows L2

/-! ### several clauses, mirrored -/
abbrev ClS := Nat × (Str → Option Bool) × Fs
inductive ClsM (X : Cx) : List ExceptHandler → List ClS → List Cl1 → Prop
  | nil : ClsM X [] [] []
  | cons {n : Str} {t : Expr} {i : Nat} {b0 : Stmt} {suite : List Stmt} {pos' : Pos} {hit : Value → Option Bool} {hitS : Str → Option Bool} {BS : Fs} {hs : List ExceptHandler} {cs : List ClS} {cl : List Cl1} : X.N[i]? = some n → X.env.kindOf n = some .local → HTest X t hit →
    (∀ c C b, hitS c = some b → X.mg c = some (.ref C) → hit (.ref C) = some b) → (∀ (a : Addr) (pn : List (Addr × Obj)), PSts (X.suite a pn) (b0 :: suite) BS) → ClsM X hs cs cl →
    ClsM X (.ExceptHandler (some t) (some n) (b0 :: suite) pos' :: hs) ((i, hitS, BS) :: cs) ((i, hit, tS (wd X) BS) :: cl)
  | consN {t : Expr} {i : Nat} {b0 : Stmt} {suite : List Stmt} {pos' : Pos} {hit : Value → Option Bool} {hitS : Str → Option Bool} {BS : Fs} {hs : List ExceptHandler} {cs : List ClS} {cl : List Cl1} : X.N.length ≤ i → HTest X t hit →
    (∀ c C b, hitS c = some b → X.mg c = some (.ref C) → hit (.ref C) = some b) → (∀ (a : Addr) (pn : List (Addr × Obj)), PSts (X.suite a pn) (b0 :: suite) BS) → ClsM X hs cs cl →
    ClsM X (.ExceptHandler (some t) none (b0 :: suite) pos' :: hs) ((i, hitS, BS) :: cs) ((i, hit, tS (wd X) BS) :: cl)
theorem ClsM.cl {X : Cx} {hs : List ExceptHandler} {cs : List ClS} {cl : List Cl1} (m : ClsM X hs cs cl) : Clauses X hs cl := by
  induction m with
  | nil => exact .nil
  | cons h1 h2 h3 _ h5 _ ih => exact .cons h1 h2 h3 (fun a pn => h5 a pn) ih
  | consN h1 h3 _ h5 _ ih => exact .consN h1 h3 (fun a pn => h5 a pn) ih
section
variable {W : Wd} {D : Ends} {ρ ρ1 ρ2 : Env} {loc loc1 : Loc} {σ1 : List (Option V)} {H Hf H1 Hf1 : Hp} {x : Ex} {fl : Fw} {i : Nat} {BS : Fs} {Cc a : Addr} {d : Option Addr} {vfs : List (Str × V)}
end
section
variable {X : Cx} {body : List Stmt} {pos : Pos} {FB : Fs} {GB : Gx}
end

/-! ### within a clause -/
structure InU (Θ : Th) (N : List Str) (sc s0 : Scope) (Y : Cx) : Prop where
  K : Y.K = Θ.K
  mg : Y.mg = Θ.mg
  N : Y.N = N
  sc : Y.env.scope = sc
  nd : Y.N.Nodup
  st : ∀ x, okSt s0 x = true → L2.Loc Y.env.scope x ∧ (Y.fn x = true ∨ Y.env.scope.names.lookup x = some .local)
section
variable {Θ : Th} {N : List Str} {sc s0 : Scope} {k i j : Nat} {X Y : Cx} {o e t : Expr} {p p1 p2 p3 pt pos : Pos} {FO : Fd} {FB BS : Fs} {GB : Gx}
theorem In.us (I : In Θ N sc s0 k X) (a : Addr) (pn : List (Addr × Obj)) : InU Θ N sc s0 (X.suite a pn) := ⟨I.K, I.mg, I.N, I.sc, I.q.nd, I.st⟩
theorem InU.gl (I : InU Θ N sc s0 Y) {x : Str} (h : glB sc x = true) : Gl Y x := by
  have := of_decide_eq_true (show decide (sc.names.lookup x = some .globalImplicit) = true from h)
  show Y.env.scope.names.lookup x = _
  rw [I.sc]
  exact this
theorem InU.pv (I : InU Θ N sc s0 Y) {x : Str} (h : visB N sc i x = true) : PE Y (.Name x p) (tVar i) := by
  unfold visB at h
  simp only [Bool.and_eq_true, decide_eq_true_eq, Bool.not_eq_true'] at h
  obtain ⟨⟨⟨h1, h2⟩, h3⟩, h4⟩ := h
  refine pe_var (by rw [I.N]; exact h1) ?_ h3 h4
  show Vis Y.env.scope x
  unfold Vis
  rw [I.sc]
  split at h2
  · rename_i q; exact .inl q
  · rename_i q; exact .inr (.inl q)
  · rename_i q; exact .inr (.inr q)
  · cases h2
/-! ### on the surface -/
end
section
variable {Θ : Th} {h : Heap}
end
end Ev
/-! text Ex23 -/
set_option Elab.async false
set_option linter.all false
set_option maxRecDepth 100000
set_option maxHeartbeats 4000000
namespace Ev
open PySem PySem.Spec PyProof.Rows L2

/-! ### isinstance of what is caught, of several own classes -/
section
variable {Θ : Th} {N : List Str} {sc s0 : Scope} {k : Nat} {X Y : Cx} {o : Expr} {es : List Expr} {xs : List Str} {tab : List (Str × Bool)} {kt : Nat} {p pt pos : Pos} {FO : Fd}
end
section
variable {Θ : Th} {h : Heap}
end
end Ev
/-! text Ex24 -/
set_option Elab.async false
set_option linter.all false
set_option maxRecDepth 100000
set_option maxHeartbeats 4000000
namespace Ev
open PySem PySem.Spec PyProof.Rows L2

/-! ### isinstance(x, C), C a class of the text that is no error, x one of its things, or of built-in ones -/
theorem RpB.obj {W : Wd} {H Hf : Hp} {v : V} {c : Str} {fs : List (Str × D)} (h : RpB W H Hf v (.obj c fs)) (s : Sub Hf H) : ∃ a Cc dx vfs, v = .ref a ∧ H a = some (.ins Cc dx vfs) ∧ W.mg c = some (.ref Cc) := by
  obtain ⟨a, Cc, dx, vfs, rfl, h1, h2, _⟩ := h
  exact ⟨a, Cc, dx, vfs, rfl, h1, h2⟩
section
variable {Θ : Th} {N : List Str} {sc s0 : Scope} {k : Nat} {X : Cx} {o : Expr} {p pt pos : Pos} {FO : Fr} {x : Str} {tab : List (Str × Bool)} {bts : List String}
end
section
variable {Θ : Th} {h : Heap}
end
end Ev
/-! text Ex25 -/
set_option Elab.async false
set_option linter.all false
set_option maxRecDepth 100000
set_option maxHeartbeats 4000000
/-! == of dicts with tuples as keys, by their tables in the heap -/
namespace EqH
open PySem PySem.Calls PyProof.Rows
section
variable {prog : Program} {w : World} {K : Type} [DecidableEq K] {knd : HeapKind prog w K} {A : Around} {E : Value → Shared → Prop} {s : Shared}
end
end EqH
namespace Ev
open PySem PySem.Spec PyProof.Rows L2
/-! ### dicts with tuples as keys that are alike -/
end Ev
/-! ### != by an own ==: object.__ne__ asks the class's own __eq__ -/
namespace EqH
open PySem PySem.Spec PySem.Calls PyProof.Rows L2
section
variable {prog : Program} {w : World} {M : Model} {A : Around} {E : Value → Shared → Prop} {s : Shared} {K : PySem.W.Frag} {x y C f : Addr} {ox oy : Obj} {od od' : Option Obj}
end
end EqH
namespace Ev
open PySem L2
section
variable {Θ : Th} {N : List Str} {sc s0 : Scope} {k : Nat} {X : Cx} {a b : Expr} {FA FB : Fd} {pos : Pos}
end
section
variable {Θ : Th} {h : Heap}
end
end Ev
/-! text Ex26 -/
set_option Elab.async false
set_option linter.all false
set_option maxRecDepth 100000
set_option maxHeartbeats 4000000
namespace Ev
open PySem L2
/-! ### x //= e -/
section
variable {Θ : Th} {N : List Str} {sc s0 : Scope} {k : Nat} {X : Cx} {e : Expr} {F : Fd}
end
end Ev
/-! text Ex27 -/
set_option Elab.async false
set_option linter.all false
set_option maxRecDepth 100000
set_option maxHeartbeats 4000000
/-! dict comprehensions of two clauses, keys tuples that are fixed -/
namespace DC2
open PySem PySem.Spec PySem.Calls PyProof.Rows L2
theorem turn_out (kx vx t0 i0 t1 i1 : Expr) (ifs0 ifs1 : List Expr) (scope : Scope) (pos : Pos) (it acc : Value) (env : PySem.Env) :
    compTurn (.DictComp kx vx [⟨t0, i0, ifs0, 0⟩, ⟨t1, i1, ifs1, 0⟩] scope pos) 0 it acc env = (do
      standAt i0.pos
      match ← pyNext it with
      | none => pure (.done .next)
      | some v =>
        letOwnedTupleGo t0 it v
        assign t0 env v
        let mut ok := true
        for c in ifs0 do
          if ok then ok ← isTrue c env (eval c env)
        if ok then
          let x ← eval i1 env
          standAt i1.pos
          let x ← foldedSetIterable i1 env x
          let _ ← runOwn (.compStart (.DictComp kx vx [⟨t0, i0, ifs0, 0⟩, ⟨t1, i1, ifs1, 0⟩] scope pos) 1 (← holding [x] (pyIter x)) acc env) env
        again (.compLoop (.DictComp kx vx [⟨t0, i0, ifs0, 0⟩, ⟨t1, i1, ifs1, 0⟩] scope pos) 0 it acc env)) := by rfl
theorem turn_in (kx vx t0 i0 t1 i1 : Expr) (ifs0 ifs1 : List Expr) (scope : Scope) (pos : Pos) (it : Value) (D : Addr) (env : PySem.Env) :
    compTurn (.DictComp kx vx [⟨t0, i0, ifs0, 0⟩, ⟨t1, i1, ifs1, 0⟩] scope pos) 1 it (.ref D) env = (do
      standAt i1.pos
      match ← pyNext it with
      | none => pure (.done .next)
      | some v =>
        letOwnedTupleGo t1 it v
        assign t1 env v
        let mut ok := true
        for c in ifs1 do
          if ok then ok ← isTrue c env (eval c env)
        if ok then
          (do
            let kv ← eval kx env
            let vv ← holding [kv] (eval vx env)
            standAt { kx.pos with endLine := vx.pos.endLine, endCol := vx.pos.endCol }
            holding [kv, vv] (dictSet D kv vv))
        again (.compLoop (.DictComp kx vx [⟨t0, i0, ifs0, 0⟩, ⟨t1, i1, ifs1, 0⟩] scope pos) 1 it (.ref D) env)) := by rfl
section
variable {prog : Program} {w : World} {A : Around} {R : Result → Shared → Prop} {s : Shared} {kx vx t0 i0 t1 i1 : Expr} {ifs0 ifs1 : List Expr} {scope : Scope} {pos : Pos} {it acc : Value} {D : Addr} {env : PySem.Env}
theorem loop_out (hs : ∀ x, foldedSetIterable i1 env x = pure x) (I : Nat → Shared → Prop)
    (turn : ∀ n s, I n s → wpAny (model prog w) A (pyNext it) (fun r s₁ => match r with
      | none => R (.ok .next) s₁
      | some v => wpAny (model prog w) A (letOwnedTupleGo t0 it v) (fun _ s₁' => wpAny (model prog w) A (assign t0 env v) (fun _ s₂ =>
          wpAny (model prog w) A (forIn ifs0 true fun c r => if r = true then do let ok ← isTrue c env (eval c env); pure (ForInStep.yield ok) else pure (ForInStep.yield r)) (fun ok s₃ =>
            if ok = true then wpAny (model prog w) A (eval i1 env) (fun x s₄ => wpAny (model prog w) A (pyIter x) (fun it1 s₅ =>
              codeAny (model prog w) A (.compStart (.DictComp kx vx [⟨t0, i0, ifs0, 0⟩, ⟨t1, i1, ifs1, 0⟩] scope pos) 1 it1 acc env) (fun r s' => match r with
                | .ok _ => ∃ m, m < n ∧ I m s'
                | .error _ => False) s₅) (notedBy (model prog w) A env fun e s' => R (.error e) s') s₄) (notedBy (model prog w) A env fun e s' => R (.error e) s') s₃
            else ∃ m, m < n ∧ I m s₃) (notedBy (model prog w) A env fun e s' => R (.error e) s') s₂) (notedBy (model prog w) A env fun e s' => R (.error e) s') s₁') (notedBy (model prog w) A env fun e s' => R (.error e) s') s₁) (notedBy (model prog w) A env fun e s' => R (.error e) s') s)
    (n : Nat) (h : I n s) : codeAny (model prog w) A (.compLoop (.DictComp kx vx [⟨t0, i0, ifs0, 0⟩, ⟨t1, i1, ifs1, 0⟩] scope pos) 0 it acc env) R s := by
  refine codeAny_loop rfl I (fun n s hI => ?_) n h
  show wpAny _ A ((compTurn (.DictComp kx vx [⟨t0, i0, ifs0, 0⟩, ⟨t1, i1, ifs1, 0⟩] scope pos) 0 it acc env).onRaise (fun x => do noteFrame x env; theTreesLotGoes x)) _ _ s
  refine wpAny_noted ?_
  rw [turn_out]
  refine wpAny_bind (wpAny_standAt (wpAny_bind (wpAny_mono (turn n s hI) (fun r s₁ h₁ => ?_) fun _ _ h' => h')))
  cases r with
  | none => exact wpAny_pure h₁
  | some v =>
    refine wpAny_bind (wpAny_mono h₁ (fun _ s₁' h₁' => ?_) fun _ _ h' => h')
    refine wpAny_bind (wpAny_mono h₁' (fun _ s₂ h₂ => wpAny_bind (wpAny_mono h₂ (fun ok s₃ h₃ => ?_) fun _ _ h' => h')) fun _ _ h' => h')
    cases ok with
    | false => exact wpAny_pure ⟨rfl, h₃⟩
    | true =>
      refine wpAny_bind (wpAny_mono h₃ (fun x s₄ h₄ => ?_) fun _ _ h' => h')
      refine wpAny_bind (wpAny_standAt (wpAny_bind (wpAny_of_eq (hs x) (wpAny_bind (wpAny_holding (wpAny_mono h₄ (fun it1 s₅ h₅ => ?_) fun _ _ h' => h'))))))
      refine wpAny_bind (wpAny_runOwn ?_)
      rw [Around.mark_none]
      refine codeAny_mono h₅ fun r s' hr => ?_
      cases r with
      | ok f =>
        first
          | exact wpAny_pure ⟨rfl, hr⟩
          | exact wpAny_bind (wpAny_pure (wpAny_pure ⟨rfl, hr⟩))
      | error e => exact hr.elim
theorem loop_in (I : Nat → Shared → Prop)
    (turn : ∀ n s, I n s → wpAny (model prog w) A (pyNext it) (fun r s₁ => match r with
      | none => R (.ok .next) s₁
      | some v => wpAny (model prog w) A (letOwnedTupleGo t1 it v) (fun _ s₁' => wpAny (model prog w) A (assign t1 env v) (fun _ s₂ =>
          wpAny (model prog w) A (forIn ifs1 true fun c r => if r = true then do let ok ← isTrue c env (eval c env); pure (ForInStep.yield ok) else pure (ForInStep.yield r)) (fun ok s₃ =>
            if ok = true then wpAny (model prog w) A (eval kx env) (fun kv s₄ => wpAny (model prog w) A (eval vx env) (fun vv s₅ =>
              wpAny (model prog w) A (dictSet D kv vv) (fun _ s₆ => ∃ m, m < n ∧ I m s₆) (notedBy (model prog w) A env fun e s' => R (.error e) s') s₅) (notedBy (model prog w) A env fun e s' => R (.error e) s') s₄) (notedBy (model prog w) A env fun e s' => R (.error e) s') s₃
            else ∃ m, m < n ∧ I m s₃) (notedBy (model prog w) A env fun e s' => R (.error e) s') s₂) (notedBy (model prog w) A env fun e s' => R (.error e) s') s₁') (notedBy (model prog w) A env fun e s' => R (.error e) s') s₁) (notedBy (model prog w) A env fun e s' => R (.error e) s') s)
    (n : Nat) (h : I n s) : codeAny (model prog w) A (.compLoop (.DictComp kx vx [⟨t0, i0, ifs0, 0⟩, ⟨t1, i1, ifs1, 0⟩] scope pos) 1 it (.ref D) env) R s := by
  refine codeAny_loop rfl I (fun n s hI => ?_) n h
  show wpAny _ A ((compTurn (.DictComp kx vx [⟨t0, i0, ifs0, 0⟩, ⟨t1, i1, ifs1, 0⟩] scope pos) 1 it (.ref D) env).onRaise (fun x => do noteFrame x env; theTreesLotGoes x)) _ _ s
  refine wpAny_noted ?_
  rw [turn_in]
  refine wpAny_bind (wpAny_standAt (wpAny_bind (wpAny_mono (turn n s hI) (fun r s₁ h₁ => ?_) fun _ _ h' => h')))
  cases r with
  | none => exact wpAny_pure h₁
  | some v =>
    refine wpAny_bind (wpAny_mono h₁ (fun _ s₁' h₁' => ?_) fun _ _ h' => h')
    refine wpAny_bind (wpAny_mono h₁' (fun _ s₂ h₂ => wpAny_bind (wpAny_mono h₂ (fun ok s₃ h₃ => ?_) fun _ _ h' => h')) fun _ _ h' => h')
    cases ok with
    | false => exact wpAny_pure ⟨rfl, h₃⟩
    | true =>
      exact wpAny_bind (wpAny_bind (wpAny_mono h₃ (fun kv s₄ h₄ => wpAny_bind (wpAny_holding (wpAny_mono h₄ (fun vv s₅ h₅ => wpAny_bind (wpAny_standAt (wpAny_holding (wpAny_mono h₅ (fun _ s₆ h₆ => wpAny_pure ⟨rfl, h₆⟩) fun _ _ h' => h')))) fun _ _ h' => h'))) fun _ _ h' => h'))
theorem start_in (h0 : codeAny (model prog w) A (.compLoop (.DictComp kx vx [⟨t0, i0, ifs0, 0⟩, ⟨t1, i1, ifs1, 0⟩] scope pos) 1 it acc env) R s)
    (h : wpAny (model prog w) A (pyIter it) (fun it' s' => codeAny (model prog w) A (.compLoop (.DictComp kx vx [⟨t0, i0, ifs0, 0⟩, ⟨t1, i1, ifs1, 0⟩] scope pos) 1 it' acc env) R s') (notedBy (model prog w) A env fun x s' => R (.error x) s') s) :
    codeAny (model prog w) A (.compStart (.DictComp kx vx [⟨t0, i0, ifs0, 0⟩, ⟨t1, i1, ifs1, 0⟩] scope pos) 1 it acc env) R s := by
  refine codeAny_of_tree ?_
  show wpAny _ _ ((compStart (.DictComp kx vx [⟨t0, i0, ifs0, 0⟩, ⟨t1, i1, ifs1, 0⟩] scope pos) 1 it acc env).onRaise (fun x => do noteFrame x env; standAt theWindowsPlace)) _ _ s
  refine wpAny_notedAt ?_
  unfold compStart
  show wpAny _ _ (ask >>= _) _ _ s
  refine wpAny_bind (wpAny_askSetting (wpAny_ite ?_))
  split
  · first
      | exact wpAny_bind (wpAny_pure (wpAny_pure (And.intro rfl h0)))
      | exact wpAny_pure (And.intro rfl h0)
  · first
      | exact wpAny_bind (wpAny_rule (wpAny_bind (wpAny_standAt (wpAny_bind (wpAny_mono h (fun it' s' h' => wpAny_pure (And.intro rfl h')) fun _ _ x => x)))))
      | (refine wpAny_bind (wpAny_rule ?_); show wpAny _ _ (standAt i1.pos >>= _) _ _ s; exact wpAny_bind (wpAny_standAt (wpAny_bind (wpAny_mono h (fun it' s' h' => wpAny_pure (And.intro rfl h')) fun _ _ x => x))))
end
end DC2
namespace DC2
open PySem PySem.Spec PySem.Calls PyProof.Rows L2
section
variable {X : Cx} {pins : List (Addr × Obj)} {σ : L2.St} {H : Hp} {s : Shared} {a b : Addr} {r : Value} {xs : List (List L2.Key × Addr × Value)} {k : List L2.Key} {ob : Obj} {A : Around} {E : Value → Shared → Prop}
theorem dz_dset {Q : Unit → Shared → Prop} (hu : A.units < cLine) {ep : Nat} (I : Inv X pins σ H s) (e : H a = some (Ev.dZ X.prog X.w a ep xs)) (zo : Ev.ZOk a xs) (zk : Ev.ZKeys H xs) (hl : xs.length < sizeLine) (eb : H b = some (.frz ob (.tup (k.map kV))))
    (h : ∀ s' e', Inv X pins σ (upd H a (Ev.dZ X.prog X.w a e' (storedH xs k b r))) s' → ((storedH xs k b r).map (·.1)).Nodup → Q () s') : wpAny (model X.prog X.w) A (dictSet a (.ref b) r) Q E s := by
  refine wpAny_dictSet_heap (hsz := Nat.le_of_lt hl) (show (tupleKind (mixKind X.prog X.w)).room A from hu) (Ev.key_ofF I.hok eb) (Ev.dz_of I.hok e zo zk) fun h' dd' hs => ?_
  obtain ⟨q, _, _, hq, _, _, _, _, nd⟩ := id dd'
  obtain ⟨e', ok'⟩ := Ev.dz_new dd'
  exact h _ e' (d_write I (by rw [e]; exact True.intro) hs ⟨q, hq⟩ (ok' _)) nd
end
section
variable {X : Cx}
/-- {k: v for tg in iter if .. for tg1 in iter1 if ..}: D the new dict -/
def tDz2 (P : Program) (w : World) (wi : TI) (g : TG) (tt : TT) (wi1 : TI) (g1 : TG) (tt1 : TT) (tk tv : TE) (vs vs1 : List Nat) : TE := fun σ H Q => wi σ H fun J H1 => ∀ D, H1 D = none → (D == sysModules) = false → ∃ W : Nat → Nat → Hp → Prop, (∃ m, W 0 m (upd H1 D (Ev.dZ P w D 0 []))) ∧ ∀ i m H, W i m H →
  (J.stop i H ∧ Q (.ref D) H) ∨ (J.go i H ∧ ∃ Nx : Hp → Prop, (∀ H', Nx H' → ∃ m', m' < m ∧ W (i + 1) m' H') ∧ ∀ x H', J.yld i H x H' → g x (wipe σ vs) H' fun σ2 H2 => wipe σ2 vs = wipe σ vs ∧ tt σ2 H2 fun b H3 =>
    if b = true then wi1 σ2 H3 fun J1 H4 => ∃ W1 : Nat → Nat → Hp → Prop, (∃ m, W1 0 m H4) ∧ ∀ j k H, W1 j k H →
      (J1.stop j H ∧ Nx H) ∨ (J1.go j H ∧ ∃ Nx1 : Hp → Prop, (∀ H', Nx1 H' → ∃ k', k' < k ∧ W1 (j + 1) k' H') ∧ ∀ x H', J1.yld j H x H' → g1 x (wipe σ2 vs1) H' fun σ3 H5 => wipe σ3 vs1 = wipe σ2 vs1 ∧ tt1 σ3 H5 fun b H6 =>
        if b = true then tk σ3 H6 fun y H7 => tv σ3 H7 fun z H8 => ∃ (xs : List (List L2.Key × Addr × Value)) (ep : Nat) (k : List L2.Key) (b : Addr) (ob : Obj), y = .ref b ∧ H8 D = some (Ev.dZ P w D ep xs) ∧ Ev.ZOk D xs ∧ Ev.ZKeys H8 xs ∧ xs.length < sizeLine ∧ H8 b = some (.frz ob (.tup (k.map kV))) ∧
          ∀ u e', RelV z u → ((storedH xs k b u).map (·.1)).Nodup → Nx1 (upd H8 D (Ev.dZ P w D e' (storedH xs k b u)))
        else Nx1 H6)
    else Nx H3)
abbrev Blk (X : Cx) (scope : Scope) (P : Cx → Prop) : Prop := ∀ (s : Shared) (H : Hp) (C : Addr) (cl : List (Str × Addr)) (fp : List Addr), P (X.blk s H scope (compEnvC scope cl C X.env) fp)
theorem core {pins : List (Addr × Obj)} {s : Shared} {σ : L2.St} {H : Hp} {Q : VK} {kx vx tg iter tg1 iter1 : Expr} {ifs ifs1 : List Expr} {scope : Scope} {own : List (Str × Nat)} {vs1 : List Nat} {pos pos' : Pos} {wi wi1 : TI} {g g1 : TG} {tt tt1 : TT} {tk tv : TE} {use : Option (Value → Sem Unit)} {Qf : Value → Shared → Prop}
    (hc : X.calm = true) (hu : X.A.units < cLine) (I : Inv X pins σ H s) (hi : PI X tg iter wi) (ok : BlkOk X.N X.env.scope scope own) (hv : ∀ i ∈ vs1, i ∈ own.map (·.2))
    (hg : Blk X scope fun Y => PG Y tg g) (ht : Blk X scope fun Y => PTs Y ifs tt) (hk : Blk X scope fun Y => PE Y kx tk) (he : Blk X scope fun Y => PE Y vx tv) (hs : ∀ x, foldedSetIterable iter X.env x = pure x)
    (hi1 : Blk X scope fun Y => PI Y tg1 iter1 wi1) (hg1 : Blk X scope fun Y => PG Y tg1 g1) (ht1 : Blk X scope fun Y => PTs Y ifs1 tt1) (hs1 : ∀ env x, foldedSetIterable iter1 env x = pure x) (hN : X.N.Nodup)
    (h : tDz2 X.prog X.w wi g tt wi1 g1 tt1 tk tv (own.map (·.2)) vs1 σ H Q)
    (hRR : ∀ D C s' m H', Inv X pins σ H' s' → Q (.ref D) H' → s'.heap.Ns C m → FpOk X pins H' C → compPost (model X.prog X.w) X.A X.xe use Qf (.ref D) C (.ok .next) s') :
    wpAny (model X.prog X.w) X.A (comprehension (.DictComp kx vx [⟨tg, iter, ifs, 0⟩, ⟨tg1, iter1, ifs1, 0⟩] scope pos) scope X.env pos' newDict false (eval iter X.env) use) Qf X.xe s := by
  have hfree : ∀ y ∈ scope.names, y.2 = .free → ∃ c, X.env.cells.lookup y.1 = some c := fun y hy e => by
    rcases ok.free y hy e with k | k
    · exact I.ok.has _ (.inl k)
    · exact I.ok.has _ (.inr k)
  refine wpAny_comprehension_free (use := use) rfl hs (closure_ok hfree) ok.kind (fun y hy e => by rw [ok.uniq y hy, e])
    (thn (hi.run pins s σ H _ I h) fun xv s1 hx => thn hx fun itv s2 h2 => ?_)
  obtain ⟨it, fp, tn, J, H2, e, I2, T, st2, f2, q⟩ := h2
  subst e
  refine wpAny_newObj_type (newEnv_comp ?_)
  have hsys : (s2.heap.objs.size == sysModules) = false := beq_eq_false_iff_ne.mpr (Ne.symm (Nat.ne_of_lt I2.big))
  have E0 : ObjOk X.prog X.w H2 (s2.heap.push { cls := .type "dict", data := .dict #[] }) s2.heap.objs.size (Ev.dZ X.prog X.w s2.heap.objs.size 0 []) := Ev.dz_empty s2.heap
  generalize hD : s2.heap.objs.size = D at hsys E0
  have hDn : H2 D = none := I2.hok.fresh (Nat.le_of_eq hD)
  obtain ⟨W, ⟨m0, w0⟩, turn⟩ := q D hDn hsys
  generalize hs3 : ({ s2 with heap := s2.heap.push { cls := .type "dict", data := .dict #[] } } : Shared) = s3
  have I3 : Inv X pins σ (upd H2 D (Ev.dZ X.prog X.w D 0 [])) s3 := by
    rw [← hs3]
    refine I2.laid (t' := s2.toks) (fun b o e => Heap.get?_push_of_some _ e) (Nat.le_of_eq hD) ?_
    rw [← hD]
    exact Ev.dz_empty s2.heap
  have h3 : s3.heap = s2.heap.push { cls := .type "dict", data := .dict #[] } := by rw [← hs3]
  have sz : ∀ b ∈ fp, b < s2.heap.objs.size := fun b hb => by
    obtain ⟨o, e, _⟩ := T.obj _ _ st2 b hb
    exact Heap.lt_size e
  have f3 : ∀ b ∈ fp, FpOk X pins (upd H2 D (Ev.dZ X.prog X.w D 0 [])) b ∧ b < s3.heap.objs.size := fun b hb => by
    have hlt := sz b hb
    refine ⟨⟨?_, (f2 b hb).2⟩, by rw [h3, Heap.size_push]; exact Nat.lt_succ_of_lt hlt⟩
    rw [upd_ne (by rw [← hD]; exact Nat.ne_of_lt hlt)]
    exact (f2 b hb).1
  have st3 : tn 0 s3.heap := T.keep _ _ _ st2 fun b _ o e => by rw [h3]; exact Heap.get?_push_of_some _ e
  have I4 := block_start I3 ok hN f3
  have pg := hg s3 (upd H2 D (Ev.dZ X.prog X.w D 0 [])) s3.heap.objs.size (cellsFrom (s3.heap.objs.size + 1) scope.names (cloFrom X.env.cells scope.names [])) fp
  have pt := ht s3 (upd H2 D (Ev.dZ X.prog X.w D 0 [])) s3.heap.objs.size (cellsFrom (s3.heap.objs.size + 1) scope.names (cloFrom X.env.cells scope.names [])) fp
  have pk := hk s3 (upd H2 D (Ev.dZ X.prog X.w D 0 [])) s3.heap.objs.size (cellsFrom (s3.heap.objs.size + 1) scope.names (cloFrom X.env.cells scope.names [])) fp
  have pe := he s3 (upd H2 D (Ev.dZ X.prog X.w D 0 [])) s3.heap.objs.size (cellsFrom (s3.heap.objs.size + 1) scope.names (cloFrom X.env.cells scope.names [])) fp
  have pi1 := hi1 s3 (upd H2 D (Ev.dZ X.prog X.w D 0 [])) s3.heap.objs.size (cellsFrom (s3.heap.objs.size + 1) scope.names (cloFrom X.env.cells scope.names [])) fp
  have pg1 := hg1 s3 (upd H2 D (Ev.dZ X.prog X.w D 0 [])) s3.heap.objs.size (cellsFrom (s3.heap.objs.size + 1) scope.names (cloFrom X.env.cells scope.names [])) fp
  have pt1 := ht1 s3 (upd H2 D (Ev.dZ X.prog X.w D 0 [])) s3.heap.objs.size (cellsFrom (s3.heap.objs.size + 1) scope.names (cloFrom X.env.cells scope.names [])) fp
  show codeAny _ _ (.compStart (.DictComp kx vx [⟨tg, iter, ifs, 0⟩, ⟨tg1, iter1, ifs1, 0⟩] scope pos) 0 (.ref it) (.ref D) (compEnvC scope (cellsFrom (s3.heap.objs.size + 1) scope.names (cloFrom X.env.cells scope.names [])) s3.heap.objs.size X.env)) (compPost (model X.prog X.w) X.A X.xe use Qf (.ref D) s3.heap.objs.size) { s3 with heap := pushCells (s3.heap.push { cls := .type "dict", data := .dict #[] }) scope.names }
  have nfp : ∀ b ∈ fp, (upd H2 D (Ev.dZ X.prog X.w D 0 [])) b = none := fun b hb => (f3 b hb).1.1
  generalize hce : compEnvC scope (cellsFrom (s3.heap.objs.size + 1) scope.names (cloFrom X.env.cells scope.names [])) s3.heap.objs.size X.env = ce at I4 pg pt pk pe pi1 pg1 pt1 ⊢
  have cL : ce.locals = s3.heap.objs.size := by subst hce; rfl
  generalize hH3 : upd H2 D (Ev.dZ X.prog X.w D 0 []) = H3 at I3 I4 pg pt pk pe pi1 pg1 pt1 w0 nfp f3
  generalize hs4 : ({ s3 with heap := pushCells (s3.heap.push { cls := .type "dict", data := .dict #[] }) scope.names } : Shared) = s4 at I4 ⊢
  have st4 : tn 0 s4.heap := T.keep _ _ _ st3 fun b _ o e => by rw [← hs4]; exact pushCells_keeps _ _ _ _ (Heap.get?_push_of_some _ e)
  have stat : ∀ {σ' : L2.St} {H' : Hp} {s' : Shared}, Inv (X.blk s3 H3 scope ce fp) [] σ' H' s' → (∀ b ∈ fp, H' b = none) → ∀ b ∈ fp, FpOk (X.blk s3 H3 scope ce fp) [] H' b := fun {σ' H' s'} I' hn b hb =>
    ⟨hn b hb, (I'.ok.exf b hb).1, I'.ok.exfs b hb, .inl hb, fun x c e => (I'.ok.exf b hb).2 x c e, fun p hp => absurd (show p ∈ ([] : List (Addr × Obj)) ++ [] from hp) (by simp)⟩
  have loop : codeAny (model X.prog X.w) X.A (.compLoop (.DictComp kx vx [⟨tg, iter, ifs, 0⟩, ⟨tg1, iter1, ifs1, 0⟩] scope pos) 0 (.ref it) (.ref D) ce) (compPost (model X.prog X.w) X.A X.xe use Qf (.ref D) s3.heap.objs.size) s4 := by
    refine loop_out (hs1 ce) (fun n s' => ∃ i H', Inv (X.blk s3 H3 scope ce fp) [] (wipe σ (own.map (·.2))) H' s' ∧ tn i s'.heap ∧ (∀ b ∈ fp, H' b = none) ∧ W i n H') ?_ m0 ⟨0, H3, I4, st4, nfp, w0⟩
    rintro n s5 ⟨i, H5, I5, st5, n5, w5⟩
    rcases turn i n H5 w5 with ⟨stop, qq⟩ | ⟨go, Nx, hNx, step⟩
    · have td := T.done (X.blk s3 H3 scope ce fp) rfl rfl rfl hc i [] s5 _ H5 (fun _ _ => False) I5 (stat I5 n5) st5 stop
      refine thnF td fun r s6 ⟨hr, I6⟩ => ?_
      subst hr
      have I7 : Inv X pins σ H5 s6 := I3.call' (ch := fp) I6.os I6.base I6.hok I6.bare fun b hb => ⟨(f3 b hb).1.2.2.2.1, (f3 b hb).1.2.1, (f3 b hb).1.2.2.2.2.1, (f3 b hb).1.2.2.2.2.2⟩
      have nC : H5 s3.heap.objs.size = none := by
        have z : H5 ce.locals = none := I6.free
        rw [cL] at z
        exact z
      obtain ⟨m, hn, _⟩ := I6.loc
      have hn : s6.heap.Ns ce.locals m := hn
      rw [cL] at hn
      exact hRR D s3.heap.objs.size s6 m H5 I7 qq hn (I3.fpOk (Nat.le_refl _) nC)
    · have ti := T.item (X.blk s3 H3 scope ce fp) rfl rfl rfl hc i [] s5 _ H5 (fun _ _ => False) I5 (stat I5 n5) st5 go
      refine thnF ti fun r s6 ⟨u, hr, h6⟩ => ?_
      subst hr
      refine thnF h6 fun _ s7 ⟨x, H7, I7, r7, y7, st7, n7⟩ => ?_
      have I7' := I7.pinned (stat I7 n7) (T.obj _ _ st7)
      refine thnF (pg.run _ s7 _ H7 x u _ I7' r7 (step x H7 y7)) fun _ s8 ⟨σ8, H8, I8, hw8, q8⟩ => ?_
      refine thnF (pt.run _ s8 σ8 H8 _ I8 q8) fun b s9 ⟨H9, I9, q9⟩ => ?_
      have fin : ∀ {σ9 : L2.St} {s' : Shared} {H' : Hp}, Inv (X.blk s3 H3 scope ce fp) ([] ++ pinsAt fp s7.heap) σ9 H' s' → (wipe σ (own.map (·.2))).length = σ9.length → (∀ (j : Nat) v, (wipe σ (own.map (·.2)))[j]? = some (some v) → σ9[j]? = some (some v)) → Nx H' →
          ∃ m, m < n ∧ ∃ i H', Inv (X.blk s3 H3 scope ce fp) [] (wipe σ (own.map (·.2))) H' s' ∧ tn i s'.heap ∧ (∀ b ∈ fp, H' b = none) ∧ W i m H' := fun {σ9 s' H'} I' hl hk nx => by
        obtain ⟨m', hm, w'⟩ := hNx H' nx
        have pin' : ∀ b ∈ fp, ∀ o, s7.heap.get? b = some o → s'.heap.get? b = some o ∧ H' b = none := fun b hb o e =>
          let z := I'.pin (b, o) (List.mem_append_right _ (List.mem_append_right _ (mem_pinsAt hb e)))
          ⟨z.1, z.2.1⟩
        refine ⟨m', hm, i + 1, H', (I'.unpinned (pins := [])).weak hl hk, T.keep _ _ _ st7 fun b hb o e => (pin' b hb o e).1, fun b hb => ?_, w'⟩
        obtain ⟨o, e, _⟩ := T.obj _ _ st7 b hb
        exact (pin' b hb o e).2
      have hl8 : (wipe σ (own.map (·.2))).length = σ8.length := by rw [← hw8, wipe_length]
      have hk8 : ∀ (j : Nat) v, (wipe σ (own.map (·.2)))[j]? = some (some v) → σ8[j]? = some (some v) := fun j v e => by
        rw [← hw8] at e
        exact (wipe_some e).1
      have hk9 : ∀ (j : Nat) v, (wipe σ (own.map (·.2)))[j]? = some (some v) → (wipe σ8 vs1)[j]? = some (some v) := fun j v e => by
        rw [← hw8] at e
        obtain ⟨e1, e2⟩ := wipe_some e
        rw [wipe_out fun z => e2 (hv j z)]
        exact e1
      cases b with
      | false =>
        simp only [Bool.false_eq_true, if_false] at q9 ⊢
        exact fin I9 hl8 hk8 q9
      | true =>
        simp only [if_true] at q9 ⊢
        refine thnF (pi1.run _ s9 σ8 H9 _ I9 q9) fun xv s10 hx => thnF hx fun itv s11 h11 => ?_
        obtain ⟨it1, fp1, tn1, J1, H11, e1, I11, T1, st11, f11, W1, ⟨m1, w1⟩, turn1⟩ := h11
        subst e1
        have stat1 : ∀ {H' : Hp}, (∀ b ∈ fp1, H' b = none) → ∀ b ∈ fp1, FpOk (X.blk s3 H3 scope ce fp) ([] ++ pinsAt fp s7.heap) H' b := fun hn b hb => ⟨hn b hb, (f11 b hb).2⟩
        have loop1 : codeAny (model X.prog X.w) X.A (.compLoop (.DictComp kx vx [⟨tg, iter, ifs, 0⟩, ⟨tg1, iter1, ifs1, 0⟩] scope pos) 1 (.ref it1) (.ref D) ce)
            (fun r s' => match r with
              | .ok _ => ∃ m, m < n ∧ ∃ i H', Inv (X.blk s3 H3 scope ce fp) [] (wipe σ (own.map (·.2))) H' s' ∧ tn i s'.heap ∧ (∀ b ∈ fp, H' b = none) ∧ W i m H'
              | .error _ => False) s11 := by
          refine loop_in (fun k s' => ∃ j H', Inv (X.blk s3 H3 scope ce fp) ([] ++ pinsAt fp s7.heap) (wipe σ8 vs1) H' s' ∧ tn1 j s'.heap ∧ (∀ b ∈ fp1, H' b = none) ∧ W1 j k H') ?_ m1 ⟨0, H11, I11.weak (wipe_length _ _) (fun j v e => (wipe_some e).1), st11, fun b hb => (f11 b hb).1, w1⟩
          rintro k s12 ⟨j, H12, I12, st12, n12, w12⟩
          rcases turn1 j k H12 w12 with ⟨stop1, nx1⟩ | ⟨go1, Nx1, hNx1, step1⟩
          · refine thnF (T1.done (X.blk s3 H3 scope ce fp) rfl rfl rfl hc j _ s12 (wipe σ8 vs1) H12 (fun _ _ => False) I12 (stat1 n12) st12 stop1) fun r s13 ⟨hr, I13⟩ => ?_
            subst hr
            exact fin I13 (hl8.trans (wipe_length σ8 vs1).symm) hk9 nx1
          · refine thnF (T1.item (X.blk s3 H3 scope ce fp) rfl rfl rfl hc j _ s12 (wipe σ8 vs1) H12 (fun _ _ => False) I12 (stat1 n12) st12 go1) fun r s13 ⟨u1, hr, h13⟩ => ?_
            subst hr
            refine thnF h13 fun _ s14 ⟨x1, H14, I14, r14, y14, st14, n14⟩ => ?_
            have I14' := I14.pinned (stat1 n14) (T1.obj _ _ st14)
            refine thnF (pg1.run _ s14 (wipe σ8 vs1) H14 x1 u1 _ I14' r14 (step1 x1 H14 y14)) fun _ s15 ⟨σ15, H15, I15, hw15, q15⟩ => ?_
            refine thnF (pt1.run _ s15 σ15 H15 _ I15 q15) fun b1 s16 ⟨H16, I16, q16⟩ => ?_
            have fin1 : ∀ {s' : Shared} {H' : Hp}, Inv (X.blk s3 H3 scope ce fp) (([] ++ pinsAt fp s7.heap) ++ pinsAt fp1 s14.heap) σ15 H' s' → Nx1 H' → ∃ m, m < k ∧ ∃ j H', Inv (X.blk s3 H3 scope ce fp) ([] ++ pinsAt fp s7.heap) (wipe σ8 vs1) H' s' ∧ tn1 j s'.heap ∧ (∀ b ∈ fp1, H' b = none) ∧ W1 j m H' := fun {s' H'} I' nx => by
              obtain ⟨m', hm, w'⟩ := hNx1 H' nx
              have pin' : ∀ b ∈ fp1, ∀ o, s14.heap.get? b = some o → s'.heap.get? b = some o ∧ H' b = none := fun b hb o e =>
                let z := I'.pin (b, o) (List.mem_append_right _ (List.mem_append_right _ (mem_pinsAt hb e)))
                ⟨z.1, z.2.1⟩
              refine ⟨m', hm, j + 1, H', I'.unpinned.weak (by rw [← hw15, wipe_length]) (fun j v e => by rw [← hw15] at e; exact (wipe_some e).1), T1.keep _ _ _ st14 fun b hb o e => (pin' b hb o e).1, fun b hb => ?_, w'⟩
              obtain ⟨o, e, _⟩ := T1.obj _ _ st14 b hb
              exact (pin' b hb o e).2
            cases b1 with
            | false =>
              simp only [Bool.false_eq_true, if_false] at q16 ⊢
              exact fin1 I16 q16
            | true =>
              simp only [if_true] at q16 ⊢
              refine thnF (pk.run _ s16 σ15 H16 _ I16 q16) fun kv s17 ⟨y, H17, I17, r17, q17⟩ => ?_
              refine thnF (pe.run _ s17 σ15 H17 _ I17 q17) fun vv s18 ⟨z, H18, I18, r18, xs, ep, kk, kb, ob, ey, hD18, zo, zk, hl18, eb, nx⟩ => ?_
              subst ey
              obtain rfl : kv = Value.ref kb := r17
              exact dz_dset (X := X.blk s3 H3 scope ce fp) hu I18 hD18 zo zk hl18 eb fun s19 e' I19 nd => fin1 I19 (nx vv e' r18 nd)
        exact start_in loop1 (T1.self X.A 0 _ _ _ st11 loop1)
  exact codeAny_compStart_dict loop (T.self X.A 0 _ _ _ st4 loop)
end
end DC2
/-! text Ex28 -/
set_option Elab.async false
set_option linter.all false
set_option maxRecDepth 100000
set_option maxHeartbeats 4000000
namespace Ev
open PySem L2
/-! ### such comprehensions, mirrored -/
section
variable {Θ : Th} {N : List Str} {sc s0 scope : Scope} {k : Nat} {X : Cx} {kx vx tg iter tg1 iter1 : Expr} {ifs ifs1 : List Expr} {pos : Pos} {t t1 : Tg} {FI FI1 : Fi} {T T1 : Ft} {FK FV : Fd} {own : List (Str × Nat)} {vs1 : List Nat}
end
end Ev
/-! text Ex29 -/
set_option Elab.async false
set_option linter.all false
set_option maxRecDepth 100000
set_option maxHeartbeats 4000000
namespace DC2
open PySem PySem.Spec PySem.Calls PyProof.Rows L2
section
variable {X : Cx}
end
end DC2
namespace Ev
open PySem L2
section
variable {Θ : Th} {N : List Str} {sc s0 scope : Scope} {k : Nat} {X : Cx} {kx vx tg iter tg1 iter1 : Expr} {ifs ifs1 : List Expr} {pos spos py : Pos} {t t1 : Tg} {FI FI1 : Fi} {T T1 : Ft} {FK FV : Fd} {own : List (Str × Nat)} {vs1 : List Nat} {i : Nat} {y : Str}
end
end Ev
/-! text Ex30 -/
set_option Elab.async false
set_option linter.all false
set_option maxRecDepth 100000
set_option maxHeartbeats 4000000
/-! dict comprehensions of one clause, keys tuples that are fixed -/
namespace DC2
open PySem PySem.Spec PySem.Calls PyProof.Rows L2
section
variable {X : Cx}
end
end DC2
namespace Ev
open PySem L2
section
variable {Θ : Th} {N : List Str} {sc s0 scope : Scope} {k : Nat} {X : Cx} {kx vx tg iter : Expr} {ifs : List Expr} {pos : Pos} {t : Tg} {FI : Fi} {T : Ft} {FK FV : Fd} {own : List (Str × Nat)}
end
end Ev
/-! text Ex31 -/
set_option Elab.async false
set_option linter.all false
set_option maxRecDepth 100000
set_option maxHeartbeats 4000000
namespace Ev
open PySem L2
/-! ### a == b by the class's own __eq__ -/
section
variable {Θ : Th} {N : List Str} {sc s0 : Scope} {k : Nat} {X : Cx} {a b : Expr} {FA FB : Fd} {pos : Pos}
end
end Ev
/-! text Ex32 -/
set_option Elab.async false
set_option linter.all false
set_option maxRecDepth 100000
set_option maxHeartbeats 4000000
namespace Ev
open PySem L2
/-! ### {k: v}, one key that is known at run time alone -/
section
variable {X : Cx} {ke ve : Expr} {FK FV : Fd} {pos : Pos}
end
section
variable {Θ : Th} {N : List Str} {sc s0 : Scope} {k : Nat} {X : Cx} {ke ve : Expr} {FV FK : Fd} {pos : Pos}
end
section
variable {ρ : Env} {FV FK : Fd}
end
end Ev
/-! text Ex33 -/
set_option Elab.async false
set_option linter.all false
set_option maxRecDepth 100000
set_option maxHeartbeats 4000000
namespace Ev
open PySem PySem.Spec PyProof.Rows L2
/-! ### keys that are nested tuples of numbers and texts -/
mutual
/-- such a tuple, fixed as it stands -/
inductive NkV (H : Hp) : V → NestedKey → Prop
  | int (i : Int) : NkV H (.int i) (.num i)
  | str (x : Str) : NkV H (.str x) (.text x)
  | tup {a : Addr} {ob : Obj} {vs : List V} {ks : List NestedKey} : H a = some (.frz ob (.tup vs)) → NkL H vs ks → NkV H (.ref a) (.tup ks)
inductive NkL (H : Hp) : List V → List NestedKey → Prop
  | nil : NkL H [] []
  | cons {v : V} {vs : List V} {k : NestedKey} {ks : List NestedKey} : NkV H v k → NkL H vs ks → NkL H (v :: vs) (k :: ks)
end
section
variable {H H' : Hp}
mutual
theorem NkV.mono (e : ∀ b o, H b = some o → H' b = some o) : ∀ {v : V} {k : NestedKey}, NkV H v k → NkV H' v k
  | _, _, .int i => .int i
  | _, _, .str x => .str x
  | _, _, .tup h t => .tup (e _ _ h) (NkL.mono e t)
theorem NkL.mono (e : ∀ b o, H b = some o → H' b = some o) : ∀ {v : List V} {k : List NestedKey}, NkL H v k → NkL H' v k
  | _, _, .nil => .nil
  | _, _, .cons h t => .cons (NkV.mono e h) (NkL.mono e t)
end
end
section
variable {W : Wd} {H : Hp}
end
section
variable {P : Program} {w : World} {H : Hp} {h : Heap}
mutual
theorem NkV.is (ok : HOk P w H h) : ∀ (k : NestedKey) {v : V} {u : Value}, NkV H v k → RelV v u → NestedIs h k u
  | .none, _, _, n, _ => nomatch n
  | .num i, _, u, .int _, r => by
    obtain ⟨t, rfl⟩ := r
    exact .int i t
  | .text x, _, u, .str _, r => by
    obtain ⟨t, rfl⟩ := r
    exact .text x t
  | .tup ks, _, u, .tup ha hl, r => by
    cases (show u = Value.ref _ from r)
    obtain ⟨_, _, its, rv, o, h1, h2, n, h3⟩ := (show ObjOk P w H h _ (.frz _ (.tup _)) from ok _ _ ha)
    exact .tup h1 h2 h3 (by simpa using NkL.is ok ks hl rv)
theorem NkL.is (ok : HOk P w H h) : ∀ (ks : List NestedKey) {vs : List V} {us : List Value}, NkL H vs ks → Vals vs us → NestedAll h ks us
  | [], _, _, .nil, r => by cases r; exact .nil
  | k :: ks, _, _, .cons a t, r => by
    cases r with
    | cons r1 r2 => exact .cons (NkV.is ok k a r1) (NkL.is ok ks t r2)
end
end
/-! ### dicts held by their very entries -/
def dR (a : Addr) (es : Array DictEntry) (ep : Nat) : HO := .ext fun h => h.DictRaw a es ep
theorem nt_dR {a : Addr} {es : Array DictEntry} {ep : Nat} : NT (dR a es ep) := nt_ext
abbrev NB := List (NestedKey × Addr × Addr)
def nX (B : NB) : List (NestedKey × Addr × Value) := B.map fun b => (b.1, b.2.1, Value.ref b.2.2)
structure NdOk (P : Program) (w : World) (es : Array DictEntry) (B : NB) : Prop where
  ents : es.toList = (nX B).map (entryOfKey (nestedKind P w))
  len : B.length ≤ sizeLine
  nd : (B.map (·.1)).Nodup
  dp : ∀ b ∈ B, b.1.depth ≤ 8
def NKeys (H : Hp) (B : NB) : Prop := ∀ b ∈ B, NkV H (.ref b.2.1) b.1
theorem NKeys.mono {H H' : Hp} {B : NB} (k : NKeys H B) (e : ∀ b o, H b = some o → H' b = some o) : NKeys H' B := fun b hb => (k b hb).mono e
theorem NdOk.size {P : Program} {w : World} {es : Array DictEntry} {B : NB} (z : NdOk P w es B) : es.size = B.length := by
  have := congrArg List.length z.ents
  simpa [nX] using this
theorem NdOk.at {P : Program} {w : World} {es : Array DictEntry} {B : NB} (z : NdOk P w es B) {i : Nat} {b : NestedKey × Addr × Addr} (h : B[i]? = some b) : ∃ e, es[i]? = some e ∧ e.val = .ref b.2.2 := by
  have h1 : es.toList[i]? = some (entryOfKey (nestedKind P w) (b.1, b.2.1, Value.ref b.2.2)) := by
    rw [z.ents, List.getElem?_map]
    unfold nX
    rw [List.getElem?_map, h]
    rfl
  refine ⟨_, by rw [← Array.getElem?_toList]; exact h1, rfl⟩
section
variable {P : Program} {w : World} {H : Hp} {h : Heap} {a c b : Addr} {es : Array DictEntry} {ep : Nat} {B : NB} {k : NestedKey}
end
section
variable {X : Cx} {o e f : Expr} {td ty tx : TE} {apos cpos : Pos}
/-! d.values(), walked -/
end
section
variable {X : Cx} {tg e : Expr} {td : TE} {apos cpos : Pos}
end
end Ev
/-! text Ex34 -/
set_option Elab.async false
set_option linter.all false
set_option maxRecDepth 100000
set_option maxHeartbeats 4000000
namespace Ev
open PySem L2
/-! ### lots by nested keys: g = {}, then g.setdefault(k, []).append(v), then what stands in g.values() -/
abbrev LotN := List (NestedKey × List D)
def nAdd : LotN → NestedKey → D → LotN
  | [], k, d => [(k, [d])]
  | p :: r, k, d => if p.1 = k then (p.1, p.2 ++ [d]) :: r else p :: nAdd r k d
/-- the lots at their lists -/
def LotsN (W : Wd) (H Hf : Hp) : LotN → NB → Prop
  | [], [] => True
  | p :: L, b :: B => b.1 = p.1 ∧ Hf b.2.2 = none ∧ (∃ vs, H b.2.2 = some (.lst vs) ∧ RpL W Hf vs p.2) ∧ LotsN W H Hf L B
  | _, _ => False
section
variable {W : Wd} {H Hf H' Hf' : Hp}
theorem LotsN.len : ∀ {L : LotN} {B : NB}, LotsN W H Hf L B → L.length = B.length
  | [], [], _ => rfl
  | _ :: _, _ :: _, h => congrArg (· + 1) (LotsN.len h.2.2.2)
  | [], _ :: _, h => h.elim
  | _ :: _, [], h => h.elim
theorem LotsN.mono (e : ∀ a o, H a = some o → Hf a = none → NT o → H' a = some o ∧ Hf' a = none) (ef : ∀ a o, Hf a = some o → Hf' a = some o) : ∀ {L : LotN} {B : NB}, LotsN W H Hf L B → LotsN W H' Hf' L B
  | [], [], _ => True.intro
  | _ :: _, _ :: _, ⟨h1, h2, ⟨vs, h3, h4⟩, h5⟩ => by
    obtain ⟨q1, q2⟩ := e _ _ h3 h2 nt_lst
    exact ⟨h1, q2, ⟨vs, q1, h4.mono ef⟩, h5.mono e ef⟩
  | [], _ :: _, h => h.elim
  | _ :: _, [], h => h.elim
theorem LotsN.get : ∀ {L : LotN} {B : NB}, LotsN W H Hf L B → ∀ (j : Nat) (b : NestedKey × Addr × Addr), B[j]? = some b → ∃ ds vs, L[j]? = some (b.1, ds) ∧ Hf b.2.2 = none ∧ H b.2.2 = some (.lst vs) ∧ RpL W Hf vs ds
  | [], [], _, j, b, e => by simp at e
  | p :: L, c :: B, ⟨h1, h2, ⟨vs, h3, h4⟩, h5⟩, 0, b, e => by
    simp at e
    subst e
    exact ⟨p.2, vs, by rw [h1]; rfl, h2, h3, h4⟩
  | p :: L, c :: B, ⟨h1, h2, _, h5⟩, j + 1, b, e => by
    obtain ⟨ds, vs, q⟩ := LotsN.get h5 j b (by simpa using e)
    exact ⟨ds, vs, by simpa using q.1, q.2⟩
  | [], _ :: _, h, _, _, _ => h.elim
  | _ :: _, [], h, _, _, _ => h.elim
theorem LotsN.other {p : Addr} {u : HO} : ∀ {L : LotN} {B : NB}, LotsN W H Hf L B → p ∉ B.map (·.2.2) → LotsN W (upd H p u) Hf L B
  | [], [], _, _ => True.intro
  | _ :: _, c :: B, ⟨g1, g2, ⟨ws, g3, g4⟩, g5⟩, n => by
    rw [List.map_cons, List.mem_cons, not_or] at n
    exact ⟨g1, g2, ⟨ws, by rw [upd_ne (Ne.symm n.1)]; exact g3, g4⟩, LotsN.other g5 n.2⟩
  | [], _ :: _, h, _ => h.elim
  | _ :: _, [], h, _ => h.elim
theorem LotsN.set {k : NestedKey} {b : Addr × Addr} {vs : List V} {ds : List D} (r : RpL W Hf vs ds) (hb : Hf b.2 = none) : ∀ {L : LotN} {B : NB} {j : Nat}, LotsN W H Hf L B → (B.map (·.2.2)).Nodup → B[j]? = some (k, b) → LotsN W (upd H b.2 (.lst vs)) Hf (L.set j (k, ds)) B
  | [], [], j, _, _, e => by simp at e
  | p :: L, c :: B, 0, ⟨h1, h2, ⟨ws, h3, h4⟩, h5⟩, nd, e => by
    simp at e
    subst e
    rw [List.map_cons, List.nodup_cons] at nd
    exact ⟨rfl, hb, ⟨vs, upd_same, r⟩, h5.other nd.1⟩
  | p :: L, c :: B, j + 1, ⟨h1, h2, ⟨ws, h3, h4⟩, h5⟩, nd, e => by
    have e' : B[j]? = some (k, b) := by simpa using e
    rw [List.map_cons, List.nodup_cons] at nd
    have ne : c.2.2 ≠ b.2 := fun z => nd.1 (by rw [z]; exact List.mem_map.mpr ⟨_, List.mem_of_getElem? e', rfl⟩)
    exact ⟨h1, h2, ⟨ws, by rw [upd_ne ne]; exact h3, h4⟩, LotsN.set (j := j) r hb h5 nd.2 e'⟩
  | [], _ :: _, _, h, _, _ => h.elim
  | _ :: _, [], _, h, _, _ => h.elim
theorem LotsN.app {k : NestedKey} {c b : Addr} {vs : List V} {ds : List D} (hf : Hf b = none) (hb : H b = some (.lst vs)) (r : RpL W Hf vs ds) : ∀ {L : LotN} {B : NB}, LotsN W H Hf L B → LotsN W H Hf (L ++ [(k, ds)]) (B ++ [(k, c, b)])
  | [], [], _ => ⟨rfl, hf, ⟨vs, hb, r⟩, True.intro⟩
  | _ :: _, _ :: _, ⟨h1, h2, h3, h5⟩ => ⟨h1, h2, h3, LotsN.app hf hb r h5⟩
  | [], _ :: _, h => h.elim
  | _ :: _, [], h => h.elim
/-- where a key is -/
theorem LotsN.find {k : NestedKey} : ∀ {L : LotN} {B : NB}, LotsN W H Hf L B → (atKey (nX B) k = none ∧ ∀ d, nAdd L k d = L ++ [(k, [d])]) ∨
    ∃ j c b ds, B[j]? = some (k, c, b) ∧ L[j]? = some (k, ds) ∧ atKey (nX B) k = some (c, .ref b) ∧ ∀ d, nAdd L k d = L.set j (k, ds ++ [d])
  | [], [], _ => .inl ⟨rfl, fun _ => rfl⟩
  | p :: L, c :: B, ⟨h1, _, _, h5⟩ => by
    by_cases e : p.1 = k
    · refine .inr ⟨0, c.2.1, c.2.2, p.2, ?_, ?_, ?_, fun d => ?_⟩
      · rw [← e, ← h1]; rfl
      · rw [← e]; rfl
      · unfold atKey nX
        rw [List.map_cons, List.find?_cons_of_pos (by simp [h1, e])]
        rfl
      · show (if p.1 = k then _ else _) = _
        rw [if_pos e, e]; rfl
    · have hv : atKey (nX (c :: B)) k = atKey (nX B) k := by
        unfold atKey nX
        rw [List.map_cons, List.find?_cons_of_neg (by simp [h1, e])]
      have ha : ∀ d, nAdd (p :: L) k d = p :: nAdd L k d := fun d => if_neg e
      rcases LotsN.find (k := k) h5 with ⟨q1, q2⟩ | ⟨j, c', b, ds, q1, q2, q3, q4⟩
      · exact .inl ⟨hv.trans q1, fun d => by rw [ha, q2]; rfl⟩
      · exact .inr ⟨j + 1, c', b, ds, by simpa using q1, by simpa using q2, hv.trans q3, fun d => by rw [ha, q4]; rfl⟩
  | [], _ :: _, h => h.elim
  | _ :: _, [], h => h.elim
end
/-- while they are filled: the dict at q, in slot i -/
structure GSn (W : Wd) (i : Nat) (q : Addr) (H0 Hf0 : Hp) (ρ : Env) (loc : Loc) (σ : St) (H Hf : Hp) (L : LotN) (B : NB) : Prop where
  s : SOk W ρ loc σ H Hf
  no : Imms ρ
  z : σ[i]? = some (some (.ref q))
  hq : ∃ es ep, H q = some (dR q es ep) ∧ NdOk W.P W.w es B
  ks : NKeys Hf B
  fq : Hf q = none
  la : LotsN W H Hf L B
  nd : (B.map (·.2.2)).Nodup
  nw : ∀ b ∈ B, H0 b.2.2 = none
  nq : H0 q = none
  sy : (q == sysModules) = false
  E : ExtT H0 Hf0 H Hf
section
variable {W : Wd} {i : Nat} {q : Addr} {H0 Hf0 : Hp} {ρ ρ' : Env} {loc : Loc} {σ σ' : St} {H Hf H' Hf' Hf1 : Hp} {L : LotN} {B : NB}
theorem GSn.ge (k : GSn W i q H0 Hf0 ρ loc σ H Hf L B) (g : Ge ρ loc H Hf ρ' H' Hf') (s : SOk W ρ' loc σ' H' Hf') (e : σ'[i]? = σ[i]?) : GSn W i q H0 Hf0 ρ' loc σ' H' Hf' L B := by
  obtain ⟨es, ep, h1, h2⟩ := k.hq
  exact ⟨s, k.no.ge g, e.trans k.z, ⟨es, ep, g.keep _ _ h1 k.no.not nt_dR, h2⟩, k.ks.mono (g.fixed k.s), (g.frz _ _ h1 k.no.not).trans k.fq, k.la.mono (fun a o h1 h2 t => ⟨g.keep _ _ h1 k.no.not t, (g.frz _ _ h1 k.no.not).trans h2⟩) (g.fixed k.s), k.nd, k.nw, k.nq, k.sy,
    ⟨s.sub, fun a h => k.E.there a (g.there a h), fun a o h t => g.keep _ _ (k.E.keep a o h t) k.no.not t, fun a o h => let ⟨_, h1⟩ := live_of k.E.there h; (g.frz _ _ h1 k.no.not).trans (k.E.frz a o h)⟩⟩
theorem GSn.ne (k : GSn W i q H0 Hf0 ρ loc σ H Hf L B) {j : Nat} {b : NestedKey × Addr × Addr} (e : B[j]? = some b) : b.2.2 ≠ q := fun z => by
  obtain ⟨ds, vs, _, _, h, _⟩ := k.la.get j b e
  obtain ⟨es, ep, h1, _⟩ := k.hq
  rw [z, h1] at h; cases h
/-- a new lot -/
theorem GSn.new (k : GSn W i q H0 Hf0 ρ loc σ H Hf L B) {key : NestedKey} {c b : Addr} {es : Array DictEntry} {ep : Nat} (hb : H b = some (.lst [])) (hf : Hf b = none) (h0 : H0 b = none) (nb : b ∉ B.map (·.2.2)) (nk : NkV Hf (.ref c) key) (zo : NdOk W.P W.w es (B ++ [(key, c, b)])) :
    GSn W i q H0 Hf0 ρ loc σ (upd H q (dR q es ep)) Hf (L ++ [(key, [])]) (B ++ [(key, c, b)]) := by
  obtain ⟨es0, ep0, hq, _⟩ := k.hq
  have hbq : b ≠ q := fun e => by rw [e, hq] at hb; cases hb
  have hn : q ∉ (B ++ [(key, c, b)]).map (·.2.2) := fun hm => by
    obtain ⟨x, hx, ex⟩ := List.mem_map.mp hm
    rcases List.mem_append.mp hx with hx | hx
    · obtain ⟨j, hj⟩ := List.getElem?_of_mem hx
      exact k.ne hj ex
    · rw [List.mem_singleton.mp hx] at ex
      exact hbq ex
  refine ⟨k.s.other k.fq k.no.not (ntb_some hq nt_dR), k.no, k.z, ⟨es, ep, upd_same, zo⟩, fun x hx => ?_, k.fq, (k.la.app hf hb .nil).other hn, ?_, fun x hx => ?_, k.nq, k.sy, ⟨fun a o h => ?_, fun a h => up_there k.E.there k.nq h, fun a o h t => ?_, k.E.frz⟩⟩
  · rcases List.mem_append.mp hx with hx | hx
    · exact k.ks x hx
    · rw [List.mem_singleton.mp hx]; exact nk
  · rw [List.map_append, List.nodup_append]
    refine ⟨k.nd, by simp, fun x hx y hy e => ?_⟩
    simp at hy
    subst hy
    exact nb (e ▸ hx)
  · rcases List.mem_append.mp hx with hx | hx
    · exact k.nw x hx
    · rw [List.mem_singleton.mp hx]; exact h0
  · rw [upd_ne (ne_of_none h k.fq)]; exact k.s.sub a o h
  · rw [upd_ne (ne_of_none h k.nq)]; exact k.E.keep a o h t
/-- a list changes -/
theorem GSn.chg (k : GSn W i q H0 Hf0 ρ loc σ H Hf L B) {j : Nat} {key : NestedKey} {c b : Addr} {vs : List V} {ds : List D} (e : B[j]? = some (key, c, b)) (r : RpL W Hf vs ds) :
    GSn W i q H0 Hf0 ρ loc σ (upd H b (.lst vs)) Hf (L.set j (key, ds)) B := by
  obtain ⟨ds0, vs0, _, hf, hh, _⟩ := k.la.get j _ e
  obtain ⟨es, ep, hq, zo⟩ := k.hq
  have ne := k.ne e
  have h0 := k.nw _ (List.mem_of_getElem? e)
  refine ⟨k.s.other hf k.no.not (ntb_some hh nt_lst), k.no, k.z, ⟨es, ep, by rw [upd_ne (Ne.symm ne)]; exact hq, zo⟩, k.ks, k.fq, k.la.set (j := j) r hf k.nd e, k.nd, k.nw, k.nq, k.sy, ⟨fun a o h => ?_, fun a h => up_there k.E.there h0 h, fun a o h t => ?_, k.E.frz⟩⟩
  · rw [upd_ne (ne_of_none h hf)]; exact k.s.sub a o h
  · rw [upd_ne (ne_of_none h h0)]; exact k.E.keep a o h t
end
end Ev
/-! text Ex35 -/
set_option Elab.async false
set_option linter.all false
set_option maxRecDepth 100000
set_option maxHeartbeats 4000000
namespace Ev
open PySem L2
section
variable {W : Wd} {i : Nat} {q : Addr} {H0 Hf0 : Hp} {ρ ρ' ρ3 ρ4 : Env} {loc : Loc} {σ σ' : St} {H Hf H' Hf' Hf1 : Hp} {L : LotN} {B : NB}
variable {t : Tg} {FK FV : Fd} {F0 : Fe} {items : List D} {J : It} {En : Ends} {ρe : Env} {Le : LotN}
theorem LotsN.fix {a : Addr} {u : HO} (hf : Hf a = none) : ∀ {L : LotN} {B : NB}, LotsN W H Hf L B → a ∉ B.map (·.2.2) → LotsN W H (upd Hf a u) L B
  | [], [], _, _ => True.intro
  | _ :: _, c :: B, ⟨g1, g2, ⟨ws, g3, g4⟩, g5⟩, n => by
    rw [List.map_cons, List.mem_cons, not_or] at n
    exact ⟨g1, by rw [upd_ne (Ne.symm n.1)]; exact g2, ⟨ws, g3, g4.mono fun b o h => by rw [upd_ne (ne_of_none h hf)]; exact h⟩, LotsN.fix hf g5 n.2⟩
  | [], _ :: _, h, _ => h.elim
  | _ :: _, [], h, _ => h.elim
end
section
variable {W : Wd} {i : Nat} {t t2 : Tg} {FI : Fi} {FK FV FE : Fd} {F0 : Fe} {vs : List Nat} {En : Ends} {σ : St} {H : Hp}
end
end Ev
/-! text Ex36 -/
set_option Elab.async false
set_option linter.all false
set_option maxRecDepth 100000
set_option maxHeartbeats 4000000
namespace Ev
open PySem L2
section
variable {Θ : Th} {N : List Str} {sc s0 : Scope} {X : Cx} {k : Nat} {i : Nat} {t t2 : Tg} {FI : Fi} {FK FV FE : Fd} {x : Str} {tg tg2 iter eK eV eT : Expr} {scope : Scope} {own : List (Str × Nat)} {p1 pd p2 p3 p4 pl p5 p6 p7 p8 p9 q1 q2 q3 q6 q7 : Pos}
end
section
variable {i : Nat} {t t2 : Tg} {FI : Fi} {FK FV FE : Fd} {vs : List Nat} {ρ : Env}
end
end Ev
/-! text Ex37 -/
set_option Elab.async false
set_option linter.all false
set_option maxRecDepth 100000
set_option maxHeartbeats 4000000
/-! dict comprehensions of two clauses, keys ints or texts -/
namespace DC2
open PySem PySem.Spec PySem.Calls PyProof.Rows L2
section
variable {X : Cx}
end
end DC2
namespace Ev
open PySem L2
/-! ### .. mirrored -/
section
variable {Θ : Th} {N : List Str} {sc s0 scope : Scope} {k : Nat} {X : Cx} {kx vx tg iter tg1 iter1 : Expr} {ifs ifs1 : List Expr} {pos : Pos} {t t1 : Tg} {FI FI1 : Fi} {T T1 : Ft} {FK FV : Fd} {own : List (Str × Nat)} {vs1 : List Nat}
end
end Ev
/-! text Ex38 -/
set_option Elab.async false
set_option linter.all false
set_option maxRecDepth 100000
set_option maxHeartbeats 4000000
/-! == of lists that are unlike in length -/
namespace Ev
open PySem PySem.Spec PyProof.Rows L2
def rEqN : R2 := fun x y H Q => ∃ a b us ws, x = .ref a ∧ y = .ref b ∧ H a = some (.lst us) ∧ H b = some (.lst ws) ∧ us.length ≠ ws.length ∧ Q (.bl false) H
theorem op_eqN {X : Cx} (hu : X.A.units < cLine) : OpR X (compareOp .Eq) rEqN := by
  intro pins s σ H x y v u Q I rx ry h
  obtain ⟨a, b, us, ws, rfl, rfl, ea, eb, hne, q⟩ := h
  obtain rfl : v = Value.ref a := rx
  obtain rfl : u = Value.ref b := ry
  obtain ⟨i1, v1, p1, _⟩ := I.list (.of ea)
  obtain ⟨i2, v2, p2, _⟩ := I.list (.of eb)
  have l1 : us.length = i1.length := v1.length
  have l2 : ws.length = i2.length := v2.length
  exact SeqAt.RcAt.lists_lengths p1.isList p2.isList (by simp; omega) hu _ _ _ _ ⟨.bl false, H, I, rfl, q⟩
def eqND (d e : D) : Option Bool := match d, e with
  | .lst xs, .lst ys => if xs.length ≠ ys.length then some false else eqD (.lst xs) (.lst ys)
  | d, e => eqD d e
theorem RpL.len2 {W : Wd} {H : Hp} : ∀ {vs : List V} {ds : List D}, RpL W H vs ds → vs.length = ds.length
  | _, _, .nil => rfl
  | _, _, .cons _ t => congrArg (· + 1) (RpL.len2 t)
theorem dop_eqN {W : Wd} : DOpB W (fun x y H Q => rEqX W.K x y H Q ∨ rEqN x y H Q) eqND := fun x y d e z H Hf Q s a b q k => by
  unfold eqND at q
  split at q
  · split at q
    · rename_i hc
      cases q
      obtain ⟨p, us, rfl, e1, r1⟩ := a
      obtain ⟨p', ws, rfl, e2, r2⟩ := b
      exact .inr ⟨p, p', us, ws, rfl, rfl, e1, e2, by rw [RpL.len2 r1, RpL.len2 r2]; exact hc, k⟩
    · exact .inl (dop_eq (W := W) x y _ _ z H Hf Q s a b q k)
  · exact .inl (dop_eq (W := W) x y d e z H Hf Q s a b q k)
theorem c_eqN : CmpR .Eq eqND := ⟨fun X hu => ⟨_, (op_eq.or (op_eqD (by omega))).or (op_eqN (by omega)), dop_eqN (W := wd X)⟩, fun b => nomark b⟩
end Ev
/-! text Ev46 -/
set_option Elab.async false
set_option linter.all false
set_option maxRecDepth 100000
set_option maxHeartbeats 4000000
namespace Ev
open PySem PySem.Spec PyProof.Rows L2
/-! ### t * k, the new tuple known to the object -/
section
variable {X : Cx}
end
section
variable {X : Cx} {a b : Expr} {FA FB : Fr} {pos : Pos}
end
section
variable {xs : List D} {i j k : Int}
end
end Ev
/-! text Ev55 -/
set_option Elab.async false
set_option linter.all false
set_option maxRecDepth 100000
set_option maxHeartbeats 4000000
namespace Ev
open PySem L2

/-! ### sum(lists, start) of lists -/
section
variable {prog : Program} {w : World} {A : Around} {R : Result → Shared → Prop}
end
section
variable {X : Cx}
end
end Ev
/-! text Ex42 -/
set_option Elab.async false
set_option linter.all false
set_option maxRecDepth 100000
set_option maxHeartbeats 4000000
namespace Ev
open PySem PySem.Spec PyProof.Rows L2
/-! ### {} whose keys will be tuples that live on -/
end Ev
/-! text Ex47 -/
set_option Elab.async false
set_option linter.all false
set_option maxRecDepth 100000
set_option maxHeartbeats 4000000
namespace Ev
open PySem L2
/-! ### repr of data that hold dicts, however deep -/
mutual
def lkE : D → Bool
  | .non => true
  | .bl _ => true
  | .int i => decide ((PyData.shown (.int i)).length ≤ 100) && decide (i.natAbs.log2 < 1920)
  | .str x => PyData.strOk x
  | .tup xs => lkL xs
  | .lst xs => lkL xs
  | .dct false kvs => lkK kvs
  | _ => false
def lkL : List D → Bool
  | [] => true
  | x :: xs => lkE x && lkL xs
def lkK : List (D × D) → Bool
  | [] => true
  | p :: xs => lkP p && lkK xs
def lkP : D × D → Bool
  | (k, x) => (keyD k).isSome && (lkE k && lkE x)
end
mutual
def pyE : D → PyData
  | .bl b => .bool b
  | .int i => .int i
  | .str s => .str s
  | .tup xs => .tuple (pyEL xs)
  | .lst xs => .list (pyEL xs)
  | .dct _ kvs => .dict (pyEK kvs)
  | _ => .none
def pyEL : List D → List PyData
  | [] => []
  | x :: xs => pyE x :: pyEL xs
def pyEK : List (D × D) → List (PyData × PyData)
  | [] => []
  | p :: xs => pyEP p :: pyEK xs
def pyEP : D × D → PyData × PyData
  | (k, x) => (pyE k, pyE x)
end
theorem keyD_py {kd : D} {k : Key} (h : keyD kd = some k) {u : Value} (hu : keyIs k u = true) {hp : Heap} : Reads hp u (pyE kd) [] := by
  cases kd <;> simp only [keyD] at h <;> try cases h
  · rcases keyIs_shape hu with ⟨i, t, e, rfl⟩ | ⟨x, t, e, rfl⟩
    · cases e; simp only [pyE]; exact Reads.int _ _
    · cases e
  · rcases keyIs_shape hu with ⟨i, t, e, rfl⟩ | ⟨x, t, e, rfl⟩
    · cases e
    · cases e; simp only [pyE]; exact Reads.str _ _
section
variable {X : Cx} {pins : List (Addr × Obj)} {σ : St} {H : Hp} {s : Shared} {W : Wd}
mutual
theorem Rp.reads (I : Inv X pins σ H s) : ∀ {v : V} {d : D}, Rp W H v d → lkE d = true → ∀ u, RelV v u → ∃ as, Reads s.heap u (pyE d) as
  | _, _, .non, _, _, r => by cases r; exact ⟨_, .none⟩
  | _, _, .bl b, _, _, r => by cases r; exact ⟨_, .bool b⟩
  | _, _, .int i, _, _, r => by obtain ⟨t, rfl⟩ := r; exact ⟨_, .int i t⟩
  | _, _, .str x, _, _, r => by obtain ⟨t, rfl⟩ := r; exact ⟨_, .str x t⟩
  | _, _, .tup h _ q, k, _, r => by
    cases r
    obtain ⟨its, rv, ⟨o, ho, hc, n, hd⟩, _⟩ := I.tuple (sqT_fz h)
    obtain ⟨as, hr⟩ := RpL.reads I q (by simpa only [lkE] using k) its rv
    simp only [pyE]
    exact ⟨_, .tuple ho hc hd hr⟩
  | _, _, .lst h q, k, _, r => by
    cases r
    obtain ⟨its, rv, ⟨o, n, ho, hc, _, hd⟩, _⟩ := I.list (.of h)
    obtain ⟨as, hr⟩ := RpL.reads I q (by simpa only [lkE] using k) its rv
    simp only [pyE]
    exact ⟨_, .list ho hc hd hr⟩
  | _, _, .dK h q, k, _, r => by
    cases r
    obtain ⟨od, I1⟩ := I.lock h trivial
    obtain ⟨hs, hgd, hx, es, ep, vs, hdt, hsz, kv, o2, es2, ho2, hx2, hdt2, kof, prs, nd⟩ := I1.frzK upd_same
    rw [hgd] at ho2
    cases ho2
    rw [hdt] at hdt2
    cases hdt2
    obtain ⟨as, bs, h1, h2⟩ := RpK.reads I q (by simpa only [lkE] using k) vs es.toList kv prs
    simp only [pyE]
    exact ⟨_, .dict hgd hx.1 hdt h1 h2⟩
  | _, _, .dT _ _, k, _, _ => by simp [lkE] at k
  | _, _, .obj _ _ _, k, _, _ => by simp [lkE] at k
  | _, _, .scr _, k, _, _ => by simp [lkE] at k
  | _, _, .raw _ _, k, _, _ => by simp [lkE] at k
  | _, _, .gf _, k, _, _ => by simp [lkE] at k
  | _, _, .exc _ _ _ _, k, _, _ => by simp [lkE] at k
theorem RpL.reads (I : Inv X pins σ H s) : ∀ {vs : List V} {ds : List D}, RpL W H vs ds → lkL ds = true → ∀ us, Vals vs us → ∃ as, ReadsAll s.heap us (pyEL ds) as
  | _, _, .nil, _, _, r => by cases r; exact ⟨_, .nil⟩
  | _, _, .cons q t, k, _, r => by
    cases r with
    | cons r1 r2 =>
      rw [lkL, Bool.and_eq_true] at k
      obtain ⟨as, h1⟩ := Rp.reads I q k.1 _ r1
      obtain ⟨bs, h2⟩ := RpL.reads I t k.2 _ r2
      simp only [pyEL]
      exact ⟨_, .cons h1 h2⟩
theorem RpK.reads (I : Inv X pins σ H s) : ∀ {ks : List (Key × V)} {ds : List (D × D)}, RpK W H ks ds → lkK ds = true → ∀ (vs : List (Key × Value)) (es : List DictEntry), KV ks vs → Pairs (mixKind X.prog X.w) es vs →
    ∃ as bs, ReadsAll s.heap (es.map (·.key)) ((pyEK ds).map (·.1)) as ∧ ReadsAll s.heap (es.map (·.val)) ((pyEK ds).map (·.2)) bs
  | _, _, .nil, _, _, _, r, p => by
    cases r
    cases p
    exact ⟨_, _, .nil, .nil⟩
  | _, _, .cons (kd := kd) (d := d) hk q t, k, _, _, r, p => by
    cases r with
    | cons r1 r2 =>
      cases p with
      | cons p1 p2 p3 =>
        rw [lkK, lkP, Bool.and_eq_true, Bool.and_eq_true, Bool.and_eq_true] at k
        obtain ⟨e1, r1⟩ := r1
        obtain ⟨bs, h1⟩ := Rp.reads I q k.1.2.2 _ r1
        obtain ⟨cs, ds, h2, h3⟩ := RpK.reads I t k.2 _ _ r2 p3
        rw [← e1] at p1
        rw [← p2] at h1
        simp only [pyEK, pyEP, List.map_cons]
        exact ⟨_, _, .cons (keyD_py hk p1) h2, .cons h1 h3⟩
end
theorem keyD_tells {kd : D} {k : Key} (h : keyD kd = some k) {u : Value} (hu : keyIs k u = true) (lk : lkE kd = true) (hz : (pyE kd).shown.length ≤ sizeLine) {hp : Heap} : ReprK X.prog X.w [] hp (pyE kd).depth u (pyE kd).shown := by
  cases kd <;> simp only [keyD] at h <;> try cases h
  · rcases keyIs_shape hu with ⟨i, t, e, rfl⟩ | ⟨x, t, e, rfl⟩
    · cases e
      rw [lkE, Bool.and_eq_true, decide_eq_true_eq] at lk
      simp only [pyE, PyData.shown]
      exact .of_is (ReprIs.int t (of_decide_eq_true lk.2)) _ _ _
    · cases e
  · rcases keyIs_shape hu with ⟨i, t, e, rfl⟩ | ⟨x, t, e, rfl⟩
    · cases e
    · cases e
      simp only [pyE, PyData.shown] at hz ⊢
      exact .of_is (ReprIs.str _ t hz) _ _ _
/-- what the text of a thing comes from, at whatever depth it stands -/
def Tells (X : Cx) (h : Heap) (u : Value) (d : D) : Prop := ∃ bs, ReadAtMost h (pyE d).depth bs ∧ ReprK X.prog X.w bs h (pyE d).depth u (pyE d).shown
def TellsL (X : Cx) (h : Heap) (us : List Value) (ds : List PyData) : Prop := ∃ bs, ReadAtMost h (PyData.depthAll ds) bs ∧ ReprAllK X.prog X.w bs h (PyData.depthAll ds) us (PyData.shownAll ds)
theorem TellsL.nil {h : Heap} : TellsL X h [] [] := ⟨[], (fun _ q => nomatch q), .nil⟩
theorem TellsL.cons' {h : Heap} {u : Value} {us : List Value} {d : PyData} {ds : List PyData} {b1 : List Addr} (a1 : ReadAtMost h d.depth b1) (k1 : ReprK X.prog X.w b1 h d.depth u d.shown) (t : TellsL X h us ds) : TellsL X h (u :: us) (d :: ds) := by
  obtain ⟨b2, a2, k2⟩ := t
  have m1 : d.depth ≤ PyData.depthAll (d :: ds) := by rw [PyData.depthAll]; exact Nat.le_max_left _ _
  have m2 : PyData.depthAll ds ≤ PyData.depthAll (d :: ds) := by rw [PyData.depthAll]; exact Nat.le_max_right _ _
  refine ⟨b1 ++ b2, (a1.mono m1).append (a2.mono m2), ?_⟩
  rw [PyData.shownAll]
  exact .cons ((k1.more fun b q => List.mem_append_left _ q).level_le m1) (k2.more_le (fun b q => List.mem_append_right _ q) m2)
/-- a list's, a tuple's, a dict's own text, by its items' -/
structure Owner (X : Cx) (h : Heap) (a : Addr) (d : PyData) : Prop where
  under : ∃ bs, ReadAtMost h d.depth bs ∧ ReprK X.prog X.w bs h d.depth (.ref a) d.shown
  top : ∃ T idr, SlotG T "__repr__" idr ∧ (∀ s : Shared, (∀ b o, h.get? b = some o → s.heap.get? b = some o) → s.TypeIs (.ref a) T) ∧
    ∀ (A : Around) (E : Value → Shared → Prop) (s : Shared) (Q : Value → Shared → Prop), A.guards = some [] → A.units + d.depth < cLine → (∀ b o, h.get? b = some o → s.heap.get? b = some o) →
      (∀ h' u tk, (∀ b o, s.heap.get? b = some o → h'.get? b = some o) → Q (.str d.shown u) { s with heap := h', toks := tk }) → wpAny (model X.prog X.w) A (call (.builtin idr) [.ref a]) Q E s
theorem owner_lst {h : Heap} {a : Addr} {o : Obj} {vs : Array Value} {n : Nat} {xs : List PyData} {as : List Addr} (h1 : h.get? a = some o) (h2 : o.cls = .type "list") (h3 : o.data = .seq vs n) (rd : ReadsAll h vs.toList xs as) (t : TellsL X h vs.toList xs) (hz : (PyData.shown (.list xs)).length ≤ sizeLine) : Owner X h a (.list xs) := by
  obtain ⟨bs, hb, hk⟩ := t
  have r : Reads h (.ref a) (.list xs) _ := .list h1 h2 h3 rd
  have na : a ∉ bs := not_mem_of_deeper r (by rw [PyData.depth]; omega) hb
  obtain ⟨l⟩ := vs
  cases l with
  | nil =>
    have rd : ReadsAll h [] xs _ := rd
    cases rd
    refine ⟨⟨[], (fun _ q => nomatch q), ?_⟩, "list", "list.__repr__", F.slot_list_repr.toG, fun s ks => ⟨o, ks _ _ h1, h2⟩, fun A E s Q hg hu ks hQ => ?_⟩
    · simp only [PyData.shown, PyData.shownAll, listText_nil]
      exact ReprK.listEmpty h1 h2 h3
    · simp only [PyData.shown, PyData.shownAll, listText_nil] at hQ
      exact call_list_repr_empty ⟨o, ks _ _ h1, h2⟩ (ks _ _ h1) h3 (hQ s.heap _ _ fun _ _ e => e)
  | cons x l =>
    have le : (PyData.shownAll xs).length = (x :: l).toArray.size := by simpa using hk.length_eq
    have hi : ∀ (i : Nat) (y : Value), (x :: l).toArray[i]? = some y → ∃ t, (PyData.shownAll xs)[i]? = some t ∧ ReprK X.prog X.w bs h (PyData.depthAll xs) y t := fun i y e => hk.item i y (by simpa using e)
    refine ⟨⟨a :: bs, ReadAtMost.cons r (by rw [PyData.depth]; omega) hb, ?_⟩, "list", "list.__repr__", F.slot_list_repr.toG, fun s ks => ⟨o, ks _ _ h1, h2⟩, fun A E s Q hg hu ks hQ => ?_⟩
    · simp only [PyData.depth, PyData.shown]
      exact ReprK.list h1 h2 h3 na le hi
    · simp only [PyData.depth, PyData.shown] at hu hQ hz
      exact call_list_reprK h1 h2 h3 na le hi hg (fun b _ => Clear.nil b) hu ks hQ hz
theorem owner_tup {h : Heap} {a : Addr} {o : Obj} {vs : Array Value} {n : Nat} {xs : List PyData} {as : List Addr} (h1 : h.get? a = some o) (h2 : o.cls = .type "tuple") (h3 : o.data = .seq vs n) (rd : ReadsAll h vs.toList xs as) (t : TellsL X h vs.toList xs) (hz : (PyData.shown (.tuple xs)).length ≤ sizeLine) : Owner X h a (.tuple xs) := by
  obtain ⟨bs, hb, hk⟩ := t
  have r : Reads h (.ref a) (.tuple xs) _ := .tuple h1 h2 h3 rd
  have na : a ∉ bs := not_mem_of_deeper r (by rw [PyData.depth]; omega) hb
  refine ⟨⟨a :: bs, ReadAtMost.cons r (by rw [PyData.depth]; omega) hb, ?_⟩, "tuple", "tuple.__repr__", F.slot_tuple_repr, fun s ks => ⟨o, ks _ _ h1, h2⟩, fun A E s Q hg hu ks hQ => ?_⟩
  · simp only [PyData.depth, PyData.shown]
    exact ReprK.tuple h1 h2 h3 na hk
  · simp only [PyData.depth, PyData.shown] at hu hQ hz
    exact call_tuple_reprK h1 h2 h3 na hk hg (fun b _ => Clear.nil b) hu ks hQ hz
theorem owner_dct {h : Heap} {a : Addr} {o : Obj} {es : Array DictEntry} {n : Nat} {kvs : List (PyData × PyData)} {as bs : List Addr} (sm : (a == sysModules) = false) (h1 : h.get? a = some o) (h2 : o.cls = .type "dict") (h3 : o.data = .dict es n)
    (rk : ReadsAll h (es.toList.map (·.key)) (kvs.map (·.1)) as) (rv : ReadsAll h (es.toList.map (·.val)) (kvs.map (·.2)) bs) (tk : TellsL X h (es.toList.map (·.key)) (kvs.map (·.1))) (tv : TellsL X h (es.toList.map (·.val)) (kvs.map (·.2))) (hz : (PyData.shown (.dict kvs)).length ≤ sizeLine) : Owner X h a (.dict kvs) := by
  obtain ⟨c1, a1, k1⟩ := tk
  obtain ⟨c2, a2, k2⟩ := tv
  have r : Reads h (.ref a) (.dict kvs) _ := .dict h1 h2 h3 rk rv
  have hb : ReadAtMost h (PyData.depthKv kvs) (c1 ++ c2) := (a1.mono (PyData.depthAll_keys_le kvs)).append (a2.mono (PyData.depthAll_vals_le kvs))
  have na : a ∉ c1 ++ c2 := not_mem_of_deeper r (by rw [PyData.depth]; omega) hb
  have en := ReprEntriesK.of_two es.toList _ _ (k1.more_le (as' := c1 ++ c2) (fun b q => List.mem_append_left _ q) (PyData.depthAll_keys_le kvs)) (k2.more_le (fun b q => List.mem_append_right _ q) (PyData.depthAll_vals_le kvs))
  refine ⟨⟨a :: (c1 ++ c2), ReadAtMost.cons r (by rw [PyData.depth]; omega) hb, ?_⟩, "dict", "dict.__repr__", F.slot_dict_repr, fun s ks => ⟨o, ks _ _ h1, h2⟩, fun A E s Q hg hu ks hQ => ?_⟩
  · simp only [PyData.depth, PyData.shown, PyData.shownKv_eq]
    exact ReprK.dict h1 h2 h3 sm na en
  · simp only [PyData.depth, PyData.shown, PyData.shownKv_eq] at hu hQ hz
    exact call_dict_reprK h1 h2 h3 sm na en hg (fun b _ => Clear.nil b) hu ks hQ hz
mutual
theorem Rp.owner (I : Inv X pins σ H s) : ∀ {a : Addr} {d : D}, Rp W H (.ref a) d → lkE d = true → (pyE d).shown.length ≤ sizeLine → Owner X s.heap a (pyE d)
  | _, _, .tup (ds := ds) h _ q, k, hz => by
    have k : lkL ds = true := by simpa only [lkE] using k
    obtain ⟨its, rv, ⟨o, ho, hc, n, hd⟩, _⟩ := I.tuple (sqT_fz h)
    obtain ⟨as, hr⟩ := RpL.reads I q k its rv
    simp only [pyE] at hz ⊢
    exact owner_tup ho hc hd hr (RpL.tells I q k (fun t ht => Nat.le_trans (tupleText_mem_le ht) (by simpa only [PyData.shown] using hz)) its rv) hz
  | _, _, .lst (ds := ds) h q, k, hz => by
    have k : lkL ds = true := by simpa only [lkE] using k
    obtain ⟨its, rv, ⟨o, n, ho, hc, _, hd⟩, _⟩ := I.list (.of h)
    obtain ⟨as, hr⟩ := RpL.reads I q k its rv
    simp only [pyE] at hz ⊢
    exact owner_lst ho hc hd hr (RpL.tells I q k (fun t ht => Nat.le_trans (listText_mem_le ht) (by simpa only [PyData.shown] using hz)) its rv) hz
  | _, _, .dK (ds := ds) h q, k, hz => by
    have k : lkK ds = true := by simpa only [lkE] using k
    obtain ⟨od, I1⟩ := I.lock h trivial
    obtain ⟨hs, hgd, hx, es, ep, vs, hdt, hsz, kv, o2, es2, ho2, hx2, hdt2, kof, prs, nd⟩ := I1.frzK upd_same
    rw [hgd] at ho2
    cases ho2
    rw [hdt] at hdt2
    cases hdt2
    obtain ⟨as, bs, h1, h2⟩ := RpK.reads I q k vs es.toList kv prs
    simp only [pyE] at hz ⊢
    have hz' : (dictText (PyData.shownKv (pyEK ds))).length ≤ sizeLine := by simpa only [PyData.shown] using hz
    have hp : ∀ p ∈ PyData.shownKv (pyEK ds), p.length ≤ sizeLine := fun p hp => Nat.le_trans (dictText_mem_le hp) hz'
    obtain ⟨t1, t2⟩ := RpK.tells I q k (fun t ht => let ⟨p, h1, h2⟩ := PyData.shownKv_key_le _ t ht; Nat.le_trans h2 (hp p h1)) (fun t ht => let ⟨p, h1, h2⟩ := PyData.shownKv_val_le _ t ht; Nat.le_trans h2 (hp p h1)) vs es.toList kv prs
    exact owner_dct hs hgd hx.1 hdt h1 h2 t1 t2 hz
  | _, _, .dT _ _, k, _ => by simp [lkE] at k
  | _, _, .obj _ _ _, k, _ => by simp [lkE] at k
  | _, _, .scr _, k, _ => by simp [lkE] at k
  | _, _, .raw _ _, k, _ => by simp [lkE] at k
  | _, _, .gf _, k, _ => by simp [lkE] at k
  | _, _, .exc _ _ _ _, k, _ => by simp [lkE] at k
theorem Rp.tells (I : Inv X pins σ H s) : ∀ {v : V} {d : D}, Rp W H v d → lkE d = true → (pyE d).shown.length ≤ sizeLine → ∀ u, RelV v u → Tells X s.heap u d
  | _, _, .non, _, _, _, r => by cases r; exact ⟨[], (fun _ q => nomatch q), .of_is ReprIs.none _ _ _⟩
  | _, _, .bl b, _, _, _, r => by cases r; exact ⟨[], (fun _ q => nomatch q), .of_is (ReprIs.bool b) _ _ _⟩
  | _, _, .int i, k, _, _, r => by
    obtain ⟨t, rfl⟩ := r
    rw [lkE, Bool.and_eq_true] at k
    exact ⟨[], (fun _ q => nomatch q), .of_is (ReprIs.int t (of_decide_eq_true k.2)) _ _ _⟩
  | _, _, .str x, _, hz, _, r => by
    obtain ⟨t, rfl⟩ := r
    exact ⟨[], (fun _ q => nomatch q), .of_is (ReprIs.str x t (by simpa only [pyE, PyData.shown] using hz)) _ _ _⟩
  | _, _, .tup h n q, k, hz, _, r => by cases r; exact (Rp.owner I (.tup h n q) k hz).under
  | _, _, .lst h q, k, hz, _, r => by cases r; exact (Rp.owner I (.lst h q) k hz).under
  | _, _, .dK h q, k, hz, _, r => by cases r; exact (Rp.owner I (.dK h q) k hz).under
  | _, _, .dT _ _, k, _, _, _ => by simp [lkE] at k
  | _, _, .obj _ _ _, k, _, _, _ => by simp [lkE] at k
  | _, _, .scr _, k, _, _, _ => by simp [lkE] at k
  | _, _, .raw _ _, k, _, _, _ => by simp [lkE] at k
  | _, _, .gf _, k, _, _, _ => by simp [lkE] at k
  | _, _, .exc _ _ _ _, k, _, _, _ => by simp [lkE] at k
theorem RpL.tells (I : Inv X pins σ H s) : ∀ {vs : List V} {ds : List D}, RpL W H vs ds → lkL ds = true → (∀ t ∈ PyData.shownAll (pyEL ds), t.length ≤ sizeLine) → ∀ us, Vals vs us → TellsL X s.heap us (pyEL ds)
  | _, _, .nil, _, _, _, r => by cases r; exact .nil
  | _, _, .cons q t, k, hz, _, r => by
    cases r with
    | cons r1 r2 =>
      rw [lkL, Bool.and_eq_true] at k
      rw [pyEL, PyData.shownAll] at hz
      obtain ⟨bs, h1, h2⟩ := Rp.tells I q k.1 (hz _ List.mem_cons_self) _ r1
      rw [pyEL]
      exact TellsL.cons' h1 h2 (RpL.tells I t k.2 (fun t ht => hz t (List.mem_cons_of_mem _ ht)) _ r2)
theorem RpK.tells (I : Inv X pins σ H s) : ∀ {ks : List (Key × V)} {ds : List (D × D)}, RpK W H ks ds → lkK ds = true → (∀ t ∈ PyData.shownAll ((pyEK ds).map (·.1)), t.length ≤ sizeLine) → (∀ t ∈ PyData.shownAll ((pyEK ds).map (·.2)), t.length ≤ sizeLine) →
    ∀ (vs : List (Key × Value)) (es : List DictEntry), KV ks vs → Pairs (mixKind X.prog X.w) es vs → TellsL X s.heap (es.map (·.key)) ((pyEK ds).map (·.1)) ∧ TellsL X s.heap (es.map (·.val)) ((pyEK ds).map (·.2))
  | _, _, .nil, _, _, _, _, _, r, p => by
    cases r
    cases p
    exact ⟨.nil, .nil⟩
  | _, _, .cons (kd := kd) (d := d) hk q t, k, z1, z2, _, _, r, p => by
    cases r with
    | cons r1 r2 =>
      cases p with
      | cons p1 p2 p3 =>
        rw [lkK, lkP, Bool.and_eq_true, Bool.and_eq_true, Bool.and_eq_true] at k
        rw [pyEK, pyEP, List.map_cons, PyData.shownAll] at z1 z2
        obtain ⟨e1, r1⟩ := r1
        rw [← e1] at p1
        rw [← p2] at r1
        obtain ⟨bs, h1, h2⟩ := Rp.tells I q k.1.2.2 (z2 _ List.mem_cons_self) _ r1
        obtain ⟨t1, t2⟩ := RpK.tells I t k.2 (fun t ht => z1 t (List.mem_cons_of_mem _ ht)) (fun t ht => z2 t (List.mem_cons_of_mem _ ht)) _ _ r2 p3
        rw [pyEK, pyEP]
        exact ⟨TellsL.cons' (b1 := []) (fun _ q => nomatch q) (keyD_tells hk p1 k.1.2.1 (z1 _ List.mem_cons_self)) t1, TellsL.cons' h1 h2 t2⟩
end
def isRefE : D → Bool
  | .tup _ => true
  | .lst _ => true
  | .dct false _ => true
  | _ => false
def reprOkE (d : D) : Bool := lkE d && (pyE d).showable && decide ((pyE d).depth ≤ 100) && decide ((pyE d).shown.length ≤ sizeLine)
def rReprG (W : Wd) : List V → Hp → VK → Prop := fun xs H Q => ∃ a d, xs = [.ref a] ∧ Rp W H (.ref a) d ∧ reprOkE d = true ∧ Q (.str (pyE d).shown) H
theorem call_reprG {k : Nat} (q : Cq X k) : CallR X (.builtin "repr") (rReprG (wd X)) := by
  intro pins s σ H xs us Q I r h
  obtain ⟨a, d, rfl, hd, ok, q1⟩ := h
  obtain ⟨u, rfl, ru⟩ := vals1 r
  cases ru
  unfold reprOkE at ok
  simp only [Bool.and_eq_true, decide_eq_true_eq] at ok
  obtain ⟨⟨⟨c1, c2⟩, c3⟩, c4⟩ := ok
  obtain ⟨T, idr, sl, ty, cl⟩ := (Rp.owner I hd c1 c4).top
  have hu := q.room.un
  exact call_repr_slot (by omega) (ty s fun _ _ e => e) sl (cl X.A.in1 _ s _ q.gd (by show X.A.units + 1 + (pyE d).depth < cLine; omega) (fun _ _ e => e) fun h' u tk hk => ⟨_, _, rfl, ⟨.str _, H, I.kept hk, ⟨u, rfl⟩, q1⟩⟩)
end
def reprGD (ds : List D) : Option Rv := match reprED ds with
  | some r => some r
  | none => match ds with
    | [d] => if isRefE d = true ∧ reprOkE d = true then some (.imm (.str (pyE d).shown)) else none
    | _ => none
theorem dc_reprG {W : Wd} : DCall W (fun xs H Q => rReprG W xs H Q ∨ (rReprE xs H Q ∨ (rReprS xs H Q ∨ (rRepr1 xs H Q ∨ rRepr W.K xs H Q)))) reprGD := fun vs ds z H Hf Q s a q k => by
  unfold reprGD at q
  split at q
  · rename_i r hr
    cases q
    exact .inr (dc_reprE (W := W) vs ds _ H Hf Q s a hr k)
  · split at q
    · rename_i _ _ d hd
      split at q
      · rename_i hc
        cases q
        obtain ⟨v, rfl, b⟩ := a.one
        have hv : ∃ p, v = .ref p := by
          cases d with
          | tup xs => obtain ⟨p, _, _, e, _⟩ := rp_tup b; exact ⟨p, e⟩
          | lst xs => obtain ⟨p, _, e, _⟩ := b; exact ⟨p, e⟩
          | dct t kvs =>
            cases t with
            | false => obtain ⟨p, _, e, _⟩ := b; exact ⟨p, e⟩
            | true => cases hc.1
          | _ => cases hc.1
        obtain ⟨p, rfl⟩ := hv
        exact .inl ⟨p, d, rfl, b.up s, hc.2, k _ H Hf (.refl s) (.str _)⟩
      · cases q
    · cases q
theorem b_reprG : BltR "repr" reprGD := ⟨fun X k q => .inl ⟨_, _, (call_reprG q).or ((call_reprE q).or (call_reprS.or (call_repr1.or (call_reprD q)))), dc_reprG (W := wd X), by rfl⟩, by decide, by decide⟩
/-! what such data are: small -/
mutual
theorem lk_short : ∀ d : D, lkE d = true → PyData.leavesShort 100 (pyE d) = true
  | .non, _ => by simp [pyE, PyData.leavesShort]
  | .bl _, _ => by simp [pyE, PyData.leavesShort]
  | .int i, h => by
    rw [lkE, Bool.and_eq_true] at h
    simp only [pyE, PyData.leavesShort]
    exact h.1
  | .str x, h => by
    have h : (x.cps.all (· < 0x110000)) = true := by rw [lkE] at h; exact h
    simp only [pyE, PyData.leavesShort]
    rw [← Array.all_toList, List.all_eq_true] at h
    rw [List.all_eq_true]
    intro c hc
    have := h c hc
    simp only [decide_eq_true_eq] at this ⊢
    exact Nat.lt_of_lt_of_le this (by decide)
  | .tup xs, h => by simp only [pyE, PyData.leavesShort]; exact lkL_short xs (by rw [lkE] at h; exact h)
  | .lst xs, h => by simp only [pyE, PyData.leavesShort]; exact lkL_short xs (by rw [lkE] at h; exact h)
  | .dct false kvs, h => by simp only [pyE, PyData.leavesShort]; exact lkK_short kvs (by rw [lkE] at h; exact h)
  | .dct true kvs, h => by simp [lkE] at h
  | .obj _ _, h => by simp [lkE] at h
  | .scr _, h => by simp [lkE] at h
  | .raw .., h => by simp [lkE] at h
  | .gf _, h => by simp [lkE] at h
  | .exc _ _, h => by simp [lkE] at h
theorem lkL_short : ∀ xs : List D, lkL xs = true → PyData.leavesShortAll 100 (pyEL xs) = true
  | [], _ => by simp [pyEL, PyData.leavesShortAll]
  | x :: xs, h => by
    rw [lkL, Bool.and_eq_true] at h
    rw [pyEL, PyData.leavesShortAll, lk_short x h.1, lkL_short xs h.2]
    rfl
theorem lkK_short : ∀ xs : List (D × D), lkK xs = true → PyData.leavesShortKv 100 (pyEK xs) = true
  | [], _ => by simp [pyEK, PyData.leavesShortKv]
  | (k, x) :: xs, h => by
    rw [lkK, lkP, Bool.and_eq_true, Bool.and_eq_true, Bool.and_eq_true] at h
    rw [pyEK, pyEP, PyData.leavesShortKv, lk_short k h.1.2.1, lk_short x h.1.2.2, lkK_short xs h.2]
    rfl
end
mutual
theorem lk_show : ∀ d : D, lkE d = true → PyData.showable (pyE d) = true
  | .non, _ => by simp [pyE, PyData.showable]
  | .bl _, _ => by simp [pyE, PyData.showable]
  | .int i, h => by
    rw [lkE, Bool.and_eq_true] at h
    simp only [pyE, PyData.showable]
    exact h.2
  | .str x, h => by simp [pyE, PyData.showable]
  | .tup xs, h => by simp only [pyE, PyData.showable]; exact lkL_show xs (by rw [lkE] at h; exact h)
  | .lst xs, h => by simp only [pyE, PyData.showable]; exact lkL_show xs (by rw [lkE] at h; exact h)
  | .dct false kvs, h => by simp only [pyE, PyData.showable]; exact lkK_show kvs (by rw [lkE] at h; exact h)
  | .dct true kvs, h => by simp [lkE] at h
  | .obj _ _, h => by simp [lkE] at h
  | .scr _, h => by simp [lkE] at h
  | .raw .., h => by simp [lkE] at h
  | .gf _, h => by simp [lkE] at h
  | .exc _ _, h => by simp [lkE] at h
theorem lkL_show : ∀ xs : List D, lkL xs = true → PyData.showableAll (pyEL xs) = true
  | [], _ => by simp [pyEL, PyData.showableAll]
  | x :: xs, h => by
    rw [lkL, Bool.and_eq_true] at h
    rw [pyEL, PyData.showableAll, lk_show x h.1, lkL_show xs h.2]
    rfl
theorem lkK_show : ∀ xs : List (D × D), lkK xs = true → PyData.showableKv (pyEK xs) = true
  | [], _ => by simp [pyEK, PyData.showableKv]
  | (k, x) :: xs, h => by
    rw [lkK, lkP, Bool.and_eq_true, Bool.and_eq_true, Bool.and_eq_true] at h
    rw [pyEK, pyEP, PyData.showableKv, lk_show k h.1.2.1, lk_show x h.1.2.2, lkK_show xs h.2]
    rfl
end
def depE (d : D) : Nat := (pyE d).depth
def wtE (d : D) : Nat := (pyE d).weight
theorem repr_gen {d : D} (c : lkE d = true) (r : isRefE d = true) (k : depE d ≤ 100) (w : 102 * wtE d + 100 ≤ 16777216) : ∃ s : Str, reprGD [d] = some (.imm (.str s)) := by
  unfold reprGD
  cases e : reprED [d] with
  | some z =>
    unfold reprED at e
    split at e
    · cases e; exact ⟨_, rfl⟩
    · cases d with
      | tup xs =>
        have e : reprD [.tup xs] = some z := e
        have e' : reprD [.tup xs] = if isRef (.tup xs) = true ∧ reprOk (.tup xs) = true then some (Rv.imm (.str (py (.tup xs)).shown)) else none := rfl
        rw [e'] at e
        split at e
        · cases e; exact ⟨_, rfl⟩
        · cases e
      | lst xs =>
        have e : reprD [.lst xs] = some z := e
        have e' : reprD [.lst xs] = if isRef (.lst xs) = true ∧ reprOk (.lst xs) = true then some (Rv.imm (.str (py (.lst xs)).shown)) else none := rfl
        rw [e'] at e
        split at e
        · cases e; exact ⟨_, rfl⟩
        · cases e
      | dct t kvs =>
        have e : reprD [.dct t kvs] = some z := e
        have e' : reprD [.dct t kvs] = if isRef (.dct t kvs) = true ∧ reprOk (.dct t kvs) = true then some (Rv.imm (.str (py (.dct t kvs)).shown)) else none := rfl
        rw [e', if_neg (fun q => by cases q.1)] at e
        cases e
      | _ => cases r
  | none =>
    have o : reprOkE d = true := by
      unfold reprOkE
      have h := PyData.shown_le 100 (by decide) (pyE d) (lk_short d c)
      have w : 102 * (pyE d).weight + 100 ≤ 16777216 := w
      rw [c, lk_show d c, decide_eq_true (show (pyE d).depth ≤ 100 from k), decide_eq_true (by rw [sizeLine_eq]; omega)]
      rfl
    dsimp only
    rw [if_pos ⟨r, o⟩]
    exact ⟨_, rfl⟩
theorem lkL_all : ∀ {l : List D}, (∀ x ∈ l, lkE x = true) → lkL l = true
  | [], _ => by simp [lkL]
  | x :: l, h => by rw [lkL, h x List.mem_cons_self, lkL_all fun y hy => h y (List.mem_cons_of_mem _ hy)]; rfl
theorem wtL_all {B : Nat} : ∀ {l : List D}, (∀ x ∈ l, wtE x ≤ B) → PyData.weightAll (pyEL l) ≤ l.length * (B + 1)
  | [], _ => by simp [pyEL, PyData.weightAll]
  | x :: l, h => by
    have h1 : (pyE x).weight ≤ B := h x List.mem_cons_self
    have h2 := wtL_all (l := l) fun y hy => h y (List.mem_cons_of_mem _ hy)
    rw [pyEL, PyData.weightAll, List.length_cons, Nat.succ_mul]
    omega
theorem depL_all {B : Nat} : ∀ {l : List D}, (∀ x ∈ l, depE x ≤ B) → PyData.depthAll (pyEL l) ≤ B
  | [], _ => by simp [pyEL, PyData.depthAll]
  | x :: l, h => by
    have h1 : (pyE x).depth ≤ B := h x List.mem_cons_self
    have h2 := depL_all (l := l) fun y hy => h y (List.mem_cons_of_mem _ hy)
    rw [pyEL, PyData.depthAll]
    omega
/-- data are nice: they have a text; how deep, how many signs -/
structure Nc (d : D) (k w : Nat) : Prop where
  lk : lkE d = true
  dep : depE d ≤ k
  wt : wtE d ≤ w
theorem Nc.tup {xs : List D} {k w n : Nat} (h : ∀ x ∈ xs, Nc x k w) (hn : xs.length ≤ n) : Nc (.tup xs) (k + 1) (n * (w + 1)) :=
  ⟨by rw [lkE]; exact lkL_all fun x hx => (h x hx).lk, by unfold depE; rw [pyE, PyData.depth]; have := depL_all fun x hx => (h x hx).dep; omega,
    by unfold wtE; rw [pyE, PyData.weight]; exact Nat.le_trans (wtL_all fun x hx => (h x hx).wt) (Nat.mul_le_mul_right _ hn)⟩
theorem Nc.lst {xs : List D} {k w n : Nat} (h : ∀ x ∈ xs, Nc x k w) (hn : xs.length ≤ n) : Nc (.lst xs) (k + 1) (n * (w + 1)) :=
  ⟨by rw [lkE]; exact lkL_all fun x hx => (h x hx).lk, by unfold depE; rw [pyE, PyData.depth]; have := depL_all fun x hx => (h x hx).dep; omega,
    by unfold wtE; rw [pyE, PyData.weight]; exact Nat.le_trans (wtL_all fun x hx => (h x hx).wt) (Nat.mul_le_mul_right _ hn)⟩
theorem Nc.up {d : D} {k w k' w' : Nat} (h : Nc d k w) (hk : k ≤ k') (hw : w ≤ w') : Nc d k' w' := ⟨h.lk, Nat.le_trans h.dep hk, Nat.le_trans h.wt hw⟩
theorem Nc.repr {d : D} {k w : Nat} (h : Nc d k w) (r : isRefE d = true) (hk : k ≤ 100) (hw : w ≤ 160000) : ∃ s : Str, reprGD [d] = some (.imm (.str s)) :=
  repr_gen h.lk r (Nat.le_trans h.dep hk) (by have := h.wt; omega)
end Ev
/-! text Ex48 -/
set_option Elab.async false
set_option linter.all false
set_option maxRecDepth 100000
set_option maxHeartbeats 4000000
/-! != of lists that are unlike in length -/
namespace Ev
open PySem PySem.Spec PyProof.Rows L2
end Ev
/-! text Ex73 -/
set_option Elab.async false
set_option linter.all false
set_option maxRecDepth 100000
set_option maxHeartbeats 4000000
namespace Ev
open PySem PySem.Spec PyProof.Rows L2
/-! ### NAME.get(k, x), NAME a dict of the module: texts to whole numbers -/
section
variable {Θ : Th} {N : List Str} {sc s0 : Scope} {k : Nat} {X : Cx} {a b : Expr} {FA FB : Fd}
end
end Ev
/-! text Ex74 -/
set_option Elab.async false
set_option linter.all false
set_option maxRecDepth 100000
set_option maxHeartbeats 4000000
namespace Ev
open PySem L2
/-! ### {k: v for k, v in thing.items()}, thing a dict of one text to a plain thing, or empty -/
def sca1 : D → Bool
  | .non => true
  | .bl _ => true
  | .int _ => true
  | .str _ => true
  | _ => false
def sca : D → Bool
  | .non => true
  | .bl _ => true
  | .int _ => true
  | .str _ => true
  | .lst xs => xs.all sca1
  | _ => false
theorem sca1_rp {W : Wd} {H Hf : Hp} {v : V} {d : D} (h : sca1 d = true) (r : Rp W H v d) : Rp W Hf v d := by
  cases d <;> first | cases h | skip
  · cases r; exact .non
  · cases r; exact .bl _
  · cases r; exact .int _
  · cases r; exact .str _
theorem sca1_rpl {W : Wd} {H Hf : Hp} : ∀ {vs : List V} {ds : List D}, ds.all sca1 = true → RpL W H vs ds → RpL W Hf vs ds
  | _, _, _, .nil => .nil
  | _, _, h, .cons r t => by
    rw [List.all_cons, Bool.and_eq_true] at h
    exact .cons (sca1_rp h.1 r) (sca1_rpl h.2 t)
theorem sca_rp {W : Wd} {H Hf : Hp} {v : V} {d : D} (h : sca d = true) (r : Rp W H v d) (f : ∀ a xs, H a = some (.lst xs) → Hf a = some (.lst xs)) : Rp W Hf v d := by
  cases d with
  | non => cases r; exact .non
  | bl b => cases r; exact .bl _
  | int i => cases r; exact .int _
  | str s => cases r; exact .str _
  | lst xs =>
    cases r with
    | lst h1 r => exact .lst (f _ _ h1) (sca1_rpl h r)
  | _ => cases h
def dcV (n jk jv : Nat) (x : Str) (d : D) : Env := ((List.replicate n Sl.un).set jk (.imm (.str x))).set jv (.imm d)
def dcI (i jk jv : Nat) (FV : Fd) : Fe := fun ρ => match ρ[i]? with
  | some (.imm (.dct false [])) => some (.own (.dct false []), ρ)
  | some (.imm (.dct false [(.str x, d)])) => if sca d = true ∧ jk < ρ.length ∧ jv < ρ.length then (match FV (dcV ρ.length jk jv x d) with
    | some (y, _) => if sca y = true then some (.own (.dct false [(.str x, y)]), ρ) else none
    | none => none) else none
  | _ => none
section
variable {Θ : Th} {N : List Str} {sc s0 scope : Scope} {k : Nat} {X : Cx} {kx vx e : Expr} {ifs elts : List Expr} {kk : Nat} {pos apos cpos tpos : Pos} {T : Ft} {FK FV : Fd} {own : List (Str × Nat)}
theorem s_nmK (I : In Θ N sc s0 k X) {p : Pos} {i : Nat} {x : Str} (h : stB N s0 i x = true) : PG X (.Name x p) (gName i) := by
  obtain ⟨h1, h2, h3⟩ := I.st2 h
  exact pg_name I.q.nd h1 h2 h3
theorem s_tup2K (I : In Θ N sc s0 k X) {p p1 p2 : Pos} {i j : Nat} {x y : Str} {kt : Nat} (h : stB N s0 i x = true) (h2 : stB N s0 j y = true) : PG X (.Tuple [.Name x p1, .Name y p2] kt p) (gTup X.K 2 (gCons (gName i) (gCons (gName j) gNil))) :=
  pg_tup I.q.calm (pgs_cons (s_nmK I h) (pgs_cons (s_nmK I h2) pgs_nil (noStarT_cons rfl)) (noStarT_cons rfl)) assignEach_len (assignEach_plain rfl)
theorem wipe_set {σ : St} {vs : List Nat} {j : Nat} {v : Option V} (h : j ∈ vs) : wipe (σ.set j v) vs = wipe σ vs :=
  wipe_eq (ws := [j]) (List.length_set ..) (fun i hi => by
    rw [List.getElem?_set_ne]
    intro z
    exact hi (by rw [z]; exact List.mem_singleton.mpr rfl)) (fun i hi => by rw [List.mem_singleton.mp hi]; exact h)
theorem sok_un {W : Wd} {loc : Loc} {σ : St} {H Hf : Hp} (t : TabsOk W H Hf) (s : ∀ a o, Hf a = some o → H a = some o) : SOk W (List.replicate σ.length Sl.un) loc σ H Hf where
  tab := t
  sub := s
  len := by rw [List.length_replicate]
  imm := fun i d h => by rw [List.getElem?_replicate] at h; split at h <;> cases h
  own := fun i t c h h2 => by
    rw [List.getElem?_replicate] at h
    split at h
    · cases h; cases h2
    · cases h
  inj := fun i j t u c d h h2 h3 _ _ => by
    rw [List.getElem?_replicate] at h
    split at h
    · cases h; cases h3
    · cases h
theorem s_dcI (I : In Θ N sc s0 k X) {i jk jv : Nat} (hv : PE X e (tVar i)) (ok : blkC N sc scope own = true) (hjk : jk ∈ own.map (·.2)) (hjv : jv ∈ own.map (·.2)) (hne : (jk == jv) = false)
    (hb : ∀ Y, In Θ N (relS scope sc) scope k Y → PG Y (.Tuple elts kk tpos) (gTup Y.K 2 (gCons (gName jk) (gCons (gName jv) gNil))) ∧ PTs Y ifs (tT (Ev.wd Y) yesT) ∧ PD Y kx (varD jk) ∧ PD Y vx FV)
    (hs : ∀ x, foldedSetIterable (.Call (.Attribute e "items" apos) [] [] cpos) X.env x = pure x) (hbase : attributeBase e "items" X.env (eval e X.env) = eval e X.env) (hline : (apos.endLine == cpos.line) = true) :
    PX X (.DictComp kx vx [⟨.Tuple elts kk tpos, .Call (.Attribute e "items" apos) [] [] cpos, ifs, 0⟩] scope pos) (dcI i jk jv FV) :=
  pe_imp (pe_lock (pe_dc (g := gTup X.K 2 (gCons (gName jk) (gCons (gName jv) gNil))) (tt := tT (wd X) yesT) (tk := tD (wd X) (varD jk)) (tv := tD (wd X) FV) I.q.calm I.q.nd (pi_items hv hbase hline) (blkOk_by (by rw [I.N, I.sc]; exact ok)) (fun s H C cl fp => (hb _ (I.blk scope s H C cl fp)).1) (fun s H C cl fp => (hb _ (I.blk scope s H C cl fp)).2.1) (fun s H C cl fp => (hb _ (I.blk scope s H C cl fp)).2.2.1) (fun s H C cl fp => (hb _ (I.blk scope s H C cl fp)).2.2.2) hs)) fun σ H Q ⟨ρ, loc, Hf, rv, ρ', s, hF, kq⟩ => by
    unfold dcI at hF
    split at hF
    · rename_i hi
      cases hF
      obtain ⟨v, hv, r⟩ := s.imm i _ hi
      cases r with
      | dK hd rk =>
        rename_i d ks
        cases rk
        have hH := s.sub _ _ hd
        refine ⟨d, .dK [], hH, trivial, fun od => ?_⟩
        refine ⟨.ref d, hv, d, od, [], rfl, upd_same, fun L hL => ⟨fun j m H' => j = 0 ∧ m = 0 ∧ H' = upd (upd H d (.frz od (.dK []))) L (.dK []), ⟨0, rfl, rfl, rfl⟩, ?_⟩⟩
        rintro j m H' ⟨rfl, rfl, rfl⟩
        have nd : d ≠ L := fun z => by rw [← z, upd_same] at hL; cases hL
        have hL0 : H L = none := by rw [upd_ne (Ne.symm nd)] at hL; exact hL
        have hd1 : upd (upd H d (.frz od (.dK []))) L (.dK []) d = some (.frz od (.dK [])) := by rw [upd_ne nd, upd_same]
        have eH : upd (upd (upd H d (.frz od (.dK []))) L (.dK [])) d (.dK []) = upd H L (.dK []) := by
          funext b
          by_cases h1 : b = d
          · subst h1; rw [upd_same, upd_ne nd, hH]
          · rw [upd_ne h1]
            by_cases h2 : b = L
            · subst h2; rw [upd_same, upd_same]
            · rw [upd_ne h2, upd_ne h1, upd_ne h2]
        refine .inl ⟨⟨hd1, Nat.zero_le _⟩, hd1, ?_⟩
        rw [eH]
        have hLf : Hf L = none := free_of s.sub hL0
        exact kq _ _ Hf (Ge.refl.other hL0) (s.other hLf (s.newNot hL0) (ntb_none hL0)) ⟨L, rfl, hL0, hLf, [], upd_same, .nil⟩
    · rename_i x d0 hi
      split at hF
      · rename_i sd'
        obtain ⟨sd, lj, lj2⟩ := sd'
        split at hF
        · rename_i y ρy hFV
          split at hF
          · rename_i sy
            cases hF
            obtain ⟨v, hv, r⟩ := s.imm i _ hi
            cases r with
            | dK hd rk =>
              rename_i d ks
              obtain ⟨k0, v0, rfl, hk0, rv0⟩ : ∃ k0 v0, ks = [(k0, v0)] ∧ keyD (.str x) = some k0 ∧ Rp (wd X) Hf v0 d0 := by
                cases rk with
                | cons hk rv rr => cases rr; exact ⟨_, _, rfl, hk, rv⟩
              have kx0 : kV k0 = V.str x := by
                cases hk0
                rfl
              have hH := s.sub _ _ hd
              refine ⟨d, .dK [(k0, v0)], hH, trivial, fun od => ?_⟩
              refine ⟨.ref d, hv, d, od, [(k0, v0)], rfl, upd_same, fun L hL => ?_⟩
              have nd : d ≠ L := fun z => by rw [← z, upd_same] at hL; cases hL
              have hL0 : H L = none := by rw [upd_ne (Ne.symm nd)] at hL; exact hL
              have hLf : Hf L = none := free_of s.sub hL0
              -- what holds at the end
              have fin : ∀ (H' Hf1 : Hp) (z : V), Rp (wd X) Hf1 z y → H' L = some (.dK [(k0, z)]) → H' d = some (.frz od (.dK [(k0, v0)])) → TabsOk (wd X) H' Hf1 → (∀ a o, Hf1 a = some o → H' a = some o) → Hf1 L = none → Hf1 d = none →
                  (∀ a, H' a = none → H a = none) → (∀ a o, H a = some o → NT o → a ≠ d → H' a = some o) → (∀ a o, H a = some o → a ≠ d → Hf1 a = Hf a) → Q (.ref L) (upd H' d (.dK [(k0, v0)])) := fun H' Hf1 z rz hl hdd tb sb f1 f2 th kp fz => by
                have live : ∀ a, upd H' d (.dK [(k0, v0)]) a = none → H a = none := fun a ha => by
                  by_cases e : a = d
                  · subst e; rw [upd_same] at ha; cases ha
                  · rw [upd_ne e] at ha; exact th a ha
                have E : ExtT H Hf (upd H' d (.dK [(k0, v0)])) (upd Hf1 d (.dK [(k0, v0)])) := ⟨fun a o ha => by
                    by_cases e : a = d
                    · subst e; rw [upd_same] at ha ⊢; exact ha
                    · rw [upd_ne e] at ha ⊢; exact sb a o ha, live, fun a o ha nt => by
                    by_cases e : a = d
                    · subst e; rw [upd_same]; rw [hH] at ha; exact ha
                    · rw [upd_ne e]; exact kp a o ha nt e, fun a o ha => by
                    by_cases e : a = d
                    · subst e; rw [upd_same]; exact hd.symm
                    · rw [upd_ne e]; exact fz a o ha e⟩
                have up : ∀ b o, Hf1 b = some o → upd Hf1 d (.dK [(k0, v0)]) b = some o := fun b o hb => by rw [upd_ne (ne_of_none hb f2)]; exact hb
                have T2 : TabsOk (wd X) (upd H' d (.dK [(k0, v0)])) (upd Hf1 d (.dK [(k0, v0)])) := by
                  refine tb.same (fun b ps hb => ?_) up fun b ps hb hn => ?_
                  · rw [upd_ne (fun e => by rw [e, hdd] at hb; cases hb)]; exact hb
                  · rw [upd_ne (fun e => by rw [e, hdd] at hb; cases hb)]; exact hn
                refine kq _ _ (upd Hf1 d (.dK [(k0, v0)])) E.ge (s.extT E T2) ⟨L, rfl, hL0, by rw [upd_ne (Ne.symm nd)]; exact f1, [(k0, z)], by rw [upd_ne (Ne.symm nd)]; exact hl, .cons hk0 (rz.mono up) .nil⟩
              refine ⟨fun j m H' => (j = 0 ∧ m = 1 ∧ H' = upd (upd H d (.frz od (.dK [(k0, v0)]))) L (.dK [])) ∨ (j = 1 ∧ m = 0 ∧ H' d = some (.frz od (.dK [(k0, v0)])) ∧ Q (.ref L) (upd H' d (.dK [(k0, v0)]))), ⟨1, .inl ⟨rfl, rfl, rfl⟩⟩, ?_⟩
              rintro j m H' (⟨rfl, rfl, rfl⟩ | ⟨rfl, rfl, hd1, hQ⟩)
              · refine .inr ⟨⟨by rw [upd_ne nd, upd_same], Nat.zero_lt_one⟩, fun H' => H' d = some (.frz od (.dK [(k0, v0)])) ∧ Q (.ref L) (upd H' d (.dK [(k0, v0)])), fun H' h => ⟨0, by decide, .inr ⟨rfl, rfl, h⟩⟩, ?_⟩
                rintro x1 H' ⟨Tt, k1, v1, e1, rfl, hT, rfl⟩
                cases e1
                have nLT : L ≠ Tt := fun e => by rw [← e, upd_same] at hT; cases hT
                have ndT : d ≠ Tt := fun e => by rw [← e, upd_ne nd, upd_same] at hT; cases hT
                have hT0 : H Tt = none := by
                  rw [upd_ne (Ne.symm nLT), upd_ne (Ne.symm ndT)] at hT
                  exact hT
                obtain ⟨H', eH'⟩ : ∃ H', H' = upd (upd (upd H d (.frz od (.dK [(k0, v0)]))) L (.dK [])) Tt (.tup [kV k0, v0]) := ⟨_, rfl⟩
                have hL' : H' L = some (.dK []) := by rw [eH', upd_ne nLT, upd_same]
                have hd' : H' d = some (.frz od (.dK [(k0, v0)])) := by rw [eH', upd_ne ndT, upd_ne nd, upd_same]
                have oth : ∀ a o, H a = some o → a ≠ d → H' a = some o := fun a o ha e => by
                  rw [eH', upd_ne (ne_of_none ha hT0), upd_ne (ne_of_none ha hL0), upd_ne e]; exact ha
                have the : ∀ a, H' a = none → H a = none := fun a ha => by
                  have n1 : a ≠ Tt := fun e => by rw [eH', e, upd_same] at ha; cases ha
                  have n2 : a ≠ L := fun e => by rw [e, hL'] at ha; cases ha
                  have n3 : a ≠ d := fun e => by rw [e, hd'] at ha; cases ha
                  rw [eH', upd_ne n1, upd_ne n2, upd_ne n3] at ha; exact ha
                rw [← eH']
                obtain ⟨Hf0, eHf⟩ : ∃ Hf0 : Hp, Hf0 = fun a => if a = d then none else Hf a := ⟨_, rfl⟩
                have f0 : ∀ a, a ≠ d → Hf0 a = Hf a := fun a e => by rw [eHf]; exact if_neg e
                have f0d : Hf0 d = none := by rw [eHf]; exact if_pos rfl
                have sub0 : ∀ a o, Hf0 a = some o → H' a = some o := fun a o ha => by
                  by_cases e : a = d
                  · rw [e, f0d] at ha; cases ha
                  · rw [f0 a e] at ha; exact oth a o (s.sub a o ha) e
                have tab0 : TabsOk (wd X) H' Hf0 := fun p hp => by
                  obtain ⟨h0, ps, h1, h2, h3⟩ := s.tab p hp
                  have npd : p.1 ≠ d := fun e => by rw [e, hH] at h1; cases h1
                  refine ⟨by rw [f0 _ npd]; exact h0, ps, oth _ _ h1 npd, h2, fun pos cv hc => ?_⟩
                  obtain ⟨c, e1, e2⟩ := h3 pos cv hc
                  exact ⟨c, e1, by rw [f0 c (fun e => by rw [e, hd] at e2; cases e2)]; exact e2⟩
                have nvs : ∀ σ1 : St, σ1 = ((wipe σ (own.map (·.2))).set jk (some (kV k0))).set jv (some v0) → SOk (wd X) (dcV ρ.length jk jv x d0) loc σ1 H' Hf0 := fun σ1 e => by
                  have u := sok_un (W := wd X) (loc := loc) (σ := wipe σ (own.map (·.2))) tab0 sub0
                  rw [wipe_length, s.len] at u
                  rw [e]
                  exact SOk.putImm (SOk.putImm u (v := kV k0) (by rw [kx0]; exact .str x) (by rw [List.length_replicate]; exact lj)) (sca_rp sd rv0 fun a xs q => by rw [f0 a (fun e => by rw [e, hd] at q; cases q)]; exact q) (by rw [List.length_set, List.length_replicate]; exact lj2)
                have vd : varD jk (dcV ρ.length jk jv x d0) = some (.str x, dcV ρ.length jk jv x d0) := by
                  have : (dcV ρ.length jk jv x d0)[jk]? = some (.imm (.str x)) := by
                    unfold dcV
                    rw [List.getElem?_set_ne (fun e => by rw [e, beq_self_eq_true] at hne; cases hne), List.getElem?_set_self (by rw [List.length_replicate]; exact lj)]
                  unfold varD
                  rw [this]
                have nOwn : ∀ a, ¬ IsOwn (dcV ρ.length jk jv x d0) loc a := fun a ⟨i1, t1, c1, h1, h2, _⟩ => by
                  unfold dcV at h1
                  rw [List.getElem?_set] at h1
                  split at h1
                  · split at h1
                    · cases h1; cases h2
                    · cases h1
                  · rw [List.getElem?_set] at h1
                    split at h1
                    · split at h1
                      · cases h1; cases h2
                      · cases h1
                    · rw [List.getElem?_replicate] at h1
                      split at h1
                      · cases h1; cases h2
                      · cases h1
                refine ⟨Tt, [kV k0, v0], rfl, .inl (.inl (by rw [eH']; exact upd_same)), rfl, _, _, rfl, _, _, rfl, rfl, ?_⟩
                refine ⟨(wipe_set hjv).trans ((wipe_set hjk).trans (wipe_wipe _ _)), ?_⟩
                refine ⟨dcV ρ.length jk jv x d0, loc, Hf0, true, dcV ρ.length jk jv x d0, nvs _ rfl, rfl, fun H3 Hf3 g3 s3 => ?_⟩
                show if true = true then _ else _
                rw [if_pos rfl]
                refine ⟨_, loc, Hf3, _, _, s3, vd, fun y1 H4 Hf4 g4 s4 r4 => ?_⟩
                refine ⟨_, loc, Hf4, _, _, s4, hFV, fun z H5 Hf5 g5 s5 r5 => ?_⟩
                have g := g3.trans (g4.trans g5)
                have h5L := g.keep L _ hL' (nOwn L) nt_dK
                have h5d := g.keep d _ hd' (nOwn d) nt_frz
                have f5L : Hf5 L = none := by rw [g.frz L _ hL' (nOwn L), f0 L (Ne.symm nd)]; exact hLf
                have f5d : Hf5 d = none := by rw [g.frz d _ hd' (nOwn d)]; exact f0d
                refine ⟨[], k0, ?_, h5L, by decide, by rw [upd_ne nd]; exact h5d, fin _ Hf5 z r5 upd_same (by rw [upd_ne nd]; exact h5d) (s5.tab.upd (ntb_some h5L nt_dK)) (fun a o ha => ?_) f5L f5d (fun a ha => ?_) (fun a o ha nt e => ?_) (fun a o ha e => ?_)⟩
                · rw [kx0]
                  cases r4
                  rfl
                · rw [upd_ne (ne_of_none ha f5L)]; exact s5.sub a o ha
                · by_cases e : a = L
                  · rw [e, upd_same] at ha; cases ha
                  · rw [upd_ne e] at ha; exact the a (g.there a ha)
                · rw [upd_ne (ne_of_none ha hL0)]; exact g.keep a o (oth a o ha e) (nOwn a) nt
                · rw [g.frz a o (oth a o ha e) (nOwn a), f0 a e]
              · exact .inl ⟨⟨hd1, Nat.le_refl _⟩, hd1, hQ⟩
          · cases hF
        · cases hF
      · cases hF
    · cases hF
end
@[simp ↓] theorem ap_dcI {i jk jv : Nat} {FV : Fd} {ρ : Env} {Φ : _ → Prop} : Ok (dcI i jk jv FV ρ) Φ ↔ Ok (match ρ[i]? with
  | some (.imm (.dct false [])) => some (Rv.own (.dct false []), ρ)
  | some (.imm (.dct false [(.str x, d)])) => if sca d = true ∧ jk < ρ.length ∧ jv < ρ.length then (match FV (dcV ρ.length jk jv x d) with
    | some (y, _) => if sca y = true then some (.own (.dct false [(.str x, y)]), ρ) else none
    | none => none) else none
  | _ => none) Φ := Iff.rfl
end Ev
/-! text Ex75 -/
set_option Elab.async false
set_option linter.all false
set_option maxRecDepth 100000
set_option maxHeartbeats 4000000
namespace Ev
open PySem PySem.Spec PyProof.Rows L2
/-! ### True among numbers: b + i, b - i, i - b, b == i, str(b) -/
section
variable {X : Cx}
end
section
variable {X : Cx} {a b : Expr} {FA FB : Fr} {pos : Pos}
end
end Ev
/-! text Ex76 -/
set_option Elab.async false
set_option linter.all false
set_option maxRecDepth 100000
set_option maxHeartbeats 4000000
namespace Ev
open PySem PySem.Spec PyProof.Rows L2
/-! ### what is walked raises nothing -/
theorem PI.nox {X : Cx} {tg e : Expr} {wi : TI} (h : PI X.nox tg e wi) : PI X tg e wi := ⟨fun pins s σ H R I w => wpAny_mono (h.run pins s σ H R (I.wish _) w) (fun v s1 z => wpAny_mono z (fun itv s2 q => by
  obtain ⟨it, fp, tn, J, H', e1, I2, tr, t0, fo, r⟩ := q
  exact ⟨it, fp, tn, J, H', e1, I2.unwish, tr, t0, fo, r⟩) fun _ _ z => z.elim) fun _ _ z => z.elim⟩
theorem PIt.nox {X : Cx} {tg e : Expr} {FI : Fi} (h : PIt X.nox tg e FI) : PIt X tg e FI := PI.nox h
end Ev
/-! text Ex84 -/
set_option Elab.async false
set_option linter.all false
set_option maxRecDepth 100000
set_option maxHeartbeats 4000000
namespace Ev
open PySem PySem.Spec PyProof.Rows L2

/-! ### errors made as values, by position and by name -/
structure InitV (P : Program) (w : World) (K : PySem.W.Frag) (mg : Str → Option Value) (base : Heap) (k : Nat) (f C : Addr) (n : Nat) (ks : List Str) (F : InitF) : Prop where
  run : ∀ (A : Around) (outer : List PySem.Env) (s : Shared) (H Hf : Hp) (a : Addr) (us ws : List Value) (vs zs : List V) (ds : List D) (fs : List (Str × D)), Room k A → A.guards = some [] → Env0 P w K mg base A outer s H → us.length = n → ws.length = ks.length → Vals vs us → Vals zs ws →
    H a = some (exo a C none) → Hf a = none → Sub Hf H → TabsOk ⟨K, mg, P, w⟩ H Hf → RpL ⟨K, mg, P, w⟩ Hf (vs ++ zs) ds → F ds = some fs →
    codeAny (model P w) A (.call (.ref f) ⟨.ref a :: us, ks.zip ws⟩) (CR CX0 outer P w H s (fun v H' => v = .non ∧ ∃ H1 Hf1, ExtT H Hf H1 Hf1 ∧ TabsOk ⟨K, mg, P, w⟩ H1 Hf1 ∧ (fs = [] ∧ H' = H1 ∨ ∃ d vfs, H1 d = none ∧ d ≠ a ∧ RpF ⟨K, mg, P, w⟩ Hf1 vfs fs ∧ H' = laidX H1 a C d vfs)) E0) s
section
variable {Θ : Th} {f C : Addr} {qual : Str} {st : Stmt} {x self par fld txt : Str} {B newId initId : String} {bmB : List Value} {k j n : Nat} {ks : List Str} {Fc : Fn}
theorem initV_ok1 {p1 p2 p3 p4 p5 p6 p7 p8 p9 p10 p11 p12 : Pos} {jt : Nat} (XB : XBase x B newId initId bmB) (T : XCls Θ.K C bmB newId) (d : DefAt Θ.K f qual st [self, par] [self, par] (n + 1) ks id) (hnk : n + ks.length = 1)
    (hst : defBody st = [.Expr (.Call (.Attribute (.Name x p1) "__init__" p2) [.Name self p3, .Constant (.str txt) jt p4] [] p5) p6, .Assign [.Attribute (.Name self p7) fld p8] (.Call (.Name "copied" p9) [.Name par p10] [] p11) p12])
    (v0 : visB [self, par] (defScope st) 0 self = true) (v1 : visB [self, par] (defScope st) 1 par = true) (gx : glB (defScope st) x = true) (gc : glB (defScope st) "copied" = true) (mx : Θ.mg x = none)
    (vV : PySem.W.findCls Θ.K (.type B) (.type "type") "__init__" = some (.val (.builtin initId))) (hl : (p2.endLine == p5.line) = true) (hno : PySem.W.takerIn Θ.K C fld = some none)
    (hc : FnAt Θ "copied" 1 [] j Fc) (hj : j ≤ k) (hsw : ∀ env, swapsWith (.Call (.Attribute (.Name x p1) "__init__" p2) [.Name self p3, .Constant (.str txt) jt p4] [] p5) none p6.line env = pure false)
    (hsw2 : ∀ env, swapsWith (.Call (.Name "copied" p9) [.Name par p10] [] p11) (some (.Attribute (.Name self p7) fld p8)) p12.line env = pure false) :
    InitV Θ.P Θ.w Θ.K Θ.mg Θ.base (k + 1) f C n ks (initF fld Fc) := by
  obtain ⟨nm, oc, od, dV, kV, doc, pm, an, cdv, ct, osl, lk, hcd, hbind⟩ := d.fd
  refine ⟨fun A outer s H Hf a us ws vs zs ds fs hr hgd e0 l1 l2 r1 r2 ea fa sb htb rp hF => ?_⟩
  have KX : Θ.K.In s.heap := e0.mod.kin.keeps fun b o q => (e0.bs b o q).1
  obtain ⟨bs, hbs, hbl, hrel⟩ := hbind s (.ref a :: us) ws KX (by rw [List.length_cons, l1]) l2
  have rb := hrel (.ref a :: vs) zs (.cons rfl r1) r2
  obtain ⟨v, d0, e1, rfl, rv⟩ : ∃ v d0, vs ++ zs = [v] ∧ ds = [d0] ∧ Rp Θ.W Hf v d0 := by
    have lv : (vs ++ zs).length = 1 := by rw [List.length_append, r1.length, r2.length, l1, l2, hnk]
    generalize vs ++ zs = L at rp lv
    cases rp with
    | nil => cases lv
    | cons r t =>
      cases t with
      | nil => exact ⟨_, _, rfl, rfl, r⟩
      | cons _ _ => simp at lv
  rw [List.cons_append, e1] at rb
  unfold initF at hF
  dsimp only at hF
  split at hF
  · rename_i r hFc
    cases hF
    refine LamX.run_ofS (CX := CX0) (E := E0) (vs := [V.ref a, v]) lk hcd d.sc hr e0 hbs rb rfl fun hr' => ?_
    have I : In Θ [self, par] (defScope st) (defScope st) k (cxOf CX0 Θ.P Θ.w Θ.K Θ.mg Θ.base [self, par] qual (defScope st) f cdv A outer s H E0).nox :=
      .body rfl rfl rfl rfl rfl rfl rfl ⟨rfl, hgd, hr', d.sc.nd, rfl⟩ (fun _ => rfl)
    have s1 := ps_expr (pe_binit (e := .Name self p3) (es := [.Constant (.str txt) jt p4]) (p1 := p1) (p2 := p2) (pos := p5) XB (I.gl gx) mx vV (pa_cons (I.pv v0) (pa_cons pe_str pa_nil rfl) rfl) rfl hl (by show 2 < 29; decide)) (pos := p6) (hsw _)
    have s2 := ps_ox (pos := p12) (p' := p8) (f := fld) XB (I.pv (pos := p7) v0) (pd_fix (s_call (p := p9) (pos := p11) I hc hj gc (pas_cons (pr_val (s_d I (pos := p10) v1)) pas_nil rfl) rfl (by decide))) (hsw2 _)
    rw [hst]
    refine ⟨_, (pss_cons s1 (pss_cons s2 pss_nil)).nox, ?_⟩
    refine ⟨.ref a, rfl, a, C, [.str txt], rfl, (by show 1 ≤ 1000; decide), T, ea, ?_⟩
    have s0 : SOk Θ.W [.un, .imm d0] (fun _ => 0) (start [self, par] [V.ref a, v]) H Hf := by
      refine ⟨htb, sb, rfl, fun i dd q => ?_, fun i t c q1 q2 => ?_, fun i jj t t2 c c2 q1 q2 q3 q4 => ?_⟩
      · match i, q with
        | 0, q => cases q
        | 1, q => cases q; exact ⟨v, rfl, rv⟩
        | i + 2, q => simp at q
      · match i, q1 with
        | 0, q1 => cases q1; cases q2
        | 1, q1 => cases q1; cases q2
        | i + 2, q1 => simp at q1
      · match i, q1 with
        | 0, q1 => cases q1; cases q3
        | 1, q1 => cases q1; cases q3
        | i + 2, q1 => simp at q1
    refine ⟨[.un, .imm d0], fun _ => 0, Hf, r.toD, [.un, .imm d0], s0, ?_, fun y H1 Hf1 g1 s1' ry => ?_⟩
    · show fixF (userF 1 Fc (consA (valF (varD 1)) nilA)) [.un, .imm d0] = _
      simp [fixF, userF, consA, valF, varD, nilA, applyU, refsOf, nodupB, arsOf, hFc, setCs]
    · have nO : ∀ b, ¬ IsOwn [Sl.un, Sl.imm d0] (fun _ => 0) b := fun b ⟨i, t, c, q1, q2, _⟩ => by
        match i, q1 with
        | 0, q1 => cases q1; cases q2
        | 1, q1 => cases q1; cases q2
        | i + 2, q1 => simp at q1
      have EX : ExtT H Hf H1 Hf1 := ⟨s1'.sub, g1.there, fun b o q => g1.keep b o q (nO b), fun b o q => g1.frz b o q (nO b)⟩
      refine ⟨.ref a, rfl, a, C, rfl, T, hno, EX.keep _ _ ea nt_ext, fun dx n ne => ?_⟩
      exact ⟨rfl, H1, Hf1, EX, s1'.tab, .inr ⟨dx, [(fld, y)], n, ne, .cons ry .nil, rfl⟩⟩
  · cases hF
def initF0 : InitF
  | [] => some []
  | _ => none
theorem initV_ok0 {p1 p2 p3 p4 p5 p6 : Pos} {jt : Nat} (XB : XBase x B newId initId bmB) (T : XCls Θ.K C bmB newId) (d : DefAt Θ.K f qual st [self] [self] 1 [] id)
    (hst : defBody st = [.Expr (.Call (.Attribute (.Name x p1) "__init__" p2) [.Name self p3, .Constant (.str txt) jt p4] [] p5) p6])
    (v0 : visB [self] (defScope st) 0 self = true) (gx : glB (defScope st) x = true) (mx : Θ.mg x = none)
    (vV : PySem.W.findCls Θ.K (.type B) (.type "type") "__init__" = some (.val (.builtin initId))) (hl : (p2.endLine == p5.line) = true)
    (hsw : ∀ env, swapsWith (.Call (.Attribute (.Name x p1) "__init__" p2) [.Name self p3, .Constant (.str txt) jt p4] [] p5) none p6.line env = pure false) :
    InitV Θ.P Θ.w Θ.K Θ.mg Θ.base (k + 1) f C 0 [] initF0 := by
  obtain ⟨nm, oc, od, dV, kV, doc, pm, an, cdv, ct, osl, lk, hcd, hbind⟩ := d.fd
  refine ⟨fun A outer s H Hf a us ws vs zs ds fs hr hgd e0 l1 l2 r1 r2 ea fa sb htb rp hF => ?_⟩
  have KX : Θ.K.In s.heap := e0.mod.kin.keeps fun b o q => (e0.bs b o q).1
  have eu : us = [] := List.length_eq_zero_iff.mp l1
  have ew : ws = [] := List.length_eq_zero_iff.mp l2
  subst eu; subst ew
  obtain ⟨bs, hbs, hbl, hrel⟩ := hbind s [.ref a] [] KX rfl rfl
  have rb := hrel [.ref a] [] (.cons rfl .nil) .nil
  cases r1
  cases r2
  cases rp
  cases hF
  refine LamX.run_ofS (CX := CX0) (E := E0) (vs := [V.ref a]) lk hcd d.sc hr e0 hbs rb rfl fun hr' => ?_
  have I : In Θ [self] (defScope st) (defScope st) k (cxOf CX0 Θ.P Θ.w Θ.K Θ.mg Θ.base [self] qual (defScope st) f cdv A outer s H E0).nox :=
    .body rfl rfl rfl rfl rfl rfl rfl ⟨rfl, hgd, hr', d.sc.nd, rfl⟩ (fun _ => rfl)
  have s1 := ps_expr (pe_binit (e := .Name self p3) (es := [.Constant (.str txt) jt p4]) (p1 := p1) (p2 := p2) (pos := p5) XB (I.gl gx) mx vV (pa_cons (I.pv v0) (pa_cons pe_str pa_nil rfl) rfl) rfl hl (by show 2 < 29; decide)) (pos := p6) (hsw _)
  rw [hst]
  refine ⟨_, (pss_cons s1 pss_nil).nox, ?_⟩
  refine ⟨.ref a, rfl, a, C, [.str txt], rfl, (by show 1 ≤ 1000; decide), T, ea, ?_⟩
  exact ⟨rfl, H, Hf, ⟨sb, fun _ h => h, fun _ _ h _ => h, fun _ _ _ => rfl⟩, htb, .inl ⟨rfl, rfl⟩⟩
end

section
variable {X : Cx} {c : Str} {x : Str} {B newId initId : String} {bmB : List Value} {C f : Addr} {k n : Nat} {ks : List Str} {F : InitF}
theorem exob_ok {P : Program} {w : World} {H : Hp} {h : Heap} {a C : Addr} {od : Option Addr} {oe : Obj} {vs : Array Value} (e : h.get? a = some oe) (e1 : oe.cls = .ref C) (e2 : oe.dict = od) (e3 : oe.data = .fields vs) : ObjOk P w H h a (exOb a C od) :=
  ⟨⟨oe, vs, e, e1, e2, e3⟩, ⟨oe, e⟩, fun _ _ ⟨o, v, q, r⟩ k => ⟨o, v, k o q, r⟩⟩
theorem run_mkx {pins : List (Addr × Obj)} {σ : L2.St} {H Hf : Hp} {s : Shared} {Q : VK} {us ws : List Value} {vs zs : List V} {ds : List D} {fs : List (Str × D)} (XB : XBase x B newId initId bmB) (T : XCls X.K C bmB newId) (q : Cq X (k + 1))
    (iC : PySem.W.findIn X.K (.ref C) "__init__" = some (some (.ref f))) (tI : PySem.W.typeIn X.K (.ref f) = some (.type "function")) (co : InitV X.prog X.w X.K X.mg X.base k f C n ks F) (hm : X.mg c = some (.ref C))
    (I1 : Inv X pins σ H s) (r1 : Vals vs us) (r2 : Vals zs ws) (l1 : us.length = n) (l2 : ws.length = ks.length) (hz : n ≤ 1000) (sb : Sub Hf H) (htb : TabsOk (wd X) H Hf) (rp : RpL (wd X) Hf (vs ++ zs) ds) (hF : F ds = some fs)
    (kk : ∀ a H' Hf', ExtT H Hf H' Hf' → TabsOk (wd X) H' Hf' → Rp (wd X) Hf' (.ref a) (.exc c fs) → Q (.ref a) H') : wpAny (model X.prog X.w) X.A (call (.ref C) us (ks.zip ws)) (EP X pins σ Q) X.xe s := by
  obtain ⟨nm, N, qn, bs, bm, hdct, sn, sub, ab, col, dd, k0, k1, k2, k3, k5, hC, hT⟩ := PySem.W.excInit_of I1.kIn T.q
  obtain ⟨hp, g, dr, tk, os⟩ := s
  have hz2 : hp.objs.size ≤ hp.objs.size + 1 := Nat.le_succ _
  have na : H (hp.objs.size + 1) = none := I1.hok.fresh hz2
  have keep2 : ∀ b o, hp.get? b = some o → ((hp.push (PySem.W.kdv_tup us)).push (PySem.HandSPX.excO C hp.objs.size)).get? b = some o := fun b o z => Heap.get?_push_of_some _ (Heap.get?_push_of_some _ z)
  have get2 : ((hp.push (PySem.W.kdv_tup us)).push (PySem.HandSPX.excO C hp.objs.size)).get? (hp.objs.size + 1) = some (PySem.HandSPX.excO C hp.objs.size) := by heap_get
  have I2 := I1.laid (t' := tk) (a := hp.objs.size + 1) (o := exo (hp.objs.size + 1) C none) keep2 hz2 (exo_ok get2)
  have fa : Hf (hp.objs.size + 1) = none := by
    cases z : Hf (hp.objs.size + 1) with
    | none => rfl
    | some o => rw [sb _ o z] at na; cases na
  obtain ⟨a, ha⟩ : ∃ a, a = hp.objs.size + 1 := ⟨_, rfl⟩
  have run := co.run (X.A.under (.builtin "type.__call__" ⟨.ref C :: us, ks.zip ws⟩)) X.stack _ (upd H (hp.objs.size + 1) (exo (hp.objs.size + 1) C none)) Hf (hp.objs.size + 1) us ws vs zs ds fs
    (q.room.make C us (ks.zip ws)) q.gd (I2.env0.make C us (ks.zip ws)) l1 l2 r1 r2 upd_same fa (fun b o z => by rw [upd_ne (ne_of_none (sb b o z) na)]; exact sb b o z) (htb.upd (ntb_none na)) rp hF
  refine wpAny_call (kx_call XB.new hT hC (PySem.W.looks_findIn I1.kIn iC) (fun me => PySem.W.bind_fn I1.kIn me tI) (by rw [l1, sizeLine_eq]; omega) (codeAny_mono run fun r s' hq => ?_))
  cases r with
  | error er => exact False.elim hq
  | ok fl =>
    cases fl with
    | next => exact False.elim hq
    | brk => exact False.elim hq
    | cont => exact False.elim hq
    | ret u =>
      obtain ⟨v, H2, I3, rv, ev, H1', Hf1', EX, tb1, post⟩ := I2.after hq
      subst ev
      refine ⟨rv, ?_⟩
      rw [← ha] at EX post na fa ⊢
      have ea1 : H1' a = some (exo a C none) := EX.keep _ _ upd_same nt_ext
      have fa1 : Hf1' a = none := (EX.frz a _ upd_same).trans fa
      have thr : ∀ b, H1' b = none → H b = none := fun b w => by
        have nb : b ≠ a := fun z => by rw [z, ea1] at w; cases w
        have := EX.there b w
        rwa [upd_ne nb] at this
      have kp : ∀ b o, H b = some o → b ≠ a ∧ (NT o → H1' b = some o) ∧ Hf1' b = Hf b := fun b o w => by
        have nb := ne_of_none w na
        exact ⟨nb, fun t => EX.keep b o (by rw [upd_ne nb]; exact w) t, EX.frz b o (by rw [upd_ne nb]; exact w)⟩
      rcases post with ⟨rfl, eH⟩ | ⟨d, vfs, nd, ne, rf, rfl⟩
      · -- no fields
        rw [eH] at I3
        obtain ⟨t1, hoe⟩ := exo_at I3.hok ea1
        have J := I3.write (t' := s'.toks) (h' := s'.heap) (x := a) (e := a) (o := exOb a C none) (by rw [ea1]; exact True.intro) (.inl rfl) (fun b u _ w => w) ⟨_, hoe⟩ (exob_ok hoe rfl rfl rfl)
        refine ⟨.ref a, _, J, rfl, kk a (upd H1' a (exOb a C none)) (upd Hf1' a (exOb a C none)) ⟨fun b o w => ?_, fun b w => ?_, fun b o w t => ?_, fun b o w => ?_⟩ ?_ ?_⟩
        · by_cases e : b = a
          · rw [e, upd_same] at w ⊢; exact w
          · rw [upd_ne e] at w ⊢; exact EX.sub b o w
        · by_cases e : b = a
          · rw [e, upd_same] at w; cases w
          · rw [upd_ne e] at w; exact thr b w
        · obtain ⟨e, z, _⟩ := kp b o w
          rw [upd_ne e]; exact z t
        · obtain ⟨e, _, z⟩ := kp b o w
          rw [upd_ne e]; exact z
        · refine tb1.same (fun b ps w => ?_) (fun b o w => ?_) fun b ps w w2 => ?_
          · rw [upd_ne fun e => by rw [e, ea1] at w; exact nt_ext ps (Option.some.inj w)]; exact w
          · rw [upd_ne fun e => by rw [e, fa1] at w; cases w]; exact w
          · rw [upd_ne fun e => by rw [e, ea1] at w; exact nt_ext ps (Option.some.inj w)]; exact w2
        · exact .exc upd_same hm (.inl ⟨rfl, rfl⟩) .nil
      · have hla : laidX H1' a C d vfs a = some (exo a C (some d)) := laidX_a (Ne.symm ne)
        have hld : laidX H1' a C d vfs d = some (exd d vfs) := upd_same
        obtain ⟨t1, hoe⟩ := exo_at I3.hok hla
        obtain ⟨mA, hns, rel⟩ := exd_at I3.hok hld
        have J := I3.write (t' := s'.toks) (h' := s'.heap) (x := a) (e := a) (o := exOb a C (some d)) (by rw [hla]; exact True.intro) (.inl rfl) (fun b u _ w => w) ⟨_, hoe⟩ (exob_ok hoe rfl rfl rfl)
        have hld2 : (upd (laidX H1' a C d vfs) a (exOb a C (some d))) d = some (exd d vfs) := by rw [upd_ne ne]; exact hld
        have J2 := J.write (t' := s'.toks) (h' := s'.heap) (x := d) (e := d) (o := .xd vfs) (by rw [hld2]; exact True.intro) (.inl rfl) (fun b u _ w => w) (by obtain ⟨o, _, _, e', _⟩ := hns; exact ⟨o, e'⟩) ⟨mA, hns, rel⟩
        have fd : Hf1' d = none := by
          cases z : Hf1' d with
          | none => rfl
          | some o => rw [EX.sub d o z] at nd; cases nd
        have lx : ∀ b, b ≠ a → b ≠ d → laidX H1' a C d vfs b = H1' b := fun b e1 e2 => by
          unfold laidX
          rw [upd_ne e2, upd_ne e1, upd_ne e2]
        have up2 : ∀ b o, Hf1' b = some o → (upd (upd Hf1' a (exOb a C (some d))) d (.xd vfs)) b = some o := fun b o w => by
          rw [upd_ne (fun e => by rw [e, fd] at w; cases w), upd_ne (fun e => by rw [e, fa1] at w; cases w)]; exact w
        have kd : ∀ b o, H b = some o → b ≠ d := fun b o w e => by
          obtain ⟨o1, z⟩ := live_of EX.there (show (upd H a (exo a C none)) b = some o by rw [upd_ne (kp b o w).1]; exact w)
          rw [e, nd] at z; cases z
        refine ⟨.ref a, _, J2, rfl, kk a (upd (upd (laidX H1' a C d vfs) a (exOb a C (some d))) d (.xd vfs)) (upd (upd Hf1' a (exOb a C (some d))) d (.xd vfs)) ⟨fun b o w => ?_, fun b w => ?_, fun b o w t => ?_, fun b o w => ?_⟩ ?_ ?_⟩
        · by_cases e1 : b = d
          · rw [e1, upd_same] at w ⊢; exact w
          · rw [upd_ne e1] at w ⊢
            by_cases e2 : b = a
            · rw [e2, upd_same] at w ⊢; exact w
            · rw [upd_ne e2] at w ⊢
              rw [lx b e2 e1]; exact EX.sub b o w
        · by_cases e1 : b = d
          · rw [e1, upd_same] at w; cases w
          · rw [upd_ne e1] at w
            by_cases e2 : b = a
            · rw [e2, upd_same] at w; cases w
            · rw [upd_ne e2, lx b e2 e1] at w; exact thr b w
        · obtain ⟨e, z, _⟩ := kp b o w
          have e1 := kd b o w
          rw [upd_ne e1, upd_ne e, lx b e e1]; exact z t
        · obtain ⟨e, _, z⟩ := kp b o w
          have e1 := kd b o w
          rw [upd_ne e1, upd_ne e]; exact z
        · refine tb1.same (fun b ps w => ?_) up2 fun b ps w w2 => ?_
          · have e1 : b ≠ d := fun e => by rw [e, nd] at w; cases w
            have e2 : b ≠ a := fun e => by rw [e, ea1] at w; exact nt_ext ps (Option.some.inj w)
            rw [upd_ne e1, upd_ne e2, lx b e2 e1]; exact w
          · have e1 : b ≠ d := fun e => by rw [e, nd] at w; cases w
            have e2 : b ≠ a := fun e => by rw [e, ea1] at w; exact nt_ext ps (Option.some.inj w)
            rw [upd_ne e1, upd_ne e2]; exact w2
        · exact .exc (by rw [upd_ne (Ne.symm ne), upd_same]) hm (.inr ⟨d, rfl, upd_same⟩) (rf.mono up2)
end
end Ev
/-! text Ex85 -/
set_option Elab.async false
set_option linter.all false
set_option maxRecDepth 100000
set_option maxHeartbeats 4000000
namespace Ev
open PySem PySem.Spec PyProof.Rows L2

/-! ### errors made as values: the surface -/
def mkxF (c : Str) (F : InitF) (FL : Fl) : Fd := fun ρ => (FL ρ).bind fun y => (F y.1).map fun fs => (.exc c fs, y.2)
structure XMk (Θ : Th) (c : Str) (n : Nat) (ks : List Str) (k : Nat) (F : InitF) : Prop where
  ex : ∃ (C f : Addr) (x : Str) (B newId initId : String) (bmB : List Value), XBase x B newId initId bmB ∧ Θ.mg c = some (.ref C) ∧ XCls Θ.K C bmB newId ∧ PySem.W.findIn Θ.K (.ref C) "__init__" = some (some (.ref f)) ∧ PySem.W.typeIn Θ.K (.ref f) = some (.type "function") ∧
    InitV Θ.P Θ.w Θ.K Θ.mg Θ.base k f C n ks F
theorem InitV.mono {P : Program} {w : World} {K : PySem.W.Frag} {mg : Str → Option Value} {base : Heap} {k j : Nat} {f C : Addr} {n : Nat} {ks : List Str} {F : InitF} (q : InitV P w K mg base k f C n ks F) (h : k ≤ j) : InitV P w K mg base j f C n ks F :=
  ⟨fun A outer s H Hf a us ws vs zs ds fs hr => q.run A outer s H Hf a us ws vs zs ds fs (hr.mono h)⟩
section
variable {Θ : Th} {N : List Str} {sc s0 : Scope} {k j : Nat} {X : Cx} {e : Expr} {es : List Expr} {FL : Fl} {FE : Fd} {p pos : Pos} {c : Str} {F : InitF}
theorem mkx_core {n : Nat} {ks : List Str} (I : In Θ N sc s0 (k + 1) X) (m : XMk Θ c n ks k F) (hz : n ≤ 1000) : ∃ C, X.mg c = some (.ref C) ∧ PySem.W.keepIn X.K (.ref C) = true ∧
    ∀ (pins : List (Addr × Obj)) (σ : L2.St) (H Hf : Hp) (s : Shared) (Q : VK) (us ws : List Value) (vs zs : List V) (ds : List D) (fs : List (Str × D)), Inv X pins σ H s → Vals vs us → Vals zs ws → us.length = n → ws.length = ks.length → Sub Hf H → TabsOk (wd X) H Hf → RpL (wd X) Hf (vs ++ zs) ds → F ds = some fs →
      (∀ a H' Hf', ExtT H Hf H' Hf' → TabsOk (wd X) H' Hf' → Rp (wd X) Hf' (.ref a) (.exc c fs) → Q (.ref a) H') → wpAny (model X.prog X.w) X.A (call (.ref C) us (ks.zip ws)) (EP X pins σ Q) X.xe s := by
  obtain ⟨C, f, x, B, newId, initId, bmB, XB, h1, h2, h3, h4, h5⟩ := m.ex
  have iP : X.prog = Θ.P := I.prog
  have iw : X.w = Θ.w := I.w
  have iK : X.K = Θ.K := I.K
  have im : X.mg = Θ.mg := I.mg
  have ib : X.base = Θ.base := I.base
  refine ⟨C, by rw [im]; exact h1, by rw [iK]; exact h2.kC, fun pins σ H Hf s Q us ws vs zs ds fs I1 r1 r2 l1 l2 sb tb rp hF kk => ?_⟩
  refine run_mkx (f := f) (F := F) XB (by rw [iK]; exact h2) I.q (by rw [iK]; exact h3) (by rw [iK]; exact h4) ?_ (by rw [im]; exact h1) I1 r1 r2 l1 l2 hz sb tb rp hF kk
  rw [iP, iw, iK, im, ib]
  exact h5
theorem s_mkx (I : In Θ N sc s0 k X) (m : XMk Θ c (e :: es).length [] j F) (hj : j < k) (hg : glB sc c = true) (ha : PLs X (e :: es) FL) (hs : (e :: es).all noStar = true) (hn : (e :: es).length ≤ 1000) (hdb : (c == ("__debug__" : Str)) = false) :
    PD X (.Call (.Name c p) (e :: es) [] pos) (mkxF c F (chkL (e :: es).length FL)) := by
  obtain ⟨k', rfl⟩ : ∃ k', k = k' + 1 := ⟨k - 1, by omega⟩
  have m' : XMk Θ c (e :: es).length [] k' F := by
    obtain ⟨C, f, x, B, newId, initId, bmB, XB, h1, h2, h3, h4, h5⟩ := m.ex
    exact ⟨C, f, x, B, newId, initId, bmB, XB, h1, h2, h3, h4, h5.mono (by omega)⟩
  obtain ⟨C, hm, kp, run⟩ := mkx_core I m' hn
  rw [List.all_cons, Bool.and_eq_true] at hs
  refine ⟨fun pins s σ H Q I0 ⟨ρ, loc, Hf, d, ρ', sk, hF, kk⟩ => ?_⟩
  unfold mkxF at hF
  obtain ⟨⟨ds, ρ1⟩, q1, hF⟩ := Option.bind_eq_some_iff.mp hF
  obtain ⟨fs, q2, q3⟩ := Option.map_eq_some_iff.mp hF
  cases q3
  have ln := chkL_len q1
  have h2 : tL (wd X) (chkL (e :: es).length FL) σ H fun vs H1 => vs.length = (e :: es).length ∧ ∃ Hf1, SOk (wd X) ρ1 loc σ H1 Hf1 ∧ RpL (wd X) Hf1 vs ds ∧ Ge ρ loc H Hf ρ1 H1 Hf1 :=
    ⟨ρ, loc, Hf, ds, ρ1, sk, q1, fun vs H1 Hf1 g1 s1 r => ⟨r.length.trans ln, Hf1, s1, r, g1⟩⟩
  refine wpAny_Call_Name_kw (ld_glob I0 (I.gl hg) hm ?_ hdb)
  refine PySem.W.callWith_K (h₀ := X.base) I0.ok.mod.kin kp (thn ((pls_chk ha).run pos pins s σ H _ I0 h2) fun us s1 ⟨vs, H1, I1, r, l, Hf1, s1', rp, g1⟩ => ⟨I1.kIn, ?_⟩) (starEach_cons hs.1) (starEach_plain pos hs.2)
  show wpAny _ _ (call (.ref C) us) _ _ _
  exact run pins σ H1 Hf1 s1 Q us [] vs [] ds fs I1 r .nil (r.length.symm.trans l) rfl s1'.sub s1'.tab (by rw [List.append_nil]; exact rp) q2 fun a H' Hf' E tb rx => kk _ H' Hf' (g1.trans E.ge) (s1'.extT E tb) rx
theorem s_mkx0 (I : In Θ N sc s0 k X) (m : XMk Θ c 0 [] j F) (hj : j < k) (hg : glB sc c = true) (hdb : (c == ("__debug__" : Str)) = false) : PD X (.Call (.Name c p) [] [] pos) (mkxF c F nilL) := by
  obtain ⟨k', rfl⟩ : ∃ k', k = k' + 1 := ⟨k - 1, by omega⟩
  have m' : XMk Θ c 0 [] k' F := by
    obtain ⟨C, f, x, B, newId, initId, bmB, XB, h1, h2, h3, h4, h5⟩ := m.ex
    exact ⟨C, f, x, B, newId, initId, bmB, XB, h1, h2, h3, h4, h5.mono (by omega)⟩
  obtain ⟨C, hm, kp, run⟩ := mkx_core I m' (Nat.zero_le _)
  refine ⟨fun pins s σ H Q I0 ⟨ρ, loc, Hf, d, ρ', sk, hF, kk⟩ => ?_⟩
  unfold mkxF at hF
  obtain ⟨⟨ds, ρ1⟩, q1, hF⟩ := Option.bind_eq_some_iff.mp hF
  obtain ⟨fs, q2, q3⟩ := Option.map_eq_some_iff.mp hF
  cases q3
  cases q1
  refine wpAny_Call_Name_kw (ld_glob I0 (I.gl hg) hm ?_ hdb)
  refine PySem.W.callWith_K0 I0.kIn kp ?_
  exact run pins σ H Hf _ Q [] [] [] [] [] fs (I0.tok _) .nil .nil rfl rfl sk.sub sk.tab .nil q2 fun a H' Hf' E tb rx => kk _ H' Hf' E.ge (sk.extT E tb) rx
theorem pk_one {nm : Str} {kp : Pos} (ha : PD X e FE) : PK X [⟨some nm, e, kp⟩] (tL (wd X) (consL FE nilL)) := pk_imp (pk_cons ha pk_nil) fun σ H Q ⟨ρ, loc, Hf, r, ρ', s, hF, kk⟩ => by
  unfold consL at hF
  obtain ⟨⟨a, ρ1⟩, q1, hF⟩ := Option.bind_eq_some_iff.mp hF
  obtain ⟨⟨as, ρ2⟩, q2, hF⟩ := Option.map_eq_some_iff.mp hF
  cases hF
  cases q2
  exact ⟨ρ, loc, Hf, a, ρ1, s, q1, fun v H1 Hf1 g1 s1 o1 => kk [v] H1 Hf1 g1 s1 (.cons o1 .nil)⟩
theorem s_mkxK {nm : Str} {kp : Pos} (I : In Θ N sc s0 k X) (m : XMk Θ c 0 [nm] j F) (hj : j < k) (hg : glB sc c = true) (ha : PD X e FE) (hall : (backToKw pos (keywordEach [⟨some nm, e, kp⟩] X.env)).all (·.1.isSome) = true) (hks : (backToKw pos (keywordEach [⟨some nm, e, kp⟩] X.env)).filterMap (·.1) = [nm])
    (hpl : ((backTo pos (starEach [] X.env)).any (·.1) || (backToKw pos (keywordEach [⟨some nm, e, kp⟩] X.env)).any (·.1.isNone)) = false) (hdb : (c == ("__debug__" : Str)) = false) :
    PD X (.Call (.Name c p) [] [⟨some nm, e, kp⟩] pos) (mkxF c F (consL FE nilL)) := by
  obtain ⟨k', rfl⟩ : ∃ k', k = k' + 1 := ⟨k - 1, by omega⟩
  have m' : XMk Θ c 0 [nm] k' F := by
    obtain ⟨C, f, x, B, newId, initId, bmB, XB, h1, h2, h3, h4, h5⟩ := m.ex
    exact ⟨C, f, x, B, newId, initId, bmB, XB, h1, h2, h3, h4, h5.mono (by omega)⟩
  obtain ⟨C, hm, kpp, run⟩ := mkx_core I m' (Nat.zero_le _)
  refine ⟨fun pins s σ H Q I0 ⟨ρ, loc, Hf, d, ρ', sk, hF, kk⟩ => ?_⟩
  unfold mkxF at hF
  obtain ⟨⟨ds, ρ1⟩, q1, hF⟩ := Option.bind_eq_some_iff.mp hF
  obtain ⟨fs, q2, q3⟩ := Option.map_eq_some_iff.mp hF
  cases q3
  have ln : ds.length = 1 := by
    unfold consL at q1
    obtain ⟨⟨a, ρ1⟩, w1, q1⟩ := Option.bind_eq_some_iff.mp q1
    obtain ⟨⟨as, ρ2⟩, w2, q1⟩ := Option.map_eq_some_iff.mp q1
    cases q1
    cases w2
    rfl
  have h2 : tL (wd X) (consL FE nilL) σ H fun vs H1 => vs.length = 1 ∧ ∃ Hf1, SOk (wd X) ρ1 loc σ H1 Hf1 ∧ RpL (wd X) Hf1 vs ds ∧ Ge ρ loc H Hf ρ1 H1 Hf1 :=
    ⟨ρ, loc, Hf, ds, ρ1, sk, q1, fun vs H1 Hf1 g1 s1 r => ⟨r.length.trans ln, Hf1, s1, r, g1⟩⟩
  refine wpAny_Call_Name_kw (ld_glob I0 (I.gl hg) hm ?_ hdb)
  refine PySem.W.callWith_KW0 (h₀ := X.base) I0.ok.mod.kin kpp hall (thn ((pk_one (nm := nm) (kp := kp) ha).run pos pins _ σ H _ (I0.tok _) h2) fun ws s2 ⟨zs, H1, I1, rz, l, Hf1, s1', rp, g1⟩ => ⟨I1.kIn, ?_⟩) hpl
  rw [hks]
  exact run pins σ H1 Hf1 s2 Q [] ws [] zs ds fs I1 .nil rz rfl (rz.length.symm.trans l) s1'.sub s1'.tab rp q2 fun a H' Hf' E tb rx => kk _ H' Hf' (g1.trans E.ge) (s1'.extT E tb) rx
end
@[simp ↓] theorem ap_mkx {c : Str} {F : InitF} {FL : Fl} {ρ : Env} {Φ : _ → Prop} : Ok (mkxF c F FL ρ) Φ ↔ Ok (FL ρ) fun y => Ok (F y.1) fun fs => Φ (.exc c fs, y.2) := by
  unfold mkxF
  refine Iff.trans Ok_bind (Ok_ext fun y => ?_)
  cases F y.1 with
  | none => exact ⟨fun ⟨_, z, _⟩ => (nomatch z), fun ⟨_, z, _⟩ => (nomatch z)⟩
  | some fs => exact ⟨fun ⟨z, e, q⟩ => ⟨fs, rfl, by cases e; exact q⟩, fun ⟨z, e, q⟩ => ⟨_, rfl, by cases e; exact q⟩⟩

/-! ### an error class, as the top has written it, by position and by name -/
structure XDefV (Θ : Th) (c qual : Str) (st : Stmt) (me par fld x txt : Str) (B newId initId : String) (bmB : List Value) : Prop where
  ex : ∃ C f, Θ.mg c = some (.ref C) ∧ XCls Θ.K C bmB newId ∧ PySem.W.findIn Θ.K (.ref C) "__init__" = some (some (.ref f)) ∧ PySem.W.typeIn Θ.K (.ref f) = some (.type "function") ∧ DefAt Θ.K f qual st [me, par] [me, par] 2 [] id ∧ DefAt Θ.K f qual st [me, par] [me, par] 1 [par] id ∧
    PySem.W.findCls Θ.K (.type B) (.type "type") "__init__" = some (.val (.builtin initId)) ∧ PySem.W.takerIn Θ.K C fld = some none
structure XDef0 (Θ : Th) (c qual : Str) (st : Stmt) (me x txt : Str) (B newId initId : String) (bmB : List Value) : Prop where
  ex : ∃ C f, Θ.mg c = some (.ref C) ∧ XCls Θ.K C bmB newId ∧ PySem.W.findIn Θ.K (.ref C) "__init__" = some (some (.ref f)) ∧ PySem.W.typeIn Θ.K (.ref f) = some (.type "function") ∧ DefAt Θ.K f qual st [me] [me] 1 [] id ∧
    PySem.W.findCls Θ.K (.type B) (.type "type") "__init__" = some (.val (.builtin initId))
section
variable {Θ : Th} {c qual : Str} {st : Stmt} {self par fld x txt : Str} {B newId initId : String} {bmB : List Value} {j k : Nat} {Fc : Fn} {p1 p2 p3 p4 p5 p6 p7 p8 p9 p10 p11 p12 : Pos} {jt : Nat}
theorem mkXV (XB : XBase x B newId initId bmB) (D : XDefV Θ c qual st self par fld x txt B newId initId bmB)
    (hst : defBody st = [.Expr (.Call (.Attribute (.Name x p1) "__init__" p2) [.Name self p3, .Constant (.str txt) jt p4] [] p5) p6, .Assign [.Attribute (.Name self p7) fld p8] (.Call (.Name "copied" p9) [.Name par p10] [] p11) p12])
    (v0 : visB [self, par] (defScope st) 0 self = true) (v1 : visB [self, par] (defScope st) 1 par = true) (gx : glB (defScope st) x = true) (gc : glB (defScope st) "copied" = true) (mx : Θ.mg x = none) (hl : (p2.endLine == p5.line) = true) (hc : FnAt Θ "copied" 1 [] j Fc) (hj : j ≤ k)
    (hsw : ∀ env, swapsWith (.Call (.Attribute (.Name x p1) "__init__" p2) [.Name self p3, .Constant (.str txt) jt p4] [] p5) none p6.line env = pure false)
    (hsw2 : ∀ env, swapsWith (.Call (.Name "copied" p9) [.Name par p10] [] p11) (some (.Attribute (.Name self p7) fld p8)) p12.line env = pure false) : XMk Θ c 1 [] (k + 1) (initF fld Fc) ∧ XMk Θ c 0 [par] (k + 1) (initF fld Fc) := by
  obtain ⟨C, f, h1, h2, h3, h4, d, dk, h5, h6⟩ := D.ex
  exact ⟨⟨C, f, x, B, newId, initId, bmB, XB, h1, h2, h3, h4, initV_ok1 (n := 1) (ks := []) XB h2 d rfl hst v0 v1 gx gc mx h5 hl h6 hc hj hsw hsw2⟩, ⟨C, f, x, B, newId, initId, bmB, XB, h1, h2, h3, h4, initV_ok1 (n := 0) (ks := [par]) XB h2 dk rfl hst v0 v1 gx gc mx h5 hl h6 hc hj hsw hsw2⟩⟩
theorem mkX0 (XB : XBase x B newId initId bmB) (D : XDef0 Θ c qual st self x txt B newId initId bmB)
    (hst : defBody st = [.Expr (.Call (.Attribute (.Name x p1) "__init__" p2) [.Name self p3, .Constant (.str txt) jt p4] [] p5) p6])
    (v0 : visB [self] (defScope st) 0 self = true) (gx : glB (defScope st) x = true) (mx : Θ.mg x = none) (hl : (p2.endLine == p5.line) = true)
    (hsw : ∀ env, swapsWith (.Call (.Attribute (.Name x p1) "__init__" p2) [.Name self p3, .Constant (.str txt) jt p4] [] p5) none p6.line env = pure false) : XMk Θ c 0 [] (k + 1) initF0 := by
  obtain ⟨C, f, h1, h2, h3, h4, d, h5⟩ := D.ex
  exact ⟨C, f, x, B, newId, initId, bmB, XB, h1, h2, h3, h4, initV_ok0 XB h2 d hst v0 gx mx h5 hl hsw⟩
end
section
variable {Θ : Th} {h : Heap}
theorem xDefVB {c qual me par fld x txt : Str} {st : Stmt} {B newId initId : String} {bmB : List Value} {C f : Addr} (X : Θ.K.In h) (G : h.Ns mainGlobals Θ.mg) {od an : Option Addr} {sl : Array (Option Value)} {oc kV dc pm cd ct : Value}
    (aC : PySem.W.nsIn Θ.K mainGlobals c = some (some (.ref C))) (cl : XCls Θ.K C bmB newId) (a : PySem.W.findIn Θ.K (.ref C) "__init__" = some (some (.ref f))) (i : PySem.W.typeIn Θ.K (.ref f) = some (.type "function"))
    (l : Θ.K.lookup f = some ⟨oc, od, .func (PySem.W.fnOf "__init__" qual (defArgs st) (defBody st) (defScope st) .none kV dc pm an cd ct), sl⟩) (co : PySem.W.codeIn Θ.K cd qual = true) (sc : FnScope [me, par] [me, par] (defScope st))
    (hc : PySem.W.findCls Θ.K (.type B) (.type "type") "__init__" = some (.val (.builtin initId))) (tk : PySem.W.takerIn Θ.K C fld = some none)
    (hb : ∀ (us : List Value), us.length = 2 → bindArgs (PySem.W.fnOf "__init__" qual (defArgs st) (defBody st) (defScope st) .none kV dc pm an cd ct) ⟨us, []⟩ = pure ([me, par].zip us))
    (hbk : ∀ (u v : Value), bindArgs (PySem.W.fnOf "__init__" qual (defArgs st) (defBody st) (defScope st) .none kV dc pm an cd ct) ⟨[u], [(par, v)]⟩ = pure [(me, u), (par, v)]) : XDefV Θ c qual st me par fld x txt B newId initId bmB :=
  ⟨C, f, PySem.W.mg_of X G aC, cl, a, i, ⟨⟨"__init__", oc, od, .none, kV, dc, pm, an, cd, ct, sl, l, co, fun s us ws _ l1 l2 => by
    have e : ws = [] := List.length_eq_zero_iff.mp l2
    subst e
    exact ⟨us, .of_eq (hb us l1), l1, fun vs zs r1 r2 => by cases r2; rw [List.append_nil]; exact r1⟩⟩, sc⟩, ⟨⟨"__init__", oc, od, .none, kV, dc, pm, an, cd, ct, sl, l, co, fun s us ws _ l1 l2 => by
    match us, ws, l1, l2 with
    | [u], [v], _, _ => exact ⟨[u, v], .of_eq (hbk u v), rfl, fun vs zs r1 r2 => r1.append r2⟩⟩, sc⟩, hc, tk⟩
theorem xDef0B {c qual me x txt : Str} {st : Stmt} {B newId initId : String} {bmB : List Value} {C f : Addr} (X : Θ.K.In h) (G : h.Ns mainGlobals Θ.mg) {od an : Option Addr} {sl : Array (Option Value)} {oc kV dc pm cd ct : Value}
    (aC : PySem.W.nsIn Θ.K mainGlobals c = some (some (.ref C))) (cl : XCls Θ.K C bmB newId) (a : PySem.W.findIn Θ.K (.ref C) "__init__" = some (some (.ref f))) (i : PySem.W.typeIn Θ.K (.ref f) = some (.type "function"))
    (l : Θ.K.lookup f = some ⟨oc, od, .func (PySem.W.fnOf "__init__" qual (defArgs st) (defBody st) (defScope st) .none kV dc pm an cd ct), sl⟩) (co : PySem.W.codeIn Θ.K cd qual = true) (sc : FnScope [me] [me] (defScope st))
    (hc : PySem.W.findCls Θ.K (.type B) (.type "type") "__init__" = some (.val (.builtin initId)))
    (hb : ∀ (u : Value), bindArgs (PySem.W.fnOf "__init__" qual (defArgs st) (defBody st) (defScope st) .none kV dc pm an cd ct) ⟨[u], []⟩ = pure [(me, u)]) : XDef0 Θ c qual st me x txt B newId initId bmB :=
  ⟨C, f, PySem.W.mg_of X G aC, cl, a, i, ⟨⟨"__init__", oc, od, .none, kV, dc, pm, an, cd, ct, sl, l, co, fun s us ws _ l1 l2 => by
    have e : ws = [] := List.length_eq_zero_iff.mp l2
    subst e
    match us, l1 with
    | [u], _ => exact ⟨[u], .of_eq (hb u), rfl, fun vs zs r1 r2 => by cases r2; rw [List.append_nil]; exact r1⟩⟩, sc⟩, hc⟩
/-! ### what is an instance of what, by one table -/
structure XAll (Θ : Th) (l : List (Str × Addr)) : Prop where
  ok : ∀ p ∈ l, Θ.mg p.1 = some (.ref p.2) ∧ ExcC Θ.K p.2
theorem XAll.nil : XAll Θ [] := ⟨fun p hp => nomatch hp⟩
theorem XAll.cons {c : Str} {C : Addr} {l : List (Str × Addr)} (X : Θ.K.In h) (G : h.Ns mainGlobals Θ.mg) (aC : PySem.W.nsIn Θ.K mainGlobals c = some (some (.ref C))) (T : ExcC Θ.K C) (t : XAll Θ l) : XAll Θ ((c, C) :: l) := ⟨fun p hp => by
  rcases List.mem_cons.mp hp with e | e
  · subst e; exact ⟨PySem.W.mg_of X G aC, T⟩
  · exact t.ok p e⟩
def kitTab (K : PySem.W.Frag) (cv : Value) : List Addr → List Bool → Bool
  | [], [] => true
  | a :: l, b :: bs => (PySem.W.kitOne K (.ref a) cv == some b) && kitTab K cv l bs
  | _, _ => false
theorem isT_tab {cv : Value} : ∀ {l : List (Str × Addr)} {bs : List Bool}, XAll Θ l → PySem.W.kitOne Θ.K (.type "NoneType") cv = some false → kitTab Θ.K cv (l.map (·.2)) bs = true → IsT Θ cv ((l.map (·.1)).zip bs)
  | [], [], _, n, _ => ⟨n, fun p hp => nomatch hp⟩
  | [], _ :: _, _, _, h => by cases h
  | _ :: _, [], _, _, h => by cases h
  | (c, C) :: l, b :: bs, A, n, h => by
    rw [List.map_cons, kitTab, Bool.and_eq_true, beq_iff_eq] at h
    have t := isT_tab (l := l) ⟨fun p hp => A.ok p (List.mem_cons_of_mem _ hp)⟩ n h.2
    obtain ⟨m, T⟩ := A.ok (c, C) List.mem_cons_self
    refine ⟨n, fun p hp C' m' => ?_⟩
    rcases List.mem_cons.mp hp with e | e
    · subst e
      have : C' = C := by
        have := m.symm.trans m'
        cases this; rfl
      subst this
      exact ⟨T, h.1⟩
    · exact t.ok p e C' m'
end
end Ev
/-! text M12 -/
set_option Elab.async false
set_option linter.all false
set_option maxRecDepth 100000
set_option maxHeartbeats 4000000
namespace Ev
open PySem L2

/-! ### texts by their signs -/
def sT (l : List Nat) : Str := ⟨l.toArray⟩
@[simp] theorem sT_app (a b : List Nat) : sT a ++ sT b = sT (a ++ b) := by
  show (⟨a.toArray ++ b.toArray⟩ : Str) = ⟨(a ++ b).toArray⟩
  rw [List.append_toArray]
@[simp] theorem sT_len (a : List Nat) : (sT a).length = a.length := rfl
@[simp] theorem sT_cps (a : List Nat) : (sT a).cps.toList = a := rfl
theorem sT_inj {a b : List Nat} (h : sT a = sT b) : a = b := by
  have := congrArg (fun x : Str => x.cps.toList) h
  exact this
@[simp] theorem sT_eq {a b : List Nat} : sT a = sT b ↔ a = b := ⟨sT_inj, fun h => by rw [h]⟩
@[simp] theorem sT_cut (a : List Nat) (lo hi : Option Int) : cutS (sT a) lo hi = sT (cutD a lo hi) := rfl
@[simp] theorem sT_signs (a : List Nat) : signsD (sT a) = a.map fun c => D.str (sT [c]) := rfl
def abc : List Nat := List.range' 97 26
@[simp] theorem abc_eq : (Str.ofString "abcdefghijklmnopqrstuvwxyz") = sT abc := by decide +kernel
@[simp] theorem abc_len : abc.length = 26 := rfl
@[simp] theorem emp_eq : (Str.ofString "") = sT [] := by decide +kernel
/-- one to eight small letters -/
def IsName (m : Str) : Prop := ∃ l : List Nat, m = sT l ∧ 1 ≤ l.length ∧ l.length ≤ 8 ∧ ∀ c ∈ l, c ∈ abc
end Ev
/-! text M13 -/
set_option Elab.async false
set_option linter.all false
set_option maxRecDepth 100000
set_option maxHeartbeats 4000000
namespace Ev
open PySem L2

/-! ### two lists, item by item -/
inductive All2 {α β : Type} (R : α → β → Prop) : List α → List β → Prop
  | nil : All2 R [] []
  | cons {a : α} {b : β} {as : List α} {bs : List β} : R a b → All2 R as bs → All2 R (a :: as) (b :: bs)
theorem All2.len {α β : Type} {R : α → β → Prop} : ∀ {as : List α} {bs : List β}, All2 R as bs → as.length = bs.length
  | _, _, .nil => rfl
  | _, _, .cons _ t => congrArg (· + 1) t.len
theorem All2.map' {α β γ : Type} {R : α → β → Prop} (f : γ → α) (g : γ → β) (h : ∀ c, R (f c) (g c)) : ∀ cs : List γ, All2 R (cs.map f) (cs.map g)
  | [] => .nil
  | c :: cs => .cons (h c) (All2.map' f g h cs)
/-! ### tables as data -/
def pairD (p : Str × Str) : D := .tup [.str p.1, .str p.2]
def lineK (a : Str) (ns : List Str) (ps : List (Str × Str)) : List (D × D) := (ns.zip ps).map fun z => (.tup [.str a, .str z.1], pairD z.2)
def knK (ns : List Str) : List Str → List (List (Str × Str)) → List (D × D)
  | a :: ms, ps :: rows => lineK a ns ps ++ knK ns ms rows
  | _, _ => []
def tabF (nm : List Str) (rows : List (List (Str × Str))) : List (Str × D) := [("own_marks", .tup (nm.map .str)), ("known", .dct true (knK nm nm rows))]
def tabD (nm : List Str) (rows : List (List (Str × Str))) : D := .obj "Table" (tabF nm rows)
/-- anything that gives a pair, a line of pairs, lines -/
def PairL (d : D) (p : Str × Str) : Prop := d = .tup [.str p.1, .str p.2] ∨ d = .lst [.str p.1, .str p.2]
def LineL (d : D) (ps : List (Str × Str)) : Prop := ∃ ds, (d = .lst ds ∨ d = .tup ds) ∧ All2 PairL ds ps
def LinesL (d : D) (rows : List (List (Str × Str))) : Prop := ∃ ds, (d = .lst ds ∨ d = .tup ds) ∧ All2 LineL ds rows
theorem PairL.tup {d : D} {p : Str × Str} (h : PairL d p) : tupleD [d] = some (.imm (pairD p)) := by
  rcases h with rfl | rfl <;> rfl
end Ev
/-! text M14 -/
set_option Elab.async false
set_option linter.all false
set_option maxRecDepth 100000
set_option maxHeartbeats 4000000
namespace Ev
open PySem L2

/-! ### tables by numbers: names, and pairs of numbers -/
structure Tb where
  nm : List Str
  pr : List (List (Nat × Nat))
abbrev Tb.n (t : Tb) : Nat := t.nm.length
def Tb.f (t : Tb) (i j : Nat) : Nat × Nat := (t.pr.getD i []).getD j (0, 0)
def Tb.ms (t : Tb) (i : Nat) : Str := t.nm.getD i (sT [])
def Tb.md (t : Tb) (i : Nat) : D := .str (t.ms i)
def Tb.rows (t : Tb) : List (List (Str × Str)) := t.pr.map fun r => r.map fun p => (t.ms p.1, t.ms p.2)
def Tb.fs (t : Tb) : List (Str × D) := tabF t.nm t.rows
def Tb.tab (t : Tb) : D := tabD t.nm t.rows
def TbSq (n : Nat) (pr : List (List (Nat × Nat))) : Prop := pr.length = n ∧ ∀ r ∈ pr, r.length = n ∧ ∀ p ∈ r, p.1 < n ∧ p.2 < n
structure TbOk (t : Tb) : Prop where
  one : 1 ≤ t.n
  six : t.n ≤ 6
  nd : t.nm.Nodup
  is : ∀ m ∈ t.nm, IsName m
  sq : TbSq t.n t.pr
theorem TbS_get {t : Tb} {i : Nat} (h : i < t.n) : t.ms i = t.nm[i] := by
  unfold Tb.ms
  rw [List.getD_eq_getElem?_getD, List.getElem?_eq_getElem h]
  rfl
theorem TbOk.inj {t : Tb} (o : TbOk t) {i j : Nat} (hi : i < t.n) (hj : j < t.n) : t.ms i = t.ms j ↔ i = j := by
  rw [TbS_get hi, TbS_get hj]
  exact ⟨fun e => (List.getElem_inj o.nd).mp e, fun e => by subst e; rfl⟩
theorem TbOk.lt {t : Tb} (o : TbOk t) {i j : Nat} (hi : i < t.n) (hj : j < t.n) : (t.f i j).1 < t.n ∧ (t.f i j).2 < t.n := by
  have h1 : i < t.pr.length := by rw [o.sq.1]; exact hi
  obtain ⟨h2, h3⟩ := o.sq.2 t.pr[i] (List.getElem_mem h1)
  have h4 : j < (t.pr[i]).length := by rw [h2]; exact hj
  unfold Tb.f
  rw [List.getD_eq_getElem?_getD, List.getD_eq_getElem?_getD, List.getElem?_eq_getElem h1, Option.getD_some, List.getElem?_eq_getElem h4, Option.getD_some]
  exact h3 _ (List.getElem_mem h4)
/-- .. as lists of lists of pairs, of names -/
theorem Tb.lines (t : Tb) {d : D} (h : d = .lst (t.pr.map fun r => .lst (r.map fun p => .tup [t.md p.1, t.md p.2]))) : LinesL d t.rows := by
  refine ⟨_, .inl h, ?_⟩
  unfold Tb.rows
  refine All2.map' _ _ (fun r => ⟨_, .inl rfl, ?_⟩) t.pr
  exact All2.map' _ _ (fun p => .inl rfl) r

/-! ### passes in a row of numbers -/
end Ev
/-! text M15 -/
set_option Elab.async false
set_option linter.all false
set_option maxRecDepth 100000
set_option maxHeartbeats 4000000
namespace Ev
open PySem L2

/-! ### plain data and its equality -/
mutual
def dep : D → Nat
  | .tup xs => depL xs + 1
  | .lst xs => depL xs + 1
  | _ => 0
def depL : List D → Nat
  | [] => 0
  | x :: xs => max (dep x) (depL xs)
end
theorem depL_map {α : Type} {f : α → D} {n : Nat} : ∀ {xs : List α}, (∀ x ∈ xs, dep (f x) ≤ n) → depL (xs.map f) ≤ n
  | [], _ => by simp [depL]
  | x :: xs, h => by
    have h1 := h x List.mem_cons_self
    have h2 := depL_map (xs := xs) fun y hy => h y (List.mem_cons_of_mem _ hy)
    rw [List.map_cons, depL]
    omega
theorem Tb.dep (t : Tb) (i : Nat) : Ev.dep (t.md i) = 0 := rfl
theorem Tb.depL (t : Tb) (l : List Nat) : Ev.depL (l.map t.md) ≤ 0 := depL_map fun i _ => Nat.le_of_eq (t.dep i)
end Ev
/-! text M16 -/
set_option Elab.async false
set_option linter.all false
set_option maxRecDepth 100000
set_option maxHeartbeats 4000000
namespace Ev
open PySem L2

/-! ### tables told by functions of two numbers -/
/-! ### THREE, sided, twice -/
/-! passes that exchange -/
/-! by two maps -/
/-! the lesser first -/
/-! 2 y - x -/
/-! two tables beside one another -/
/-! read from behind -/
/-! called otherwise: by m and what undoes it -/
/-! lots of numbers that turn round -/
structure Lots (n k : Nat) (lot spot start size : Nat → Nat) : Prop where
  a1 : ∀ x, x < n → lot x < k ∧ spot x < size (lot x) ∧ start (lot x) + spot x = x
  a2 : ∀ l s, l < k → s < size l → start l + s < n ∧ lot (start l + s) = l ∧ spot (start l + s) = s
/-- x's spot, t on -/
def rot (lot spot start size : Nat → Nat) (t : Int) (x : Nat) : Nat := start (lot x) + (((spot x : Int) + t) % (size (lot x) : Int)).toNat
section
variable {n k : Nat} {lot spot start size : Nat → Nat}
theorem Lots.mod (L : Lots n k lot spot start size) {x : Nat} (hx : x < n) (t : Int) : ((((spot x : Int) + t) % (size (lot x) : Int)).toNat : Int) = ((spot x : Int) + t) % (size (lot x) : Int) ∧ (((spot x : Int) + t) % (size (lot x) : Int)).toNat < size (lot x) := by
  obtain ⟨_, h2, _⟩ := L.a1 x hx
  have h3 := Int.emod_nonneg ((spot x : Int) + t) (show (size (lot x) : Int) ≠ 0 by omega)
  have h4 := Int.emod_lt_of_pos ((spot x : Int) + t) (show (0 : Int) < size (lot x) by omega)
  omega
theorem Lots.lt (L : Lots n k lot spot start size) {x : Nat} (hx : x < n) (t : Int) : rot lot spot start size t x < n := (L.a2 _ _ (L.a1 x hx).1 (L.mod hx t).2).1
theorem Lots.zero (L : Lots n k lot spot start size) {x : Nat} (hx : x < n) : rot lot spot start size 0 x = x := by
  obtain ⟨h1, h2, h3⟩ := L.a1 x hx
  unfold rot
  rw [Int.add_zero, Int.emod_eq_of_lt (by omega) (by omega)]
  rw [Int.toNat_natCast]
  exact h3
end
/-! two tables written out -/
end Ev
/-! text M17 -/
set_option Elab.async false
set_option linter.all false
set_option maxRecDepth 100000
set_option maxHeartbeats 4000000
namespace Ev
open PySem L2
/-! ### behind a comprehension, slot by slot -/
def predL : List Nat → List Nat
  | [] => []
  | 0 :: vs => predL vs
  | (n + 1) :: vs => n :: predL vs
@[simp] theorem predL_0 : predL [] = [] := rfl
@[simp] theorem predL_z {vs : List Nat} : predL (0 :: vs) = predL vs := rfl
@[simp] theorem predL_s {n : Nat} {vs : List Nat} : predL ((n + 1) :: vs) = n :: predL vs := rfl
theorem mem_predL {j : Nat} : ∀ {vs : List Nat}, j ∈ predL vs ↔ j + 1 ∈ vs
  | [] => by simp
  | 0 :: vs => by rw [predL_z, mem_predL (vs := vs)]; simp
  | (n + 1) :: vs => by rw [predL_s, List.mem_cons, List.mem_cons, mem_predL (vs := vs)]; simp
@[simp] theorem back_nil {ρ : Env} {vs : List Nat} : backE ρ [] vs = [] := rfl
@[simp] theorem back_cons {a b : Sl} {ρ ρ' : Env} {vs : List Nat} : backE (a :: ρ) (b :: ρ') vs = (if 0 ∈ vs then a else b) :: backE ρ ρ' (predL vs) := by
  unfold backE
  rw [List.length_cons, List.range_succ_eq_map, List.map_cons, List.map_map]
  congr 1
  refine List.map_congr_left fun j _ => ?_
  simp only [Function.comp, List.getElem?_cons_succ, mem_predL]
/-! ### such tables as data -/
/-! ### loops over the numbers below n -/
theorem loop_rng {i n : Nat} {B : Fs} (P : Nat → Env → Prop) (step : ∀ k ρ, k < n → P k ρ → Ok (asg (.nm i) (.int (k : Nat)) ρ) fun ρ1 => Ok (B ρ1) fun y => y.1 = .nx ∧ P (k + 1) y.2) {ρ : Env} (h : P 0 ρ) :
    Ok (loopF (.nm i) B (nts (List.range n)) ρ) fun y => y.1 = .nx ∧ P n y.2 := by
  refine (loop_nts (fun v ρ => ∃ k, v = List.range' k (n - k) ∧ k ≤ n ∧ P k ρ) ?_ ⟨0, by simp [List.range_eq_range'], Nat.zero_le _, h⟩).imp ?_
  · rintro p v ρ ⟨k, hv, hk, hp⟩
    have hkn : k < n := by
      rcases Nat.lt_or_ge k n with q | q
      · exact q
      · rw [show n - k = 0 by omega] at hv; cases hv
    obtain ⟨m, hm⟩ : ∃ m, n - k = m + 1 := ⟨n - k - 1, by omega⟩
    rw [hm] at hv
    have : p = k ∧ v = List.range' (k + 1) m := by
      have : k :: List.range' (k + 1) m = p :: v := hv.symm ▸ rfl
      cases this
      exact ⟨rfl, rfl⟩
    obtain ⟨rfl, rfl⟩ := this
    refine (step p ρ hkn hp).imp fun ρ1 h1 => h1.imp fun y ⟨h2, h3⟩ => ⟨h2, p + 1, ?_, hkn, h3⟩
    rw [show n - (p + 1) = m by omega]
  · rintro ⟨fl, ρ⟩ ⟨e, k, hv, hk, hp⟩
    have : k = n := by
      have := congrArg List.length hv
      simp at this
      omega
    subst this
    exact ⟨e, hp⟩
end Ev
/-! text G -/
set_option Elab.async false
set_option linter.all false
set_option maxRecDepth 100000
set_option maxHeartbeats 4000000
namespace Ev
open PySem L2

noncomputable section
def top (i : Nat) : Stmt := PySem.Challenge.pw_passmarks_k97_errors_and_bounds.main.body.getD i (.Pass ⟨0, 0, 0, 0⟩)
abbrev xtL : List (Str × List Str) := [("Full", ["most"]), ("Hidden", ["name"]), ("Needed", ["name"]), ("NoAsk", ["row"]), ("NoDeed", ["number"]), ("NoMark", ["mark"]), ("NoName", ["name"]), ("NoNames", []), ("NoNumber", ["number"]), ("NoOrder", ["at"]), ("NoPlace", ["place"]), ("NoRow", ["at"]), ("NoRung", ["rung"]), ("NoSight", ["number"]), ("NoTable", ["field"]), ("NoText", ["row"]), ("NoWord", ["at"]), ("NotAlike", []), ("NotOneOne", ["fault"]), ("NotPart", ["pair"]), ("NotSided", ["fault"]), ("NotThree", ["fault"]), ("NotTwice", ["fault"]), ("NotWell", ["fault"]), ("SameMark", ["mark"]), ("Taken", ["name"]), ("TooLong", ["most"]), ("TooMany", ["most"]), ("Unfit", ["name"]), ("Unread", ["row"]), ("Unseen", ["name"])]
abbrev it_ArithmeticError : List (Str × Bool) := [("Full", false), ("Hidden", false), ("Needed", false), ("NoAsk", false), ("NoDeed", false), ("NoMark", false), ("NoName", false), ("NoNames", false), ("NoNumber", false), ("NoOrder", false), ("NoPlace", false), ("NoRow", false), ("NoRung", false), ("NoSight", false), ("NoTable", false), ("NoText", false), ("NoWord", false), ("NotAlike", false), ("NotOneOne", false), ("NotPart", false), ("NotSided", false), ("NotThree", false), ("NotTwice", false), ("NotWell", false), ("SameMark", false), ("Taken", false), ("TooLong", true), ("TooMany", true), ("Unfit", false), ("Unread", false), ("Unseen", false)]
abbrev it_Full : List (Str × Bool) := [("Full", true), ("Hidden", false), ("Needed", false), ("NoAsk", false), ("NoDeed", false), ("NoMark", false), ("NoName", false), ("NoNames", false), ("NoNumber", false), ("NoOrder", false), ("NoPlace", false), ("NoRow", false), ("NoRung", false), ("NoSight", false), ("NoTable", false), ("NoText", false), ("NoWord", false), ("NotAlike", false), ("NotOneOne", false), ("NotPart", false), ("NotSided", false), ("NotThree", false), ("NotTwice", false), ("NotWell", false), ("SameMark", false), ("Taken", false), ("TooLong", false), ("TooMany", false), ("Unfit", false), ("Unread", false), ("Unseen", false)]
abbrev it_Hidden : List (Str × Bool) := [("Full", false), ("Hidden", true), ("Needed", false), ("NoAsk", false), ("NoDeed", false), ("NoMark", false), ("NoName", false), ("NoNames", false), ("NoNumber", false), ("NoOrder", false), ("NoPlace", false), ("NoRow", false), ("NoRung", false), ("NoSight", false), ("NoTable", false), ("NoText", false), ("NoWord", false), ("NotAlike", false), ("NotOneOne", false), ("NotPart", false), ("NotSided", false), ("NotThree", false), ("NotTwice", false), ("NotWell", false), ("SameMark", false), ("Taken", false), ("TooLong", false), ("TooMany", false), ("Unfit", false), ("Unread", false), ("Unseen", false)]
abbrev it_IndexError : List (Str × Bool) := [("Full", true), ("Hidden", false), ("Needed", false), ("NoAsk", false), ("NoDeed", false), ("NoMark", false), ("NoName", false), ("NoNames", false), ("NoNumber", true), ("NoOrder", false), ("NoPlace", true), ("NoRow", false), ("NoRung", false), ("NoSight", false), ("NoTable", false), ("NoText", false), ("NoWord", false), ("NotAlike", false), ("NotOneOne", false), ("NotPart", false), ("NotSided", false), ("NotThree", false), ("NotTwice", false), ("NotWell", false), ("SameMark", false), ("Taken", false), ("TooLong", false), ("TooMany", false), ("Unfit", false), ("Unread", false), ("Unseen", false)]
abbrev it_KeyError : List (Str × Bool) := [("Full", false), ("Hidden", false), ("Needed", false), ("NoAsk", false), ("NoDeed", false), ("NoMark", false), ("NoName", true), ("NoNames", false), ("NoNumber", false), ("NoOrder", false), ("NoPlace", false), ("NoRow", false), ("NoRung", false), ("NoSight", false), ("NoTable", false), ("NoText", false), ("NoWord", false), ("NotAlike", false), ("NotOneOne", false), ("NotPart", false), ("NotSided", false), ("NotThree", false), ("NotTwice", false), ("NotWell", false), ("SameMark", false), ("Taken", true), ("TooLong", false), ("TooMany", false), ("Unfit", false), ("Unread", false), ("Unseen", false)]
abbrev it_LookupError : List (Str × Bool) := [("Full", true), ("Hidden", true), ("Needed", true), ("NoAsk", false), ("NoDeed", false), ("NoMark", false), ("NoName", true), ("NoNames", false), ("NoNumber", true), ("NoOrder", false), ("NoPlace", true), ("NoRow", false), ("NoRung", false), ("NoSight", false), ("NoTable", false), ("NoText", false), ("NoWord", false), ("NotAlike", false), ("NotOneOne", false), ("NotPart", false), ("NotSided", false), ("NotThree", false), ("NotTwice", false), ("NotWell", false), ("SameMark", false), ("Taken", true), ("TooLong", false), ("TooMany", false), ("Unfit", false), ("Unread", false), ("Unseen", false)]
abbrev it_Needed : List (Str × Bool) := [("Full", false), ("Hidden", false), ("Needed", true), ("NoAsk", false), ("NoDeed", false), ("NoMark", false), ("NoName", false), ("NoNames", false), ("NoNumber", false), ("NoOrder", false), ("NoPlace", false), ("NoRow", false), ("NoRung", false), ("NoSight", false), ("NoTable", false), ("NoText", false), ("NoWord", false), ("NotAlike", false), ("NotOneOne", false), ("NotPart", false), ("NotSided", false), ("NotThree", false), ("NotTwice", false), ("NotWell", false), ("SameMark", false), ("Taken", false), ("TooLong", false), ("TooMany", false), ("Unfit", false), ("Unread", false), ("Unseen", false)]
abbrev it_NoAsk : List (Str × Bool) := [("Full", false), ("Hidden", false), ("Needed", false), ("NoAsk", true), ("NoDeed", false), ("NoMark", false), ("NoName", false), ("NoNames", false), ("NoNumber", false), ("NoOrder", false), ("NoPlace", false), ("NoRow", false), ("NoRung", false), ("NoSight", false), ("NoTable", false), ("NoText", false), ("NoWord", false), ("NotAlike", false), ("NotOneOne", false), ("NotPart", false), ("NotSided", false), ("NotThree", false), ("NotTwice", false), ("NotWell", false), ("SameMark", false), ("Taken", false), ("TooLong", false), ("TooMany", false), ("Unfit", false), ("Unread", false), ("Unseen", false)]
abbrev it_NoDeed : List (Str × Bool) := [("Full", false), ("Hidden", false), ("Needed", false), ("NoAsk", false), ("NoDeed", true), ("NoMark", false), ("NoName", false), ("NoNames", false), ("NoNumber", false), ("NoOrder", false), ("NoPlace", false), ("NoRow", false), ("NoRung", false), ("NoSight", false), ("NoTable", false), ("NoText", false), ("NoWord", false), ("NotAlike", false), ("NotOneOne", false), ("NotPart", false), ("NotSided", false), ("NotThree", false), ("NotTwice", false), ("NotWell", false), ("SameMark", false), ("Taken", false), ("TooLong", false), ("TooMany", false), ("Unfit", false), ("Unread", false), ("Unseen", false)]
abbrev it_NoMark : List (Str × Bool) := [("Full", false), ("Hidden", false), ("Needed", false), ("NoAsk", false), ("NoDeed", false), ("NoMark", true), ("NoName", false), ("NoNames", false), ("NoNumber", false), ("NoOrder", false), ("NoPlace", false), ("NoRow", false), ("NoRung", false), ("NoSight", false), ("NoTable", false), ("NoText", false), ("NoWord", false), ("NotAlike", false), ("NotOneOne", false), ("NotPart", false), ("NotSided", false), ("NotThree", false), ("NotTwice", false), ("NotWell", false), ("SameMark", false), ("Taken", false), ("TooLong", false), ("TooMany", false), ("Unfit", false), ("Unread", false), ("Unseen", false)]
abbrev it_NoName : List (Str × Bool) := [("Full", false), ("Hidden", false), ("Needed", false), ("NoAsk", false), ("NoDeed", false), ("NoMark", false), ("NoName", true), ("NoNames", false), ("NoNumber", false), ("NoOrder", false), ("NoPlace", false), ("NoRow", false), ("NoRung", false), ("NoSight", false), ("NoTable", false), ("NoText", false), ("NoWord", false), ("NotAlike", false), ("NotOneOne", false), ("NotPart", false), ("NotSided", false), ("NotThree", false), ("NotTwice", false), ("NotWell", false), ("SameMark", false), ("Taken", false), ("TooLong", false), ("TooMany", false), ("Unfit", false), ("Unread", false), ("Unseen", false)]
abbrev it_NoNames : List (Str × Bool) := [("Full", false), ("Hidden", false), ("Needed", false), ("NoAsk", false), ("NoDeed", false), ("NoMark", false), ("NoName", false), ("NoNames", true), ("NoNumber", false), ("NoOrder", false), ("NoPlace", false), ("NoRow", false), ("NoRung", false), ("NoSight", false), ("NoTable", false), ("NoText", false), ("NoWord", false), ("NotAlike", false), ("NotOneOne", false), ("NotPart", false), ("NotSided", false), ("NotThree", false), ("NotTwice", false), ("NotWell", false), ("SameMark", false), ("Taken", false), ("TooLong", false), ("TooMany", false), ("Unfit", false), ("Unread", false), ("Unseen", false)]
abbrev it_NoNumber : List (Str × Bool) := [("Full", false), ("Hidden", false), ("Needed", false), ("NoAsk", false), ("NoDeed", false), ("NoMark", false), ("NoName", false), ("NoNames", false), ("NoNumber", true), ("NoOrder", false), ("NoPlace", false), ("NoRow", false), ("NoRung", false), ("NoSight", false), ("NoTable", false), ("NoText", false), ("NoWord", false), ("NotAlike", false), ("NotOneOne", false), ("NotPart", false), ("NotSided", false), ("NotThree", false), ("NotTwice", false), ("NotWell", false), ("SameMark", false), ("Taken", false), ("TooLong", false), ("TooMany", false), ("Unfit", false), ("Unread", false), ("Unseen", false)]
abbrev it_NoOrder : List (Str × Bool) := [("Full", false), ("Hidden", false), ("Needed", false), ("NoAsk", false), ("NoDeed", false), ("NoMark", false), ("NoName", false), ("NoNames", false), ("NoNumber", false), ("NoOrder", true), ("NoPlace", false), ("NoRow", false), ("NoRung", false), ("NoSight", false), ("NoTable", false), ("NoText", false), ("NoWord", false), ("NotAlike", false), ("NotOneOne", false), ("NotPart", false), ("NotSided", false), ("NotThree", false), ("NotTwice", false), ("NotWell", false), ("SameMark", false), ("Taken", false), ("TooLong", false), ("TooMany", false), ("Unfit", false), ("Unread", false), ("Unseen", false)]
abbrev it_NoPlace : List (Str × Bool) := [("Full", false), ("Hidden", false), ("Needed", false), ("NoAsk", false), ("NoDeed", false), ("NoMark", false), ("NoName", false), ("NoNames", false), ("NoNumber", false), ("NoOrder", false), ("NoPlace", true), ("NoRow", false), ("NoRung", false), ("NoSight", false), ("NoTable", false), ("NoText", false), ("NoWord", false), ("NotAlike", false), ("NotOneOne", false), ("NotPart", false), ("NotSided", false), ("NotThree", false), ("NotTwice", false), ("NotWell", false), ("SameMark", false), ("Taken", false), ("TooLong", false), ("TooMany", false), ("Unfit", false), ("Unread", false), ("Unseen", false)]
abbrev it_NoRow : List (Str × Bool) := [("Full", false), ("Hidden", false), ("Needed", false), ("NoAsk", false), ("NoDeed", false), ("NoMark", false), ("NoName", false), ("NoNames", false), ("NoNumber", false), ("NoOrder", false), ("NoPlace", false), ("NoRow", true), ("NoRung", false), ("NoSight", false), ("NoTable", false), ("NoText", false), ("NoWord", false), ("NotAlike", false), ("NotOneOne", false), ("NotPart", false), ("NotSided", false), ("NotThree", false), ("NotTwice", false), ("NotWell", false), ("SameMark", false), ("Taken", false), ("TooLong", false), ("TooMany", false), ("Unfit", false), ("Unread", false), ("Unseen", false)]
abbrev it_NoRung : List (Str × Bool) := [("Full", false), ("Hidden", false), ("Needed", false), ("NoAsk", false), ("NoDeed", false), ("NoMark", false), ("NoName", false), ("NoNames", false), ("NoNumber", false), ("NoOrder", false), ("NoPlace", false), ("NoRow", false), ("NoRung", true), ("NoSight", false), ("NoTable", false), ("NoText", false), ("NoWord", false), ("NotAlike", false), ("NotOneOne", false), ("NotPart", false), ("NotSided", false), ("NotThree", false), ("NotTwice", false), ("NotWell", false), ("SameMark", false), ("Taken", false), ("TooLong", false), ("TooMany", false), ("Unfit", false), ("Unread", false), ("Unseen", false)]
abbrev it_NoSight : List (Str × Bool) := [("Full", false), ("Hidden", false), ("Needed", false), ("NoAsk", false), ("NoDeed", false), ("NoMark", false), ("NoName", false), ("NoNames", false), ("NoNumber", false), ("NoOrder", false), ("NoPlace", false), ("NoRow", false), ("NoRung", false), ("NoSight", true), ("NoTable", false), ("NoText", false), ("NoWord", false), ("NotAlike", false), ("NotOneOne", false), ("NotPart", false), ("NotSided", false), ("NotThree", false), ("NotTwice", false), ("NotWell", false), ("SameMark", false), ("Taken", false), ("TooLong", false), ("TooMany", false), ("Unfit", false), ("Unread", false), ("Unseen", false)]
abbrev it_NoTable : List (Str × Bool) := [("Full", false), ("Hidden", false), ("Needed", false), ("NoAsk", false), ("NoDeed", false), ("NoMark", false), ("NoName", false), ("NoNames", false), ("NoNumber", false), ("NoOrder", false), ("NoPlace", false), ("NoRow", false), ("NoRung", false), ("NoSight", false), ("NoTable", true), ("NoText", false), ("NoWord", false), ("NotAlike", false), ("NotOneOne", false), ("NotPart", false), ("NotSided", false), ("NotThree", false), ("NotTwice", false), ("NotWell", false), ("SameMark", false), ("Taken", false), ("TooLong", false), ("TooMany", false), ("Unfit", false), ("Unread", false), ("Unseen", false)]
abbrev it_NoText : List (Str × Bool) := [("Full", false), ("Hidden", false), ("Needed", false), ("NoAsk", false), ("NoDeed", false), ("NoMark", false), ("NoName", false), ("NoNames", false), ("NoNumber", false), ("NoOrder", false), ("NoPlace", false), ("NoRow", false), ("NoRung", false), ("NoSight", false), ("NoTable", false), ("NoText", true), ("NoWord", false), ("NotAlike", false), ("NotOneOne", false), ("NotPart", false), ("NotSided", false), ("NotThree", false), ("NotTwice", false), ("NotWell", false), ("SameMark", false), ("Taken", false), ("TooLong", false), ("TooMany", false), ("Unfit", false), ("Unread", false), ("Unseen", false)]
abbrev it_NoWord : List (Str × Bool) := [("Full", false), ("Hidden", false), ("Needed", false), ("NoAsk", false), ("NoDeed", false), ("NoMark", false), ("NoName", false), ("NoNames", false), ("NoNumber", false), ("NoOrder", false), ("NoPlace", false), ("NoRow", false), ("NoRung", false), ("NoSight", false), ("NoTable", false), ("NoText", false), ("NoWord", true), ("NotAlike", false), ("NotOneOne", false), ("NotPart", false), ("NotSided", false), ("NotThree", false), ("NotTwice", false), ("NotWell", false), ("SameMark", false), ("Taken", false), ("TooLong", false), ("TooMany", false), ("Unfit", false), ("Unread", false), ("Unseen", false)]
abbrev it_NotAlike : List (Str × Bool) := [("Full", false), ("Hidden", false), ("Needed", false), ("NoAsk", false), ("NoDeed", false), ("NoMark", false), ("NoName", false), ("NoNames", false), ("NoNumber", false), ("NoOrder", false), ("NoPlace", false), ("NoRow", false), ("NoRung", false), ("NoSight", false), ("NoTable", false), ("NoText", false), ("NoWord", false), ("NotAlike", true), ("NotOneOne", false), ("NotPart", false), ("NotSided", false), ("NotThree", false), ("NotTwice", false), ("NotWell", false), ("SameMark", false), ("Taken", false), ("TooLong", false), ("TooMany", false), ("Unfit", false), ("Unread", false), ("Unseen", false)]
abbrev it_NotOneOne : List (Str × Bool) := [("Full", false), ("Hidden", false), ("Needed", false), ("NoAsk", false), ("NoDeed", false), ("NoMark", false), ("NoName", false), ("NoNames", false), ("NoNumber", false), ("NoOrder", false), ("NoPlace", false), ("NoRow", false), ("NoRung", false), ("NoSight", false), ("NoTable", false), ("NoText", false), ("NoWord", false), ("NotAlike", false), ("NotOneOne", true), ("NotPart", false), ("NotSided", false), ("NotThree", false), ("NotTwice", false), ("NotWell", false), ("SameMark", false), ("Taken", false), ("TooLong", false), ("TooMany", false), ("Unfit", false), ("Unread", false), ("Unseen", false)]
abbrev it_NotPart : List (Str × Bool) := [("Full", false), ("Hidden", false), ("Needed", false), ("NoAsk", false), ("NoDeed", false), ("NoMark", false), ("NoName", false), ("NoNames", false), ("NoNumber", false), ("NoOrder", false), ("NoPlace", false), ("NoRow", false), ("NoRung", false), ("NoSight", false), ("NoTable", false), ("NoText", false), ("NoWord", false), ("NotAlike", false), ("NotOneOne", false), ("NotPart", true), ("NotSided", false), ("NotThree", false), ("NotTwice", false), ("NotWell", false), ("SameMark", false), ("Taken", false), ("TooLong", false), ("TooMany", false), ("Unfit", false), ("Unread", false), ("Unseen", false)]
abbrev it_NotSided : List (Str × Bool) := [("Full", false), ("Hidden", false), ("Needed", false), ("NoAsk", false), ("NoDeed", false), ("NoMark", false), ("NoName", false), ("NoNames", false), ("NoNumber", false), ("NoOrder", false), ("NoPlace", false), ("NoRow", false), ("NoRung", false), ("NoSight", false), ("NoTable", false), ("NoText", false), ("NoWord", false), ("NotAlike", false), ("NotOneOne", false), ("NotPart", false), ("NotSided", true), ("NotThree", false), ("NotTwice", false), ("NotWell", false), ("SameMark", false), ("Taken", false), ("TooLong", false), ("TooMany", false), ("Unfit", false), ("Unread", false), ("Unseen", false)]
abbrev it_NotThree : List (Str × Bool) := [("Full", false), ("Hidden", false), ("Needed", false), ("NoAsk", false), ("NoDeed", false), ("NoMark", false), ("NoName", false), ("NoNames", false), ("NoNumber", false), ("NoOrder", false), ("NoPlace", false), ("NoRow", false), ("NoRung", false), ("NoSight", false), ("NoTable", false), ("NoText", false), ("NoWord", false), ("NotAlike", false), ("NotOneOne", false), ("NotPart", false), ("NotSided", false), ("NotThree", true), ("NotTwice", false), ("NotWell", false), ("SameMark", false), ("Taken", false), ("TooLong", false), ("TooMany", false), ("Unfit", false), ("Unread", false), ("Unseen", false)]
abbrev it_NotTwice : List (Str × Bool) := [("Full", false), ("Hidden", false), ("Needed", false), ("NoAsk", false), ("NoDeed", false), ("NoMark", false), ("NoName", false), ("NoNames", false), ("NoNumber", false), ("NoOrder", false), ("NoPlace", false), ("NoRow", false), ("NoRung", false), ("NoSight", false), ("NoTable", false), ("NoText", false), ("NoWord", false), ("NotAlike", false), ("NotOneOne", false), ("NotPart", false), ("NotSided", false), ("NotThree", false), ("NotTwice", true), ("NotWell", false), ("SameMark", false), ("Taken", false), ("TooLong", false), ("TooMany", false), ("Unfit", false), ("Unread", false), ("Unseen", false)]
abbrev it_NotWell : List (Str × Bool) := [("Full", false), ("Hidden", false), ("Needed", false), ("NoAsk", false), ("NoDeed", false), ("NoMark", false), ("NoName", false), ("NoNames", false), ("NoNumber", false), ("NoOrder", false), ("NoPlace", false), ("NoRow", false), ("NoRung", false), ("NoSight", false), ("NoTable", false), ("NoText", false), ("NoWord", false), ("NotAlike", false), ("NotOneOne", false), ("NotPart", false), ("NotSided", false), ("NotThree", false), ("NotTwice", false), ("NotWell", true), ("SameMark", false), ("Taken", false), ("TooLong", false), ("TooMany", false), ("Unfit", false), ("Unread", false), ("Unseen", false)]
abbrev it_RuntimeError : List (Str × Bool) := [("Full", false), ("Hidden", false), ("Needed", false), ("NoAsk", false), ("NoDeed", false), ("NoMark", false), ("NoName", false), ("NoNames", false), ("NoNumber", false), ("NoOrder", false), ("NoPlace", false), ("NoRow", false), ("NoRung", false), ("NoSight", false), ("NoTable", false), ("NoText", false), ("NoWord", false), ("NotAlike", false), ("NotOneOne", true), ("NotPart", false), ("NotSided", true), ("NotThree", true), ("NotTwice", true), ("NotWell", false), ("SameMark", false), ("Taken", false), ("TooLong", false), ("TooMany", false), ("Unfit", false), ("Unread", false), ("Unseen", false)]
abbrev it_SameMark : List (Str × Bool) := [("Full", false), ("Hidden", false), ("Needed", false), ("NoAsk", false), ("NoDeed", false), ("NoMark", false), ("NoName", false), ("NoNames", false), ("NoNumber", false), ("NoOrder", false), ("NoPlace", false), ("NoRow", false), ("NoRung", false), ("NoSight", false), ("NoTable", false), ("NoText", false), ("NoWord", false), ("NotAlike", false), ("NotOneOne", false), ("NotPart", false), ("NotSided", false), ("NotThree", false), ("NotTwice", false), ("NotWell", false), ("SameMark", true), ("Taken", false), ("TooLong", false), ("TooMany", false), ("Unfit", false), ("Unread", false), ("Unseen", false)]
abbrev it_Taken : List (Str × Bool) := [("Full", false), ("Hidden", false), ("Needed", false), ("NoAsk", false), ("NoDeed", false), ("NoMark", false), ("NoName", false), ("NoNames", false), ("NoNumber", false), ("NoOrder", false), ("NoPlace", false), ("NoRow", false), ("NoRung", false), ("NoSight", false), ("NoTable", false), ("NoText", false), ("NoWord", false), ("NotAlike", false), ("NotOneOne", false), ("NotPart", false), ("NotSided", false), ("NotThree", false), ("NotTwice", false), ("NotWell", false), ("SameMark", false), ("Taken", true), ("TooLong", false), ("TooMany", false), ("Unfit", false), ("Unread", false), ("Unseen", false)]
abbrev it_TooLong : List (Str × Bool) := [("Full", false), ("Hidden", false), ("Needed", false), ("NoAsk", false), ("NoDeed", false), ("NoMark", false), ("NoName", false), ("NoNames", false), ("NoNumber", false), ("NoOrder", false), ("NoPlace", false), ("NoRow", false), ("NoRung", false), ("NoSight", false), ("NoTable", false), ("NoText", false), ("NoWord", false), ("NotAlike", false), ("NotOneOne", false), ("NotPart", false), ("NotSided", false), ("NotThree", false), ("NotTwice", false), ("NotWell", false), ("SameMark", false), ("Taken", false), ("TooLong", true), ("TooMany", false), ("Unfit", false), ("Unread", false), ("Unseen", false)]
abbrev it_TooMany : List (Str × Bool) := [("Full", false), ("Hidden", false), ("Needed", false), ("NoAsk", false), ("NoDeed", false), ("NoMark", false), ("NoName", false), ("NoNames", false), ("NoNumber", false), ("NoOrder", false), ("NoPlace", false), ("NoRow", false), ("NoRung", false), ("NoSight", false), ("NoTable", false), ("NoText", false), ("NoWord", false), ("NotAlike", false), ("NotOneOne", false), ("NotPart", false), ("NotSided", false), ("NotThree", false), ("NotTwice", false), ("NotWell", false), ("SameMark", false), ("Taken", false), ("TooLong", false), ("TooMany", true), ("Unfit", false), ("Unread", false), ("Unseen", false)]
abbrev it_Unfit : List (Str × Bool) := [("Full", false), ("Hidden", false), ("Needed", false), ("NoAsk", false), ("NoDeed", false), ("NoMark", false), ("NoName", false), ("NoNames", false), ("NoNumber", false), ("NoOrder", false), ("NoPlace", false), ("NoRow", false), ("NoRung", false), ("NoSight", false), ("NoTable", false), ("NoText", false), ("NoWord", false), ("NotAlike", false), ("NotOneOne", false), ("NotPart", false), ("NotSided", false), ("NotThree", false), ("NotTwice", false), ("NotWell", false), ("SameMark", false), ("Taken", false), ("TooLong", false), ("TooMany", false), ("Unfit", true), ("Unread", false), ("Unseen", false)]
abbrev it_Unread : List (Str × Bool) := [("Full", false), ("Hidden", false), ("Needed", false), ("NoAsk", false), ("NoDeed", false), ("NoMark", false), ("NoName", false), ("NoNames", false), ("NoNumber", false), ("NoOrder", false), ("NoPlace", false), ("NoRow", false), ("NoRung", false), ("NoSight", false), ("NoTable", false), ("NoText", false), ("NoWord", false), ("NotAlike", false), ("NotOneOne", false), ("NotPart", false), ("NotSided", false), ("NotThree", false), ("NotTwice", false), ("NotWell", false), ("SameMark", false), ("Taken", false), ("TooLong", false), ("TooMany", false), ("Unfit", false), ("Unread", true), ("Unseen", false)]
abbrev it_Unseen : List (Str × Bool) := [("Full", false), ("Hidden", false), ("Needed", false), ("NoAsk", false), ("NoDeed", false), ("NoMark", false), ("NoName", false), ("NoNames", false), ("NoNumber", false), ("NoOrder", false), ("NoPlace", false), ("NoRow", false), ("NoRung", false), ("NoSight", false), ("NoTable", false), ("NoText", false), ("NoWord", false), ("NotAlike", false), ("NotOneOne", false), ("NotPart", false), ("NotSided", false), ("NotThree", false), ("NotTwice", false), ("NotWell", false), ("SameMark", false), ("Taken", false), ("TooLong", false), ("TooMany", false), ("Unfit", false), ("Unread", false), ("Unseen", true)]
abbrev it_ValueError : List (Str × Bool) := [("Full", false), ("Hidden", false), ("Needed", false), ("NoAsk", true), ("NoDeed", true), ("NoMark", true), ("NoName", false), ("NoNames", true), ("NoNumber", false), ("NoOrder", true), ("NoPlace", false), ("NoRow", true), ("NoRung", true), ("NoSight", true), ("NoTable", true), ("NoText", true), ("NoWord", true), ("NotAlike", true), ("NotOneOne", false), ("NotPart", true), ("NotSided", false), ("NotThree", false), ("NotTwice", false), ("NotWell", true), ("SameMark", true), ("Taken", false), ("TooLong", false), ("TooMany", false), ("Unfit", true), ("Unread", true), ("Unseen", true)]
abbrev s_Full___init__ : Stmt := inClass (top 29) 0
theorem fs_Full___init__ : FnScope ["self", "most"] ["self", "most"] (defScope s_Full___init__) := ⟨rfl, rfl, rfl, by decide +kernel, rfl, by decide +kernel, by decide +kernel⟩
abbrev s_Hidden___init__ : Stmt := inClass (top 33) 0
theorem fs_Hidden___init__ : FnScope ["self", "name"] ["self", "name"] (defScope s_Hidden___init__) := ⟨rfl, rfl, rfl, by decide +kernel, rfl, by decide +kernel, by decide +kernel⟩
abbrev s_Needed___init__ : Stmt := inClass (top 32) 0
theorem fs_Needed___init__ : FnScope ["self", "name"] ["self", "name"] (defScope s_Needed___init__) := ⟨rfl, rfl, rfl, by decide +kernel, rfl, by decide +kernel, by decide +kernel⟩
abbrev s_NoAsk___init__ : Stmt := inClass (top 24) 0
theorem fs_NoAsk___init__ : FnScope ["self", "row"] ["self", "row"] (defScope s_NoAsk___init__) := ⟨rfl, rfl, rfl, by decide +kernel, rfl, by decide +kernel, by decide +kernel⟩
abbrev s_NoDeed___init__ : Stmt := inClass (top 23) 0
theorem fs_NoDeed___init__ : FnScope ["self", "number"] ["self", "number"] (defScope s_NoDeed___init__) := ⟨rfl, rfl, rfl, by decide +kernel, rfl, by decide +kernel, by decide +kernel⟩
abbrev s_NoMark___init__ : Stmt := inClass (top 4) 0
theorem fs_NoMark___init__ : FnScope ["self", "mark"] ["self", "mark"] (defScope s_NoMark___init__) := ⟨rfl, rfl, rfl, by decide +kernel, rfl, by decide +kernel, by decide +kernel⟩
abbrev s_NoName___init__ : Stmt := inClass (top 30) 0
theorem fs_NoName___init__ : FnScope ["self", "name"] ["self", "name"] (defScope s_NoName___init__) := ⟨rfl, rfl, rfl, by decide +kernel, rfl, by decide +kernel, by decide +kernel⟩
abbrev s_NoNames___init__ : Stmt := inClass (top 10) 0
theorem fs_NoNames___init__ : FnScope ["self"] ["self"] (defScope s_NoNames___init__) := ⟨rfl, rfl, rfl, by decide +kernel, rfl, by decide +kernel, by decide +kernel⟩
abbrev s_NoNumber___init__ : Stmt := inClass (top 19) 0
theorem fs_NoNumber___init__ : FnScope ["self", "number"] ["self", "number"] (defScope s_NoNumber___init__) := ⟨rfl, rfl, rfl, by decide +kernel, rfl, by decide +kernel, by decide +kernel⟩
abbrev s_NoOrder___init__ : Stmt := inClass (top 7) 0
theorem fs_NoOrder___init__ : FnScope ["self", "at"] ["self", "at"] (defScope s_NoOrder___init__) := ⟨rfl, rfl, rfl, by decide +kernel, rfl, by decide +kernel, by decide +kernel⟩
abbrev s_NoPlace___init__ : Stmt := inClass (top 28) 0
theorem fs_NoPlace___init__ : FnScope ["self", "place"] ["self", "place"] (defScope s_NoPlace___init__) := ⟨rfl, rfl, rfl, by decide +kernel, rfl, by decide +kernel, by decide +kernel⟩
abbrev s_NoRow___init__ : Stmt := inClass (top 5) 0
theorem fs_NoRow___init__ : FnScope ["self", "at"] ["self", "at"] (defScope s_NoRow___init__) := ⟨rfl, rfl, rfl, by decide +kernel, rfl, by decide +kernel, by decide +kernel⟩
abbrev s_NoRung___init__ : Stmt := inClass (top 8) 0
theorem fs_NoRung___init__ : FnScope ["self", "rung"] ["self", "rung"] (defScope s_NoRung___init__) := ⟨rfl, rfl, rfl, by decide +kernel, rfl, by decide +kernel, by decide +kernel⟩
abbrev s_NoSight___init__ : Stmt := inClass (top 22) 0
theorem fs_NoSight___init__ : FnScope ["self", "number"] ["self", "number"] (defScope s_NoSight___init__) := ⟨rfl, rfl, rfl, by decide +kernel, rfl, by decide +kernel, by decide +kernel⟩
abbrev s_NoTable___init__ : Stmt := inClass (top 3) 0
theorem fs_NoTable___init__ : FnScope ["self", "field"] ["self", "field"] (defScope s_NoTable___init__) := ⟨rfl, rfl, rfl, by decide +kernel, rfl, by decide +kernel, by decide +kernel⟩
abbrev s_NoText___init__ : Stmt := inClass (top 14) 0
theorem fs_NoText___init__ : FnScope ["self", "row"] ["self", "row"] (defScope s_NoText___init__) := ⟨rfl, rfl, rfl, by decide +kernel, rfl, by decide +kernel, by decide +kernel⟩
abbrev s_NoWord___init__ : Stmt := inClass (top 6) 0
theorem fs_NoWord___init__ : FnScope ["self", "at"] ["self", "at"] (defScope s_NoWord___init__) := ⟨rfl, rfl, rfl, by decide +kernel, rfl, by decide +kernel, by decide +kernel⟩
abbrev s_NotAlike___init__ : Stmt := inClass (top 9) 0
theorem fs_NotAlike___init__ : FnScope ["self"] ["self"] (defScope s_NotAlike___init__) := ⟨rfl, rfl, rfl, by decide +kernel, rfl, by decide +kernel, by decide +kernel⟩
abbrev s_NotOneOne___init__ : Stmt := inClass (top 18) 0
theorem fs_NotOneOne___init__ : FnScope ["self", "fault"] ["self", "fault"] (defScope s_NotOneOne___init__) := ⟨rfl, rfl, rfl, by decide +kernel, rfl, by decide +kernel, by decide +kernel⟩
abbrev s_NotPart___init__ : Stmt := inClass (top 12) 0
theorem fs_NotPart___init__ : FnScope ["self", "pair"] ["self", "pair"] (defScope s_NotPart___init__) := ⟨rfl, rfl, rfl, by decide +kernel, rfl, by decide +kernel, by decide +kernel⟩
abbrev s_NotSided___init__ : Stmt := inClass (top 16) 0
theorem fs_NotSided___init__ : FnScope ["self", "fault"] ["self", "fault"] (defScope s_NotSided___init__) := ⟨rfl, rfl, rfl, by decide +kernel, rfl, by decide +kernel, by decide +kernel⟩
abbrev s_NotThree___init__ : Stmt := inClass (top 15) 0
theorem fs_NotThree___init__ : FnScope ["self", "fault"] ["self", "fault"] (defScope s_NotThree___init__) := ⟨rfl, rfl, rfl, by decide +kernel, rfl, by decide +kernel, by decide +kernel⟩
abbrev s_NotTwice___init__ : Stmt := inClass (top 17) 0
theorem fs_NotTwice___init__ : FnScope ["self", "fault"] ["self", "fault"] (defScope s_NotTwice___init__) := ⟨rfl, rfl, rfl, by decide +kernel, rfl, by decide +kernel, by decide +kernel⟩
abbrev s_NotWell___init__ : Stmt := inClass (top 11) 0
theorem fs_NotWell___init__ : FnScope ["self", "fault"] ["self", "fault"] (defScope s_NotWell___init__) := ⟨rfl, rfl, rfl, by decide +kernel, rfl, by decide +kernel, by decide +kernel⟩
abbrev s_SameMark___init__ : Stmt := inClass (top 13) 0
theorem fs_SameMark___init__ : FnScope ["self", "mark"] ["self", "mark"] (defScope s_SameMark___init__) := ⟨rfl, rfl, rfl, by decide +kernel, rfl, by decide +kernel, by decide +kernel⟩
abbrev s_Taken___init__ : Stmt := inClass (top 31) 0
theorem fs_Taken___init__ : FnScope ["self", "name"] ["self", "name"] (defScope s_Taken___init__) := ⟨rfl, rfl, rfl, by decide +kernel, rfl, by decide +kernel, by decide +kernel⟩
abbrev s_TooLong___init__ : Stmt := inClass (top 21) 0
theorem fs_TooLong___init__ : FnScope ["self", "most"] ["self", "most"] (defScope s_TooLong___init__) := ⟨rfl, rfl, rfl, by decide +kernel, rfl, by decide +kernel, by decide +kernel⟩
abbrev s_TooMany___init__ : Stmt := inClass (top 20) 0
theorem fs_TooMany___init__ : FnScope ["self", "most"] ["self", "most"] (defScope s_TooMany___init__) := ⟨rfl, rfl, rfl, by decide +kernel, rfl, by decide +kernel, by decide +kernel⟩
abbrev s_Unfit___init__ : Stmt := inClass (top 27) 0
theorem fs_Unfit___init__ : FnScope ["self", "name"] ["self", "name"] (defScope s_Unfit___init__) := ⟨rfl, rfl, rfl, by decide +kernel, rfl, by decide +kernel, by decide +kernel⟩
abbrev s_Unread___init__ : Stmt := inClass (top 25) 0
theorem fs_Unread___init__ : FnScope ["self", "row"] ["self", "row"] (defScope s_Unread___init__) := ⟨rfl, rfl, rfl, by decide +kernel, rfl, by decide +kernel, by decide +kernel⟩
abbrev s_Unseen___init__ : Stmt := inClass (top 26) 0
theorem fs_Unseen___init__ : FnScope ["self", "name"] ["self", "name"] (defScope s_Unseen___init__) := ⟨rfl, rfl, rfl, by decide +kernel, rfl, by decide +kernel, by decide +kernel⟩
/-! copied -/
abbrev s_copied : Stmt := top 1
abbrev sc_copied : Scope := defScope s_copied
def N_copied : List Str := ["thing", "part", "key"]
abbrev bc_copied_1 : Scope := { kind := .function, names := [(".0", .local), ("part", .local), ("copied", .globalImplicit)], isGenerator := false, isCoroutine := false, more := [] }
abbrev rc_copied_1 : Scope := relS bc_copied_1 sc_copied
abbrev bc_copied_2 : Scope := { kind := .function, names := [(".0", .local), ("part", .local), ("copied", .globalImplicit)], isGenerator := false, isCoroutine := false, more := [] }
abbrev rc_copied_2 : Scope := relS bc_copied_2 sc_copied
abbrev bc_copied_3 : Scope := { kind := .function, names := [(".0", .local), ("key", .local), ("part", .local), ("copied", .globalImplicit)], isGenerator := false, isCoroutine := false, more := [] }
abbrev rc_copied_3 : Scope := relS bc_copied_3 sc_copied
theorem v_copied_0_0 : visB N_copied sc_copied 0 "thing" = true := by decide +kernel
theorem g_copied_0_isinstance : glB sc_copied "isinstance" = true := by decide +kernel
theorem g_copied_0_list : glB sc_copied "list" = true := by decide +kernel
theorem t_copied_1_1 : stB N_copied bc_copied_1 1 "part" = true := by decide +kernel
theorem v_copied_1_1 : visB N_copied rc_copied_1 1 "part" = true := by decide +kernel
theorem g_copied_1_copied : glB rc_copied_1 "copied" = true := by decide +kernel
theorem b_copied_1 : blkC N_copied sc_copied bc_copied_1 [("part", 1)] = true := by decide +kernel
theorem g_copied_0_tuple : glB sc_copied "tuple" = true := by decide +kernel
theorem t_copied_2_1 : stB N_copied bc_copied_2 1 "part" = true := by decide +kernel
theorem v_copied_2_1 : visB N_copied rc_copied_2 1 "part" = true := by decide +kernel
theorem g_copied_2_copied : glB rc_copied_2 "copied" = true := by decide +kernel
theorem b_copied_2 : blkC N_copied sc_copied bc_copied_2 [("part", 1)] = true := by decide +kernel
theorem g_copied_0_dict : glB sc_copied "dict" = true := by decide +kernel
theorem t_copied_3_2 : stB N_copied bc_copied_3 2 "key" = true := by decide +kernel
theorem t_copied_3_1 : stB N_copied bc_copied_3 1 "part" = true := by decide +kernel
theorem v_copied_3_2 : visB N_copied rc_copied_3 2 "key" = true := by decide +kernel
theorem v_copied_3_1 : visB N_copied rc_copied_3 1 "part" = true := by decide +kernel
theorem g_copied_3_copied : glB rc_copied_3 "copied" = true := by decide +kernel
theorem b_copied_3 : blkC N_copied sc_copied bc_copied_3 [("key", 2), ("part", 1)] = true := by decide +kernel
theorem fs_copied : FnScope N_copied ["thing"] sc_copied := ⟨rfl, rfl, rfl, by decide +kernel, rfl, by decide +kernel, by decide +kernel⟩
def B_copied (Fr : Fn) : Fs := (seqS (ifS (truF (valF (isiF "list" (varR 0)))) (retS (compF (.nm 1) (seqF (varD 0)) yesT (fixF (userF 1 Fr (consA (valF (varD 1)) nilA))) [1])) skipS)
  (seqS (ifS (truF (valF (isiF "tuple" (varR 0)))) (retS (callF tupleD (consA (valF (fixF (compF (.nm 1) (seqF (varD 0)) yesT (fixF (userF 1 Fr (consA (valF (varD 1)) nilA))) [1]))) nilA))) skipS)
  (seqS (ifS (truF (valF (isiF "dict" (varR 0)))) (retS (dcI 0 2 1 (fixF (userF 1 Fr (consA (valF (varD 1)) nilA))))) skipS)
  (retVar 0))))
def F_copied : Nat → Fn
  | 0 => fun _ => none
  | n + 1 => fun as => bodyF N_copied.length (["thing"] : List Str).length (B_copied (F_copied n)) as
/-! _law_pen -/
abbrev s__law_pen : Stmt := top 41
abbrev sc__law_pen : Scope := defScope s__law_pen
def N__law_pen : List Str := ["_law_script"]
theorem v__law_pen_0_0 : visB N__law_pen sc__law_pen 0 "_law_script" = true := by decide +kernel
theorem g__law_pen_0_list : glB sc__law_pen "list" = true := by decide +kernel
theorem fs__law_pen : FnScope N__law_pen ["_law_script"] sc__law_pen := ⟨rfl, rfl, rfl, by decide +kernel, rfl, by decide +kernel, by decide +kernel⟩
def B__law_pen : Fs := (retS (dispF [("cells", (fixF (callF listD (consA (valF (fixF (slF (varR 0) noneO (someO (constF (.int 63)))))) nilA)))), ("spot", (constF (.int 0)))]))
def F__law_pen : Fn := fun as => bodyF N__law_pen.length (["_law_script"] : List Str).length B__law_pen (id as)
/-! _law_draw -/
abbrev s__law_draw : Stmt := top 42
abbrev sc__law_draw : Scope := defScope s__law_draw
def N__law_draw : List Str := ["_law_pen_here", "_law_many", "_law_spot", "_law_cell", "_law_mix"]
theorem t__law_draw_0_2 : stB N__law_draw sc__law_draw 2 "_law_spot" = true := by decide +kernel
theorem v__law_draw_0_0 : visB N__law_draw sc__law_draw 0 "_law_pen_here" = true := by decide +kernel
theorem v__law_draw_0_2 : visB N__law_draw sc__law_draw 2 "_law_spot" = true := by decide +kernel
theorem t__law_draw_0_3 : stB N__law_draw sc__law_draw 3 "_law_cell" = true := by decide +kernel
theorem g__law_draw_0_len : glB sc__law_draw "len" = true := by decide +kernel
theorem t__law_draw_0_4 : stB N__law_draw sc__law_draw 4 "_law_mix" = true := by decide +kernel
theorem v__law_draw_0_3 : visB N__law_draw sc__law_draw 3 "_law_cell" = true := by decide +kernel
theorem v__law_draw_0_4 : visB N__law_draw sc__law_draw 4 "_law_mix" = true := by decide +kernel
theorem v__law_draw_0_1 : visB N__law_draw sc__law_draw 1 "_law_many" = true := by decide +kernel
theorem fs__law_draw : FnScope N__law_draw ["_law_pen_here", "_law_many"] sc__law_draw := ⟨rfl, rfl, rfl, by decide +kernel, rfl, by decide +kernel, by decide +kernel⟩
def B__law_draw : Fs := (seqS (setS 2 (binF ixD (varR 0) (valF (constF (.str "spot")))))
  (seqS (dputS (fixF (binF addD (varR 2) (valF (constF (.int 1))))) (varR 0) (constF (.str "spot")))
  (seqS (setS 3 (iteF (binB neD (valF (fixF (binF ixD (varR 0) (valF (constF (.str "cells")))))) (valF (fixF (lstF nilL)))) (binF ixD (valF (fixF (binF ixD (varR 0) (valF (constF (.str "cells")))))) (valF (fixF (binF (intOp modI) (varR 2) (valF (fixF (callF lenD (consA (valF (fixF (binF ixD (varR 0) (valF (constF (.str "cells")))))) nilA)))))))) (binF addD (valF (fixF (binF mulD' (valF (constF (.int 37))) (varR 2)))) (valF (constF (.int 11))))))
  (seqS (setS 4 (binF (intOp modI) (valF (fixF (binF addD (valF (fixF (binF addD (valF (fixF (binF addD (valF (fixF (binF mulD' (valF (fixF (binF (intOp modI) (varR 3) (valF (constF (.int 2147483647)))))) (valF (constF (.int 69621)))))) (valF (fixF (binF mulD' (valF (fixF (binF mulD' (valF (constF (.int 48271))) (varR 2)))) (varR 2))))))) (valF (fixF (binF mulD' (valF (constF (.int 30011))) (varR 2))))))) (valF (constF (.int 13)))))) (valF (constF (.int 2147483629)))))
  (seqS (setS 4 (binF (intOp modI) (valF (fixF (binF addD (valF (fixF (binF addD (valF (fixF (binF addD (valF (fixF (binF mulD' (varR 4) (varR 4)))) (valF (fixF (binF mulD' (valF (constF (.int 40692))) (varR 4))))))) (valF (fixF (binF mulD' (valF (constF (.int 7))) (varR 2))))))) (valF (constF (.int 3)))))) (valF (constF (.int 2147483587)))))
  (retS (binF (intOp modI) (valF (fixF (binF (intOp fdivI) (valF (fixF (binF (intOp modI) (valF (fixF (binF mulD' (varR 4) (valF (fixF (binF addD (varR 4) (valF (constF (.int 16807))))))))) (valF (constF (.int 2147483579)))))) (valF (constF (.int 32)))))) (varR 1))))))))
def F__law_draw : Fn := fun as => bodyF N__law_draw.length (["_law_pen_here", "_law_many"] : List Str).length B__law_draw (id as)
/-! _law_value -/
abbrev s__law_value : Stmt := top 43
abbrev sc__law_value : Scope := defScope s__law_value
def N__law_value : List Str := ["_law_pen_here", "_law_some"]
theorem t__law_value_0_1 : stB N__law_value sc__law_value 1 "_law_some" = true := by decide +kernel
theorem v__law_value_0_1 : visB N__law_value sc__law_value 1 "_law_some" = true := by decide +kernel
theorem v__law_value_0_0 : visB N__law_value sc__law_value 0 "_law_pen_here" = true := by decide +kernel
theorem g__law_value_0_len : glB sc__law_value "len" = true := by decide +kernel
theorem g__law_value_0__law_draw : glB sc__law_value "_law_draw" = true := by decide +kernel
theorem fs__law_value : FnScope N__law_value ["_law_pen_here"] sc__law_value := ⟨rfl, rfl, rfl, by decide +kernel, rfl, by decide +kernel, by decide +kernel⟩
def B__law_value : Fs := (seqS (setS 1 (lstF (consL (constF .non) (consL (constF (.bl true)) (consL (constF (.bl false)) (consL (constF (.int 0)) (consL (constF (.int (-1))) (consL (fixF (binF (intOp powI) (valF (constF (.int 10))) (valF (constF (.int 60))))) (consL (constF (.str "")) (consL (constF (.str "a")) (consL (constF (.str "no such name")) (consL (fixF (tupF nilL)) (consL (fixF (tupF (consL (constF (.str "a")) nilL))) (consL (fixF (lstF (consL (constF (.str "a")) nilL))) (consL (fixF (lstF nilL)) (consL (fixF (dnewF false)) (consL (fixF (dispF [("a", (fixF (lstF (consL (constF (.int 1)) nilL))))])) nilL)))))))))))))))))
  (seqS (setS 1 (binF addD (varR 1) (valF (fixF (lstF (consL (fixF (tupF (consL (constF (.str "second")) (consL (constF (.str "a")) (consL (constF (.str "b")) (consL (constF (.str "c")) nilL)))))) (consL (fixF (tupF (consL (fixF (tupF (consL (constF (.str "a")) (consL (constF (.str "b")) nilL)))) (consL (fixF (tupF (consL (constF (.str "b")) (consL (constF (.str "a")) nilL)))) nilL)))) (consL (fixF (lstF (consL (fixF (lstF (consL (constF (.int 0)) nilL))) nilL))) (consL (constF (.str "line
feed")) (consL (fixF (binF (intOp subI) (valF (constF (.int 0))) (valF (fixF (binF (intOp powI) (valF (constF (.int 10))) (valF (constF (.int 60)))))))) nilL))))))))))
  (retS (binF ixD (varR 1) (valF (fixF (userF 2 F__law_draw (consA (varR 0) (consA (valF (fixF (callF lenD (consA (varR 1) nilA)))) nilA)))))))))
def F__law_value : Fn := fun as => bodyF N__law_value.length (["_law_pen_here"] : List Str).length B__law_value (id as)
/-! _law_base -/
abbrev s__law_base : Stmt := top 45
abbrev sc__law_base : Scope := defScope s__law_base
def N__law_base : List Str := ["_law_error"]
theorem v__law_base_0_0 : visB N__law_base sc__law_base 0 "_law_error" = true := by decide +kernel
theorem g__law_base_0_isinstance : glB sc__law_base "isinstance" = true := by decide +kernel
theorem g__law_base_0_KeyError : glB sc__law_base "KeyError" = true := by decide +kernel
theorem g__law_base_0_IndexError : glB sc__law_base "IndexError" = true := by decide +kernel
theorem g__law_base_0_LookupError : glB sc__law_base "LookupError" = true := by decide +kernel
theorem g__law_base_0_RuntimeError : glB sc__law_base "RuntimeError" = true := by decide +kernel
theorem g__law_base_0_ArithmeticError : glB sc__law_base "ArithmeticError" = true := by decide +kernel
theorem g__law_base_0_ValueError : glB sc__law_base "ValueError" = true := by decide +kernel
theorem fs__law_base : FnScope N__law_base ["_law_error"] sc__law_base := ⟨rfl, rfl, rfl, by decide +kernel, rfl, by decide +kernel, by decide +kernel⟩
def B__law_base : Fs := (seqS (ifS (truF (valF (isxF it_KeyError (varD 0)))) (retS (immF (constF (.str "key")))) skipS)
  (seqS (ifS (truF (valF (isxF it_IndexError (varD 0)))) (retS (immF (constF (.str "index")))) skipS)
  (seqS (ifS (truF (valF (isxF it_LookupError (varD 0)))) (retS (immF (constF (.str "lookup")))) skipS)
  (seqS (ifS (truF (valF (isxF it_RuntimeError (varD 0)))) (retS (immF (constF (.str "runtime")))) skipS)
  (seqS (ifS (truF (valF (isxF it_ArithmeticError (varD 0)))) (retS (immF (constF (.str "arithmetic")))) skipS)
  (retS (iteF (truF (valF (isxF it_ValueError (varD 0)))) (immF (constF (.str "value"))) (immF (constF (.str "other"))))))))))
def F__law_base : Fn := fun as => bodyF N__law_base.length (["_law_error"] : List Str).length B__law_base (id as)
/-! _law_own_kinds -/
abbrev s__law_own_kinds : Stmt := top 44
abbrev sc__law_own_kinds : Scope := defScope s__law_own_kinds
def N__law_own_kinds : List Str := ["_law_error", "_law_some"]
theorem t__law_own_kinds_0_1 : stB N__law_own_kinds sc__law_own_kinds 1 "_law_some" = true := by decide +kernel
theorem v__law_own_kinds_0_0 : visB N__law_own_kinds sc__law_own_kinds 0 "_law_error" = true := by decide +kernel
theorem g__law_own_kinds_0_isinstance : glB sc__law_own_kinds "isinstance" = true := by decide +kernel
theorem g__law_own_kinds_0_Full : glB sc__law_own_kinds "Full" = true := by decide +kernel
theorem g__law_own_kinds_0_Hidden : glB sc__law_own_kinds "Hidden" = true := by decide +kernel
theorem g__law_own_kinds_0_Needed : glB sc__law_own_kinds "Needed" = true := by decide +kernel
theorem g__law_own_kinds_0_NoAsk : glB sc__law_own_kinds "NoAsk" = true := by decide +kernel
theorem v__law_own_kinds_0_1 : visB N__law_own_kinds sc__law_own_kinds 1 "_law_some" = true := by decide +kernel
theorem g__law_own_kinds_0_NoDeed : glB sc__law_own_kinds "NoDeed" = true := by decide +kernel
theorem g__law_own_kinds_0_NoMark : glB sc__law_own_kinds "NoMark" = true := by decide +kernel
theorem g__law_own_kinds_0_NoName : glB sc__law_own_kinds "NoName" = true := by decide +kernel
theorem g__law_own_kinds_0_NoNames : glB sc__law_own_kinds "NoNames" = true := by decide +kernel
theorem g__law_own_kinds_0_NoNumber : glB sc__law_own_kinds "NoNumber" = true := by decide +kernel
theorem g__law_own_kinds_0_NoOrder : glB sc__law_own_kinds "NoOrder" = true := by decide +kernel
theorem g__law_own_kinds_0_NoPlace : glB sc__law_own_kinds "NoPlace" = true := by decide +kernel
theorem g__law_own_kinds_0_NoRow : glB sc__law_own_kinds "NoRow" = true := by decide +kernel
theorem g__law_own_kinds_0_NoRung : glB sc__law_own_kinds "NoRung" = true := by decide +kernel
theorem g__law_own_kinds_0_NoSight : glB sc__law_own_kinds "NoSight" = true := by decide +kernel
theorem g__law_own_kinds_0_NotAlike : glB sc__law_own_kinds "NotAlike" = true := by decide +kernel
theorem g__law_own_kinds_0_NoTable : glB sc__law_own_kinds "NoTable" = true := by decide +kernel
theorem g__law_own_kinds_0_NotOneOne : glB sc__law_own_kinds "NotOneOne" = true := by decide +kernel
theorem g__law_own_kinds_0_NotPart : glB sc__law_own_kinds "NotPart" = true := by decide +kernel
theorem g__law_own_kinds_0_NotSided : glB sc__law_own_kinds "NotSided" = true := by decide +kernel
theorem g__law_own_kinds_0_NotThree : glB sc__law_own_kinds "NotThree" = true := by decide +kernel
theorem g__law_own_kinds_0_NotTwice : glB sc__law_own_kinds "NotTwice" = true := by decide +kernel
theorem g__law_own_kinds_0_NotWell : glB sc__law_own_kinds "NotWell" = true := by decide +kernel
theorem g__law_own_kinds_0_NoText : glB sc__law_own_kinds "NoText" = true := by decide +kernel
theorem g__law_own_kinds_0_NoWord : glB sc__law_own_kinds "NoWord" = true := by decide +kernel
theorem g__law_own_kinds_0_SameMark : glB sc__law_own_kinds "SameMark" = true := by decide +kernel
theorem g__law_own_kinds_0_Taken : glB sc__law_own_kinds "Taken" = true := by decide +kernel
theorem g__law_own_kinds_0_TooLong : glB sc__law_own_kinds "TooLong" = true := by decide +kernel
theorem g__law_own_kinds_0_TooMany : glB sc__law_own_kinds "TooMany" = true := by decide +kernel
theorem g__law_own_kinds_0_Unfit : glB sc__law_own_kinds "Unfit" = true := by decide +kernel
theorem g__law_own_kinds_0_Unread : glB sc__law_own_kinds "Unread" = true := by decide +kernel
theorem g__law_own_kinds_0_Unseen : glB sc__law_own_kinds "Unseen" = true := by decide +kernel
theorem fs__law_own_kinds : FnScope N__law_own_kinds ["_law_error"] sc__law_own_kinds := ⟨rfl, rfl, rfl, by decide +kernel, rfl, by decide +kernel, by decide +kernel⟩
def B__law_own_kinds : Fs := (seqS (setS 1 (lstF (consL (isxF it_Full (varD 0)) (consL (isxF it_Hidden (varD 0)) (consL (isxF it_Needed (varD 0)) (consL (isxF it_NoAsk (varD 0)) nilL))))))
  (seqS (setS 1 (binF addD (varR 1) (valF (fixF (lstF (consL (isxF it_NoDeed (varD 0)) (consL (isxF it_NoMark (varD 0)) (consL (isxF it_NoName (varD 0)) nilL))))))))
  (seqS (setS 1 (binF addD (varR 1) (valF (fixF (lstF (consL (isxF it_NoNames (varD 0)) (consL (isxF it_NoNumber (varD 0)) (consL (isxF it_NoOrder (varD 0)) nilL))))))))
  (seqS (setS 1 (binF addD (varR 1) (valF (fixF (lstF (consL (isxF it_NoPlace (varD 0)) (consL (isxF it_NoRow (varD 0)) (consL (isxF it_NoRung (varD 0)) nilL))))))))
  (seqS (setS 1 (binF addD (varR 1) (valF (fixF (lstF (consL (isxF it_NoSight (varD 0)) (consL (isxF it_NotAlike (varD 0)) (consL (isxF it_NoTable (varD 0)) nilL))))))))
  (seqS (setS 1 (binF addD (varR 1) (valF (fixF (lstF (consL (isxF it_NotOneOne (varD 0)) (consL (isxF it_NotPart (varD 0)) (consL (isxF it_NotSided (varD 0)) nilL))))))))
  (seqS (setS 1 (binF addD (varR 1) (valF (fixF (lstF (consL (isxF it_NotThree (varD 0)) (consL (isxF it_NotTwice (varD 0)) (consL (isxF it_NotWell (varD 0)) nilL))))))))
  (seqS (setS 1 (binF addD (varR 1) (valF (fixF (lstF (consL (isxF it_NoText (varD 0)) (consL (isxF it_NoWord (varD 0)) (consL (isxF it_SameMark (varD 0)) nilL))))))))
  (seqS (setS 1 (binF addD (varR 1) (valF (fixF (lstF (consL (isxF it_Taken (varD 0)) (consL (isxF it_TooLong (varD 0)) (consL (isxF it_TooMany (varD 0)) nilL))))))))
  (seqS (setS 1 (binF addD (varR 1) (valF (fixF (lstF (consL (isxF it_Unfit (varD 0)) (consL (isxF it_Unread (varD 0)) (consL (isxF it_Unseen (varD 0)) nilL))))))))
  (retS (immF (cntF (varR 1) (valF (constF (.bl true))))))))))))))))
def F__law_own_kinds : Fn := fun as => bodyF N__law_own_kinds.length (["_law_error"] : List Str).length B__law_own_kinds (id as)
/-! _law_all_right -/
abbrev s__law_all_right : Stmt := top 46
abbrev sc__law_all_right : Scope := defScope s__law_all_right
def N__law_all_right : List Str := ["_law_errors_here", "_law_base_here", "_law_e"]
abbrev bc__law_all_right_1 : Scope := { kind := .function, names := [(".0", .local), ("_law_e", .local), ("_law_base", .globalImplicit), ("_law_own_kinds", .globalImplicit), ("_law_base_here", .free)], isGenerator := false, isCoroutine := false, more := [] }
abbrev rc__law_all_right_1 : Scope := relS bc__law_all_right_1 sc__law_all_right
theorem v__law_all_right_0_0 : visB N__law_all_right sc__law_all_right 0 "_law_errors_here" = true := by decide +kernel
theorem t__law_all_right_1_2 : stB N__law_all_right bc__law_all_right_1 2 "_law_e" = true := by decide +kernel
theorem v__law_all_right_1_2 : visB N__law_all_right rc__law_all_right_1 2 "_law_e" = true := by decide +kernel
theorem g__law_all_right_1__law_base : glB rc__law_all_right_1 "_law_base" = true := by decide +kernel
theorem v__law_all_right_1_1 : visB N__law_all_right rc__law_all_right_1 1 "_law_base_here" = true := by decide +kernel
theorem g__law_all_right_1__law_own_kinds : glB rc__law_all_right_1 "_law_own_kinds" = true := by decide +kernel
theorem b__law_all_right_1 : blkC N__law_all_right sc__law_all_right bc__law_all_right_1 [("_law_e", 2)] = true := by decide +kernel
theorem fs__law_all_right : FnScope N__law_all_right ["_law_errors_here", "_law_base_here"] sc__law_all_right := ⟨rfl, rfl, rfl, by decide +kernel, rfl, by decide +kernel, by decide +kernel⟩
def B__law_all_right : Fs := (retS (immF (boolF (binB eqND (valF (fixF (compF (.nm 2) (seqF (varD 0)) (orB (binB neD (valF (fixF (userF 1 F__law_base (consA (valF (varD 2)) nilA)))) (varR 1)) (binB neD (valF (fixF (userF 1 F__law_own_kinds (consA (valF (varD 2)) nilA)))) (valF (constF (.int 1))))) (varD 2) [2]))) (valF (fixF (lstF nilL)))))))
def F__law_all_right : Fn := fun as => bodyF N__law_all_right.length (["_law_errors_here", "_law_base_here"] : List Str).length B__law_all_right (id as)
/-! _law_same -/
abbrev s__law_same : Stmt := top 47
abbrev sc__law_same : Scope := defScope s__law_same
def N__law_same : List Str := ["_law_held", "_law_value_here", "_law_one"]
abbrev bc__law_same_1 : Scope := { kind := .function, names := [(".0", .local), ("_law_one", .local), ("repr", .globalImplicit), ("isinstance", .globalImplicit), ("bool", .globalImplicit), ("_law_value_here", .free)], isGenerator := false, isCoroutine := false, more := [] }
abbrev rc__law_same_1 : Scope := relS bc__law_same_1 sc__law_same
theorem v__law_same_0_0 : visB N__law_same sc__law_same 0 "_law_held" = true := by decide +kernel
theorem t__law_same_1_2 : stB N__law_same bc__law_same_1 2 "_law_one" = true := by decide +kernel
theorem v__law_same_1_2 : visB N__law_same rc__law_same_1 2 "_law_one" = true := by decide +kernel
theorem g__law_same_1_repr : glB rc__law_same_1 "repr" = true := by decide +kernel
theorem v__law_same_1_1 : visB N__law_same rc__law_same_1 1 "_law_value_here" = true := by decide +kernel
theorem g__law_same_1_isinstance : glB rc__law_same_1 "isinstance" = true := by decide +kernel
theorem g__law_same_1_bool : glB rc__law_same_1 "bool" = true := by decide +kernel
theorem b__law_same_1 : blkC N__law_same sc__law_same bc__law_same_1 [("_law_one", 2)] = true := by decide +kernel
theorem fs__law_same : FnScope N__law_same ["_law_held", "_law_value_here"] sc__law_same := ⟨rfl, rfl, rfl, by decide +kernel, rfl, by decide +kernel, by decide +kernel⟩
def B__law_same : Fs := (retS (immF (boolF (binB eqND (valF (fixF (compF (.nm 2) (seqF (varD 0)) (orB (binB neD (valF (fixF (callF reprGD (consA (varR 2) nilA)))) (valF (fixF (callF reprGD (consA (varR 1) nilA))))) (binB neD (valF (isiF "bool" (varR 2))) (valF (isiF "bool" (varR 1))))) (varD 2) [2]))) (valF (fixF (lstF nilL)))))))
def F__law_same : Fn := fun as => bodyF N__law_same.length (["_law_held", "_law_value_here"] : List Str).length B__law_same (id as)
/-! _law_value_errors_right -/
abbrev s__law_value_errors_right : Stmt := top 48
abbrev sc__law_value_errors_right : Scope := defScope s__law_value_errors_right
def N__law_value_errors_right : List Str := ["_law_value_here", "_law_made", "_law_held"]
theorem t__law_value_errors_right_0_1 : stB N__law_value_errors_right sc__law_value_errors_right 1 "_law_made" = true := by decide +kernel
theorem v__law_value_errors_right_0_0 : visB N__law_value_errors_right sc__law_value_errors_right 0 "_law_value_here" = true := by decide +kernel
theorem g__law_value_errors_right_0_NoTable : glB sc__law_value_errors_right "NoTable" = true := by decide +kernel
theorem g__law_value_errors_right_0_NoMark : glB sc__law_value_errors_right "NoMark" = true := by decide +kernel
theorem g__law_value_errors_right_0_NoRow : glB sc__law_value_errors_right "NoRow" = true := by decide +kernel
theorem v__law_value_errors_right_0_1 : visB N__law_value_errors_right sc__law_value_errors_right 1 "_law_made" = true := by decide +kernel
theorem g__law_value_errors_right_0_NoWord : glB sc__law_value_errors_right "NoWord" = true := by decide +kernel
theorem g__law_value_errors_right_0_NoOrder : glB sc__law_value_errors_right "NoOrder" = true := by decide +kernel
theorem g__law_value_errors_right_0_NoRung : glB sc__law_value_errors_right "NoRung" = true := by decide +kernel
theorem g__law_value_errors_right_0_NotAlike : glB sc__law_value_errors_right "NotAlike" = true := by decide +kernel
theorem g__law_value_errors_right_0_NoNames : glB sc__law_value_errors_right "NoNames" = true := by decide +kernel
theorem g__law_value_errors_right_0_NotWell : glB sc__law_value_errors_right "NotWell" = true := by decide +kernel
theorem g__law_value_errors_right_0_NotPart : glB sc__law_value_errors_right "NotPart" = true := by decide +kernel
theorem g__law_value_errors_right_0_SameMark : glB sc__law_value_errors_right "SameMark" = true := by decide +kernel
theorem g__law_value_errors_right_0_NoText : glB sc__law_value_errors_right "NoText" = true := by decide +kernel
theorem g__law_value_errors_right_0_NoSight : glB sc__law_value_errors_right "NoSight" = true := by decide +kernel
theorem g__law_value_errors_right_0_NoDeed : glB sc__law_value_errors_right "NoDeed" = true := by decide +kernel
theorem g__law_value_errors_right_0_NoAsk : glB sc__law_value_errors_right "NoAsk" = true := by decide +kernel
theorem g__law_value_errors_right_0_Unread : glB sc__law_value_errors_right "Unread" = true := by decide +kernel
theorem g__law_value_errors_right_0_Unseen : glB sc__law_value_errors_right "Unseen" = true := by decide +kernel
theorem g__law_value_errors_right_0_Unfit : glB sc__law_value_errors_right "Unfit" = true := by decide +kernel
theorem t__law_value_errors_right_0_2 : stB N__law_value_errors_right sc__law_value_errors_right 2 "_law_held" = true := by decide +kernel
theorem v__law_value_errors_right_0_2 : visB N__law_value_errors_right sc__law_value_errors_right 2 "_law_held" = true := by decide +kernel
theorem g__law_value_errors_right_0__law_all_right : glB sc__law_value_errors_right "_law_all_right" = true := by decide +kernel
theorem g__law_value_errors_right_0__law_same : glB sc__law_value_errors_right "_law_same" = true := by decide +kernel
theorem fs__law_value_errors_right : FnScope N__law_value_errors_right ["_law_value_here"] sc__law_value_errors_right := ⟨rfl, rfl, rfl, by decide +kernel, rfl, by decide +kernel, by decide +kernel⟩
def B__law_value_errors_right : Fs := (seqS (setS 1 (lstF (consL (fixF (immF (mkxF "NoTable" (initF "field" (F_copied 8)) (chkL 1 (consL (varD 0) nilL))))) (consL (fixF (immF (mkxF "NoTable" (initF "field" (F_copied 8)) (consL (varD 0) nilL)))) (consL (fixF (immF (mkxF "NoMark" (initF "mark" (F_copied 8)) (chkL 1 (consL (varD 0) nilL))))) (consL (fixF (immF (mkxF "NoMark" (initF "mark" (F_copied 8)) (consL (varD 0) nilL)))) (consL (fixF (immF (mkxF "NoRow" (initF "at" (F_copied 8)) (chkL 1 (consL (varD 0) nilL))))) (consL (fixF (immF (mkxF "NoRow" (initF "at" (F_copied 8)) (consL (varD 0) nilL)))) nilL))))))))
  (seqS (setS 1 (binF addD (varR 1) (valF (fixF (lstF (consL (fixF (immF (mkxF "NoWord" (initF "at" (F_copied 8)) (chkL 1 (consL (varD 0) nilL))))) (consL (fixF (immF (mkxF "NoWord" (initF "at" (F_copied 8)) (consL (varD 0) nilL)))) (consL (fixF (immF (mkxF "NoOrder" (initF "at" (F_copied 8)) (chkL 1 (consL (varD 0) nilL))))) (consL (fixF (immF (mkxF "NoOrder" (initF "at" (F_copied 8)) (consL (varD 0) nilL)))) (consL (fixF (immF (mkxF "NoRung" (initF "rung" (F_copied 8)) (chkL 1 (consL (varD 0) nilL))))) (consL (fixF (immF (mkxF "NotAlike" initF0 nilL))) nilL)))))))))))
  (seqS (setS 1 (binF addD (varR 1) (valF (fixF (lstF (consL (fixF (immF (mkxF "NoRung" (initF "rung" (F_copied 8)) (consL (varD 0) nilL)))) (consL (fixF (immF (mkxF "NoNames" initF0 nilL))) (consL (fixF (immF (mkxF "NotWell" (initF "fault" (F_copied 8)) (chkL 1 (consL (varD 0) nilL))))) (consL (fixF (immF (mkxF "NotWell" (initF "fault" (F_copied 8)) (consL (varD 0) nilL)))) (consL (fixF (immF (mkxF "NotPart" (initF "pair" (F_copied 8)) (chkL 1 (consL (varD 0) nilL))))) nilL))))))))))
  (seqS (setS 1 (binF addD (varR 1) (valF (fixF (lstF (consL (fixF (immF (mkxF "NotPart" (initF "pair" (F_copied 8)) (consL (varD 0) nilL)))) (consL (fixF (immF (mkxF "SameMark" (initF "mark" (F_copied 8)) (chkL 1 (consL (varD 0) nilL))))) (consL (fixF (immF (mkxF "SameMark" (initF "mark" (F_copied 8)) (consL (varD 0) nilL)))) (consL (fixF (immF (mkxF "NoText" (initF "row" (F_copied 8)) (chkL 1 (consL (varD 0) nilL))))) (consL (fixF (immF (mkxF "NoText" (initF "row" (F_copied 8)) (consL (varD 0) nilL)))) nilL))))))))))
  (seqS (setS 1 (binF addD (varR 1) (valF (fixF (lstF (consL (fixF (immF (mkxF "NoSight" (initF "number" (F_copied 8)) (chkL 1 (consL (varD 0) nilL))))) (consL (fixF (immF (mkxF "NoSight" (initF "number" (F_copied 8)) (consL (varD 0) nilL)))) (consL (fixF (immF (mkxF "NoDeed" (initF "number" (F_copied 8)) (chkL 1 (consL (varD 0) nilL))))) (consL (fixF (immF (mkxF "NoDeed" (initF "number" (F_copied 8)) (consL (varD 0) nilL)))) (consL (fixF (immF (mkxF "NoAsk" (initF "row" (F_copied 8)) (chkL 1 (consL (varD 0) nilL))))) nilL))))))))))
  (seqS (setS 1 (binF addD (varR 1) (valF (fixF (lstF (consL (fixF (immF (mkxF "NoAsk" (initF "row" (F_copied 8)) (consL (varD 0) nilL)))) (consL (fixF (immF (mkxF "Unread" (initF "row" (F_copied 8)) (chkL 1 (consL (varD 0) nilL))))) (consL (fixF (immF (mkxF "Unread" (initF "row" (F_copied 8)) (consL (varD 0) nilL)))) (consL (fixF (immF (mkxF "Unseen" (initF "name" (F_copied 8)) (chkL 1 (consL (varD 0) nilL))))) (consL (fixF (immF (mkxF "Unseen" (initF "name" (F_copied 8)) (consL (varD 0) nilL)))) nilL))))))))))
  (seqS (setS 1 (binF addD (varR 1) (valF (fixF (lstF (consL (fixF (immF (mkxF "Unfit" (initF "name" (F_copied 8)) (chkL 1 (consL (varD 0) nilL))))) (consL (fixF (immF (mkxF "Unfit" (initF "name" (F_copied 8)) (consL (varD 0) nilL)))) nilL)))))))
  (seqS (setS 2 (lstF (consL (excF xtL "field" (fixF (immF (mkxF "NoTable" (initF "field" (F_copied 8)) (chkL 1 (consL (varD 0) nilL)))))) (consL (excF xtL "field" (fixF (immF (mkxF "NoTable" (initF "field" (F_copied 8)) (consL (varD 0) nilL))))) (consL (excF xtL "mark" (fixF (immF (mkxF "NoMark" (initF "mark" (F_copied 8)) (chkL 1 (consL (varD 0) nilL)))))) (consL (excF xtL "mark" (fixF (immF (mkxF "NoMark" (initF "mark" (F_copied 8)) (consL (varD 0) nilL))))) nilL))))))
  (seqS (setS 2 (binF addD (varR 2) (valF (fixF (lstF (consL (excF xtL "at" (fixF (immF (mkxF "NoRow" (initF "at" (F_copied 8)) (chkL 1 (consL (varD 0) nilL)))))) (consL (excF xtL "at" (fixF (immF (mkxF "NoRow" (initF "at" (F_copied 8)) (consL (varD 0) nilL))))) (consL (excF xtL "at" (fixF (immF (mkxF "NoWord" (initF "at" (F_copied 8)) (chkL 1 (consL (varD 0) nilL)))))) (consL (excF xtL "at" (fixF (immF (mkxF "NoWord" (initF "at" (F_copied 8)) (consL (varD 0) nilL))))) (consL (excF xtL "at" (fixF (immF (mkxF "NoOrder" (initF "at" (F_copied 8)) (chkL 1 (consL (varD 0) nilL)))))) nilL))))))))))
  (seqS (setS 2 (binF addD (varR 2) (valF (fixF (lstF (consL (excF xtL "at" (fixF (immF (mkxF "NoOrder" (initF "at" (F_copied 8)) (consL (varD 0) nilL))))) (consL (excF xtL "rung" (fixF (immF (mkxF "NoRung" (initF "rung" (F_copied 8)) (chkL 1 (consL (varD 0) nilL)))))) (consL (excF xtL "rung" (fixF (immF (mkxF "NoRung" (initF "rung" (F_copied 8)) (consL (varD 0) nilL))))) (consL (excF xtL "fault" (fixF (immF (mkxF "NotWell" (initF "fault" (F_copied 8)) (chkL 1 (consL (varD 0) nilL)))))) nilL)))))))))
  (seqS (setS 2 (binF addD (varR 2) (valF (fixF (lstF (consL (excF xtL "fault" (fixF (immF (mkxF "NotWell" (initF "fault" (F_copied 8)) (consL (varD 0) nilL))))) (consL (excF xtL "pair" (fixF (immF (mkxF "NotPart" (initF "pair" (F_copied 8)) (chkL 1 (consL (varD 0) nilL)))))) (consL (excF xtL "pair" (fixF (immF (mkxF "NotPart" (initF "pair" (F_copied 8)) (consL (varD 0) nilL))))) (consL (excF xtL "mark" (fixF (immF (mkxF "SameMark" (initF "mark" (F_copied 8)) (chkL 1 (consL (varD 0) nilL)))))) nilL)))))))))
  (seqS (setS 2 (binF addD (varR 2) (valF (fixF (lstF (consL (excF xtL "mark" (fixF (immF (mkxF "SameMark" (initF "mark" (F_copied 8)) (consL (varD 0) nilL))))) (consL (excF xtL "row" (fixF (immF (mkxF "NoText" (initF "row" (F_copied 8)) (chkL 1 (consL (varD 0) nilL)))))) (consL (excF xtL "row" (fixF (immF (mkxF "NoText" (initF "row" (F_copied 8)) (consL (varD 0) nilL))))) (consL (excF xtL "number" (fixF (immF (mkxF "NoSight" (initF "number" (F_copied 8)) (chkL 1 (consL (varD 0) nilL)))))) nilL)))))))))
  (seqS (setS 2 (binF addD (varR 2) (valF (fixF (lstF (consL (excF xtL "number" (fixF (immF (mkxF "NoSight" (initF "number" (F_copied 8)) (consL (varD 0) nilL))))) (consL (excF xtL "number" (fixF (immF (mkxF "NoDeed" (initF "number" (F_copied 8)) (chkL 1 (consL (varD 0) nilL)))))) (consL (excF xtL "number" (fixF (immF (mkxF "NoDeed" (initF "number" (F_copied 8)) (consL (varD 0) nilL))))) nilL))))))))
  (seqS (setS 2 (binF addD (varR 2) (valF (fixF (lstF (consL (excF xtL "row" (fixF (immF (mkxF "NoAsk" (initF "row" (F_copied 8)) (chkL 1 (consL (varD 0) nilL)))))) (consL (excF xtL "row" (fixF (immF (mkxF "NoAsk" (initF "row" (F_copied 8)) (consL (varD 0) nilL))))) (consL (excF xtL "row" (fixF (immF (mkxF "Unread" (initF "row" (F_copied 8)) (chkL 1 (consL (varD 0) nilL)))))) (consL (excF xtL "row" (fixF (immF (mkxF "Unread" (initF "row" (F_copied 8)) (consL (varD 0) nilL))))) nilL)))))))))
  (seqS (setS 2 (binF addD (varR 2) (valF (fixF (lstF (consL (excF xtL "name" (fixF (immF (mkxF "Unseen" (initF "name" (F_copied 8)) (chkL 1 (consL (varD 0) nilL)))))) (consL (excF xtL "name" (fixF (immF (mkxF "Unseen" (initF "name" (F_copied 8)) (consL (varD 0) nilL))))) (consL (excF xtL "name" (fixF (immF (mkxF "Unfit" (initF "name" (F_copied 8)) (chkL 1 (consL (varD 0) nilL)))))) (consL (excF xtL "name" (fixF (immF (mkxF "Unfit" (initF "name" (F_copied 8)) (consL (varD 0) nilL))))) nilL)))))))))
  (retS (immF (andD (fixF (userF 2 F__law_all_right (consA (valF (varD 1)) (consA (valF (constF (.str "value"))) nilA)))) (fixF (userF 2 F__law_same (consA (valF (varD 2)) (consA (valF (varD 0)) nilA))))))))))))))))))))))
def F__law_value_errors_right : Fn := fun as => bodyF N__law_value_errors_right.length (["_law_value_here"] : List Str).length B__law_value_errors_right (id as)
/-! _law_fault_errors_right -/
abbrev s__law_fault_errors_right : Stmt := top 49
abbrev sc__law_fault_errors_right : Scope := defScope s__law_fault_errors_right
def N__law_fault_errors_right : List Str := ["_law_value_here", "_law_made", "_law_held"]
theorem t__law_fault_errors_right_0_1 : stB N__law_fault_errors_right sc__law_fault_errors_right 1 "_law_made" = true := by decide +kernel
theorem v__law_fault_errors_right_0_0 : visB N__law_fault_errors_right sc__law_fault_errors_right 0 "_law_value_here" = true := by decide +kernel
theorem g__law_fault_errors_right_0_NotThree : glB sc__law_fault_errors_right "NotThree" = true := by decide +kernel
theorem g__law_fault_errors_right_0_NotSided : glB sc__law_fault_errors_right "NotSided" = true := by decide +kernel
theorem g__law_fault_errors_right_0_NotTwice : glB sc__law_fault_errors_right "NotTwice" = true := by decide +kernel
theorem v__law_fault_errors_right_0_1 : visB N__law_fault_errors_right sc__law_fault_errors_right 1 "_law_made" = true := by decide +kernel
theorem g__law_fault_errors_right_0_NotOneOne : glB sc__law_fault_errors_right "NotOneOne" = true := by decide +kernel
theorem t__law_fault_errors_right_0_2 : stB N__law_fault_errors_right sc__law_fault_errors_right 2 "_law_held" = true := by decide +kernel
theorem v__law_fault_errors_right_0_2 : visB N__law_fault_errors_right sc__law_fault_errors_right 2 "_law_held" = true := by decide +kernel
theorem g__law_fault_errors_right_0__law_all_right : glB sc__law_fault_errors_right "_law_all_right" = true := by decide +kernel
theorem g__law_fault_errors_right_0__law_same : glB sc__law_fault_errors_right "_law_same" = true := by decide +kernel
theorem g__law_fault_errors_right_0_TooMany : glB sc__law_fault_errors_right "TooMany" = true := by decide +kernel
theorem g__law_fault_errors_right_0_TooLong : glB sc__law_fault_errors_right "TooLong" = true := by decide +kernel
theorem fs__law_fault_errors_right : FnScope N__law_fault_errors_right ["_law_value_here"] sc__law_fault_errors_right := ⟨rfl, rfl, rfl, by decide +kernel, rfl, by decide +kernel, by decide +kernel⟩
def B__law_fault_errors_right : Fs := (seqS (setS 1 (lstF (consL (fixF (immF (mkxF "NotThree" (initF "fault" (F_copied 8)) (chkL 1 (consL (varD 0) nilL))))) (consL (fixF (immF (mkxF "NotThree" (initF "fault" (F_copied 8)) (consL (varD 0) nilL)))) (consL (fixF (immF (mkxF "NotSided" (initF "fault" (F_copied 8)) (chkL 1 (consL (varD 0) nilL))))) (consL (fixF (immF (mkxF "NotSided" (initF "fault" (F_copied 8)) (consL (varD 0) nilL)))) (consL (fixF (immF (mkxF "NotTwice" (initF "fault" (F_copied 8)) (chkL 1 (consL (varD 0) nilL))))) nilL)))))))
  (seqS (setS 1 (binF addD (varR 1) (valF (fixF (lstF (consL (fixF (immF (mkxF "NotTwice" (initF "fault" (F_copied 8)) (consL (varD 0) nilL)))) (consL (fixF (immF (mkxF "NotOneOne" (initF "fault" (F_copied 8)) (chkL 1 (consL (varD 0) nilL))))) (consL (fixF (immF (mkxF "NotOneOne" (initF "fault" (F_copied 8)) (consL (varD 0) nilL)))) nilL))))))))
  (seqS (setS 2 (lstF (consL (excF xtL "fault" (fixF (immF (mkxF "NotThree" (initF "fault" (F_copied 8)) (chkL 1 (consL (varD 0) nilL)))))) (consL (excF xtL "fault" (fixF (immF (mkxF "NotThree" (initF "fault" (F_copied 8)) (consL (varD 0) nilL))))) (consL (excF xtL "fault" (fixF (immF (mkxF "NotSided" (initF "fault" (F_copied 8)) (chkL 1 (consL (varD 0) nilL)))))) (consL (excF xtL "fault" (fixF (immF (mkxF "NotSided" (initF "fault" (F_copied 8)) (consL (varD 0) nilL))))) nilL))))))
  (seqS (setS 2 (binF addD (varR 2) (valF (fixF (lstF (consL (excF xtL "fault" (fixF (immF (mkxF "NotTwice" (initF "fault" (F_copied 8)) (chkL 1 (consL (varD 0) nilL)))))) (consL (excF xtL "fault" (fixF (immF (mkxF "NotTwice" (initF "fault" (F_copied 8)) (consL (varD 0) nilL))))) (consL (excF xtL "fault" (fixF (immF (mkxF "NotOneOne" (initF "fault" (F_copied 8)) (chkL 1 (consL (varD 0) nilL)))))) nilL))))))))
  (seqS (setS 2 (binF addD (varR 2) (valF (fixF (lstF (consL (excF xtL "fault" (fixF (immF (mkxF "NotOneOne" (initF "fault" (F_copied 8)) (consL (varD 0) nilL))))) nilL))))))
  (seqS (ifS (orB (notB (truF (valF (fixF (userF 2 F__law_all_right (consA (valF (varD 1)) (consA (valF (constF (.str "runtime"))) nilA))))))) (notB (truF (valF (fixF (userF 2 F__law_same (consA (valF (varD 2)) (consA (valF (varD 0)) nilA)))))))) (retS (immF (constF (.bl false)))) skipS)
  (seqS (setS 1 (lstF (consL (fixF (immF (mkxF "TooMany" (initF "most" (F_copied 8)) (chkL 1 (consL (varD 0) nilL))))) (consL (fixF (immF (mkxF "TooMany" (initF "most" (F_copied 8)) (consL (varD 0) nilL)))) (consL (fixF (immF (mkxF "TooLong" (initF "most" (F_copied 8)) (chkL 1 (consL (varD 0) nilL))))) (consL (fixF (immF (mkxF "TooLong" (initF "most" (F_copied 8)) (consL (varD 0) nilL)))) nilL))))))
  (seqS (setS 2 (lstF (consL (excF xtL "most" (fixF (immF (mkxF "TooMany" (initF "most" (F_copied 8)) (chkL 1 (consL (varD 0) nilL)))))) (consL (excF xtL "most" (fixF (immF (mkxF "TooMany" (initF "most" (F_copied 8)) (consL (varD 0) nilL))))) (consL (excF xtL "most" (fixF (immF (mkxF "TooLong" (initF "most" (F_copied 8)) (chkL 1 (consL (varD 0) nilL)))))) (consL (excF xtL "most" (fixF (immF (mkxF "TooLong" (initF "most" (F_copied 8)) (consL (varD 0) nilL))))) nilL))))))
  (retS (immF (andD (fixF (userF 2 F__law_all_right (consA (valF (varD 1)) (consA (valF (constF (.str "arithmetic"))) nilA)))) (fixF (userF 2 F__law_same (consA (valF (varD 2)) (consA (valF (varD 0)) nilA)))))))))))))))
def F__law_fault_errors_right : Fn := fun as => bodyF N__law_fault_errors_right.length (["_law_value_here"] : List Str).length B__law_fault_errors_right (id as)
/-! _law_lookup_errors_right -/
abbrev s__law_lookup_errors_right : Stmt := top 50
abbrev sc__law_lookup_errors_right : Scope := defScope s__law_lookup_errors_right
def N__law_lookup_errors_right : List Str := ["_law_value_here", "_law_made", "_law_held"]
theorem t__law_lookup_errors_right_0_1 : stB N__law_lookup_errors_right sc__law_lookup_errors_right 1 "_law_made" = true := by decide +kernel
theorem v__law_lookup_errors_right_0_0 : visB N__law_lookup_errors_right sc__law_lookup_errors_right 0 "_law_value_here" = true := by decide +kernel
theorem g__law_lookup_errors_right_0_NoNumber : glB sc__law_lookup_errors_right "NoNumber" = true := by decide +kernel
theorem g__law_lookup_errors_right_0_NoPlace : glB sc__law_lookup_errors_right "NoPlace" = true := by decide +kernel
theorem g__law_lookup_errors_right_0_Full : glB sc__law_lookup_errors_right "Full" = true := by decide +kernel
theorem v__law_lookup_errors_right_0_1 : visB N__law_lookup_errors_right sc__law_lookup_errors_right 1 "_law_made" = true := by decide +kernel
theorem t__law_lookup_errors_right_0_2 : stB N__law_lookup_errors_right sc__law_lookup_errors_right 2 "_law_held" = true := by decide +kernel
theorem v__law_lookup_errors_right_0_2 : visB N__law_lookup_errors_right sc__law_lookup_errors_right 2 "_law_held" = true := by decide +kernel
theorem g__law_lookup_errors_right_0__law_all_right : glB sc__law_lookup_errors_right "_law_all_right" = true := by decide +kernel
theorem g__law_lookup_errors_right_0__law_same : glB sc__law_lookup_errors_right "_law_same" = true := by decide +kernel
theorem g__law_lookup_errors_right_0_NoName : glB sc__law_lookup_errors_right "NoName" = true := by decide +kernel
theorem g__law_lookup_errors_right_0_Taken : glB sc__law_lookup_errors_right "Taken" = true := by decide +kernel
theorem g__law_lookup_errors_right_0_Needed : glB sc__law_lookup_errors_right "Needed" = true := by decide +kernel
theorem g__law_lookup_errors_right_0_Hidden : glB sc__law_lookup_errors_right "Hidden" = true := by decide +kernel
theorem fs__law_lookup_errors_right : FnScope N__law_lookup_errors_right ["_law_value_here"] sc__law_lookup_errors_right := ⟨rfl, rfl, rfl, by decide +kernel, rfl, by decide +kernel, by decide +kernel⟩
def B__law_lookup_errors_right : Fs := (seqS (setS 1 (lstF (consL (fixF (immF (mkxF "NoNumber" (initF "number" (F_copied 8)) (chkL 1 (consL (varD 0) nilL))))) (consL (fixF (immF (mkxF "NoNumber" (initF "number" (F_copied 8)) (consL (varD 0) nilL)))) (consL (fixF (immF (mkxF "NoPlace" (initF "place" (F_copied 8)) (chkL 1 (consL (varD 0) nilL))))) (consL (fixF (immF (mkxF "NoPlace" (initF "place" (F_copied 8)) (consL (varD 0) nilL)))) (consL (fixF (immF (mkxF "Full" (initF "most" (F_copied 8)) (chkL 1 (consL (varD 0) nilL))))) nilL)))))))
  (seqS (dropS (mutF appendG (varR 1) (consL (fixF (immF (mkxF "Full" (initF "most" (F_copied 8)) (consL (varD 0) nilL)))) nilL)))
  (seqS (setS 2 (lstF (consL (excF xtL "number" (fixF (immF (mkxF "NoNumber" (initF "number" (F_copied 8)) (chkL 1 (consL (varD 0) nilL)))))) (consL (excF xtL "number" (fixF (immF (mkxF "NoNumber" (initF "number" (F_copied 8)) (consL (varD 0) nilL))))) (consL (excF xtL "place" (fixF (immF (mkxF "NoPlace" (initF "place" (F_copied 8)) (chkL 1 (consL (varD 0) nilL)))))) (consL (excF xtL "place" (fixF (immF (mkxF "NoPlace" (initF "place" (F_copied 8)) (consL (varD 0) nilL))))) nilL))))))
  (seqS (setS 2 (binF addD (varR 2) (valF (fixF (lstF (consL (excF xtL "most" (fixF (immF (mkxF "Full" (initF "most" (F_copied 8)) (chkL 1 (consL (varD 0) nilL)))))) (consL (excF xtL "most" (fixF (immF (mkxF "Full" (initF "most" (F_copied 8)) (consL (varD 0) nilL))))) nilL)))))))
  (seqS (ifS (orB (notB (truF (valF (fixF (userF 2 F__law_all_right (consA (valF (varD 1)) (consA (valF (constF (.str "index"))) nilA))))))) (notB (truF (valF (fixF (userF 2 F__law_same (consA (valF (varD 2)) (consA (valF (varD 0)) nilA)))))))) (retS (immF (constF (.bl false)))) skipS)
  (seqS (setS 1 (lstF (consL (fixF (immF (mkxF "NoName" (initF "name" (F_copied 8)) (chkL 1 (consL (varD 0) nilL))))) (consL (fixF (immF (mkxF "NoName" (initF "name" (F_copied 8)) (consL (varD 0) nilL)))) (consL (fixF (immF (mkxF "Taken" (initF "name" (F_copied 8)) (chkL 1 (consL (varD 0) nilL))))) (consL (fixF (immF (mkxF "Taken" (initF "name" (F_copied 8)) (consL (varD 0) nilL)))) nilL))))))
  (seqS (setS 2 (lstF (consL (excF xtL "name" (fixF (immF (mkxF "NoName" (initF "name" (F_copied 8)) (chkL 1 (consL (varD 0) nilL)))))) (consL (excF xtL "name" (fixF (immF (mkxF "NoName" (initF "name" (F_copied 8)) (consL (varD 0) nilL))))) (consL (excF xtL "name" (fixF (immF (mkxF "Taken" (initF "name" (F_copied 8)) (chkL 1 (consL (varD 0) nilL)))))) (consL (excF xtL "name" (fixF (immF (mkxF "Taken" (initF "name" (F_copied 8)) (consL (varD 0) nilL))))) nilL))))))
  (seqS (ifS (orB (notB (truF (valF (fixF (userF 2 F__law_all_right (consA (valF (varD 1)) (consA (valF (constF (.str "key"))) nilA))))))) (notB (truF (valF (fixF (userF 2 F__law_same (consA (valF (varD 2)) (consA (valF (varD 0)) nilA)))))))) (retS (immF (constF (.bl false)))) skipS)
  (seqS (setS 1 (lstF (consL (fixF (immF (mkxF "Needed" (initF "name" (F_copied 8)) (chkL 1 (consL (varD 0) nilL))))) (consL (fixF (immF (mkxF "Needed" (initF "name" (F_copied 8)) (consL (varD 0) nilL)))) (consL (fixF (immF (mkxF "Hidden" (initF "name" (F_copied 8)) (chkL 1 (consL (varD 0) nilL))))) (consL (fixF (immF (mkxF "Hidden" (initF "name" (F_copied 8)) (consL (varD 0) nilL)))) nilL))))))
  (seqS (setS 2 (lstF (consL (excF xtL "name" (fixF (immF (mkxF "Needed" (initF "name" (F_copied 8)) (chkL 1 (consL (varD 0) nilL)))))) (consL (excF xtL "name" (fixF (immF (mkxF "Needed" (initF "name" (F_copied 8)) (consL (varD 0) nilL))))) (consL (excF xtL "name" (fixF (immF (mkxF "Hidden" (initF "name" (F_copied 8)) (chkL 1 (consL (varD 0) nilL)))))) (consL (excF xtL "name" (fixF (immF (mkxF "Hidden" (initF "name" (F_copied 8)) (consL (varD 0) nilL))))) nilL))))))
  (retS (immF (andD (fixF (userF 2 F__law_all_right (consA (valF (varD 1)) (consA (valF (constF (.str "lookup"))) nilA)))) (fixF (userF 2 F__law_same (consA (valF (varD 2)) (consA (valF (varD 0)) nilA)))))))))))))))))
def F__law_lookup_errors_right : Fn := fun as => bodyF N__law_lookup_errors_right.length (["_law_value_here"] : List Str).length B__law_lookup_errors_right (id as)
/-! law -/
abbrev s_law : Stmt := top 51
abbrev sc_law : Scope := defScope s_law
def N_law : List Str := ["_law_script", "_law_pen_here", "_law_turn", "_law_value_here"]
theorem t_law_0_1 : stB N_law sc_law 1 "_law_pen_here" = true := by decide +kernel
theorem v_law_0_0 : visB N_law sc_law 0 "_law_script" = true := by decide +kernel
theorem g_law_0__law_pen : glB sc_law "_law_pen" = true := by decide +kernel
theorem g_law_0_PLACES : glB sc_law "PLACES" = true := by decide +kernel
theorem g_law_0_SHORT : glB sc_law "SHORT" = true := by decide +kernel
theorem g_law_0_MOST : glB sc_law "MOST" = true := by decide +kernel
theorem g_law_0_HIDDEN : glB sc_law "HIDDEN" = true := by decide +kernel
theorem g_law_0_WORD : glB sc_law "WORD" = true := by decide +kernel
theorem g_law_0_GONE : glB sc_law "GONE" = true := by decide +kernel
theorem g_law_0_range : glB sc_law "range" = true := by decide +kernel
theorem t_law_0_2 : stB N_law sc_law 2 "_law_turn" = true := by decide +kernel
theorem t_law_0_3 : stB N_law sc_law 3 "_law_value_here" = true := by decide +kernel
theorem v_law_0_1 : visB N_law sc_law 1 "_law_pen_here" = true := by decide +kernel
theorem g_law_0__law_value : glB sc_law "_law_value" = true := by decide +kernel
theorem v_law_0_3 : visB N_law sc_law 3 "_law_value_here" = true := by decide +kernel
theorem g_law_0__law_value_errors_right : glB sc_law "_law_value_errors_right" = true := by decide +kernel
theorem g_law_0__law_fault_errors_right : glB sc_law "_law_fault_errors_right" = true := by decide +kernel
theorem g_law_0__law_lookup_errors_right : glB sc_law "_law_lookup_errors_right" = true := by decide +kernel
theorem fs_law : FnScope N_law ["_law_script"] sc_law := ⟨rfl, rfl, rfl, by decide +kernel, rfl, by decide +kernel, by decide +kernel⟩
def B_law : Fs := (seqS (setS 1 (userF 1 F__law_pen (consA (valF (varD 0)) nilA)))
  (seqS (ifS (binB neD (valF (fixF (lstF (consL (constF (.int 60)) (consL (constF (.int 8)) (consL (constF (.int 2000)) (consL (constF (.int 4)) (consL (constF (.int 2000)) (consL (constF (.int 60)) nilL))))))))) (valF (fixF (lstF (consL (constF (.int 60)) (consL (constF (.int 8)) (consL (constF (.int 2000)) (consL (constF (.int 4)) (consL (constF (.int 2000)) (consL (constF (.int 60)) nilL)))))))))) (retS (immF (constF (.bl false)))) skipS)
  (seqS (forS (.nm 2) (rngF rng1 (consA (valF (constF (.int 4))) nilA)) ((seqS (setS 3 (userF 1 F__law_value (consA (varR 1) nilA)))
  (seqS (ifS (orB (notB (truF (valF (fixF (userF 1 F__law_value_errors_right (consA (valF (varD 3)) nilA)))))) (notB (truF (valF (fixF (userF 1 F__law_fault_errors_right (consA (valF (varD 3)) nilA))))))) (retS (immF (constF (.bl false)))) skipS)
  (ifS (notB (truF (valF (fixF (userF 1 F__law_lookup_errors_right (consA (valF (varD 3)) nilA)))))) (retS (immF (constF (.bl false)))) skipS)))))
  (retS (immF (constF (.bl true)))))))
def F_law : Fn := fun as => bodyF N_law.length (["_law_script"] : List Str).length B_law (id as)
/-! what the walk leans on -/
structure Txt (Θ : Th) : Prop where
  x_Full : XDefV Θ "Full" "Full.__init__" s_Full___init__ "self" "most" "most" "IndexError" "full" "IndexError" "IndexError.__new__" "IndexError.__init__" [.type "IndexError", .type "LookupError", .type "Exception", .type "BaseException", .type "object"]
  e_Full : XKn Θ "Full" ["most"]
  x_Hidden : XDefV Θ "Hidden" "Hidden.__init__" s_Hidden___init__ "self" "name" "name" "LookupError" "hidden" "LookupError" "LookupError.__new__" "LookupError.__init__" [.type "LookupError", .type "Exception", .type "BaseException", .type "object"]
  e_Hidden : XKn Θ "Hidden" ["name"]
  x_Needed : XDefV Θ "Needed" "Needed.__init__" s_Needed___init__ "self" "name" "name" "LookupError" "needed" "LookupError" "LookupError.__new__" "LookupError.__init__" [.type "LookupError", .type "Exception", .type "BaseException", .type "object"]
  e_Needed : XKn Θ "Needed" ["name"]
  x_NoAsk : XDefV Θ "NoAsk" "NoAsk.__init__" s_NoAsk___init__ "self" "row" "row" "ValueError" "no ask" "ValueError" "ValueError.__new__" "ValueError.__init__" [.type "ValueError", .type "Exception", .type "BaseException", .type "object"]
  e_NoAsk : XKn Θ "NoAsk" ["row"]
  x_NoDeed : XDefV Θ "NoDeed" "NoDeed.__init__" s_NoDeed___init__ "self" "number" "number" "ValueError" "no deed" "ValueError" "ValueError.__new__" "ValueError.__init__" [.type "ValueError", .type "Exception", .type "BaseException", .type "object"]
  e_NoDeed : XKn Θ "NoDeed" ["number"]
  x_NoMark : XDefV Θ "NoMark" "NoMark.__init__" s_NoMark___init__ "self" "mark" "mark" "ValueError" "no mark" "ValueError" "ValueError.__new__" "ValueError.__init__" [.type "ValueError", .type "Exception", .type "BaseException", .type "object"]
  e_NoMark : XKn Θ "NoMark" ["mark"]
  x_NoName : XDefV Θ "NoName" "NoName.__init__" s_NoName___init__ "self" "name" "name" "KeyError" "no such name" "KeyError" "LookupError.__new__" "KeyError.__init__" keMro
  e_NoName : XKn Θ "NoName" ["name"]
  x_NoNames : XDef0 Θ "NoNames" "NoNames.__init__" s_NoNames___init__ "self" "ValueError" "no names" "ValueError" "ValueError.__new__" "ValueError.__init__" [.type "ValueError", .type "Exception", .type "BaseException", .type "object"]
  e_NoNames : XKn Θ "NoNames" []
  x_NoNumber : XDefV Θ "NoNumber" "NoNumber.__init__" s_NoNumber___init__ "self" "number" "number" "IndexError" "no such number" "IndexError" "IndexError.__new__" "IndexError.__init__" [.type "IndexError", .type "LookupError", .type "Exception", .type "BaseException", .type "object"]
  e_NoNumber : XKn Θ "NoNumber" ["number"]
  x_NoOrder : XDefV Θ "NoOrder" "NoOrder.__init__" s_NoOrder___init__ "self" "at" "at" "ValueError" "no order" "ValueError" "ValueError.__new__" "ValueError.__init__" [.type "ValueError", .type "Exception", .type "BaseException", .type "object"]
  e_NoOrder : XKn Θ "NoOrder" ["at"]
  x_NoPlace : XDefV Θ "NoPlace" "NoPlace.__init__" s_NoPlace___init__ "self" "place" "place" "IndexError" "no such place" "IndexError" "IndexError.__new__" "IndexError.__init__" [.type "IndexError", .type "LookupError", .type "Exception", .type "BaseException", .type "object"]
  e_NoPlace : XKn Θ "NoPlace" ["place"]
  x_NoRow : XDefV Θ "NoRow" "NoRow.__init__" s_NoRow___init__ "self" "at" "at" "ValueError" "no row" "ValueError" "ValueError.__new__" "ValueError.__init__" [.type "ValueError", .type "Exception", .type "BaseException", .type "object"]
  e_NoRow : XKn Θ "NoRow" ["at"]
  x_NoRung : XDefV Θ "NoRung" "NoRung.__init__" s_NoRung___init__ "self" "rung" "rung" "ValueError" "no rung" "ValueError" "ValueError.__new__" "ValueError.__init__" [.type "ValueError", .type "Exception", .type "BaseException", .type "object"]
  e_NoRung : XKn Θ "NoRung" ["rung"]
  x_NoSight : XDefV Θ "NoSight" "NoSight.__init__" s_NoSight___init__ "self" "number" "number" "ValueError" "no sighting" "ValueError" "ValueError.__new__" "ValueError.__init__" [.type "ValueError", .type "Exception", .type "BaseException", .type "object"]
  e_NoSight : XKn Θ "NoSight" ["number"]
  x_NoTable : XDefV Θ "NoTable" "NoTable.__init__" s_NoTable___init__ "self" "field" "field" "ValueError" "no table" "ValueError" "ValueError.__new__" "ValueError.__init__" [.type "ValueError", .type "Exception", .type "BaseException", .type "object"]
  e_NoTable : XKn Θ "NoTable" ["field"]
  x_NoText : XDefV Θ "NoText" "NoText.__init__" s_NoText___init__ "self" "row" "row" "ValueError" "no such text" "ValueError" "ValueError.__new__" "ValueError.__init__" [.type "ValueError", .type "Exception", .type "BaseException", .type "object"]
  e_NoText : XKn Θ "NoText" ["row"]
  x_NoWord : XDefV Θ "NoWord" "NoWord.__init__" s_NoWord___init__ "self" "at" "at" "ValueError" "no word" "ValueError" "ValueError.__new__" "ValueError.__init__" [.type "ValueError", .type "Exception", .type "BaseException", .type "object"]
  e_NoWord : XKn Θ "NoWord" ["at"]
  x_NotAlike : XDef0 Θ "NotAlike" "NotAlike.__init__" s_NotAlike___init__ "self" "ValueError" "unlike orders" "ValueError" "ValueError.__new__" "ValueError.__init__" [.type "ValueError", .type "Exception", .type "BaseException", .type "object"]
  e_NotAlike : XKn Θ "NotAlike" []
  x_NotOneOne : XDefV Θ "NotOneOne" "NotOneOne.__init__" s_NotOneOne___init__ "self" "fault" "fault" "RuntimeError" "two come to one" "RuntimeError" "RuntimeError.__new__" "RuntimeError.__init__" [.type "RuntimeError", .type "Exception", .type "BaseException", .type "object"]
  e_NotOneOne : XKn Θ "NotOneOne" ["fault"]
  x_NotPart : XDefV Θ "NotPart" "NotPart.__init__" s_NotPart___init__ "self" "pair" "pair" "ValueError" "no part" "ValueError" "ValueError.__new__" "ValueError.__init__" [.type "ValueError", .type "Exception", .type "BaseException", .type "object"]
  e_NotPart : XKn Θ "NotPart" ["pair"]
  x_NotSided : XDefV Θ "NotSided" "NotSided.__init__" s_NotSided___init__ "self" "fault" "fault" "RuntimeError" "not sided" "RuntimeError" "RuntimeError.__new__" "RuntimeError.__init__" [.type "RuntimeError", .type "Exception", .type "BaseException", .type "object"]
  e_NotSided : XKn Θ "NotSided" ["fault"]
  x_NotThree : XDefV Θ "NotThree" "NotThree.__init__" s_NotThree___init__ "self" "fault" "fault" "RuntimeError" "three care" "RuntimeError" "RuntimeError.__new__" "RuntimeError.__init__" [.type "RuntimeError", .type "Exception", .type "BaseException", .type "object"]
  e_NotThree : XKn Θ "NotThree" ["fault"]
  x_NotTwice : XDefV Θ "NotTwice" "NotTwice.__init__" s_NotTwice___init__ "self" "fault" "fault" "RuntimeError" "twice isn't nothing" "RuntimeError" "RuntimeError.__new__" "RuntimeError.__init__" [.type "RuntimeError", .type "Exception", .type "BaseException", .type "object"]
  e_NotTwice : XKn Θ "NotTwice" ["fault"]
  x_NotWell : XDefV Θ "NotWell" "NotWell.__init__" s_NotWell___init__ "self" "fault" "fault" "ValueError" "not well told" "ValueError" "ValueError.__new__" "ValueError.__init__" [.type "ValueError", .type "Exception", .type "BaseException", .type "object"]
  e_NotWell : XKn Θ "NotWell" ["fault"]
  x_SameMark : XDefV Θ "SameMark" "SameMark.__init__" s_SameMark___init__ "self" "mark" "mark" "ValueError" "a mark of both" "ValueError" "ValueError.__new__" "ValueError.__init__" [.type "ValueError", .type "Exception", .type "BaseException", .type "object"]
  e_SameMark : XKn Θ "SameMark" ["mark"]
  x_Taken : XDefV Θ "Taken" "Taken.__init__" s_Taken___init__ "self" "name" "name" "KeyError" "taken" "KeyError" "LookupError.__new__" "KeyError.__init__" keMro
  e_Taken : XKn Θ "Taken" ["name"]
  x_TooLong : XDefV Θ "TooLong" "TooLong.__init__" s_TooLong___init__ "self" "most" "most" "ArithmeticError" "too long" "ArithmeticError" "ArithmeticError.__new__" "ArithmeticError.__init__" [.type "ArithmeticError", .type "Exception", .type "BaseException", .type "object"]
  e_TooLong : XKn Θ "TooLong" ["most"]
  x_TooMany : XDefV Θ "TooMany" "TooMany.__init__" s_TooMany___init__ "self" "most" "most" "ArithmeticError" "too many" "ArithmeticError" "ArithmeticError.__new__" "ArithmeticError.__init__" [.type "ArithmeticError", .type "Exception", .type "BaseException", .type "object"]
  e_TooMany : XKn Θ "TooMany" ["most"]
  x_Unfit : XDefV Θ "Unfit" "Unfit.__init__" s_Unfit___init__ "self" "name" "name" "ValueError" "doesn't fit" "ValueError" "ValueError.__new__" "ValueError.__init__" [.type "ValueError", .type "Exception", .type "BaseException", .type "object"]
  e_Unfit : XKn Θ "Unfit" ["name"]
  x_Unread : XDefV Θ "Unread" "Unread.__init__" s_Unread___init__ "self" "row" "row" "ValueError" "can't be read" "ValueError" "ValueError.__new__" "ValueError.__init__" [.type "ValueError", .type "Exception", .type "BaseException", .type "object"]
  e_Unread : XKn Θ "Unread" ["row"]
  x_Unseen : XDefV Θ "Unseen" "Unseen.__init__" s_Unseen___init__ "self" "name" "name" "ValueError" "not seen" "ValueError" "ValueError.__new__" "ValueError.__init__" [.type "ValueError", .type "Exception", .type "BaseException", .type "object"]
  e_Unseen : XKn Θ "Unseen" ["name"]
  is_ArithmeticError : IsT Θ (.type "ArithmeticError") it_ArithmeticError
  is_IndexError : IsT Θ (.type "IndexError") it_IndexError
  is_KeyError : IsT Θ (.type "KeyError") it_KeyError
  is_LookupError : IsT Θ (.type "LookupError") it_LookupError
  is_RuntimeError : IsT Θ (.type "RuntimeError") it_RuntimeError
  is_ValueError : IsT Θ (.type "ValueError") it_ValueError
  is_Full : ∃ C, Θ.mg "Full" = some (.ref C) ∧ IsT Θ (.ref C) it_Full
  is_Hidden : ∃ C, Θ.mg "Hidden" = some (.ref C) ∧ IsT Θ (.ref C) it_Hidden
  is_Needed : ∃ C, Θ.mg "Needed" = some (.ref C) ∧ IsT Θ (.ref C) it_Needed
  is_NoAsk : ∃ C, Θ.mg "NoAsk" = some (.ref C) ∧ IsT Θ (.ref C) it_NoAsk
  is_NoDeed : ∃ C, Θ.mg "NoDeed" = some (.ref C) ∧ IsT Θ (.ref C) it_NoDeed
  is_NoMark : ∃ C, Θ.mg "NoMark" = some (.ref C) ∧ IsT Θ (.ref C) it_NoMark
  is_NoName : ∃ C, Θ.mg "NoName" = some (.ref C) ∧ IsT Θ (.ref C) it_NoName
  is_NoNames : ∃ C, Θ.mg "NoNames" = some (.ref C) ∧ IsT Θ (.ref C) it_NoNames
  is_NoNumber : ∃ C, Θ.mg "NoNumber" = some (.ref C) ∧ IsT Θ (.ref C) it_NoNumber
  is_NoOrder : ∃ C, Θ.mg "NoOrder" = some (.ref C) ∧ IsT Θ (.ref C) it_NoOrder
  is_NoPlace : ∃ C, Θ.mg "NoPlace" = some (.ref C) ∧ IsT Θ (.ref C) it_NoPlace
  is_NoRow : ∃ C, Θ.mg "NoRow" = some (.ref C) ∧ IsT Θ (.ref C) it_NoRow
  is_NoRung : ∃ C, Θ.mg "NoRung" = some (.ref C) ∧ IsT Θ (.ref C) it_NoRung
  is_NoSight : ∃ C, Θ.mg "NoSight" = some (.ref C) ∧ IsT Θ (.ref C) it_NoSight
  is_NoTable : ∃ C, Θ.mg "NoTable" = some (.ref C) ∧ IsT Θ (.ref C) it_NoTable
  is_NoText : ∃ C, Θ.mg "NoText" = some (.ref C) ∧ IsT Θ (.ref C) it_NoText
  is_NoWord : ∃ C, Θ.mg "NoWord" = some (.ref C) ∧ IsT Θ (.ref C) it_NoWord
  is_NotAlike : ∃ C, Θ.mg "NotAlike" = some (.ref C) ∧ IsT Θ (.ref C) it_NotAlike
  is_NotOneOne : ∃ C, Θ.mg "NotOneOne" = some (.ref C) ∧ IsT Θ (.ref C) it_NotOneOne
  is_NotPart : ∃ C, Θ.mg "NotPart" = some (.ref C) ∧ IsT Θ (.ref C) it_NotPart
  is_NotSided : ∃ C, Θ.mg "NotSided" = some (.ref C) ∧ IsT Θ (.ref C) it_NotSided
  is_NotThree : ∃ C, Θ.mg "NotThree" = some (.ref C) ∧ IsT Θ (.ref C) it_NotThree
  is_NotTwice : ∃ C, Θ.mg "NotTwice" = some (.ref C) ∧ IsT Θ (.ref C) it_NotTwice
  is_NotWell : ∃ C, Θ.mg "NotWell" = some (.ref C) ∧ IsT Θ (.ref C) it_NotWell
  is_SameMark : ∃ C, Θ.mg "SameMark" = some (.ref C) ∧ IsT Θ (.ref C) it_SameMark
  is_Taken : ∃ C, Θ.mg "Taken" = some (.ref C) ∧ IsT Θ (.ref C) it_Taken
  is_TooLong : ∃ C, Θ.mg "TooLong" = some (.ref C) ∧ IsT Θ (.ref C) it_TooLong
  is_TooMany : ∃ C, Θ.mg "TooMany" = some (.ref C) ∧ IsT Θ (.ref C) it_TooMany
  is_Unfit : ∃ C, Θ.mg "Unfit" = some (.ref C) ∧ IsT Θ (.ref C) it_Unfit
  is_Unread : ∃ C, Θ.mg "Unread" = some (.ref C) ∧ IsT Θ (.ref C) it_Unread
  is_Unseen : ∃ C, Θ.mg "Unseen" = some (.ref C) ∧ IsT Θ (.ref C) it_Unseen
  n_ArithmeticError : Θ.mg "ArithmeticError" = none
  n_IndexError : Θ.mg "IndexError" = none
  n_KeyError : Θ.mg "KeyError" = none
  n_LookupError : Θ.mg "LookupError" = none
  n_RuntimeError : Θ.mg "RuntimeError" = none
  n_ValueError : Θ.mg "ValueError" = none
  n_bool : Θ.mg "bool" = none
  n_dict : Θ.mg "dict" = none
  n_isinstance : Θ.mg "isinstance" = none
  n_len : Θ.mg "len" = none
  n_list : Θ.mg "list" = none
  n_range : Θ.mg "range" = none
  n_repr : Θ.mg "repr" = none
  n_tuple : Θ.mg "tuple" = none
  c_GONE : GlC Θ "GONE" (.int 60)
  c_HIDDEN : GlC Θ "HIDDEN" (.int 4)
  c_MOST : GlC Θ "MOST" (.int 2000)
  c_PLACES : GlC Θ "PLACES" (.int 60)
  c_SHORT : GlC Θ "SHORT" (.int 8)
  c_WORD : GlC Θ "WORD" (.int 2000)
  d_copied : DefB Θ "copied" "copied" s_copied N_copied ["thing"] 1 [] id id
  d__law_pen : DefB Θ "_law_pen" "_law_pen" s__law_pen N__law_pen ["_law_script"] 1 [] id id
  d__law_draw : DefB Θ "_law_draw" "_law_draw" s__law_draw N__law_draw ["_law_pen_here", "_law_many"] 2 [] id id
  d__law_value : DefB Θ "_law_value" "_law_value" s__law_value N__law_value ["_law_pen_here"] 1 [] id id
  d__law_base : DefB Θ "_law_base" "_law_base" s__law_base N__law_base ["_law_error"] 1 [] id id
  d__law_own_kinds : DefB Θ "_law_own_kinds" "_law_own_kinds" s__law_own_kinds N__law_own_kinds ["_law_error"] 1 [] id id
  d__law_all_right : DefB Θ "_law_all_right" "_law_all_right" s__law_all_right N__law_all_right ["_law_errors_here", "_law_base_here"] 2 [] id id
  d__law_same : DefB Θ "_law_same" "_law_same" s__law_same N__law_same ["_law_held", "_law_value_here"] 2 [] id id
  d__law_value_errors_right : DefB Θ "_law_value_errors_right" "_law_value_errors_right" s__law_value_errors_right N__law_value_errors_right ["_law_value_here"] 1 [] id id
  d__law_fault_errors_right : DefB Θ "_law_fault_errors_right" "_law_fault_errors_right" s__law_fault_errors_right N__law_fault_errors_right ["_law_value_here"] 1 [] id id
  d__law_lookup_errors_right : DefB Θ "_law_lookup_errors_right" "_law_lookup_errors_right" s__law_lookup_errors_right N__law_lookup_errors_right ["_law_value_here"] 1 [] id id
  d_law : DefB Θ "law" "law" s_law N_law ["_law_script"] 1 [] id id
theorem Txt.xl {Θ : Th} (T : Txt Θ) : XTab Θ xtL := (.cons T.e_Full (.cons T.e_Hidden (.cons T.e_Needed (.cons T.e_NoAsk (.cons T.e_NoDeed (.cons T.e_NoMark (.cons T.e_NoName (.cons T.e_NoNames (.cons T.e_NoNumber (.cons T.e_NoOrder (.cons T.e_NoPlace (.cons T.e_NoRow (.cons T.e_NoRung (.cons T.e_NoSight (.cons T.e_NoTable (.cons T.e_NoText (.cons T.e_NoWord (.cons T.e_NotAlike (.cons T.e_NotOneOne (.cons T.e_NotPart (.cons T.e_NotSided (.cons T.e_NotThree (.cons T.e_NotTwice (.cons T.e_NotWell (.cons T.e_SameMark (.cons T.e_Taken (.cons T.e_TooLong (.cons T.e_TooMany (.cons T.e_Unfit (.cons T.e_Unread (.cons T.e_Unseen XTab.nil)))))))))))))))))))))))))))))))
section
variable {Θ : Th} {X : Cx}
theorem w_copied (T : Txt Θ) {L : Nat} {Fr : Fn} (hr : FnAt Θ "copied" 1 [] L Fr) (I : In Θ N_copied sc_copied sc_copied L X) : PSts X (defBody s_copied) (B_copied Fr) :=
  (psts_cons (pst_if (pb_tru (pr_val (s_isi I (n := "list") g_copied_0_isinstance T.n_isinstance g_copied_0_list T.n_list (by rfl) (s_r I v_copied_0_0) rfl (by decide +kernel) (by decide +kernel))) (fun _ => rfl)) (psts_one (pst_ret (s_comp (own := [("part", 1)]) I (pit_seq (s_d I v_copied_0_0)) b_copied_1 (fun Y (J1 : In _ N_copied rc_copied_1 bc_copied_1 _ Y) => ⟨(s_nm J1 t_copied_1_1), s_yes, (pd_fix (s_call J1 hr (Nat.le_refl _) g_copied_1_copied (pas_cons (pr_val (s_d J1 v_copied_1_1)) pas_nil (starEach_cons rfl)) rfl (by decide +kernel)))⟩) (fun _ => rfl)))) psts_nil) (psts_cons (pst_if (pb_tru (pr_val (s_isi I (n := "tuple") g_copied_0_isinstance T.n_isinstance g_copied_0_tuple T.n_tuple (by rfl) (s_r I v_copied_0_0) rfl (by decide +kernel) (by decide +kernel))) (fun _ => rfl)) (psts_one (pst_ret (s_blt I b_tuple g_copied_0_tuple T.n_tuple (pas_cons (pr_val (pd_fix (s_comp (own := [("part", 1)]) I (pit_seq (s_d I v_copied_0_0)) b_copied_2 (fun Y (J2 : In _ N_copied rc_copied_2 bc_copied_2 _ Y) => ⟨(s_nm J2 t_copied_2_1), s_yes, (pd_fix (s_call J2 hr (Nat.le_refl _) g_copied_2_copied (pas_cons (pr_val (s_d J2 v_copied_2_1)) pas_nil (starEach_cons rfl)) rfl (by decide +kernel)))⟩) (fun _ => rfl)))) pas_nil (starEach_cons rfl)) rfl))) psts_nil) (psts_cons (pst_if (pb_tru (pr_val (s_isi I (n := "dict") g_copied_0_isinstance T.n_isinstance g_copied_0_dict T.n_dict (by rfl) (s_r I v_copied_0_0) rfl (by decide +kernel) (by decide +kernel))) (fun _ => rfl)) (psts_one (pst_ret (s_dcI (jk := 2) (jv := 1) (own := [("key", 2), ("part", 1)]) I (I.pv v_copied_0_0) b_copied_3 (by decide) (by decide) rfl (fun Y (J3 : In _ N_copied rc_copied_3 bc_copied_3 _ Y) => ⟨(s_tup2K J3 t_copied_3_2 t_copied_3_1), s_yes, (s_d J3 v_copied_3_2), (pd_fix (s_call J3 hr (Nat.le_refl _) g_copied_3_copied (pas_cons (pr_val (s_d J3 v_copied_3_1)) pas_nil (starEach_cons rfl)) rfl (by decide +kernel)))⟩) (fun _ => rfl) rfl rfl))) psts_nil) (psts_one (pst_retVar (I.pv v_copied_0_0))))))
theorem h_copied (T : Txt Θ) : ∀ n, FnAt Θ "copied" 1 [] n (F_copied n)
  | 0 => FnAt.none T.d_copied
  | n + 1 => mkFn T.d_copied fun X I => w_copied T (h_copied T n) I
theorem v_Full (T : Txt Θ) : XMk Θ "Full" 1 [] 9 (initF "most" (F_copied 8)) ∧ XMk Θ "Full" 0 ["most"] 9 (initF "most" (F_copied 8)) := mkXV xb_IndexError T.x_Full (by rfl) (by decide +kernel) (by decide +kernel) (by decide +kernel) (by decide +kernel) T.n_IndexError (by rfl) (h_copied T 8) (Nat.le_refl 8) (fun _ => by rfl) (fun _ => by rfl)
theorem v_Hidden (T : Txt Θ) : XMk Θ "Hidden" 1 [] 9 (initF "name" (F_copied 8)) ∧ XMk Θ "Hidden" 0 ["name"] 9 (initF "name" (F_copied 8)) := mkXV xb_LookupError T.x_Hidden (by rfl) (by decide +kernel) (by decide +kernel) (by decide +kernel) (by decide +kernel) T.n_LookupError (by rfl) (h_copied T 8) (Nat.le_refl 8) (fun _ => by rfl) (fun _ => by rfl)
theorem v_Needed (T : Txt Θ) : XMk Θ "Needed" 1 [] 9 (initF "name" (F_copied 8)) ∧ XMk Θ "Needed" 0 ["name"] 9 (initF "name" (F_copied 8)) := mkXV xb_LookupError T.x_Needed (by rfl) (by decide +kernel) (by decide +kernel) (by decide +kernel) (by decide +kernel) T.n_LookupError (by rfl) (h_copied T 8) (Nat.le_refl 8) (fun _ => by rfl) (fun _ => by rfl)
theorem v_NoAsk (T : Txt Θ) : XMk Θ "NoAsk" 1 [] 9 (initF "row" (F_copied 8)) ∧ XMk Θ "NoAsk" 0 ["row"] 9 (initF "row" (F_copied 8)) := mkXV xb_ValueError T.x_NoAsk (by rfl) (by decide +kernel) (by decide +kernel) (by decide +kernel) (by decide +kernel) T.n_ValueError (by rfl) (h_copied T 8) (Nat.le_refl 8) (fun _ => by rfl) (fun _ => by rfl)
theorem v_NoDeed (T : Txt Θ) : XMk Θ "NoDeed" 1 [] 9 (initF "number" (F_copied 8)) ∧ XMk Θ "NoDeed" 0 ["number"] 9 (initF "number" (F_copied 8)) := mkXV xb_ValueError T.x_NoDeed (by rfl) (by decide +kernel) (by decide +kernel) (by decide +kernel) (by decide +kernel) T.n_ValueError (by rfl) (h_copied T 8) (Nat.le_refl 8) (fun _ => by rfl) (fun _ => by rfl)
theorem v_NoMark (T : Txt Θ) : XMk Θ "NoMark" 1 [] 9 (initF "mark" (F_copied 8)) ∧ XMk Θ "NoMark" 0 ["mark"] 9 (initF "mark" (F_copied 8)) := mkXV xb_ValueError T.x_NoMark (by rfl) (by decide +kernel) (by decide +kernel) (by decide +kernel) (by decide +kernel) T.n_ValueError (by rfl) (h_copied T 8) (Nat.le_refl 8) (fun _ => by rfl) (fun _ => by rfl)
theorem v_NoName (T : Txt Θ) : XMk Θ "NoName" 1 [] 9 (initF "name" (F_copied 8)) ∧ XMk Θ "NoName" 0 ["name"] 9 (initF "name" (F_copied 8)) := mkXV xb_KeyError T.x_NoName (by rfl) (by decide +kernel) (by decide +kernel) (by decide +kernel) (by decide +kernel) T.n_KeyError (by rfl) (h_copied T 8) (Nat.le_refl 8) (fun _ => by rfl) (fun _ => by rfl)
theorem v_NoNames (T : Txt Θ) : XMk Θ "NoNames" 0 [] 9 initF0 := mkX0 xb_ValueError T.x_NoNames (by rfl) (by decide +kernel) (by decide +kernel) T.n_ValueError (by rfl) (fun _ => by rfl)
theorem v_NoNumber (T : Txt Θ) : XMk Θ "NoNumber" 1 [] 9 (initF "number" (F_copied 8)) ∧ XMk Θ "NoNumber" 0 ["number"] 9 (initF "number" (F_copied 8)) := mkXV xb_IndexError T.x_NoNumber (by rfl) (by decide +kernel) (by decide +kernel) (by decide +kernel) (by decide +kernel) T.n_IndexError (by rfl) (h_copied T 8) (Nat.le_refl 8) (fun _ => by rfl) (fun _ => by rfl)
theorem v_NoOrder (T : Txt Θ) : XMk Θ "NoOrder" 1 [] 9 (initF "at" (F_copied 8)) ∧ XMk Θ "NoOrder" 0 ["at"] 9 (initF "at" (F_copied 8)) := mkXV xb_ValueError T.x_NoOrder (by rfl) (by decide +kernel) (by decide +kernel) (by decide +kernel) (by decide +kernel) T.n_ValueError (by rfl) (h_copied T 8) (Nat.le_refl 8) (fun _ => by rfl) (fun _ => by rfl)
theorem v_NoPlace (T : Txt Θ) : XMk Θ "NoPlace" 1 [] 9 (initF "place" (F_copied 8)) ∧ XMk Θ "NoPlace" 0 ["place"] 9 (initF "place" (F_copied 8)) := mkXV xb_IndexError T.x_NoPlace (by rfl) (by decide +kernel) (by decide +kernel) (by decide +kernel) (by decide +kernel) T.n_IndexError (by rfl) (h_copied T 8) (Nat.le_refl 8) (fun _ => by rfl) (fun _ => by rfl)
theorem v_NoRow (T : Txt Θ) : XMk Θ "NoRow" 1 [] 9 (initF "at" (F_copied 8)) ∧ XMk Θ "NoRow" 0 ["at"] 9 (initF "at" (F_copied 8)) := mkXV xb_ValueError T.x_NoRow (by rfl) (by decide +kernel) (by decide +kernel) (by decide +kernel) (by decide +kernel) T.n_ValueError (by rfl) (h_copied T 8) (Nat.le_refl 8) (fun _ => by rfl) (fun _ => by rfl)
theorem v_NoRung (T : Txt Θ) : XMk Θ "NoRung" 1 [] 9 (initF "rung" (F_copied 8)) ∧ XMk Θ "NoRung" 0 ["rung"] 9 (initF "rung" (F_copied 8)) := mkXV xb_ValueError T.x_NoRung (by rfl) (by decide +kernel) (by decide +kernel) (by decide +kernel) (by decide +kernel) T.n_ValueError (by rfl) (h_copied T 8) (Nat.le_refl 8) (fun _ => by rfl) (fun _ => by rfl)
theorem v_NoSight (T : Txt Θ) : XMk Θ "NoSight" 1 [] 9 (initF "number" (F_copied 8)) ∧ XMk Θ "NoSight" 0 ["number"] 9 (initF "number" (F_copied 8)) := mkXV xb_ValueError T.x_NoSight (by rfl) (by decide +kernel) (by decide +kernel) (by decide +kernel) (by decide +kernel) T.n_ValueError (by rfl) (h_copied T 8) (Nat.le_refl 8) (fun _ => by rfl) (fun _ => by rfl)
theorem v_NoTable (T : Txt Θ) : XMk Θ "NoTable" 1 [] 9 (initF "field" (F_copied 8)) ∧ XMk Θ "NoTable" 0 ["field"] 9 (initF "field" (F_copied 8)) := mkXV xb_ValueError T.x_NoTable (by rfl) (by decide +kernel) (by decide +kernel) (by decide +kernel) (by decide +kernel) T.n_ValueError (by rfl) (h_copied T 8) (Nat.le_refl 8) (fun _ => by rfl) (fun _ => by rfl)
theorem v_NoText (T : Txt Θ) : XMk Θ "NoText" 1 [] 9 (initF "row" (F_copied 8)) ∧ XMk Θ "NoText" 0 ["row"] 9 (initF "row" (F_copied 8)) := mkXV xb_ValueError T.x_NoText (by rfl) (by decide +kernel) (by decide +kernel) (by decide +kernel) (by decide +kernel) T.n_ValueError (by rfl) (h_copied T 8) (Nat.le_refl 8) (fun _ => by rfl) (fun _ => by rfl)
theorem v_NoWord (T : Txt Θ) : XMk Θ "NoWord" 1 [] 9 (initF "at" (F_copied 8)) ∧ XMk Θ "NoWord" 0 ["at"] 9 (initF "at" (F_copied 8)) := mkXV xb_ValueError T.x_NoWord (by rfl) (by decide +kernel) (by decide +kernel) (by decide +kernel) (by decide +kernel) T.n_ValueError (by rfl) (h_copied T 8) (Nat.le_refl 8) (fun _ => by rfl) (fun _ => by rfl)
theorem v_NotAlike (T : Txt Θ) : XMk Θ "NotAlike" 0 [] 9 initF0 := mkX0 xb_ValueError T.x_NotAlike (by rfl) (by decide +kernel) (by decide +kernel) T.n_ValueError (by rfl) (fun _ => by rfl)
theorem v_NotOneOne (T : Txt Θ) : XMk Θ "NotOneOne" 1 [] 9 (initF "fault" (F_copied 8)) ∧ XMk Θ "NotOneOne" 0 ["fault"] 9 (initF "fault" (F_copied 8)) := mkXV xb_RuntimeError T.x_NotOneOne (by rfl) (by decide +kernel) (by decide +kernel) (by decide +kernel) (by decide +kernel) T.n_RuntimeError (by rfl) (h_copied T 8) (Nat.le_refl 8) (fun _ => by rfl) (fun _ => by rfl)
theorem v_NotPart (T : Txt Θ) : XMk Θ "NotPart" 1 [] 9 (initF "pair" (F_copied 8)) ∧ XMk Θ "NotPart" 0 ["pair"] 9 (initF "pair" (F_copied 8)) := mkXV xb_ValueError T.x_NotPart (by rfl) (by decide +kernel) (by decide +kernel) (by decide +kernel) (by decide +kernel) T.n_ValueError (by rfl) (h_copied T 8) (Nat.le_refl 8) (fun _ => by rfl) (fun _ => by rfl)
theorem v_NotSided (T : Txt Θ) : XMk Θ "NotSided" 1 [] 9 (initF "fault" (F_copied 8)) ∧ XMk Θ "NotSided" 0 ["fault"] 9 (initF "fault" (F_copied 8)) := mkXV xb_RuntimeError T.x_NotSided (by rfl) (by decide +kernel) (by decide +kernel) (by decide +kernel) (by decide +kernel) T.n_RuntimeError (by rfl) (h_copied T 8) (Nat.le_refl 8) (fun _ => by rfl) (fun _ => by rfl)
theorem v_NotThree (T : Txt Θ) : XMk Θ "NotThree" 1 [] 9 (initF "fault" (F_copied 8)) ∧ XMk Θ "NotThree" 0 ["fault"] 9 (initF "fault" (F_copied 8)) := mkXV xb_RuntimeError T.x_NotThree (by rfl) (by decide +kernel) (by decide +kernel) (by decide +kernel) (by decide +kernel) T.n_RuntimeError (by rfl) (h_copied T 8) (Nat.le_refl 8) (fun _ => by rfl) (fun _ => by rfl)
theorem v_NotTwice (T : Txt Θ) : XMk Θ "NotTwice" 1 [] 9 (initF "fault" (F_copied 8)) ∧ XMk Θ "NotTwice" 0 ["fault"] 9 (initF "fault" (F_copied 8)) := mkXV xb_RuntimeError T.x_NotTwice (by rfl) (by decide +kernel) (by decide +kernel) (by decide +kernel) (by decide +kernel) T.n_RuntimeError (by rfl) (h_copied T 8) (Nat.le_refl 8) (fun _ => by rfl) (fun _ => by rfl)
theorem v_NotWell (T : Txt Θ) : XMk Θ "NotWell" 1 [] 9 (initF "fault" (F_copied 8)) ∧ XMk Θ "NotWell" 0 ["fault"] 9 (initF "fault" (F_copied 8)) := mkXV xb_ValueError T.x_NotWell (by rfl) (by decide +kernel) (by decide +kernel) (by decide +kernel) (by decide +kernel) T.n_ValueError (by rfl) (h_copied T 8) (Nat.le_refl 8) (fun _ => by rfl) (fun _ => by rfl)
theorem v_SameMark (T : Txt Θ) : XMk Θ "SameMark" 1 [] 9 (initF "mark" (F_copied 8)) ∧ XMk Θ "SameMark" 0 ["mark"] 9 (initF "mark" (F_copied 8)) := mkXV xb_ValueError T.x_SameMark (by rfl) (by decide +kernel) (by decide +kernel) (by decide +kernel) (by decide +kernel) T.n_ValueError (by rfl) (h_copied T 8) (Nat.le_refl 8) (fun _ => by rfl) (fun _ => by rfl)
theorem v_Taken (T : Txt Θ) : XMk Θ "Taken" 1 [] 9 (initF "name" (F_copied 8)) ∧ XMk Θ "Taken" 0 ["name"] 9 (initF "name" (F_copied 8)) := mkXV xb_KeyError T.x_Taken (by rfl) (by decide +kernel) (by decide +kernel) (by decide +kernel) (by decide +kernel) T.n_KeyError (by rfl) (h_copied T 8) (Nat.le_refl 8) (fun _ => by rfl) (fun _ => by rfl)
theorem v_TooLong (T : Txt Θ) : XMk Θ "TooLong" 1 [] 9 (initF "most" (F_copied 8)) ∧ XMk Θ "TooLong" 0 ["most"] 9 (initF "most" (F_copied 8)) := mkXV xb_ArithmeticError T.x_TooLong (by rfl) (by decide +kernel) (by decide +kernel) (by decide +kernel) (by decide +kernel) T.n_ArithmeticError (by rfl) (h_copied T 8) (Nat.le_refl 8) (fun _ => by rfl) (fun _ => by rfl)
theorem v_TooMany (T : Txt Θ) : XMk Θ "TooMany" 1 [] 9 (initF "most" (F_copied 8)) ∧ XMk Θ "TooMany" 0 ["most"] 9 (initF "most" (F_copied 8)) := mkXV xb_ArithmeticError T.x_TooMany (by rfl) (by decide +kernel) (by decide +kernel) (by decide +kernel) (by decide +kernel) T.n_ArithmeticError (by rfl) (h_copied T 8) (Nat.le_refl 8) (fun _ => by rfl) (fun _ => by rfl)
theorem v_Unfit (T : Txt Θ) : XMk Θ "Unfit" 1 [] 9 (initF "name" (F_copied 8)) ∧ XMk Θ "Unfit" 0 ["name"] 9 (initF "name" (F_copied 8)) := mkXV xb_ValueError T.x_Unfit (by rfl) (by decide +kernel) (by decide +kernel) (by decide +kernel) (by decide +kernel) T.n_ValueError (by rfl) (h_copied T 8) (Nat.le_refl 8) (fun _ => by rfl) (fun _ => by rfl)
theorem v_Unread (T : Txt Θ) : XMk Θ "Unread" 1 [] 9 (initF "row" (F_copied 8)) ∧ XMk Θ "Unread" 0 ["row"] 9 (initF "row" (F_copied 8)) := mkXV xb_ValueError T.x_Unread (by rfl) (by decide +kernel) (by decide +kernel) (by decide +kernel) (by decide +kernel) T.n_ValueError (by rfl) (h_copied T 8) (Nat.le_refl 8) (fun _ => by rfl) (fun _ => by rfl)
theorem v_Unseen (T : Txt Θ) : XMk Θ "Unseen" 1 [] 9 (initF "name" (F_copied 8)) ∧ XMk Θ "Unseen" 0 ["name"] 9 (initF "name" (F_copied 8)) := mkXV xb_ValueError T.x_Unseen (by rfl) (by decide +kernel) (by decide +kernel) (by decide +kernel) (by decide +kernel) T.n_ValueError (by rfl) (h_copied T 8) (Nat.le_refl 8) (fun _ => by rfl) (fun _ => by rfl)
theorem w__law_pen (T : Txt Θ) (I : In Θ N__law_pen sc__law_pen sc__law_pen 0 X) : PSts X (defBody s__law_pen) B__law_pen :=
  (psts_one (pst_ret (px_disp (l := [("cells", (fixF (callF listD (consA (valF (fixF (slF (varR 0) noneO (someO (constF (.int 63)))))) nilA)))), ("spot", (constF (.int 0)))]) (pps_cons pe_str (pd_fix (s_blt I b_list g__law_pen_0_list T.n_list (pas_cons (pr_val (pd_fix (px_sl (s_r I v__law_pen_0_0) po_noneD (po_someD s_int)))) pas_nil (starEach_cons rfl)) rfl)) (pps_cons pe_str s_int pps_nil)) rfl rfl (by simp) (by decide))))
theorem h__law_pen (T : Txt Θ) : FnAt Θ "_law_pen" 1 [] 1 F__law_pen := mkFn T.d__law_pen fun X I => w__law_pen T I
theorem w__law_draw (T : Txt Θ) (I : In Θ N__law_draw sc__law_draw sc__law_draw 0 X) : PSts X (defBody s__law_draw) B__law_draw :=
  (psts_cons (s_set I t__law_draw_0_2 (s_ix I (s_r I v__law_draw_0_0) (pr_val s_str) rfl) rfl) (psts_cons (s_dput I (s_r I v__law_draw_0_0) s_str (pd_fix (s_add (s_r I v__law_draw_0_2) (pr_val s_int))) rfl) (psts_cons (s_set I t__law_draw_0_3 (px_ite (sb_cmp I c_ne (pr_val (pd_fix (s_ix I (s_r I v__law_draw_0_0) (pr_val s_str) rfl))) (pr_val (pd_fix (px_lst pls_nil)))) (s_ix I (pr_val (pd_fix (s_ix I (s_r I v__law_draw_0_0) (pr_val s_str) rfl))) (pr_val (pd_fix (s_mod (s_r I v__law_draw_0_2) (pr_val (pd_fix (s_blt I b_len g__law_draw_0_len T.n_len (pas_cons (pr_val (pd_fix (s_ix I (s_r I v__law_draw_0_0) (pr_val s_str) rfl))) pas_nil (starEach_cons rfl)) rfl)))))) rfl) (s_add (pr_val (pd_fix (s_mul (pr_val s_int) (s_r I v__law_draw_0_2)))) (pr_val s_int))) rfl) (psts_cons (s_set I t__law_draw_0_4 (s_mod (pr_val (pd_fix (s_add (pr_val (pd_fix (s_add (pr_val (pd_fix (s_add (pr_val (pd_fix (s_mul (pr_val (pd_fix (s_mod (s_r I v__law_draw_0_3) (pr_val s_int)))) (pr_val s_int)))) (pr_val (pd_fix (s_mul (pr_val (pd_fix (s_mul (pr_val s_int) (s_r I v__law_draw_0_2)))) (s_r I v__law_draw_0_2))))))) (pr_val (pd_fix (s_mul (pr_val s_int) (s_r I v__law_draw_0_2))))))) (pr_val s_int)))) (pr_val s_int)) rfl) (psts_cons (s_set I t__law_draw_0_4 (s_mod (pr_val (pd_fix (s_add (pr_val (pd_fix (s_add (pr_val (pd_fix (s_add (pr_val (pd_fix (s_mul (s_r I v__law_draw_0_4) (s_r I v__law_draw_0_4)))) (pr_val (pd_fix (s_mul (pr_val s_int) (s_r I v__law_draw_0_4))))))) (pr_val (pd_fix (s_mul (pr_val s_int) (s_r I v__law_draw_0_2))))))) (pr_val s_int)))) (pr_val s_int)) rfl) (psts_one (pst_ret (s_mod (pr_val (pd_fix (s_fdiv (pr_val (pd_fix (s_mod (pr_val (pd_fix (s_mul (s_r I v__law_draw_0_4) (pr_val (pd_fix (s_add (s_r I v__law_draw_0_4) (pr_val s_int))))))) (pr_val s_int)))) (pr_val s_int)))) (s_r I v__law_draw_0_1)))))))))
theorem h__law_draw (T : Txt Θ) : FnAt Θ "_law_draw" 2 [] 1 F__law_draw := mkFn T.d__law_draw fun X I => w__law_draw T I
theorem w__law_value (T : Txt Θ) (I : In Θ N__law_value sc__law_value sc__law_value 1 X) : PSts X (defBody s__law_value) B__law_value :=
  (psts_cons (s_set I t__law_value_0_1 (px_lst (pls_cons s_non (pls_cons s_bl (pls_cons s_bl (pls_cons s_int (pls_cons s_neg (pls_cons (pd_fix (s_pow (pr_val s_int) (pr_val s_int))) (pls_cons s_str (pls_cons s_str (pls_cons s_str (pls_cons (pd_fix (px_tup pls_nil)) (pls_cons (pd_fix (px_tup (pls_cons s_str pls_nil (starEach_cons rfl)))) (pls_cons (pd_fix (px_lst (pls_cons s_str pls_nil (starEach_cons rfl)))) (pls_cons (pd_fix (px_lst pls_nil)) (pls_cons (pd_fix px_dnewK) (pls_cons (pd_fix (px_disp (l := [("a", (fixF (lstF (consL (constF (.int 1)) nilL))))]) (pps_cons pe_str (pd_fix (px_lst (pls_cons s_int pls_nil (starEach_cons rfl)))) pps_nil) rfl rfl (by simp) (by decide))) pls_nil (starEach_cons rfl)) (starEach_cons rfl)) (starEach_cons rfl)) (starEach_cons rfl)) (starEach_cons rfl)) (starEach_cons rfl)) (starEach_cons rfl)) (starEach_cons rfl)) (starEach_cons rfl)) (starEach_cons rfl)) (starEach_cons rfl)) (starEach_cons rfl)) (starEach_cons rfl)) (starEach_cons rfl)) (starEach_cons rfl))) rfl) (psts_cons (s_set I t__law_value_0_1 (s_add (s_r I v__law_value_0_1) (pr_val (pd_fix (px_lst (pls_cons (pd_fix (px_tup (pls_cons s_str (pls_cons s_str (pls_cons s_str (pls_cons s_str pls_nil (starEach_cons rfl)) (starEach_cons rfl)) (starEach_cons rfl)) (starEach_cons rfl)))) (pls_cons (pd_fix (px_tup (pls_cons (pd_fix (px_tup (pls_cons s_str (pls_cons s_str pls_nil (starEach_cons rfl)) (starEach_cons rfl)))) (pls_cons (pd_fix (px_tup (pls_cons s_str (pls_cons s_str pls_nil (starEach_cons rfl)) (starEach_cons rfl)))) pls_nil (starEach_cons rfl)) (starEach_cons rfl)))) (pls_cons (pd_fix (px_lst (pls_cons (pd_fix (px_lst (pls_cons s_int pls_nil (starEach_cons rfl)))) pls_nil (starEach_cons rfl)))) (pls_cons s_str (pls_cons (pd_fix (s_sub (pr_val s_int) (pr_val (pd_fix (s_pow (pr_val s_int) (pr_val s_int)))))) pls_nil (starEach_cons rfl)) (starEach_cons rfl)) (starEach_cons rfl)) (starEach_cons rfl)) (starEach_cons rfl)))))) rfl) (psts_one (pst_ret (s_ix I (s_r I v__law_value_0_1) (pr_val (pd_fix (s_call I (h__law_draw T) (by decide) g__law_value_0__law_draw (pas_cons (s_r I v__law_value_0_0) (pas_cons (pr_val (pd_fix (s_blt I b_len g__law_value_0_len T.n_len (pas_cons (s_r I v__law_value_0_1) pas_nil (starEach_cons rfl)) rfl))) pas_nil (starEach_cons rfl)) (starEach_cons rfl)) rfl (by decide +kernel)))) rfl)))))
theorem h__law_value (T : Txt Θ) : FnAt Θ "_law_value" 1 [] 2 F__law_value := mkFn T.d__law_value fun X I => w__law_value T I
theorem w__law_base (T : Txt Θ) (I : In Θ N__law_base sc__law_base sc__law_base 0 X) : PSts X (defBody s__law_base) B__law_base :=
  (psts_cons (pst_if (pb_tru (pr_val (s_isxB I T.is_KeyError g__law_base_0_isinstance T.n_isinstance g__law_base_0_KeyError T.n_KeyError (by rfl) (s_d I v__law_base_0_0) rfl (by decide +kernel) (by decide +kernel))) (fun _ => rfl)) (psts_one (pst_ret (px_imm s_str))) psts_nil) (psts_cons (pst_if (pb_tru (pr_val (s_isxB I T.is_IndexError g__law_base_0_isinstance T.n_isinstance g__law_base_0_IndexError T.n_IndexError (by rfl) (s_d I v__law_base_0_0) rfl (by decide +kernel) (by decide +kernel))) (fun _ => rfl)) (psts_one (pst_ret (px_imm s_str))) psts_nil) (psts_cons (pst_if (pb_tru (pr_val (s_isxB I T.is_LookupError g__law_base_0_isinstance T.n_isinstance g__law_base_0_LookupError T.n_LookupError (by rfl) (s_d I v__law_base_0_0) rfl (by decide +kernel) (by decide +kernel))) (fun _ => rfl)) (psts_one (pst_ret (px_imm s_str))) psts_nil) (psts_cons (pst_if (pb_tru (pr_val (s_isxB I T.is_RuntimeError g__law_base_0_isinstance T.n_isinstance g__law_base_0_RuntimeError T.n_RuntimeError (by rfl) (s_d I v__law_base_0_0) rfl (by decide +kernel) (by decide +kernel))) (fun _ => rfl)) (psts_one (pst_ret (px_imm s_str))) psts_nil) (psts_cons (pst_if (pb_tru (pr_val (s_isxB I T.is_ArithmeticError g__law_base_0_isinstance T.n_isinstance g__law_base_0_ArithmeticError T.n_ArithmeticError (by rfl) (s_d I v__law_base_0_0) rfl (by decide +kernel) (by decide +kernel))) (fun _ => rfl)) (psts_one (pst_ret (px_imm s_str))) psts_nil) (psts_one (pst_ret (px_ite (pb_tru (pr_val (s_isxB I T.is_ValueError g__law_base_0_isinstance T.n_isinstance g__law_base_0_ValueError T.n_ValueError (by rfl) (s_d I v__law_base_0_0) rfl (by decide +kernel) (by decide +kernel))) (fun _ => rfl)) (px_imm s_str) (px_imm s_str)))))))))
theorem h__law_base (T : Txt Θ) : FnAt Θ "_law_base" 1 [] 1 F__law_base := mkFn T.d__law_base fun X I => w__law_base T I
theorem w__law_own_kinds (T : Txt Θ) (I : In Θ N__law_own_kinds sc__law_own_kinds sc__law_own_kinds 0 X) : PSts X (defBody s__law_own_kinds) B__law_own_kinds :=
  (psts_cons (s_set I t__law_own_kinds_0_1 (px_lst (pls_cons (s_isxO I T.is_Full g__law_own_kinds_0_isinstance T.n_isinstance g__law_own_kinds_0_Full (s_d I v__law_own_kinds_0_0) rfl (by decide +kernel)) (pls_cons (s_isxO I T.is_Hidden g__law_own_kinds_0_isinstance T.n_isinstance g__law_own_kinds_0_Hidden (s_d I v__law_own_kinds_0_0) rfl (by decide +kernel)) (pls_cons (s_isxO I T.is_Needed g__law_own_kinds_0_isinstance T.n_isinstance g__law_own_kinds_0_Needed (s_d I v__law_own_kinds_0_0) rfl (by decide +kernel)) (pls_cons (s_isxO I T.is_NoAsk g__law_own_kinds_0_isinstance T.n_isinstance g__law_own_kinds_0_NoAsk (s_d I v__law_own_kinds_0_0) rfl (by decide +kernel)) pls_nil (starEach_cons rfl)) (starEach_cons rfl)) (starEach_cons rfl)) (starEach_cons rfl))) rfl) (psts_cons (s_set I t__law_own_kinds_0_1 (s_add (s_r I v__law_own_kinds_0_1) (pr_val (pd_fix (px_lst (pls_cons (s_isxO I T.is_NoDeed g__law_own_kinds_0_isinstance T.n_isinstance g__law_own_kinds_0_NoDeed (s_d I v__law_own_kinds_0_0) rfl (by decide +kernel)) (pls_cons (s_isxO I T.is_NoMark g__law_own_kinds_0_isinstance T.n_isinstance g__law_own_kinds_0_NoMark (s_d I v__law_own_kinds_0_0) rfl (by decide +kernel)) (pls_cons (s_isxO I T.is_NoName g__law_own_kinds_0_isinstance T.n_isinstance g__law_own_kinds_0_NoName (s_d I v__law_own_kinds_0_0) rfl (by decide +kernel)) pls_nil (starEach_cons rfl)) (starEach_cons rfl)) (starEach_cons rfl)))))) rfl) (psts_cons (s_set I t__law_own_kinds_0_1 (s_add (s_r I v__law_own_kinds_0_1) (pr_val (pd_fix (px_lst (pls_cons (s_isxO I T.is_NoNames g__law_own_kinds_0_isinstance T.n_isinstance g__law_own_kinds_0_NoNames (s_d I v__law_own_kinds_0_0) rfl (by decide +kernel)) (pls_cons (s_isxO I T.is_NoNumber g__law_own_kinds_0_isinstance T.n_isinstance g__law_own_kinds_0_NoNumber (s_d I v__law_own_kinds_0_0) rfl (by decide +kernel)) (pls_cons (s_isxO I T.is_NoOrder g__law_own_kinds_0_isinstance T.n_isinstance g__law_own_kinds_0_NoOrder (s_d I v__law_own_kinds_0_0) rfl (by decide +kernel)) pls_nil (starEach_cons rfl)) (starEach_cons rfl)) (starEach_cons rfl)))))) rfl) (psts_cons (s_set I t__law_own_kinds_0_1 (s_add (s_r I v__law_own_kinds_0_1) (pr_val (pd_fix (px_lst (pls_cons (s_isxO I T.is_NoPlace g__law_own_kinds_0_isinstance T.n_isinstance g__law_own_kinds_0_NoPlace (s_d I v__law_own_kinds_0_0) rfl (by decide +kernel)) (pls_cons (s_isxO I T.is_NoRow g__law_own_kinds_0_isinstance T.n_isinstance g__law_own_kinds_0_NoRow (s_d I v__law_own_kinds_0_0) rfl (by decide +kernel)) (pls_cons (s_isxO I T.is_NoRung g__law_own_kinds_0_isinstance T.n_isinstance g__law_own_kinds_0_NoRung (s_d I v__law_own_kinds_0_0) rfl (by decide +kernel)) pls_nil (starEach_cons rfl)) (starEach_cons rfl)) (starEach_cons rfl)))))) rfl) (psts_cons (s_set I t__law_own_kinds_0_1 (s_add (s_r I v__law_own_kinds_0_1) (pr_val (pd_fix (px_lst (pls_cons (s_isxO I T.is_NoSight g__law_own_kinds_0_isinstance T.n_isinstance g__law_own_kinds_0_NoSight (s_d I v__law_own_kinds_0_0) rfl (by decide +kernel)) (pls_cons (s_isxO I T.is_NotAlike g__law_own_kinds_0_isinstance T.n_isinstance g__law_own_kinds_0_NotAlike (s_d I v__law_own_kinds_0_0) rfl (by decide +kernel)) (pls_cons (s_isxO I T.is_NoTable g__law_own_kinds_0_isinstance T.n_isinstance g__law_own_kinds_0_NoTable (s_d I v__law_own_kinds_0_0) rfl (by decide +kernel)) pls_nil (starEach_cons rfl)) (starEach_cons rfl)) (starEach_cons rfl)))))) rfl) (psts_cons (s_set I t__law_own_kinds_0_1 (s_add (s_r I v__law_own_kinds_0_1) (pr_val (pd_fix (px_lst (pls_cons (s_isxO I T.is_NotOneOne g__law_own_kinds_0_isinstance T.n_isinstance g__law_own_kinds_0_NotOneOne (s_d I v__law_own_kinds_0_0) rfl (by decide +kernel)) (pls_cons (s_isxO I T.is_NotPart g__law_own_kinds_0_isinstance T.n_isinstance g__law_own_kinds_0_NotPart (s_d I v__law_own_kinds_0_0) rfl (by decide +kernel)) (pls_cons (s_isxO I T.is_NotSided g__law_own_kinds_0_isinstance T.n_isinstance g__law_own_kinds_0_NotSided (s_d I v__law_own_kinds_0_0) rfl (by decide +kernel)) pls_nil (starEach_cons rfl)) (starEach_cons rfl)) (starEach_cons rfl)))))) rfl) (psts_cons (s_set I t__law_own_kinds_0_1 (s_add (s_r I v__law_own_kinds_0_1) (pr_val (pd_fix (px_lst (pls_cons (s_isxO I T.is_NotThree g__law_own_kinds_0_isinstance T.n_isinstance g__law_own_kinds_0_NotThree (s_d I v__law_own_kinds_0_0) rfl (by decide +kernel)) (pls_cons (s_isxO I T.is_NotTwice g__law_own_kinds_0_isinstance T.n_isinstance g__law_own_kinds_0_NotTwice (s_d I v__law_own_kinds_0_0) rfl (by decide +kernel)) (pls_cons (s_isxO I T.is_NotWell g__law_own_kinds_0_isinstance T.n_isinstance g__law_own_kinds_0_NotWell (s_d I v__law_own_kinds_0_0) rfl (by decide +kernel)) pls_nil (starEach_cons rfl)) (starEach_cons rfl)) (starEach_cons rfl)))))) rfl) (psts_cons (s_set I t__law_own_kinds_0_1 (s_add (s_r I v__law_own_kinds_0_1) (pr_val (pd_fix (px_lst (pls_cons (s_isxO I T.is_NoText g__law_own_kinds_0_isinstance T.n_isinstance g__law_own_kinds_0_NoText (s_d I v__law_own_kinds_0_0) rfl (by decide +kernel)) (pls_cons (s_isxO I T.is_NoWord g__law_own_kinds_0_isinstance T.n_isinstance g__law_own_kinds_0_NoWord (s_d I v__law_own_kinds_0_0) rfl (by decide +kernel)) (pls_cons (s_isxO I T.is_SameMark g__law_own_kinds_0_isinstance T.n_isinstance g__law_own_kinds_0_SameMark (s_d I v__law_own_kinds_0_0) rfl (by decide +kernel)) pls_nil (starEach_cons rfl)) (starEach_cons rfl)) (starEach_cons rfl)))))) rfl) (psts_cons (s_set I t__law_own_kinds_0_1 (s_add (s_r I v__law_own_kinds_0_1) (pr_val (pd_fix (px_lst (pls_cons (s_isxO I T.is_Taken g__law_own_kinds_0_isinstance T.n_isinstance g__law_own_kinds_0_Taken (s_d I v__law_own_kinds_0_0) rfl (by decide +kernel)) (pls_cons (s_isxO I T.is_TooLong g__law_own_kinds_0_isinstance T.n_isinstance g__law_own_kinds_0_TooLong (s_d I v__law_own_kinds_0_0) rfl (by decide +kernel)) (pls_cons (s_isxO I T.is_TooMany g__law_own_kinds_0_isinstance T.n_isinstance g__law_own_kinds_0_TooMany (s_d I v__law_own_kinds_0_0) rfl (by decide +kernel)) pls_nil (starEach_cons rfl)) (starEach_cons rfl)) (starEach_cons rfl)))))) rfl) (psts_cons (s_set I t__law_own_kinds_0_1 (s_add (s_r I v__law_own_kinds_0_1) (pr_val (pd_fix (px_lst (pls_cons (s_isxO I T.is_Unfit g__law_own_kinds_0_isinstance T.n_isinstance g__law_own_kinds_0_Unfit (s_d I v__law_own_kinds_0_0) rfl (by decide +kernel)) (pls_cons (s_isxO I T.is_Unread g__law_own_kinds_0_isinstance T.n_isinstance g__law_own_kinds_0_Unread (s_d I v__law_own_kinds_0_0) rfl (by decide +kernel)) (pls_cons (s_isxO I T.is_Unseen g__law_own_kinds_0_isinstance T.n_isinstance g__law_own_kinds_0_Unseen (s_d I v__law_own_kinds_0_0) rfl (by decide +kernel)) pls_nil (starEach_cons rfl)) (starEach_cons rfl)) (starEach_cons rfl)))))) rfl) (psts_one (pst_ret (px_imm (s_count I (s_r I v__law_own_kinds_0_1) (pr_val s_bl) rfl rfl rfl))))))))))))))
theorem h__law_own_kinds (T : Txt Θ) : FnAt Θ "_law_own_kinds" 1 [] 1 F__law_own_kinds := mkFn T.d__law_own_kinds fun X I => w__law_own_kinds T I
theorem w__law_all_right (T : Txt Θ) (I : In Θ N__law_all_right sc__law_all_right sc__law_all_right 1 X) : PSts X (defBody s__law_all_right) B__law_all_right :=
  (psts_one (pst_ret (px_imm (sd_cmp I c_eqN (pr_val (pd_fix (s_comp (own := [("_law_e", 2)]) I (pit_seq (s_d I v__law_all_right_0_0)) b__law_all_right_1 (fun Y (J1 : In _ N__law_all_right rc__law_all_right_1 bc__law_all_right_1 _ Y) => ⟨(s_nm J1 t__law_all_right_1_2), (pts_one (sb_w (pb_or (sb_cmp J1 c_ne (pr_val (pd_fix (s_call J1 (h__law_base T) (by decide) g__law_all_right_1__law_base (pas_cons (pr_val (s_d J1 v__law_all_right_1_2)) pas_nil (starEach_cons rfl)) rfl (by decide +kernel)))) (s_r J1 v__law_all_right_1_1)) (pb_or1 (sb_cmp J1 c_ne (pr_val (pd_fix (s_call J1 (h__law_own_kinds T) (by decide) g__law_all_right_1__law_own_kinds (pas_cons (pr_val (s_d J1 v__law_all_right_1_2)) pas_nil (starEach_cons rfl)) rfl (by decide +kernel)))) (pr_val s_int)))))), (s_d J1 v__law_all_right_1_2)⟩) (fun _ => rfl)))) (pr_val (pd_fix (px_lst pls_nil)))))))
theorem h__law_all_right (T : Txt Θ) : FnAt Θ "_law_all_right" 2 [] 2 F__law_all_right := mkFn T.d__law_all_right fun X I => w__law_all_right T I
theorem w__law_same (T : Txt Θ) (I : In Θ N__law_same sc__law_same sc__law_same 0 X) : PSts X (defBody s__law_same) B__law_same :=
  (psts_one (pst_ret (px_imm (sd_cmp I c_eqN (pr_val (pd_fix (s_comp (own := [("_law_one", 2)]) I (pit_seq (s_d I v__law_same_0_0)) b__law_same_1 (fun Y (J1 : In _ N__law_same rc__law_same_1 bc__law_same_1 _ Y) => ⟨(s_nm J1 t__law_same_1_2), (pts_one (sb_w (pb_or (sb_cmp J1 c_ne (pr_val (pd_fix (s_blt J1 b_reprG g__law_same_1_repr T.n_repr (pas_cons (s_r J1 v__law_same_1_2) pas_nil (starEach_cons rfl)) rfl))) (pr_val (pd_fix (s_blt J1 b_reprG g__law_same_1_repr T.n_repr (pas_cons (s_r J1 v__law_same_1_1) pas_nil (starEach_cons rfl)) rfl)))) (pb_or1 (sb_cmp J1 c_ne (pr_val (s_isi J1 (n := "bool") g__law_same_1_isinstance T.n_isinstance g__law_same_1_bool T.n_bool (by rfl) (s_r J1 v__law_same_1_2) rfl (by decide +kernel) (by decide +kernel))) (pr_val (s_isi J1 (n := "bool") g__law_same_1_isinstance T.n_isinstance g__law_same_1_bool T.n_bool (by rfl) (s_r J1 v__law_same_1_1) rfl (by decide +kernel) (by decide +kernel)))))))), (s_d J1 v__law_same_1_2)⟩) (fun _ => rfl)))) (pr_val (pd_fix (px_lst pls_nil)))))))
theorem h__law_same (T : Txt Θ) : FnAt Θ "_law_same" 2 [] 1 F__law_same := mkFn T.d__law_same fun X I => w__law_same T I
theorem w__law_value_errors_right (T : Txt Θ) (I : In Θ N__law_value_errors_right sc__law_value_errors_right sc__law_value_errors_right 10 X) : PSts X (defBody s__law_value_errors_right) B__law_value_errors_right :=
  (psts_cons (s_set I t__law_value_errors_right_0_1 (px_lst (pls_cons (pd_fix (px_imm (s_mkx I (v_NoTable T).1 (by decide) g__law_value_errors_right_0_NoTable (pls_cons (s_d I v__law_value_errors_right_0_0) pls_nil (starEach_cons rfl)) rfl (by decide) (by decide +kernel)))) (pls_cons (pd_fix (px_imm (s_mkxK I (v_NoTable T).2 (by decide) g__law_value_errors_right_0_NoTable (s_d I v__law_value_errors_right_0_0) (by rfl) (by rfl) (by rfl) (by decide +kernel)))) (pls_cons (pd_fix (px_imm (s_mkx I (v_NoMark T).1 (by decide) g__law_value_errors_right_0_NoMark (pls_cons (s_d I v__law_value_errors_right_0_0) pls_nil (starEach_cons rfl)) rfl (by decide) (by decide +kernel)))) (pls_cons (pd_fix (px_imm (s_mkxK I (v_NoMark T).2 (by decide) g__law_value_errors_right_0_NoMark (s_d I v__law_value_errors_right_0_0) (by rfl) (by rfl) (by rfl) (by decide +kernel)))) (pls_cons (pd_fix (px_imm (s_mkx I (v_NoRow T).1 (by decide) g__law_value_errors_right_0_NoRow (pls_cons (s_d I v__law_value_errors_right_0_0) pls_nil (starEach_cons rfl)) rfl (by decide) (by decide +kernel)))) (pls_cons (pd_fix (px_imm (s_mkxK I (v_NoRow T).2 (by decide) g__law_value_errors_right_0_NoRow (s_d I v__law_value_errors_right_0_0) (by rfl) (by rfl) (by rfl) (by decide +kernel)))) pls_nil (starEach_cons rfl)) (starEach_cons rfl)) (starEach_cons rfl)) (starEach_cons rfl)) (starEach_cons rfl)) (starEach_cons rfl))) rfl) (psts_cons (s_set I t__law_value_errors_right_0_1 (s_add (s_r I v__law_value_errors_right_0_1) (pr_val (pd_fix (px_lst (pls_cons (pd_fix (px_imm (s_mkx I (v_NoWord T).1 (by decide) g__law_value_errors_right_0_NoWord (pls_cons (s_d I v__law_value_errors_right_0_0) pls_nil (starEach_cons rfl)) rfl (by decide) (by decide +kernel)))) (pls_cons (pd_fix (px_imm (s_mkxK I (v_NoWord T).2 (by decide) g__law_value_errors_right_0_NoWord (s_d I v__law_value_errors_right_0_0) (by rfl) (by rfl) (by rfl) (by decide +kernel)))) (pls_cons (pd_fix (px_imm (s_mkx I (v_NoOrder T).1 (by decide) g__law_value_errors_right_0_NoOrder (pls_cons (s_d I v__law_value_errors_right_0_0) pls_nil (starEach_cons rfl)) rfl (by decide) (by decide +kernel)))) (pls_cons (pd_fix (px_imm (s_mkxK I (v_NoOrder T).2 (by decide) g__law_value_errors_right_0_NoOrder (s_d I v__law_value_errors_right_0_0) (by rfl) (by rfl) (by rfl) (by decide +kernel)))) (pls_cons (pd_fix (px_imm (s_mkx I (v_NoRung T).1 (by decide) g__law_value_errors_right_0_NoRung (pls_cons (s_d I v__law_value_errors_right_0_0) pls_nil (starEach_cons rfl)) rfl (by decide) (by decide +kernel)))) (pls_cons (pd_fix (px_imm (s_mkx0 I (v_NotAlike T) (by decide) g__law_value_errors_right_0_NotAlike (by decide +kernel)))) pls_nil (starEach_cons rfl)) (starEach_cons rfl)) (starEach_cons rfl)) (starEach_cons rfl)) (starEach_cons rfl)) (starEach_cons rfl)))))) rfl) (psts_cons (s_set I t__law_value_errors_right_0_1 (s_add (s_r I v__law_value_errors_right_0_1) (pr_val (pd_fix (px_lst (pls_cons (pd_fix (px_imm (s_mkxK I (v_NoRung T).2 (by decide) g__law_value_errors_right_0_NoRung (s_d I v__law_value_errors_right_0_0) (by rfl) (by rfl) (by rfl) (by decide +kernel)))) (pls_cons (pd_fix (px_imm (s_mkx0 I (v_NoNames T) (by decide) g__law_value_errors_right_0_NoNames (by decide +kernel)))) (pls_cons (pd_fix (px_imm (s_mkx I (v_NotWell T).1 (by decide) g__law_value_errors_right_0_NotWell (pls_cons (s_d I v__law_value_errors_right_0_0) pls_nil (starEach_cons rfl)) rfl (by decide) (by decide +kernel)))) (pls_cons (pd_fix (px_imm (s_mkxK I (v_NotWell T).2 (by decide) g__law_value_errors_right_0_NotWell (s_d I v__law_value_errors_right_0_0) (by rfl) (by rfl) (by rfl) (by decide +kernel)))) (pls_cons (pd_fix (px_imm (s_mkx I (v_NotPart T).1 (by decide) g__law_value_errors_right_0_NotPart (pls_cons (s_d I v__law_value_errors_right_0_0) pls_nil (starEach_cons rfl)) rfl (by decide) (by decide +kernel)))) pls_nil (starEach_cons rfl)) (starEach_cons rfl)) (starEach_cons rfl)) (starEach_cons rfl)) (starEach_cons rfl)))))) rfl) (psts_cons (s_set I t__law_value_errors_right_0_1 (s_add (s_r I v__law_value_errors_right_0_1) (pr_val (pd_fix (px_lst (pls_cons (pd_fix (px_imm (s_mkxK I (v_NotPart T).2 (by decide) g__law_value_errors_right_0_NotPart (s_d I v__law_value_errors_right_0_0) (by rfl) (by rfl) (by rfl) (by decide +kernel)))) (pls_cons (pd_fix (px_imm (s_mkx I (v_SameMark T).1 (by decide) g__law_value_errors_right_0_SameMark (pls_cons (s_d I v__law_value_errors_right_0_0) pls_nil (starEach_cons rfl)) rfl (by decide) (by decide +kernel)))) (pls_cons (pd_fix (px_imm (s_mkxK I (v_SameMark T).2 (by decide) g__law_value_errors_right_0_SameMark (s_d I v__law_value_errors_right_0_0) (by rfl) (by rfl) (by rfl) (by decide +kernel)))) (pls_cons (pd_fix (px_imm (s_mkx I (v_NoText T).1 (by decide) g__law_value_errors_right_0_NoText (pls_cons (s_d I v__law_value_errors_right_0_0) pls_nil (starEach_cons rfl)) rfl (by decide) (by decide +kernel)))) (pls_cons (pd_fix (px_imm (s_mkxK I (v_NoText T).2 (by decide) g__law_value_errors_right_0_NoText (s_d I v__law_value_errors_right_0_0) (by rfl) (by rfl) (by rfl) (by decide +kernel)))) pls_nil (starEach_cons rfl)) (starEach_cons rfl)) (starEach_cons rfl)) (starEach_cons rfl)) (starEach_cons rfl)))))) rfl) (psts_cons (s_set I t__law_value_errors_right_0_1 (s_add (s_r I v__law_value_errors_right_0_1) (pr_val (pd_fix (px_lst (pls_cons (pd_fix (px_imm (s_mkx I (v_NoSight T).1 (by decide) g__law_value_errors_right_0_NoSight (pls_cons (s_d I v__law_value_errors_right_0_0) pls_nil (starEach_cons rfl)) rfl (by decide) (by decide +kernel)))) (pls_cons (pd_fix (px_imm (s_mkxK I (v_NoSight T).2 (by decide) g__law_value_errors_right_0_NoSight (s_d I v__law_value_errors_right_0_0) (by rfl) (by rfl) (by rfl) (by decide +kernel)))) (pls_cons (pd_fix (px_imm (s_mkx I (v_NoDeed T).1 (by decide) g__law_value_errors_right_0_NoDeed (pls_cons (s_d I v__law_value_errors_right_0_0) pls_nil (starEach_cons rfl)) rfl (by decide) (by decide +kernel)))) (pls_cons (pd_fix (px_imm (s_mkxK I (v_NoDeed T).2 (by decide) g__law_value_errors_right_0_NoDeed (s_d I v__law_value_errors_right_0_0) (by rfl) (by rfl) (by rfl) (by decide +kernel)))) (pls_cons (pd_fix (px_imm (s_mkx I (v_NoAsk T).1 (by decide) g__law_value_errors_right_0_NoAsk (pls_cons (s_d I v__law_value_errors_right_0_0) pls_nil (starEach_cons rfl)) rfl (by decide) (by decide +kernel)))) pls_nil (starEach_cons rfl)) (starEach_cons rfl)) (starEach_cons rfl)) (starEach_cons rfl)) (starEach_cons rfl)))))) rfl) (psts_cons (s_set I t__law_value_errors_right_0_1 (s_add (s_r I v__law_value_errors_right_0_1) (pr_val (pd_fix (px_lst (pls_cons (pd_fix (px_imm (s_mkxK I (v_NoAsk T).2 (by decide) g__law_value_errors_right_0_NoAsk (s_d I v__law_value_errors_right_0_0) (by rfl) (by rfl) (by rfl) (by decide +kernel)))) (pls_cons (pd_fix (px_imm (s_mkx I (v_Unread T).1 (by decide) g__law_value_errors_right_0_Unread (pls_cons (s_d I v__law_value_errors_right_0_0) pls_nil (starEach_cons rfl)) rfl (by decide) (by decide +kernel)))) (pls_cons (pd_fix (px_imm (s_mkxK I (v_Unread T).2 (by decide) g__law_value_errors_right_0_Unread (s_d I v__law_value_errors_right_0_0) (by rfl) (by rfl) (by rfl) (by decide +kernel)))) (pls_cons (pd_fix (px_imm (s_mkx I (v_Unseen T).1 (by decide) g__law_value_errors_right_0_Unseen (pls_cons (s_d I v__law_value_errors_right_0_0) pls_nil (starEach_cons rfl)) rfl (by decide) (by decide +kernel)))) (pls_cons (pd_fix (px_imm (s_mkxK I (v_Unseen T).2 (by decide) g__law_value_errors_right_0_Unseen (s_d I v__law_value_errors_right_0_0) (by rfl) (by rfl) (by rfl) (by decide +kernel)))) pls_nil (starEach_cons rfl)) (starEach_cons rfl)) (starEach_cons rfl)) (starEach_cons rfl)) (starEach_cons rfl)))))) rfl) (psts_cons (s_set I t__law_value_errors_right_0_1 (s_add (s_r I v__law_value_errors_right_0_1) (pr_val (pd_fix (px_lst (pls_cons (pd_fix (px_imm (s_mkx I (v_Unfit T).1 (by decide) g__law_value_errors_right_0_Unfit (pls_cons (s_d I v__law_value_errors_right_0_0) pls_nil (starEach_cons rfl)) rfl (by decide) (by decide +kernel)))) (pls_cons (pd_fix (px_imm (s_mkxK I (v_Unfit T).2 (by decide) g__law_value_errors_right_0_Unfit (s_d I v__law_value_errors_right_0_0) (by rfl) (by rfl) (by rfl) (by decide +kernel)))) pls_nil (starEach_cons rfl)) (starEach_cons rfl)))))) rfl) (psts_cons (s_set I t__law_value_errors_right_0_2 (px_lst (pls_cons (s_exc I T.xl (pd_fix (px_imm (s_mkx I (v_NoTable T).1 (by decide) g__law_value_errors_right_0_NoTable (pls_cons (s_d I v__law_value_errors_right_0_0) pls_nil (starEach_cons rfl)) rfl (by decide) (by decide +kernel)))) rfl) (pls_cons (s_exc I T.xl (pd_fix (px_imm (s_mkxK I (v_NoTable T).2 (by decide) g__law_value_errors_right_0_NoTable (s_d I v__law_value_errors_right_0_0) (by rfl) (by rfl) (by rfl) (by decide +kernel)))) rfl) (pls_cons (s_exc I T.xl (pd_fix (px_imm (s_mkx I (v_NoMark T).1 (by decide) g__law_value_errors_right_0_NoMark (pls_cons (s_d I v__law_value_errors_right_0_0) pls_nil (starEach_cons rfl)) rfl (by decide) (by decide +kernel)))) rfl) (pls_cons (s_exc I T.xl (pd_fix (px_imm (s_mkxK I (v_NoMark T).2 (by decide) g__law_value_errors_right_0_NoMark (s_d I v__law_value_errors_right_0_0) (by rfl) (by rfl) (by rfl) (by decide +kernel)))) rfl) pls_nil (starEach_cons rfl)) (starEach_cons rfl)) (starEach_cons rfl)) (starEach_cons rfl))) rfl) (psts_cons (s_set I t__law_value_errors_right_0_2 (s_add (s_r I v__law_value_errors_right_0_2) (pr_val (pd_fix (px_lst (pls_cons (s_exc I T.xl (pd_fix (px_imm (s_mkx I (v_NoRow T).1 (by decide) g__law_value_errors_right_0_NoRow (pls_cons (s_d I v__law_value_errors_right_0_0) pls_nil (starEach_cons rfl)) rfl (by decide) (by decide +kernel)))) rfl) (pls_cons (s_exc I T.xl (pd_fix (px_imm (s_mkxK I (v_NoRow T).2 (by decide) g__law_value_errors_right_0_NoRow (s_d I v__law_value_errors_right_0_0) (by rfl) (by rfl) (by rfl) (by decide +kernel)))) rfl) (pls_cons (s_exc I T.xl (pd_fix (px_imm (s_mkx I (v_NoWord T).1 (by decide) g__law_value_errors_right_0_NoWord (pls_cons (s_d I v__law_value_errors_right_0_0) pls_nil (starEach_cons rfl)) rfl (by decide) (by decide +kernel)))) rfl) (pls_cons (s_exc I T.xl (pd_fix (px_imm (s_mkxK I (v_NoWord T).2 (by decide) g__law_value_errors_right_0_NoWord (s_d I v__law_value_errors_right_0_0) (by rfl) (by rfl) (by rfl) (by decide +kernel)))) rfl) (pls_cons (s_exc I T.xl (pd_fix (px_imm (s_mkx I (v_NoOrder T).1 (by decide) g__law_value_errors_right_0_NoOrder (pls_cons (s_d I v__law_value_errors_right_0_0) pls_nil (starEach_cons rfl)) rfl (by decide) (by decide +kernel)))) rfl) pls_nil (starEach_cons rfl)) (starEach_cons rfl)) (starEach_cons rfl)) (starEach_cons rfl)) (starEach_cons rfl)))))) rfl) (psts_cons (s_set I t__law_value_errors_right_0_2 (s_add (s_r I v__law_value_errors_right_0_2) (pr_val (pd_fix (px_lst (pls_cons (s_exc I T.xl (pd_fix (px_imm (s_mkxK I (v_NoOrder T).2 (by decide) g__law_value_errors_right_0_NoOrder (s_d I v__law_value_errors_right_0_0) (by rfl) (by rfl) (by rfl) (by decide +kernel)))) rfl) (pls_cons (s_exc I T.xl (pd_fix (px_imm (s_mkx I (v_NoRung T).1 (by decide) g__law_value_errors_right_0_NoRung (pls_cons (s_d I v__law_value_errors_right_0_0) pls_nil (starEach_cons rfl)) rfl (by decide) (by decide +kernel)))) rfl) (pls_cons (s_exc I T.xl (pd_fix (px_imm (s_mkxK I (v_NoRung T).2 (by decide) g__law_value_errors_right_0_NoRung (s_d I v__law_value_errors_right_0_0) (by rfl) (by rfl) (by rfl) (by decide +kernel)))) rfl) (pls_cons (s_exc I T.xl (pd_fix (px_imm (s_mkx I (v_NotWell T).1 (by decide) g__law_value_errors_right_0_NotWell (pls_cons (s_d I v__law_value_errors_right_0_0) pls_nil (starEach_cons rfl)) rfl (by decide) (by decide +kernel)))) rfl) pls_nil (starEach_cons rfl)) (starEach_cons rfl)) (starEach_cons rfl)) (starEach_cons rfl)))))) rfl) (psts_cons (s_set I t__law_value_errors_right_0_2 (s_add (s_r I v__law_value_errors_right_0_2) (pr_val (pd_fix (px_lst (pls_cons (s_exc I T.xl (pd_fix (px_imm (s_mkxK I (v_NotWell T).2 (by decide) g__law_value_errors_right_0_NotWell (s_d I v__law_value_errors_right_0_0) (by rfl) (by rfl) (by rfl) (by decide +kernel)))) rfl) (pls_cons (s_exc I T.xl (pd_fix (px_imm (s_mkx I (v_NotPart T).1 (by decide) g__law_value_errors_right_0_NotPart (pls_cons (s_d I v__law_value_errors_right_0_0) pls_nil (starEach_cons rfl)) rfl (by decide) (by decide +kernel)))) rfl) (pls_cons (s_exc I T.xl (pd_fix (px_imm (s_mkxK I (v_NotPart T).2 (by decide) g__law_value_errors_right_0_NotPart (s_d I v__law_value_errors_right_0_0) (by rfl) (by rfl) (by rfl) (by decide +kernel)))) rfl) (pls_cons (s_exc I T.xl (pd_fix (px_imm (s_mkx I (v_SameMark T).1 (by decide) g__law_value_errors_right_0_SameMark (pls_cons (s_d I v__law_value_errors_right_0_0) pls_nil (starEach_cons rfl)) rfl (by decide) (by decide +kernel)))) rfl) pls_nil (starEach_cons rfl)) (starEach_cons rfl)) (starEach_cons rfl)) (starEach_cons rfl)))))) rfl) (psts_cons (s_set I t__law_value_errors_right_0_2 (s_add (s_r I v__law_value_errors_right_0_2) (pr_val (pd_fix (px_lst (pls_cons (s_exc I T.xl (pd_fix (px_imm (s_mkxK I (v_SameMark T).2 (by decide) g__law_value_errors_right_0_SameMark (s_d I v__law_value_errors_right_0_0) (by rfl) (by rfl) (by rfl) (by decide +kernel)))) rfl) (pls_cons (s_exc I T.xl (pd_fix (px_imm (s_mkx I (v_NoText T).1 (by decide) g__law_value_errors_right_0_NoText (pls_cons (s_d I v__law_value_errors_right_0_0) pls_nil (starEach_cons rfl)) rfl (by decide) (by decide +kernel)))) rfl) (pls_cons (s_exc I T.xl (pd_fix (px_imm (s_mkxK I (v_NoText T).2 (by decide) g__law_value_errors_right_0_NoText (s_d I v__law_value_errors_right_0_0) (by rfl) (by rfl) (by rfl) (by decide +kernel)))) rfl) (pls_cons (s_exc I T.xl (pd_fix (px_imm (s_mkx I (v_NoSight T).1 (by decide) g__law_value_errors_right_0_NoSight (pls_cons (s_d I v__law_value_errors_right_0_0) pls_nil (starEach_cons rfl)) rfl (by decide) (by decide +kernel)))) rfl) pls_nil (starEach_cons rfl)) (starEach_cons rfl)) (starEach_cons rfl)) (starEach_cons rfl)))))) rfl) (psts_cons (s_set I t__law_value_errors_right_0_2 (s_add (s_r I v__law_value_errors_right_0_2) (pr_val (pd_fix (px_lst (pls_cons (s_exc I T.xl (pd_fix (px_imm (s_mkxK I (v_NoSight T).2 (by decide) g__law_value_errors_right_0_NoSight (s_d I v__law_value_errors_right_0_0) (by rfl) (by rfl) (by rfl) (by decide +kernel)))) rfl) (pls_cons (s_exc I T.xl (pd_fix (px_imm (s_mkx I (v_NoDeed T).1 (by decide) g__law_value_errors_right_0_NoDeed (pls_cons (s_d I v__law_value_errors_right_0_0) pls_nil (starEach_cons rfl)) rfl (by decide) (by decide +kernel)))) rfl) (pls_cons (s_exc I T.xl (pd_fix (px_imm (s_mkxK I (v_NoDeed T).2 (by decide) g__law_value_errors_right_0_NoDeed (s_d I v__law_value_errors_right_0_0) (by rfl) (by rfl) (by rfl) (by decide +kernel)))) rfl) pls_nil (starEach_cons rfl)) (starEach_cons rfl)) (starEach_cons rfl)))))) rfl) (psts_cons (s_set I t__law_value_errors_right_0_2 (s_add (s_r I v__law_value_errors_right_0_2) (pr_val (pd_fix (px_lst (pls_cons (s_exc I T.xl (pd_fix (px_imm (s_mkx I (v_NoAsk T).1 (by decide) g__law_value_errors_right_0_NoAsk (pls_cons (s_d I v__law_value_errors_right_0_0) pls_nil (starEach_cons rfl)) rfl (by decide) (by decide +kernel)))) rfl) (pls_cons (s_exc I T.xl (pd_fix (px_imm (s_mkxK I (v_NoAsk T).2 (by decide) g__law_value_errors_right_0_NoAsk (s_d I v__law_value_errors_right_0_0) (by rfl) (by rfl) (by rfl) (by decide +kernel)))) rfl) (pls_cons (s_exc I T.xl (pd_fix (px_imm (s_mkx I (v_Unread T).1 (by decide) g__law_value_errors_right_0_Unread (pls_cons (s_d I v__law_value_errors_right_0_0) pls_nil (starEach_cons rfl)) rfl (by decide) (by decide +kernel)))) rfl) (pls_cons (s_exc I T.xl (pd_fix (px_imm (s_mkxK I (v_Unread T).2 (by decide) g__law_value_errors_right_0_Unread (s_d I v__law_value_errors_right_0_0) (by rfl) (by rfl) (by rfl) (by decide +kernel)))) rfl) pls_nil (starEach_cons rfl)) (starEach_cons rfl)) (starEach_cons rfl)) (starEach_cons rfl)))))) rfl) (psts_cons (s_set I t__law_value_errors_right_0_2 (s_add (s_r I v__law_value_errors_right_0_2) (pr_val (pd_fix (px_lst (pls_cons (s_exc I T.xl (pd_fix (px_imm (s_mkx I (v_Unseen T).1 (by decide) g__law_value_errors_right_0_Unseen (pls_cons (s_d I v__law_value_errors_right_0_0) pls_nil (starEach_cons rfl)) rfl (by decide) (by decide +kernel)))) rfl) (pls_cons (s_exc I T.xl (pd_fix (px_imm (s_mkxK I (v_Unseen T).2 (by decide) g__law_value_errors_right_0_Unseen (s_d I v__law_value_errors_right_0_0) (by rfl) (by rfl) (by rfl) (by decide +kernel)))) rfl) (pls_cons (s_exc I T.xl (pd_fix (px_imm (s_mkx I (v_Unfit T).1 (by decide) g__law_value_errors_right_0_Unfit (pls_cons (s_d I v__law_value_errors_right_0_0) pls_nil (starEach_cons rfl)) rfl (by decide) (by decide +kernel)))) rfl) (pls_cons (s_exc I T.xl (pd_fix (px_imm (s_mkxK I (v_Unfit T).2 (by decide) g__law_value_errors_right_0_Unfit (s_d I v__law_value_errors_right_0_0) (by rfl) (by rfl) (by rfl) (by decide +kernel)))) rfl) pls_nil (starEach_cons rfl)) (starEach_cons rfl)) (starEach_cons rfl)) (starEach_cons rfl)))))) rfl) (psts_one (pst_ret (px_imm (pd_and (pd_fix (s_call I (h__law_all_right T) (by decide) g__law_value_errors_right_0__law_all_right (pas_cons (pr_val (s_d I v__law_value_errors_right_0_1)) (pas_cons (pr_val s_str) pas_nil (starEach_cons rfl)) (starEach_cons rfl)) rfl (by decide +kernel))) (pd_one (pd_fix (s_call I (h__law_same T) (by decide) g__law_value_errors_right_0__law_same (pas_cons (pr_val (s_d I v__law_value_errors_right_0_2)) (pas_cons (pr_val (s_d I v__law_value_errors_right_0_0)) pas_nil (starEach_cons rfl)) (starEach_cons rfl)) rfl (by decide +kernel)))))))))))))))))))))))
theorem h__law_value_errors_right (T : Txt Θ) : FnAt Θ "_law_value_errors_right" 1 [] 11 F__law_value_errors_right := mkFn T.d__law_value_errors_right fun X I => w__law_value_errors_right T I
theorem w__law_fault_errors_right (T : Txt Θ) (I : In Θ N__law_fault_errors_right sc__law_fault_errors_right sc__law_fault_errors_right 10 X) : PSts X (defBody s__law_fault_errors_right) B__law_fault_errors_right :=
  (psts_cons (s_set I t__law_fault_errors_right_0_1 (px_lst (pls_cons (pd_fix (px_imm (s_mkx I (v_NotThree T).1 (by decide) g__law_fault_errors_right_0_NotThree (pls_cons (s_d I v__law_fault_errors_right_0_0) pls_nil (starEach_cons rfl)) rfl (by decide) (by decide +kernel)))) (pls_cons (pd_fix (px_imm (s_mkxK I (v_NotThree T).2 (by decide) g__law_fault_errors_right_0_NotThree (s_d I v__law_fault_errors_right_0_0) (by rfl) (by rfl) (by rfl) (by decide +kernel)))) (pls_cons (pd_fix (px_imm (s_mkx I (v_NotSided T).1 (by decide) g__law_fault_errors_right_0_NotSided (pls_cons (s_d I v__law_fault_errors_right_0_0) pls_nil (starEach_cons rfl)) rfl (by decide) (by decide +kernel)))) (pls_cons (pd_fix (px_imm (s_mkxK I (v_NotSided T).2 (by decide) g__law_fault_errors_right_0_NotSided (s_d I v__law_fault_errors_right_0_0) (by rfl) (by rfl) (by rfl) (by decide +kernel)))) (pls_cons (pd_fix (px_imm (s_mkx I (v_NotTwice T).1 (by decide) g__law_fault_errors_right_0_NotTwice (pls_cons (s_d I v__law_fault_errors_right_0_0) pls_nil (starEach_cons rfl)) rfl (by decide) (by decide +kernel)))) pls_nil (starEach_cons rfl)) (starEach_cons rfl)) (starEach_cons rfl)) (starEach_cons rfl)) (starEach_cons rfl))) rfl) (psts_cons (s_set I t__law_fault_errors_right_0_1 (s_add (s_r I v__law_fault_errors_right_0_1) (pr_val (pd_fix (px_lst (pls_cons (pd_fix (px_imm (s_mkxK I (v_NotTwice T).2 (by decide) g__law_fault_errors_right_0_NotTwice (s_d I v__law_fault_errors_right_0_0) (by rfl) (by rfl) (by rfl) (by decide +kernel)))) (pls_cons (pd_fix (px_imm (s_mkx I (v_NotOneOne T).1 (by decide) g__law_fault_errors_right_0_NotOneOne (pls_cons (s_d I v__law_fault_errors_right_0_0) pls_nil (starEach_cons rfl)) rfl (by decide) (by decide +kernel)))) (pls_cons (pd_fix (px_imm (s_mkxK I (v_NotOneOne T).2 (by decide) g__law_fault_errors_right_0_NotOneOne (s_d I v__law_fault_errors_right_0_0) (by rfl) (by rfl) (by rfl) (by decide +kernel)))) pls_nil (starEach_cons rfl)) (starEach_cons rfl)) (starEach_cons rfl)))))) rfl) (psts_cons (s_set I t__law_fault_errors_right_0_2 (px_lst (pls_cons (s_exc I T.xl (pd_fix (px_imm (s_mkx I (v_NotThree T).1 (by decide) g__law_fault_errors_right_0_NotThree (pls_cons (s_d I v__law_fault_errors_right_0_0) pls_nil (starEach_cons rfl)) rfl (by decide) (by decide +kernel)))) rfl) (pls_cons (s_exc I T.xl (pd_fix (px_imm (s_mkxK I (v_NotThree T).2 (by decide) g__law_fault_errors_right_0_NotThree (s_d I v__law_fault_errors_right_0_0) (by rfl) (by rfl) (by rfl) (by decide +kernel)))) rfl) (pls_cons (s_exc I T.xl (pd_fix (px_imm (s_mkx I (v_NotSided T).1 (by decide) g__law_fault_errors_right_0_NotSided (pls_cons (s_d I v__law_fault_errors_right_0_0) pls_nil (starEach_cons rfl)) rfl (by decide) (by decide +kernel)))) rfl) (pls_cons (s_exc I T.xl (pd_fix (px_imm (s_mkxK I (v_NotSided T).2 (by decide) g__law_fault_errors_right_0_NotSided (s_d I v__law_fault_errors_right_0_0) (by rfl) (by rfl) (by rfl) (by decide +kernel)))) rfl) pls_nil (starEach_cons rfl)) (starEach_cons rfl)) (starEach_cons rfl)) (starEach_cons rfl))) rfl) (psts_cons (s_set I t__law_fault_errors_right_0_2 (s_add (s_r I v__law_fault_errors_right_0_2) (pr_val (pd_fix (px_lst (pls_cons (s_exc I T.xl (pd_fix (px_imm (s_mkx I (v_NotTwice T).1 (by decide) g__law_fault_errors_right_0_NotTwice (pls_cons (s_d I v__law_fault_errors_right_0_0) pls_nil (starEach_cons rfl)) rfl (by decide) (by decide +kernel)))) rfl) (pls_cons (s_exc I T.xl (pd_fix (px_imm (s_mkxK I (v_NotTwice T).2 (by decide) g__law_fault_errors_right_0_NotTwice (s_d I v__law_fault_errors_right_0_0) (by rfl) (by rfl) (by rfl) (by decide +kernel)))) rfl) (pls_cons (s_exc I T.xl (pd_fix (px_imm (s_mkx I (v_NotOneOne T).1 (by decide) g__law_fault_errors_right_0_NotOneOne (pls_cons (s_d I v__law_fault_errors_right_0_0) pls_nil (starEach_cons rfl)) rfl (by decide) (by decide +kernel)))) rfl) pls_nil (starEach_cons rfl)) (starEach_cons rfl)) (starEach_cons rfl)))))) rfl) (psts_cons (s_set I t__law_fault_errors_right_0_2 (s_add (s_r I v__law_fault_errors_right_0_2) (pr_val (pd_fix (px_lst (pls_cons (s_exc I T.xl (pd_fix (px_imm (s_mkxK I (v_NotOneOne T).2 (by decide) g__law_fault_errors_right_0_NotOneOne (s_d I v__law_fault_errors_right_0_0) (by rfl) (by rfl) (by rfl) (by decide +kernel)))) rfl) pls_nil (starEach_cons rfl)))))) rfl) (psts_cons (pst_if (sb_w (pb_or (pb_not (pb_tru (pr_val (pd_fix (s_call I (h__law_all_right T) (by decide) g__law_fault_errors_right_0__law_all_right (pas_cons (pr_val (s_d I v__law_fault_errors_right_0_1)) (pas_cons (pr_val s_str) pas_nil (starEach_cons rfl)) (starEach_cons rfl)) rfl (by decide +kernel)))) (fun _ => rfl))) (pb_or1 (pb_not (pb_tru (pr_val (pd_fix (s_call I (h__law_same T) (by decide) g__law_fault_errors_right_0__law_same (pas_cons (pr_val (s_d I v__law_fault_errors_right_0_2)) (pas_cons (pr_val (s_d I v__law_fault_errors_right_0_0)) pas_nil (starEach_cons rfl)) (starEach_cons rfl)) rfl (by decide +kernel)))) (fun _ => rfl)))))) (psts_one (pst_ret (px_imm s_bl))) psts_nil) (psts_cons (s_set I t__law_fault_errors_right_0_1 (px_lst (pls_cons (pd_fix (px_imm (s_mkx I (v_TooMany T).1 (by decide) g__law_fault_errors_right_0_TooMany (pls_cons (s_d I v__law_fault_errors_right_0_0) pls_nil (starEach_cons rfl)) rfl (by decide) (by decide +kernel)))) (pls_cons (pd_fix (px_imm (s_mkxK I (v_TooMany T).2 (by decide) g__law_fault_errors_right_0_TooMany (s_d I v__law_fault_errors_right_0_0) (by rfl) (by rfl) (by rfl) (by decide +kernel)))) (pls_cons (pd_fix (px_imm (s_mkx I (v_TooLong T).1 (by decide) g__law_fault_errors_right_0_TooLong (pls_cons (s_d I v__law_fault_errors_right_0_0) pls_nil (starEach_cons rfl)) rfl (by decide) (by decide +kernel)))) (pls_cons (pd_fix (px_imm (s_mkxK I (v_TooLong T).2 (by decide) g__law_fault_errors_right_0_TooLong (s_d I v__law_fault_errors_right_0_0) (by rfl) (by rfl) (by rfl) (by decide +kernel)))) pls_nil (starEach_cons rfl)) (starEach_cons rfl)) (starEach_cons rfl)) (starEach_cons rfl))) rfl) (psts_cons (s_set I t__law_fault_errors_right_0_2 (px_lst (pls_cons (s_exc I T.xl (pd_fix (px_imm (s_mkx I (v_TooMany T).1 (by decide) g__law_fault_errors_right_0_TooMany (pls_cons (s_d I v__law_fault_errors_right_0_0) pls_nil (starEach_cons rfl)) rfl (by decide) (by decide +kernel)))) rfl) (pls_cons (s_exc I T.xl (pd_fix (px_imm (s_mkxK I (v_TooMany T).2 (by decide) g__law_fault_errors_right_0_TooMany (s_d I v__law_fault_errors_right_0_0) (by rfl) (by rfl) (by rfl) (by decide +kernel)))) rfl) (pls_cons (s_exc I T.xl (pd_fix (px_imm (s_mkx I (v_TooLong T).1 (by decide) g__law_fault_errors_right_0_TooLong (pls_cons (s_d I v__law_fault_errors_right_0_0) pls_nil (starEach_cons rfl)) rfl (by decide) (by decide +kernel)))) rfl) (pls_cons (s_exc I T.xl (pd_fix (px_imm (s_mkxK I (v_TooLong T).2 (by decide) g__law_fault_errors_right_0_TooLong (s_d I v__law_fault_errors_right_0_0) (by rfl) (by rfl) (by rfl) (by decide +kernel)))) rfl) pls_nil (starEach_cons rfl)) (starEach_cons rfl)) (starEach_cons rfl)) (starEach_cons rfl))) rfl) (psts_one (pst_ret (px_imm (pd_and (pd_fix (s_call I (h__law_all_right T) (by decide) g__law_fault_errors_right_0__law_all_right (pas_cons (pr_val (s_d I v__law_fault_errors_right_0_1)) (pas_cons (pr_val s_str) pas_nil (starEach_cons rfl)) (starEach_cons rfl)) rfl (by decide +kernel))) (pd_one (pd_fix (s_call I (h__law_same T) (by decide) g__law_fault_errors_right_0__law_same (pas_cons (pr_val (s_d I v__law_fault_errors_right_0_2)) (pas_cons (pr_val (s_d I v__law_fault_errors_right_0_0)) pas_nil (starEach_cons rfl)) (starEach_cons rfl)) rfl (by decide +kernel))))))))))))))))
theorem h__law_fault_errors_right (T : Txt Θ) : FnAt Θ "_law_fault_errors_right" 1 [] 11 F__law_fault_errors_right := mkFn T.d__law_fault_errors_right fun X I => w__law_fault_errors_right T I
theorem w__law_lookup_errors_right (T : Txt Θ) (I : In Θ N__law_lookup_errors_right sc__law_lookup_errors_right sc__law_lookup_errors_right 10 X) : PSts X (defBody s__law_lookup_errors_right) B__law_lookup_errors_right :=
  (psts_cons (s_set I t__law_lookup_errors_right_0_1 (px_lst (pls_cons (pd_fix (px_imm (s_mkx I (v_NoNumber T).1 (by decide) g__law_lookup_errors_right_0_NoNumber (pls_cons (s_d I v__law_lookup_errors_right_0_0) pls_nil (starEach_cons rfl)) rfl (by decide) (by decide +kernel)))) (pls_cons (pd_fix (px_imm (s_mkxK I (v_NoNumber T).2 (by decide) g__law_lookup_errors_right_0_NoNumber (s_d I v__law_lookup_errors_right_0_0) (by rfl) (by rfl) (by rfl) (by decide +kernel)))) (pls_cons (pd_fix (px_imm (s_mkx I (v_NoPlace T).1 (by decide) g__law_lookup_errors_right_0_NoPlace (pls_cons (s_d I v__law_lookup_errors_right_0_0) pls_nil (starEach_cons rfl)) rfl (by decide) (by decide +kernel)))) (pls_cons (pd_fix (px_imm (s_mkxK I (v_NoPlace T).2 (by decide) g__law_lookup_errors_right_0_NoPlace (s_d I v__law_lookup_errors_right_0_0) (by rfl) (by rfl) (by rfl) (by decide +kernel)))) (pls_cons (pd_fix (px_imm (s_mkx I (v_Full T).1 (by decide) g__law_lookup_errors_right_0_Full (pls_cons (s_d I v__law_lookup_errors_right_0_0) pls_nil (starEach_cons rfl)) rfl (by decide) (by decide +kernel)))) pls_nil (starEach_cons rfl)) (starEach_cons rfl)) (starEach_cons rfl)) (starEach_cons rfl)) (starEach_cons rfl))) rfl) (psts_cons (pst_expr (s_append (s_r I v__law_lookup_errors_right_0_1) (pls_cons (pd_fix (px_imm (s_mkxK I (v_Full T).2 (by decide) g__law_lookup_errors_right_0_Full (s_d I v__law_lookup_errors_right_0_0) (by rfl) (by rfl) (by rfl) (by decide +kernel)))) pls_nil (starEach_cons rfl)) rfl rfl rfl) rfl) (psts_cons (s_set I t__law_lookup_errors_right_0_2 (px_lst (pls_cons (s_exc I T.xl (pd_fix (px_imm (s_mkx I (v_NoNumber T).1 (by decide) g__law_lookup_errors_right_0_NoNumber (pls_cons (s_d I v__law_lookup_errors_right_0_0) pls_nil (starEach_cons rfl)) rfl (by decide) (by decide +kernel)))) rfl) (pls_cons (s_exc I T.xl (pd_fix (px_imm (s_mkxK I (v_NoNumber T).2 (by decide) g__law_lookup_errors_right_0_NoNumber (s_d I v__law_lookup_errors_right_0_0) (by rfl) (by rfl) (by rfl) (by decide +kernel)))) rfl) (pls_cons (s_exc I T.xl (pd_fix (px_imm (s_mkx I (v_NoPlace T).1 (by decide) g__law_lookup_errors_right_0_NoPlace (pls_cons (s_d I v__law_lookup_errors_right_0_0) pls_nil (starEach_cons rfl)) rfl (by decide) (by decide +kernel)))) rfl) (pls_cons (s_exc I T.xl (pd_fix (px_imm (s_mkxK I (v_NoPlace T).2 (by decide) g__law_lookup_errors_right_0_NoPlace (s_d I v__law_lookup_errors_right_0_0) (by rfl) (by rfl) (by rfl) (by decide +kernel)))) rfl) pls_nil (starEach_cons rfl)) (starEach_cons rfl)) (starEach_cons rfl)) (starEach_cons rfl))) rfl) (psts_cons (s_set I t__law_lookup_errors_right_0_2 (s_add (s_r I v__law_lookup_errors_right_0_2) (pr_val (pd_fix (px_lst (pls_cons (s_exc I T.xl (pd_fix (px_imm (s_mkx I (v_Full T).1 (by decide) g__law_lookup_errors_right_0_Full (pls_cons (s_d I v__law_lookup_errors_right_0_0) pls_nil (starEach_cons rfl)) rfl (by decide) (by decide +kernel)))) rfl) (pls_cons (s_exc I T.xl (pd_fix (px_imm (s_mkxK I (v_Full T).2 (by decide) g__law_lookup_errors_right_0_Full (s_d I v__law_lookup_errors_right_0_0) (by rfl) (by rfl) (by rfl) (by decide +kernel)))) rfl) pls_nil (starEach_cons rfl)) (starEach_cons rfl)))))) rfl) (psts_cons (pst_if (sb_w (pb_or (pb_not (pb_tru (pr_val (pd_fix (s_call I (h__law_all_right T) (by decide) g__law_lookup_errors_right_0__law_all_right (pas_cons (pr_val (s_d I v__law_lookup_errors_right_0_1)) (pas_cons (pr_val s_str) pas_nil (starEach_cons rfl)) (starEach_cons rfl)) rfl (by decide +kernel)))) (fun _ => rfl))) (pb_or1 (pb_not (pb_tru (pr_val (pd_fix (s_call I (h__law_same T) (by decide) g__law_lookup_errors_right_0__law_same (pas_cons (pr_val (s_d I v__law_lookup_errors_right_0_2)) (pas_cons (pr_val (s_d I v__law_lookup_errors_right_0_0)) pas_nil (starEach_cons rfl)) (starEach_cons rfl)) rfl (by decide +kernel)))) (fun _ => rfl)))))) (psts_one (pst_ret (px_imm s_bl))) psts_nil) (psts_cons (s_set I t__law_lookup_errors_right_0_1 (px_lst (pls_cons (pd_fix (px_imm (s_mkx I (v_NoName T).1 (by decide) g__law_lookup_errors_right_0_NoName (pls_cons (s_d I v__law_lookup_errors_right_0_0) pls_nil (starEach_cons rfl)) rfl (by decide) (by decide +kernel)))) (pls_cons (pd_fix (px_imm (s_mkxK I (v_NoName T).2 (by decide) g__law_lookup_errors_right_0_NoName (s_d I v__law_lookup_errors_right_0_0) (by rfl) (by rfl) (by rfl) (by decide +kernel)))) (pls_cons (pd_fix (px_imm (s_mkx I (v_Taken T).1 (by decide) g__law_lookup_errors_right_0_Taken (pls_cons (s_d I v__law_lookup_errors_right_0_0) pls_nil (starEach_cons rfl)) rfl (by decide) (by decide +kernel)))) (pls_cons (pd_fix (px_imm (s_mkxK I (v_Taken T).2 (by decide) g__law_lookup_errors_right_0_Taken (s_d I v__law_lookup_errors_right_0_0) (by rfl) (by rfl) (by rfl) (by decide +kernel)))) pls_nil (starEach_cons rfl)) (starEach_cons rfl)) (starEach_cons rfl)) (starEach_cons rfl))) rfl) (psts_cons (s_set I t__law_lookup_errors_right_0_2 (px_lst (pls_cons (s_exc I T.xl (pd_fix (px_imm (s_mkx I (v_NoName T).1 (by decide) g__law_lookup_errors_right_0_NoName (pls_cons (s_d I v__law_lookup_errors_right_0_0) pls_nil (starEach_cons rfl)) rfl (by decide) (by decide +kernel)))) rfl) (pls_cons (s_exc I T.xl (pd_fix (px_imm (s_mkxK I (v_NoName T).2 (by decide) g__law_lookup_errors_right_0_NoName (s_d I v__law_lookup_errors_right_0_0) (by rfl) (by rfl) (by rfl) (by decide +kernel)))) rfl) (pls_cons (s_exc I T.xl (pd_fix (px_imm (s_mkx I (v_Taken T).1 (by decide) g__law_lookup_errors_right_0_Taken (pls_cons (s_d I v__law_lookup_errors_right_0_0) pls_nil (starEach_cons rfl)) rfl (by decide) (by decide +kernel)))) rfl) (pls_cons (s_exc I T.xl (pd_fix (px_imm (s_mkxK I (v_Taken T).2 (by decide) g__law_lookup_errors_right_0_Taken (s_d I v__law_lookup_errors_right_0_0) (by rfl) (by rfl) (by rfl) (by decide +kernel)))) rfl) pls_nil (starEach_cons rfl)) (starEach_cons rfl)) (starEach_cons rfl)) (starEach_cons rfl))) rfl) (psts_cons (pst_if (sb_w (pb_or (pb_not (pb_tru (pr_val (pd_fix (s_call I (h__law_all_right T) (by decide) g__law_lookup_errors_right_0__law_all_right (pas_cons (pr_val (s_d I v__law_lookup_errors_right_0_1)) (pas_cons (pr_val s_str) pas_nil (starEach_cons rfl)) (starEach_cons rfl)) rfl (by decide +kernel)))) (fun _ => rfl))) (pb_or1 (pb_not (pb_tru (pr_val (pd_fix (s_call I (h__law_same T) (by decide) g__law_lookup_errors_right_0__law_same (pas_cons (pr_val (s_d I v__law_lookup_errors_right_0_2)) (pas_cons (pr_val (s_d I v__law_lookup_errors_right_0_0)) pas_nil (starEach_cons rfl)) (starEach_cons rfl)) rfl (by decide +kernel)))) (fun _ => rfl)))))) (psts_one (pst_ret (px_imm s_bl))) psts_nil) (psts_cons (s_set I t__law_lookup_errors_right_0_1 (px_lst (pls_cons (pd_fix (px_imm (s_mkx I (v_Needed T).1 (by decide) g__law_lookup_errors_right_0_Needed (pls_cons (s_d I v__law_lookup_errors_right_0_0) pls_nil (starEach_cons rfl)) rfl (by decide) (by decide +kernel)))) (pls_cons (pd_fix (px_imm (s_mkxK I (v_Needed T).2 (by decide) g__law_lookup_errors_right_0_Needed (s_d I v__law_lookup_errors_right_0_0) (by rfl) (by rfl) (by rfl) (by decide +kernel)))) (pls_cons (pd_fix (px_imm (s_mkx I (v_Hidden T).1 (by decide) g__law_lookup_errors_right_0_Hidden (pls_cons (s_d I v__law_lookup_errors_right_0_0) pls_nil (starEach_cons rfl)) rfl (by decide) (by decide +kernel)))) (pls_cons (pd_fix (px_imm (s_mkxK I (v_Hidden T).2 (by decide) g__law_lookup_errors_right_0_Hidden (s_d I v__law_lookup_errors_right_0_0) (by rfl) (by rfl) (by rfl) (by decide +kernel)))) pls_nil (starEach_cons rfl)) (starEach_cons rfl)) (starEach_cons rfl)) (starEach_cons rfl))) rfl) (psts_cons (s_set I t__law_lookup_errors_right_0_2 (px_lst (pls_cons (s_exc I T.xl (pd_fix (px_imm (s_mkx I (v_Needed T).1 (by decide) g__law_lookup_errors_right_0_Needed (pls_cons (s_d I v__law_lookup_errors_right_0_0) pls_nil (starEach_cons rfl)) rfl (by decide) (by decide +kernel)))) rfl) (pls_cons (s_exc I T.xl (pd_fix (px_imm (s_mkxK I (v_Needed T).2 (by decide) g__law_lookup_errors_right_0_Needed (s_d I v__law_lookup_errors_right_0_0) (by rfl) (by rfl) (by rfl) (by decide +kernel)))) rfl) (pls_cons (s_exc I T.xl (pd_fix (px_imm (s_mkx I (v_Hidden T).1 (by decide) g__law_lookup_errors_right_0_Hidden (pls_cons (s_d I v__law_lookup_errors_right_0_0) pls_nil (starEach_cons rfl)) rfl (by decide) (by decide +kernel)))) rfl) (pls_cons (s_exc I T.xl (pd_fix (px_imm (s_mkxK I (v_Hidden T).2 (by decide) g__law_lookup_errors_right_0_Hidden (s_d I v__law_lookup_errors_right_0_0) (by rfl) (by rfl) (by rfl) (by decide +kernel)))) rfl) pls_nil (starEach_cons rfl)) (starEach_cons rfl)) (starEach_cons rfl)) (starEach_cons rfl))) rfl) (psts_one (pst_ret (px_imm (pd_and (pd_fix (s_call I (h__law_all_right T) (by decide) g__law_lookup_errors_right_0__law_all_right (pas_cons (pr_val (s_d I v__law_lookup_errors_right_0_1)) (pas_cons (pr_val s_str) pas_nil (starEach_cons rfl)) (starEach_cons rfl)) rfl (by decide +kernel))) (pd_one (pd_fix (s_call I (h__law_same T) (by decide) g__law_lookup_errors_right_0__law_same (pas_cons (pr_val (s_d I v__law_lookup_errors_right_0_2)) (pas_cons (pr_val (s_d I v__law_lookup_errors_right_0_0)) pas_nil (starEach_cons rfl)) (starEach_cons rfl)) rfl (by decide +kernel))))))))))))))))))
theorem h__law_lookup_errors_right (T : Txt Θ) : FnAt Θ "_law_lookup_errors_right" 1 [] 11 F__law_lookup_errors_right := mkFn T.d__law_lookup_errors_right fun X I => w__law_lookup_errors_right T I
theorem w_law (T : Txt Θ) (I : In Θ N_law sc_law sc_law 11 X) : PSts X (defBody s_law) B_law :=
  (psts_cons (s_set I t_law_0_1 (s_call I (h__law_pen T) (by decide) g_law_0__law_pen (pas_cons (pr_val (s_d I v_law_0_0)) pas_nil (starEach_cons rfl)) rfl (by decide +kernel)) rfl) (psts_cons (pst_if (sb_cmp I c_ne (pr_val (pd_fix (px_lst (pls_cons (s_gint I g_law_0_PLACES T.c_PLACES (by decide +kernel)) (pls_cons (s_gint I g_law_0_SHORT T.c_SHORT (by decide +kernel)) (pls_cons (s_gint I g_law_0_MOST T.c_MOST (by decide +kernel)) (pls_cons (s_gint I g_law_0_HIDDEN T.c_HIDDEN (by decide +kernel)) (pls_cons (s_gint I g_law_0_WORD T.c_WORD (by decide +kernel)) (pls_cons (s_gint I g_law_0_GONE T.c_GONE (by decide +kernel)) pls_nil (starEach_cons rfl)) (starEach_cons rfl)) (starEach_cons rfl)) (starEach_cons rfl)) (starEach_cons rfl)) (starEach_cons rfl))))) (pr_val (pd_fix (px_lst (pls_cons s_int (pls_cons s_int (pls_cons s_int (pls_cons s_int (pls_cons s_int (pls_cons s_int pls_nil (starEach_cons rfl)) (starEach_cons rfl)) (starEach_cons rfl)) (starEach_cons rfl)) (starEach_cons rfl)) (starEach_cons rfl)))))) (psts_one (pst_ret (px_imm s_bl))) psts_nil) (psts_cons (s_for I (s_rg1 I g_law_0_range T.n_range (pas_cons (pr_val s_int) pas_nil (starEach_cons rfl)) rfl) (s_nm I t_law_0_2) (psts_cons (s_set I t_law_0_3 (s_call I (h__law_value T) (by decide) g_law_0__law_value (pas_cons (s_r I v_law_0_1) pas_nil (starEach_cons rfl)) rfl (by decide +kernel)) rfl) (psts_cons (pst_if (sb_w (pb_or (pb_not (pb_tru (pr_val (pd_fix (s_call I (h__law_value_errors_right T) (by decide) g_law_0__law_value_errors_right (pas_cons (pr_val (s_d I v_law_0_3)) pas_nil (starEach_cons rfl)) rfl (by decide +kernel)))) (fun _ => rfl))) (pb_or1 (pb_not (pb_tru (pr_val (pd_fix (s_call I (h__law_fault_errors_right T) (by decide) g_law_0__law_fault_errors_right (pas_cons (pr_val (s_d I v_law_0_3)) pas_nil (starEach_cons rfl)) rfl (by decide +kernel)))) (fun _ => rfl)))))) (psts_one (pst_ret (px_imm s_bl))) psts_nil) (psts_one (pst_if (pb_not (pb_tru (pr_val (pd_fix (s_call I (h__law_lookup_errors_right T) (by decide) g_law_0__law_lookup_errors_right (pas_cons (pr_val (s_d I v_law_0_3)) pas_nil (starEach_cons rfl)) rfl (by decide +kernel)))) (fun _ => rfl))) (psts_one (pst_ret (px_imm s_bl))) psts_nil)))) (fun _ => rfl)) (psts_one (pst_ret (px_imm s_bl))))))
theorem h_law (T : Txt Θ) : FnAt Θ "law" 1 [] 12 F_law := mkFn T.d_law fun X I => w_law T I
end
theorem txt_mk {P : Program} {w : World} {K : PySem.W.Frag} {mg : Str → Option Value} {h base : Heap} (X : K.In h) (G : h.Ns mainGlobals mg) {t_GONE : Nat} {t_HIDDEN : Nat} {t_MOST : Nat} {t_PLACES : Nat} {t_SHORT : Nat} {t_WORD : Nat} {C_Full f_Full : Addr} {od_Full an_Full : Option Addr} {sl_Full : Array (Option Value)} {oc_Full kV_Full dc_Full pm_Full cd_Full ct_Full : Value} {C_Hidden f_Hidden : Addr} {od_Hidden an_Hidden : Option Addr} {sl_Hidden : Array (Option Value)} {oc_Hidden kV_Hidden dc_Hidden pm_Hidden cd_Hidden ct_Hidden : Value} {C_Needed f_Needed : Addr} {od_Needed an_Needed : Option Addr} {sl_Needed : Array (Option Value)} {oc_Needed kV_Needed dc_Needed pm_Needed cd_Needed ct_Needed : Value} {C_NoAsk f_NoAsk : Addr} {od_NoAsk an_NoAsk : Option Addr} {sl_NoAsk : Array (Option Value)} {oc_NoAsk kV_NoAsk dc_NoAsk pm_NoAsk cd_NoAsk ct_NoAsk : Value} {C_NoDeed f_NoDeed : Addr} {od_NoDeed an_NoDeed : Option Addr} {sl_NoDeed : Array (Option Value)} {oc_NoDeed kV_NoDeed dc_NoDeed pm_NoDeed cd_NoDeed ct_NoDeed : Value} {C_NoMark f_NoMark : Addr} {od_NoMark an_NoMark : Option Addr} {sl_NoMark : Array (Option Value)} {oc_NoMark kV_NoMark dc_NoMark pm_NoMark cd_NoMark ct_NoMark : Value} {C_NoName f_NoName : Addr} {od_NoName an_NoName : Option Addr} {sl_NoName : Array (Option Value)} {oc_NoName kV_NoName dc_NoName pm_NoName cd_NoName ct_NoName : Value} {C_NoNames f_NoNames : Addr} {od_NoNames an_NoNames : Option Addr} {sl_NoNames : Array (Option Value)} {oc_NoNames kV_NoNames dc_NoNames pm_NoNames cd_NoNames ct_NoNames : Value} {C_NoNumber f_NoNumber : Addr} {od_NoNumber an_NoNumber : Option Addr} {sl_NoNumber : Array (Option Value)} {oc_NoNumber kV_NoNumber dc_NoNumber pm_NoNumber cd_NoNumber ct_NoNumber : Value} {C_NoOrder f_NoOrder : Addr} {od_NoOrder an_NoOrder : Option Addr} {sl_NoOrder : Array (Option Value)} {oc_NoOrder kV_NoOrder dc_NoOrder pm_NoOrder cd_NoOrder ct_NoOrder : Value} {C_NoPlace f_NoPlace : Addr} {od_NoPlace an_NoPlace : Option Addr} {sl_NoPlace : Array (Option Value)} {oc_NoPlace kV_NoPlace dc_NoPlace pm_NoPlace cd_NoPlace ct_NoPlace : Value} {C_NoRow f_NoRow : Addr} {od_NoRow an_NoRow : Option Addr} {sl_NoRow : Array (Option Value)} {oc_NoRow kV_NoRow dc_NoRow pm_NoRow cd_NoRow ct_NoRow : Value} {C_NoRung f_NoRung : Addr} {od_NoRung an_NoRung : Option Addr} {sl_NoRung : Array (Option Value)} {oc_NoRung kV_NoRung dc_NoRung pm_NoRung cd_NoRung ct_NoRung : Value} {C_NoSight f_NoSight : Addr} {od_NoSight an_NoSight : Option Addr} {sl_NoSight : Array (Option Value)} {oc_NoSight kV_NoSight dc_NoSight pm_NoSight cd_NoSight ct_NoSight : Value} {C_NoTable f_NoTable : Addr} {od_NoTable an_NoTable : Option Addr} {sl_NoTable : Array (Option Value)} {oc_NoTable kV_NoTable dc_NoTable pm_NoTable cd_NoTable ct_NoTable : Value} {C_NoText f_NoText : Addr} {od_NoText an_NoText : Option Addr} {sl_NoText : Array (Option Value)} {oc_NoText kV_NoText dc_NoText pm_NoText cd_NoText ct_NoText : Value} {C_NoWord f_NoWord : Addr} {od_NoWord an_NoWord : Option Addr} {sl_NoWord : Array (Option Value)} {oc_NoWord kV_NoWord dc_NoWord pm_NoWord cd_NoWord ct_NoWord : Value} {C_NotAlike f_NotAlike : Addr} {od_NotAlike an_NotAlike : Option Addr} {sl_NotAlike : Array (Option Value)} {oc_NotAlike kV_NotAlike dc_NotAlike pm_NotAlike cd_NotAlike ct_NotAlike : Value} {C_NotOneOne f_NotOneOne : Addr} {od_NotOneOne an_NotOneOne : Option Addr} {sl_NotOneOne : Array (Option Value)} {oc_NotOneOne kV_NotOneOne dc_NotOneOne pm_NotOneOne cd_NotOneOne ct_NotOneOne : Value} {C_NotPart f_NotPart : Addr} {od_NotPart an_NotPart : Option Addr} {sl_NotPart : Array (Option Value)} {oc_NotPart kV_NotPart dc_NotPart pm_NotPart cd_NotPart ct_NotPart : Value} {C_NotSided f_NotSided : Addr} {od_NotSided an_NotSided : Option Addr} {sl_NotSided : Array (Option Value)} {oc_NotSided kV_NotSided dc_NotSided pm_NotSided cd_NotSided ct_NotSided : Value} {C_NotThree f_NotThree : Addr} {od_NotThree an_NotThree : Option Addr} {sl_NotThree : Array (Option Value)} {oc_NotThree kV_NotThree dc_NotThree pm_NotThree cd_NotThree ct_NotThree : Value} {C_NotTwice f_NotTwice : Addr} {od_NotTwice an_NotTwice : Option Addr} {sl_NotTwice : Array (Option Value)} {oc_NotTwice kV_NotTwice dc_NotTwice pm_NotTwice cd_NotTwice ct_NotTwice : Value} {C_NotWell f_NotWell : Addr} {od_NotWell an_NotWell : Option Addr} {sl_NotWell : Array (Option Value)} {oc_NotWell kV_NotWell dc_NotWell pm_NotWell cd_NotWell ct_NotWell : Value} {C_SameMark f_SameMark : Addr} {od_SameMark an_SameMark : Option Addr} {sl_SameMark : Array (Option Value)} {oc_SameMark kV_SameMark dc_SameMark pm_SameMark cd_SameMark ct_SameMark : Value} {C_Taken f_Taken : Addr} {od_Taken an_Taken : Option Addr} {sl_Taken : Array (Option Value)} {oc_Taken kV_Taken dc_Taken pm_Taken cd_Taken ct_Taken : Value} {C_TooLong f_TooLong : Addr} {od_TooLong an_TooLong : Option Addr} {sl_TooLong : Array (Option Value)} {oc_TooLong kV_TooLong dc_TooLong pm_TooLong cd_TooLong ct_TooLong : Value} {C_TooMany f_TooMany : Addr} {od_TooMany an_TooMany : Option Addr} {sl_TooMany : Array (Option Value)} {oc_TooMany kV_TooMany dc_TooMany pm_TooMany cd_TooMany ct_TooMany : Value} {C_Unfit f_Unfit : Addr} {od_Unfit an_Unfit : Option Addr} {sl_Unfit : Array (Option Value)} {oc_Unfit kV_Unfit dc_Unfit pm_Unfit cd_Unfit ct_Unfit : Value} {C_Unread f_Unread : Addr} {od_Unread an_Unread : Option Addr} {sl_Unread : Array (Option Value)} {oc_Unread kV_Unread dc_Unread pm_Unread cd_Unread ct_Unread : Value} {C_Unseen f_Unseen : Addr} {od_Unseen an_Unseen : Option Addr} {sl_Unseen : Array (Option Value)} {oc_Unseen kV_Unseen dc_Unseen pm_Unseen cd_Unseen ct_Unseen : Value} {f_copied : Addr} {od_copied an_copied : Option Addr} {sl_copied : Array (Option Value)} {oc_copied dc_copied pm_copied cd_copied ct_copied : Value} {kV_copied : Value} {f__law_pen : Addr} {od__law_pen an__law_pen : Option Addr} {sl__law_pen : Array (Option Value)} {oc__law_pen dc__law_pen pm__law_pen cd__law_pen ct__law_pen : Value} {kV__law_pen : Value} {f__law_draw : Addr} {od__law_draw an__law_draw : Option Addr} {sl__law_draw : Array (Option Value)} {oc__law_draw dc__law_draw pm__law_draw cd__law_draw ct__law_draw : Value} {kV__law_draw : Value} {f__law_value : Addr} {od__law_value an__law_value : Option Addr} {sl__law_value : Array (Option Value)} {oc__law_value dc__law_value pm__law_value cd__law_value ct__law_value : Value} {kV__law_value : Value} {f__law_base : Addr} {od__law_base an__law_base : Option Addr} {sl__law_base : Array (Option Value)} {oc__law_base dc__law_base pm__law_base cd__law_base ct__law_base : Value} {kV__law_base : Value} {f__law_own_kinds : Addr} {od__law_own_kinds an__law_own_kinds : Option Addr} {sl__law_own_kinds : Array (Option Value)} {oc__law_own_kinds dc__law_own_kinds pm__law_own_kinds cd__law_own_kinds ct__law_own_kinds : Value} {kV__law_own_kinds : Value} {f__law_all_right : Addr} {od__law_all_right an__law_all_right : Option Addr} {sl__law_all_right : Array (Option Value)} {oc__law_all_right dc__law_all_right pm__law_all_right cd__law_all_right ct__law_all_right : Value} {kV__law_all_right : Value} {f__law_same : Addr} {od__law_same an__law_same : Option Addr} {sl__law_same : Array (Option Value)} {oc__law_same dc__law_same pm__law_same cd__law_same ct__law_same : Value} {kV__law_same : Value} {f__law_value_errors_right : Addr} {od__law_value_errors_right an__law_value_errors_right : Option Addr} {sl__law_value_errors_right : Array (Option Value)} {oc__law_value_errors_right dc__law_value_errors_right pm__law_value_errors_right cd__law_value_errors_right ct__law_value_errors_right : Value} {kV__law_value_errors_right : Value} {f__law_fault_errors_right : Addr} {od__law_fault_errors_right an__law_fault_errors_right : Option Addr} {sl__law_fault_errors_right : Array (Option Value)} {oc__law_fault_errors_right dc__law_fault_errors_right pm__law_fault_errors_right cd__law_fault_errors_right ct__law_fault_errors_right : Value} {kV__law_fault_errors_right : Value} {f__law_lookup_errors_right : Addr} {od__law_lookup_errors_right an__law_lookup_errors_right : Option Addr} {sl__law_lookup_errors_right : Array (Option Value)} {oc__law_lookup_errors_right dc__law_lookup_errors_right pm__law_lookup_errors_right cd__law_lookup_errors_right ct__law_lookup_errors_right : Value} {kV__law_lookup_errors_right : Value} {f_law : Addr} {od_law an_law : Option Addr} {sl_law : Array (Option Value)} {oc_law dc_law pm_law cd_law ct_law : Value} {kV_law : Value}
    (z_ArithmeticError : PySem.W.nsIn K mainGlobals "ArithmeticError" = some none)
    (z_IndexError : PySem.W.nsIn K mainGlobals "IndexError" = some none)
    (z_KeyError : PySem.W.nsIn K mainGlobals "KeyError" = some none)
    (z_LookupError : PySem.W.nsIn K mainGlobals "LookupError" = some none)
    (z_RuntimeError : PySem.W.nsIn K mainGlobals "RuntimeError" = some none)
    (z_ValueError : PySem.W.nsIn K mainGlobals "ValueError" = some none)
    (z_bool : PySem.W.nsIn K mainGlobals "bool" = some none)
    (z_dict : PySem.W.nsIn K mainGlobals "dict" = some none)
    (z_isinstance : PySem.W.nsIn K mainGlobals "isinstance" = some none)
    (z_len : PySem.W.nsIn K mainGlobals "len" = some none)
    (z_list : PySem.W.nsIn K mainGlobals "list" = some none)
    (z_range : PySem.W.nsIn K mainGlobals "range" = some none)
    (z_repr : PySem.W.nsIn K mainGlobals "repr" = some none)
    (z_tuple : PySem.W.nsIn K mainGlobals "tuple" = some none)
    (q_GONE : PySem.W.nsIn K mainGlobals "GONE" = some (some (.int 60 t_GONE)))
    (q_HIDDEN : PySem.W.nsIn K mainGlobals "HIDDEN" = some (some (.int 4 t_HIDDEN)))
    (q_MOST : PySem.W.nsIn K mainGlobals "MOST" = some (some (.int 2000 t_MOST)))
    (q_PLACES : PySem.W.nsIn K mainGlobals "PLACES" = some (some (.int 60 t_PLACES)))
    (q_SHORT : PySem.W.nsIn K mainGlobals "SHORT" = some (some (.int 8 t_SHORT)))
    (q_WORD : PySem.W.nsIn K mainGlobals "WORD" = some (some (.int 2000 t_WORD)))
    (c_Full : PySem.W.nsIn K mainGlobals "Full" = some (some (.ref C_Full)))
    (xi_Full : PySem.W.excInitIn K C_Full [.type "IndexError", .type "LookupError", .type "Exception", .type "BaseException", .type "object"] "IndexError.__new__" = true)
    (xo_Full : PySem.W.excOver K C_Full [.type "IndexError", .type "LookupError", .type "Exception", .type "BaseException", .type "object"] = true)
    (xd_Full : PySem.W.hasDictIn K C_Full = true)
    (xs_Full : PySem.W.findIn K (.ref C_Full) "__setattr__" = some (some (.builtin "object.__setattr__")))
    (xe_Full : PySem.W.subIn K (.ref C_Full) (.type "BaseException") = some true)
    (xt_Full : PySem.W.typeIn K (.ref C_Full) = some (.type "type"))
    (xk_Full : PySem.W.keepIn K (.ref C_Full) = true)
    (xa_Full : PySem.W.findIn K (.ref C_Full) "__init__" = some (some (.ref f_Full)))
    (xf_Full : PySem.W.typeIn K (.ref f_Full) = some (.type "function"))
    (xl_Full : K.lookup f_Full = some ⟨oc_Full, od_Full, .func (PySem.W.fnOf "__init__" "Full.__init__" (defArgs s_Full___init__) (defBody s_Full___init__) (defScope s_Full___init__) .none kV_Full dc_Full pm_Full an_Full cd_Full ct_Full), sl_Full⟩)
    (xc_Full : PySem.W.codeIn K cd_Full "Full.__init__" = true)
    (xb_Full : PySem.W.findCls K (.type "IndexError") (.type "type") "__init__" = some (.val (.builtin "IndexError.__init__")))
    (xn_Full : PySem.W.takerIn K C_Full "most" = some none)
    (xg_Full : PySem.W.findIn K (.ref C_Full) "__getattribute__" = some (some (.builtin "BaseException.__getattribute__")))
    (xh_Full : PySem.W.findIn K (.ref C_Full) "__getattr__" = some none)
    (xj_Full : PySem.W.findIn K (.ref C_Full) "__class__" = some (some (.builtin "object.__class__")))
    (xm_Full : PySem.W.mroIn K C_Full (.type "object") = some true)
    (xr_Full : PySem.W.findIn K (.ref C_Full) "most" = some none)
    (c_Hidden : PySem.W.nsIn K mainGlobals "Hidden" = some (some (.ref C_Hidden)))
    (xi_Hidden : PySem.W.excInitIn K C_Hidden [.type "LookupError", .type "Exception", .type "BaseException", .type "object"] "LookupError.__new__" = true)
    (xo_Hidden : PySem.W.excOver K C_Hidden [.type "LookupError", .type "Exception", .type "BaseException", .type "object"] = true)
    (xd_Hidden : PySem.W.hasDictIn K C_Hidden = true)
    (xs_Hidden : PySem.W.findIn K (.ref C_Hidden) "__setattr__" = some (some (.builtin "object.__setattr__")))
    (xe_Hidden : PySem.W.subIn K (.ref C_Hidden) (.type "BaseException") = some true)
    (xt_Hidden : PySem.W.typeIn K (.ref C_Hidden) = some (.type "type"))
    (xk_Hidden : PySem.W.keepIn K (.ref C_Hidden) = true)
    (xa_Hidden : PySem.W.findIn K (.ref C_Hidden) "__init__" = some (some (.ref f_Hidden)))
    (xf_Hidden : PySem.W.typeIn K (.ref f_Hidden) = some (.type "function"))
    (xl_Hidden : K.lookup f_Hidden = some ⟨oc_Hidden, od_Hidden, .func (PySem.W.fnOf "__init__" "Hidden.__init__" (defArgs s_Hidden___init__) (defBody s_Hidden___init__) (defScope s_Hidden___init__) .none kV_Hidden dc_Hidden pm_Hidden an_Hidden cd_Hidden ct_Hidden), sl_Hidden⟩)
    (xc_Hidden : PySem.W.codeIn K cd_Hidden "Hidden.__init__" = true)
    (xb_Hidden : PySem.W.findCls K (.type "LookupError") (.type "type") "__init__" = some (.val (.builtin "LookupError.__init__")))
    (xn_Hidden : PySem.W.takerIn K C_Hidden "name" = some none)
    (xg_Hidden : PySem.W.findIn K (.ref C_Hidden) "__getattribute__" = some (some (.builtin "BaseException.__getattribute__")))
    (xh_Hidden : PySem.W.findIn K (.ref C_Hidden) "__getattr__" = some none)
    (xj_Hidden : PySem.W.findIn K (.ref C_Hidden) "__class__" = some (some (.builtin "object.__class__")))
    (xm_Hidden : PySem.W.mroIn K C_Hidden (.type "object") = some true)
    (xr_Hidden : PySem.W.findIn K (.ref C_Hidden) "name" = some none)
    (c_Needed : PySem.W.nsIn K mainGlobals "Needed" = some (some (.ref C_Needed)))
    (xi_Needed : PySem.W.excInitIn K C_Needed [.type "LookupError", .type "Exception", .type "BaseException", .type "object"] "LookupError.__new__" = true)
    (xo_Needed : PySem.W.excOver K C_Needed [.type "LookupError", .type "Exception", .type "BaseException", .type "object"] = true)
    (xd_Needed : PySem.W.hasDictIn K C_Needed = true)
    (xs_Needed : PySem.W.findIn K (.ref C_Needed) "__setattr__" = some (some (.builtin "object.__setattr__")))
    (xe_Needed : PySem.W.subIn K (.ref C_Needed) (.type "BaseException") = some true)
    (xt_Needed : PySem.W.typeIn K (.ref C_Needed) = some (.type "type"))
    (xk_Needed : PySem.W.keepIn K (.ref C_Needed) = true)
    (xa_Needed : PySem.W.findIn K (.ref C_Needed) "__init__" = some (some (.ref f_Needed)))
    (xf_Needed : PySem.W.typeIn K (.ref f_Needed) = some (.type "function"))
    (xl_Needed : K.lookup f_Needed = some ⟨oc_Needed, od_Needed, .func (PySem.W.fnOf "__init__" "Needed.__init__" (defArgs s_Needed___init__) (defBody s_Needed___init__) (defScope s_Needed___init__) .none kV_Needed dc_Needed pm_Needed an_Needed cd_Needed ct_Needed), sl_Needed⟩)
    (xc_Needed : PySem.W.codeIn K cd_Needed "Needed.__init__" = true)
    (xb_Needed : PySem.W.findCls K (.type "LookupError") (.type "type") "__init__" = some (.val (.builtin "LookupError.__init__")))
    (xn_Needed : PySem.W.takerIn K C_Needed "name" = some none)
    (xg_Needed : PySem.W.findIn K (.ref C_Needed) "__getattribute__" = some (some (.builtin "BaseException.__getattribute__")))
    (xh_Needed : PySem.W.findIn K (.ref C_Needed) "__getattr__" = some none)
    (xj_Needed : PySem.W.findIn K (.ref C_Needed) "__class__" = some (some (.builtin "object.__class__")))
    (xm_Needed : PySem.W.mroIn K C_Needed (.type "object") = some true)
    (xr_Needed : PySem.W.findIn K (.ref C_Needed) "name" = some none)
    (c_NoAsk : PySem.W.nsIn K mainGlobals "NoAsk" = some (some (.ref C_NoAsk)))
    (xi_NoAsk : PySem.W.excInitIn K C_NoAsk [.type "ValueError", .type "Exception", .type "BaseException", .type "object"] "ValueError.__new__" = true)
    (xo_NoAsk : PySem.W.excOver K C_NoAsk [.type "ValueError", .type "Exception", .type "BaseException", .type "object"] = true)
    (xd_NoAsk : PySem.W.hasDictIn K C_NoAsk = true)
    (xs_NoAsk : PySem.W.findIn K (.ref C_NoAsk) "__setattr__" = some (some (.builtin "object.__setattr__")))
    (xe_NoAsk : PySem.W.subIn K (.ref C_NoAsk) (.type "BaseException") = some true)
    (xt_NoAsk : PySem.W.typeIn K (.ref C_NoAsk) = some (.type "type"))
    (xk_NoAsk : PySem.W.keepIn K (.ref C_NoAsk) = true)
    (xa_NoAsk : PySem.W.findIn K (.ref C_NoAsk) "__init__" = some (some (.ref f_NoAsk)))
    (xf_NoAsk : PySem.W.typeIn K (.ref f_NoAsk) = some (.type "function"))
    (xl_NoAsk : K.lookup f_NoAsk = some ⟨oc_NoAsk, od_NoAsk, .func (PySem.W.fnOf "__init__" "NoAsk.__init__" (defArgs s_NoAsk___init__) (defBody s_NoAsk___init__) (defScope s_NoAsk___init__) .none kV_NoAsk dc_NoAsk pm_NoAsk an_NoAsk cd_NoAsk ct_NoAsk), sl_NoAsk⟩)
    (xc_NoAsk : PySem.W.codeIn K cd_NoAsk "NoAsk.__init__" = true)
    (xb_NoAsk : PySem.W.findCls K (.type "ValueError") (.type "type") "__init__" = some (.val (.builtin "ValueError.__init__")))
    (xn_NoAsk : PySem.W.takerIn K C_NoAsk "row" = some none)
    (xg_NoAsk : PySem.W.findIn K (.ref C_NoAsk) "__getattribute__" = some (some (.builtin "BaseException.__getattribute__")))
    (xh_NoAsk : PySem.W.findIn K (.ref C_NoAsk) "__getattr__" = some none)
    (xj_NoAsk : PySem.W.findIn K (.ref C_NoAsk) "__class__" = some (some (.builtin "object.__class__")))
    (xm_NoAsk : PySem.W.mroIn K C_NoAsk (.type "object") = some true)
    (xr_NoAsk : PySem.W.findIn K (.ref C_NoAsk) "row" = some none)
    (c_NoDeed : PySem.W.nsIn K mainGlobals "NoDeed" = some (some (.ref C_NoDeed)))
    (xi_NoDeed : PySem.W.excInitIn K C_NoDeed [.type "ValueError", .type "Exception", .type "BaseException", .type "object"] "ValueError.__new__" = true)
    (xo_NoDeed : PySem.W.excOver K C_NoDeed [.type "ValueError", .type "Exception", .type "BaseException", .type "object"] = true)
    (xd_NoDeed : PySem.W.hasDictIn K C_NoDeed = true)
    (xs_NoDeed : PySem.W.findIn K (.ref C_NoDeed) "__setattr__" = some (some (.builtin "object.__setattr__")))
    (xe_NoDeed : PySem.W.subIn K (.ref C_NoDeed) (.type "BaseException") = some true)
    (xt_NoDeed : PySem.W.typeIn K (.ref C_NoDeed) = some (.type "type"))
    (xk_NoDeed : PySem.W.keepIn K (.ref C_NoDeed) = true)
    (xa_NoDeed : PySem.W.findIn K (.ref C_NoDeed) "__init__" = some (some (.ref f_NoDeed)))
    (xf_NoDeed : PySem.W.typeIn K (.ref f_NoDeed) = some (.type "function"))
    (xl_NoDeed : K.lookup f_NoDeed = some ⟨oc_NoDeed, od_NoDeed, .func (PySem.W.fnOf "__init__" "NoDeed.__init__" (defArgs s_NoDeed___init__) (defBody s_NoDeed___init__) (defScope s_NoDeed___init__) .none kV_NoDeed dc_NoDeed pm_NoDeed an_NoDeed cd_NoDeed ct_NoDeed), sl_NoDeed⟩)
    (xc_NoDeed : PySem.W.codeIn K cd_NoDeed "NoDeed.__init__" = true)
    (xb_NoDeed : PySem.W.findCls K (.type "ValueError") (.type "type") "__init__" = some (.val (.builtin "ValueError.__init__")))
    (xn_NoDeed : PySem.W.takerIn K C_NoDeed "number" = some none)
    (xg_NoDeed : PySem.W.findIn K (.ref C_NoDeed) "__getattribute__" = some (some (.builtin "BaseException.__getattribute__")))
    (xh_NoDeed : PySem.W.findIn K (.ref C_NoDeed) "__getattr__" = some none)
    (xj_NoDeed : PySem.W.findIn K (.ref C_NoDeed) "__class__" = some (some (.builtin "object.__class__")))
    (xm_NoDeed : PySem.W.mroIn K C_NoDeed (.type "object") = some true)
    (xr_NoDeed : PySem.W.findIn K (.ref C_NoDeed) "number" = some none)
    (c_NoMark : PySem.W.nsIn K mainGlobals "NoMark" = some (some (.ref C_NoMark)))
    (xi_NoMark : PySem.W.excInitIn K C_NoMark [.type "ValueError", .type "Exception", .type "BaseException", .type "object"] "ValueError.__new__" = true)
    (xo_NoMark : PySem.W.excOver K C_NoMark [.type "ValueError", .type "Exception", .type "BaseException", .type "object"] = true)
    (xd_NoMark : PySem.W.hasDictIn K C_NoMark = true)
    (xs_NoMark : PySem.W.findIn K (.ref C_NoMark) "__setattr__" = some (some (.builtin "object.__setattr__")))
    (xe_NoMark : PySem.W.subIn K (.ref C_NoMark) (.type "BaseException") = some true)
    (xt_NoMark : PySem.W.typeIn K (.ref C_NoMark) = some (.type "type"))
    (xk_NoMark : PySem.W.keepIn K (.ref C_NoMark) = true)
    (xa_NoMark : PySem.W.findIn K (.ref C_NoMark) "__init__" = some (some (.ref f_NoMark)))
    (xf_NoMark : PySem.W.typeIn K (.ref f_NoMark) = some (.type "function"))
    (xl_NoMark : K.lookup f_NoMark = some ⟨oc_NoMark, od_NoMark, .func (PySem.W.fnOf "__init__" "NoMark.__init__" (defArgs s_NoMark___init__) (defBody s_NoMark___init__) (defScope s_NoMark___init__) .none kV_NoMark dc_NoMark pm_NoMark an_NoMark cd_NoMark ct_NoMark), sl_NoMark⟩)
    (xc_NoMark : PySem.W.codeIn K cd_NoMark "NoMark.__init__" = true)
    (xb_NoMark : PySem.W.findCls K (.type "ValueError") (.type "type") "__init__" = some (.val (.builtin "ValueError.__init__")))
    (xn_NoMark : PySem.W.takerIn K C_NoMark "mark" = some none)
    (xg_NoMark : PySem.W.findIn K (.ref C_NoMark) "__getattribute__" = some (some (.builtin "BaseException.__getattribute__")))
    (xh_NoMark : PySem.W.findIn K (.ref C_NoMark) "__getattr__" = some none)
    (xj_NoMark : PySem.W.findIn K (.ref C_NoMark) "__class__" = some (some (.builtin "object.__class__")))
    (xm_NoMark : PySem.W.mroIn K C_NoMark (.type "object") = some true)
    (xr_NoMark : PySem.W.findIn K (.ref C_NoMark) "mark" = some none)
    (c_NoName : PySem.W.nsIn K mainGlobals "NoName" = some (some (.ref C_NoName)))
    (xi_NoName : PySem.W.excInitIn K C_NoName keMro "LookupError.__new__" = true)
    (xo_NoName : PySem.W.excOver K C_NoName keMro = true)
    (xd_NoName : PySem.W.hasDictIn K C_NoName = true)
    (xs_NoName : PySem.W.findIn K (.ref C_NoName) "__setattr__" = some (some (.builtin "object.__setattr__")))
    (xe_NoName : PySem.W.subIn K (.ref C_NoName) (.type "BaseException") = some true)
    (xt_NoName : PySem.W.typeIn K (.ref C_NoName) = some (.type "type"))
    (xk_NoName : PySem.W.keepIn K (.ref C_NoName) = true)
    (xa_NoName : PySem.W.findIn K (.ref C_NoName) "__init__" = some (some (.ref f_NoName)))
    (xf_NoName : PySem.W.typeIn K (.ref f_NoName) = some (.type "function"))
    (xl_NoName : K.lookup f_NoName = some ⟨oc_NoName, od_NoName, .func (PySem.W.fnOf "__init__" "NoName.__init__" (defArgs s_NoName___init__) (defBody s_NoName___init__) (defScope s_NoName___init__) .none kV_NoName dc_NoName pm_NoName an_NoName cd_NoName ct_NoName), sl_NoName⟩)
    (xc_NoName : PySem.W.codeIn K cd_NoName "NoName.__init__" = true)
    (xb_NoName : PySem.W.findCls K (.type "KeyError") (.type "type") "__init__" = some (.val (.builtin "KeyError.__init__")))
    (xn_NoName : PySem.W.takerIn K C_NoName "name" = some none)
    (xg_NoName : PySem.W.findIn K (.ref C_NoName) "__getattribute__" = some (some (.builtin "BaseException.__getattribute__")))
    (xh_NoName : PySem.W.findIn K (.ref C_NoName) "__getattr__" = some none)
    (xj_NoName : PySem.W.findIn K (.ref C_NoName) "__class__" = some (some (.builtin "object.__class__")))
    (xm_NoName : PySem.W.mroIn K C_NoName (.type "object") = some true)
    (xr_NoName : PySem.W.findIn K (.ref C_NoName) "name" = some none)
    (c_NoNames : PySem.W.nsIn K mainGlobals "NoNames" = some (some (.ref C_NoNames)))
    (xi_NoNames : PySem.W.excInitIn K C_NoNames [.type "ValueError", .type "Exception", .type "BaseException", .type "object"] "ValueError.__new__" = true)
    (xo_NoNames : PySem.W.excOver K C_NoNames [.type "ValueError", .type "Exception", .type "BaseException", .type "object"] = true)
    (xd_NoNames : PySem.W.hasDictIn K C_NoNames = true)
    (xs_NoNames : PySem.W.findIn K (.ref C_NoNames) "__setattr__" = some (some (.builtin "object.__setattr__")))
    (xe_NoNames : PySem.W.subIn K (.ref C_NoNames) (.type "BaseException") = some true)
    (xt_NoNames : PySem.W.typeIn K (.ref C_NoNames) = some (.type "type"))
    (xk_NoNames : PySem.W.keepIn K (.ref C_NoNames) = true)
    (xa_NoNames : PySem.W.findIn K (.ref C_NoNames) "__init__" = some (some (.ref f_NoNames)))
    (xf_NoNames : PySem.W.typeIn K (.ref f_NoNames) = some (.type "function"))
    (xl_NoNames : K.lookup f_NoNames = some ⟨oc_NoNames, od_NoNames, .func (PySem.W.fnOf "__init__" "NoNames.__init__" (defArgs s_NoNames___init__) (defBody s_NoNames___init__) (defScope s_NoNames___init__) .none kV_NoNames dc_NoNames pm_NoNames an_NoNames cd_NoNames ct_NoNames), sl_NoNames⟩)
    (xc_NoNames : PySem.W.codeIn K cd_NoNames "NoNames.__init__" = true)
    (xb_NoNames : PySem.W.findCls K (.type "ValueError") (.type "type") "__init__" = some (.val (.builtin "ValueError.__init__")))
    (xg_NoNames : PySem.W.findIn K (.ref C_NoNames) "__getattribute__" = some (some (.builtin "BaseException.__getattribute__")))
    (xh_NoNames : PySem.W.findIn K (.ref C_NoNames) "__getattr__" = some none)
    (xj_NoNames : PySem.W.findIn K (.ref C_NoNames) "__class__" = some (some (.builtin "object.__class__")))
    (xm_NoNames : PySem.W.mroIn K C_NoNames (.type "object") = some true)
    (c_NoNumber : PySem.W.nsIn K mainGlobals "NoNumber" = some (some (.ref C_NoNumber)))
    (xi_NoNumber : PySem.W.excInitIn K C_NoNumber [.type "IndexError", .type "LookupError", .type "Exception", .type "BaseException", .type "object"] "IndexError.__new__" = true)
    (xo_NoNumber : PySem.W.excOver K C_NoNumber [.type "IndexError", .type "LookupError", .type "Exception", .type "BaseException", .type "object"] = true)
    (xd_NoNumber : PySem.W.hasDictIn K C_NoNumber = true)
    (xs_NoNumber : PySem.W.findIn K (.ref C_NoNumber) "__setattr__" = some (some (.builtin "object.__setattr__")))
    (xe_NoNumber : PySem.W.subIn K (.ref C_NoNumber) (.type "BaseException") = some true)
    (xt_NoNumber : PySem.W.typeIn K (.ref C_NoNumber) = some (.type "type"))
    (xk_NoNumber : PySem.W.keepIn K (.ref C_NoNumber) = true)
    (xa_NoNumber : PySem.W.findIn K (.ref C_NoNumber) "__init__" = some (some (.ref f_NoNumber)))
    (xf_NoNumber : PySem.W.typeIn K (.ref f_NoNumber) = some (.type "function"))
    (xl_NoNumber : K.lookup f_NoNumber = some ⟨oc_NoNumber, od_NoNumber, .func (PySem.W.fnOf "__init__" "NoNumber.__init__" (defArgs s_NoNumber___init__) (defBody s_NoNumber___init__) (defScope s_NoNumber___init__) .none kV_NoNumber dc_NoNumber pm_NoNumber an_NoNumber cd_NoNumber ct_NoNumber), sl_NoNumber⟩)
    (xc_NoNumber : PySem.W.codeIn K cd_NoNumber "NoNumber.__init__" = true)
    (xb_NoNumber : PySem.W.findCls K (.type "IndexError") (.type "type") "__init__" = some (.val (.builtin "IndexError.__init__")))
    (xn_NoNumber : PySem.W.takerIn K C_NoNumber "number" = some none)
    (xg_NoNumber : PySem.W.findIn K (.ref C_NoNumber) "__getattribute__" = some (some (.builtin "BaseException.__getattribute__")))
    (xh_NoNumber : PySem.W.findIn K (.ref C_NoNumber) "__getattr__" = some none)
    (xj_NoNumber : PySem.W.findIn K (.ref C_NoNumber) "__class__" = some (some (.builtin "object.__class__")))
    (xm_NoNumber : PySem.W.mroIn K C_NoNumber (.type "object") = some true)
    (xr_NoNumber : PySem.W.findIn K (.ref C_NoNumber) "number" = some none)
    (c_NoOrder : PySem.W.nsIn K mainGlobals "NoOrder" = some (some (.ref C_NoOrder)))
    (xi_NoOrder : PySem.W.excInitIn K C_NoOrder [.type "ValueError", .type "Exception", .type "BaseException", .type "object"] "ValueError.__new__" = true)
    (xo_NoOrder : PySem.W.excOver K C_NoOrder [.type "ValueError", .type "Exception", .type "BaseException", .type "object"] = true)
    (xd_NoOrder : PySem.W.hasDictIn K C_NoOrder = true)
    (xs_NoOrder : PySem.W.findIn K (.ref C_NoOrder) "__setattr__" = some (some (.builtin "object.__setattr__")))
    (xe_NoOrder : PySem.W.subIn K (.ref C_NoOrder) (.type "BaseException") = some true)
    (xt_NoOrder : PySem.W.typeIn K (.ref C_NoOrder) = some (.type "type"))
    (xk_NoOrder : PySem.W.keepIn K (.ref C_NoOrder) = true)
    (xa_NoOrder : PySem.W.findIn K (.ref C_NoOrder) "__init__" = some (some (.ref f_NoOrder)))
    (xf_NoOrder : PySem.W.typeIn K (.ref f_NoOrder) = some (.type "function"))
    (xl_NoOrder : K.lookup f_NoOrder = some ⟨oc_NoOrder, od_NoOrder, .func (PySem.W.fnOf "__init__" "NoOrder.__init__" (defArgs s_NoOrder___init__) (defBody s_NoOrder___init__) (defScope s_NoOrder___init__) .none kV_NoOrder dc_NoOrder pm_NoOrder an_NoOrder cd_NoOrder ct_NoOrder), sl_NoOrder⟩)
    (xc_NoOrder : PySem.W.codeIn K cd_NoOrder "NoOrder.__init__" = true)
    (xb_NoOrder : PySem.W.findCls K (.type "ValueError") (.type "type") "__init__" = some (.val (.builtin "ValueError.__init__")))
    (xn_NoOrder : PySem.W.takerIn K C_NoOrder "at" = some none)
    (xg_NoOrder : PySem.W.findIn K (.ref C_NoOrder) "__getattribute__" = some (some (.builtin "BaseException.__getattribute__")))
    (xh_NoOrder : PySem.W.findIn K (.ref C_NoOrder) "__getattr__" = some none)
    (xj_NoOrder : PySem.W.findIn K (.ref C_NoOrder) "__class__" = some (some (.builtin "object.__class__")))
    (xm_NoOrder : PySem.W.mroIn K C_NoOrder (.type "object") = some true)
    (xr_NoOrder : PySem.W.findIn K (.ref C_NoOrder) "at" = some none)
    (c_NoPlace : PySem.W.nsIn K mainGlobals "NoPlace" = some (some (.ref C_NoPlace)))
    (xi_NoPlace : PySem.W.excInitIn K C_NoPlace [.type "IndexError", .type "LookupError", .type "Exception", .type "BaseException", .type "object"] "IndexError.__new__" = true)
    (xo_NoPlace : PySem.W.excOver K C_NoPlace [.type "IndexError", .type "LookupError", .type "Exception", .type "BaseException", .type "object"] = true)
    (xd_NoPlace : PySem.W.hasDictIn K C_NoPlace = true)
    (xs_NoPlace : PySem.W.findIn K (.ref C_NoPlace) "__setattr__" = some (some (.builtin "object.__setattr__")))
    (xe_NoPlace : PySem.W.subIn K (.ref C_NoPlace) (.type "BaseException") = some true)
    (xt_NoPlace : PySem.W.typeIn K (.ref C_NoPlace) = some (.type "type"))
    (xk_NoPlace : PySem.W.keepIn K (.ref C_NoPlace) = true)
    (xa_NoPlace : PySem.W.findIn K (.ref C_NoPlace) "__init__" = some (some (.ref f_NoPlace)))
    (xf_NoPlace : PySem.W.typeIn K (.ref f_NoPlace) = some (.type "function"))
    (xl_NoPlace : K.lookup f_NoPlace = some ⟨oc_NoPlace, od_NoPlace, .func (PySem.W.fnOf "__init__" "NoPlace.__init__" (defArgs s_NoPlace___init__) (defBody s_NoPlace___init__) (defScope s_NoPlace___init__) .none kV_NoPlace dc_NoPlace pm_NoPlace an_NoPlace cd_NoPlace ct_NoPlace), sl_NoPlace⟩)
    (xc_NoPlace : PySem.W.codeIn K cd_NoPlace "NoPlace.__init__" = true)
    (xb_NoPlace : PySem.W.findCls K (.type "IndexError") (.type "type") "__init__" = some (.val (.builtin "IndexError.__init__")))
    (xn_NoPlace : PySem.W.takerIn K C_NoPlace "place" = some none)
    (xg_NoPlace : PySem.W.findIn K (.ref C_NoPlace) "__getattribute__" = some (some (.builtin "BaseException.__getattribute__")))
    (xh_NoPlace : PySem.W.findIn K (.ref C_NoPlace) "__getattr__" = some none)
    (xj_NoPlace : PySem.W.findIn K (.ref C_NoPlace) "__class__" = some (some (.builtin "object.__class__")))
    (xm_NoPlace : PySem.W.mroIn K C_NoPlace (.type "object") = some true)
    (xr_NoPlace : PySem.W.findIn K (.ref C_NoPlace) "place" = some none)
    (c_NoRow : PySem.W.nsIn K mainGlobals "NoRow" = some (some (.ref C_NoRow)))
    (xi_NoRow : PySem.W.excInitIn K C_NoRow [.type "ValueError", .type "Exception", .type "BaseException", .type "object"] "ValueError.__new__" = true)
    (xo_NoRow : PySem.W.excOver K C_NoRow [.type "ValueError", .type "Exception", .type "BaseException", .type "object"] = true)
    (xd_NoRow : PySem.W.hasDictIn K C_NoRow = true)
    (xs_NoRow : PySem.W.findIn K (.ref C_NoRow) "__setattr__" = some (some (.builtin "object.__setattr__")))
    (xe_NoRow : PySem.W.subIn K (.ref C_NoRow) (.type "BaseException") = some true)
    (xt_NoRow : PySem.W.typeIn K (.ref C_NoRow) = some (.type "type"))
    (xk_NoRow : PySem.W.keepIn K (.ref C_NoRow) = true)
    (xa_NoRow : PySem.W.findIn K (.ref C_NoRow) "__init__" = some (some (.ref f_NoRow)))
    (xf_NoRow : PySem.W.typeIn K (.ref f_NoRow) = some (.type "function"))
    (xl_NoRow : K.lookup f_NoRow = some ⟨oc_NoRow, od_NoRow, .func (PySem.W.fnOf "__init__" "NoRow.__init__" (defArgs s_NoRow___init__) (defBody s_NoRow___init__) (defScope s_NoRow___init__) .none kV_NoRow dc_NoRow pm_NoRow an_NoRow cd_NoRow ct_NoRow), sl_NoRow⟩)
    (xc_NoRow : PySem.W.codeIn K cd_NoRow "NoRow.__init__" = true)
    (xb_NoRow : PySem.W.findCls K (.type "ValueError") (.type "type") "__init__" = some (.val (.builtin "ValueError.__init__")))
    (xn_NoRow : PySem.W.takerIn K C_NoRow "at" = some none)
    (xg_NoRow : PySem.W.findIn K (.ref C_NoRow) "__getattribute__" = some (some (.builtin "BaseException.__getattribute__")))
    (xh_NoRow : PySem.W.findIn K (.ref C_NoRow) "__getattr__" = some none)
    (xj_NoRow : PySem.W.findIn K (.ref C_NoRow) "__class__" = some (some (.builtin "object.__class__")))
    (xm_NoRow : PySem.W.mroIn K C_NoRow (.type "object") = some true)
    (xr_NoRow : PySem.W.findIn K (.ref C_NoRow) "at" = some none)
    (c_NoRung : PySem.W.nsIn K mainGlobals "NoRung" = some (some (.ref C_NoRung)))
    (xi_NoRung : PySem.W.excInitIn K C_NoRung [.type "ValueError", .type "Exception", .type "BaseException", .type "object"] "ValueError.__new__" = true)
    (xo_NoRung : PySem.W.excOver K C_NoRung [.type "ValueError", .type "Exception", .type "BaseException", .type "object"] = true)
    (xd_NoRung : PySem.W.hasDictIn K C_NoRung = true)
    (xs_NoRung : PySem.W.findIn K (.ref C_NoRung) "__setattr__" = some (some (.builtin "object.__setattr__")))
    (xe_NoRung : PySem.W.subIn K (.ref C_NoRung) (.type "BaseException") = some true)
    (xt_NoRung : PySem.W.typeIn K (.ref C_NoRung) = some (.type "type"))
    (xk_NoRung : PySem.W.keepIn K (.ref C_NoRung) = true)
    (xa_NoRung : PySem.W.findIn K (.ref C_NoRung) "__init__" = some (some (.ref f_NoRung)))
    (xf_NoRung : PySem.W.typeIn K (.ref f_NoRung) = some (.type "function"))
    (xl_NoRung : K.lookup f_NoRung = some ⟨oc_NoRung, od_NoRung, .func (PySem.W.fnOf "__init__" "NoRung.__init__" (defArgs s_NoRung___init__) (defBody s_NoRung___init__) (defScope s_NoRung___init__) .none kV_NoRung dc_NoRung pm_NoRung an_NoRung cd_NoRung ct_NoRung), sl_NoRung⟩)
    (xc_NoRung : PySem.W.codeIn K cd_NoRung "NoRung.__init__" = true)
    (xb_NoRung : PySem.W.findCls K (.type "ValueError") (.type "type") "__init__" = some (.val (.builtin "ValueError.__init__")))
    (xn_NoRung : PySem.W.takerIn K C_NoRung "rung" = some none)
    (xg_NoRung : PySem.W.findIn K (.ref C_NoRung) "__getattribute__" = some (some (.builtin "BaseException.__getattribute__")))
    (xh_NoRung : PySem.W.findIn K (.ref C_NoRung) "__getattr__" = some none)
    (xj_NoRung : PySem.W.findIn K (.ref C_NoRung) "__class__" = some (some (.builtin "object.__class__")))
    (xm_NoRung : PySem.W.mroIn K C_NoRung (.type "object") = some true)
    (xr_NoRung : PySem.W.findIn K (.ref C_NoRung) "rung" = some none)
    (c_NoSight : PySem.W.nsIn K mainGlobals "NoSight" = some (some (.ref C_NoSight)))
    (xi_NoSight : PySem.W.excInitIn K C_NoSight [.type "ValueError", .type "Exception", .type "BaseException", .type "object"] "ValueError.__new__" = true)
    (xo_NoSight : PySem.W.excOver K C_NoSight [.type "ValueError", .type "Exception", .type "BaseException", .type "object"] = true)
    (xd_NoSight : PySem.W.hasDictIn K C_NoSight = true)
    (xs_NoSight : PySem.W.findIn K (.ref C_NoSight) "__setattr__" = some (some (.builtin "object.__setattr__")))
    (xe_NoSight : PySem.W.subIn K (.ref C_NoSight) (.type "BaseException") = some true)
    (xt_NoSight : PySem.W.typeIn K (.ref C_NoSight) = some (.type "type"))
    (xk_NoSight : PySem.W.keepIn K (.ref C_NoSight) = true)
    (xa_NoSight : PySem.W.findIn K (.ref C_NoSight) "__init__" = some (some (.ref f_NoSight)))
    (xf_NoSight : PySem.W.typeIn K (.ref f_NoSight) = some (.type "function"))
    (xl_NoSight : K.lookup f_NoSight = some ⟨oc_NoSight, od_NoSight, .func (PySem.W.fnOf "__init__" "NoSight.__init__" (defArgs s_NoSight___init__) (defBody s_NoSight___init__) (defScope s_NoSight___init__) .none kV_NoSight dc_NoSight pm_NoSight an_NoSight cd_NoSight ct_NoSight), sl_NoSight⟩)
    (xc_NoSight : PySem.W.codeIn K cd_NoSight "NoSight.__init__" = true)
    (xb_NoSight : PySem.W.findCls K (.type "ValueError") (.type "type") "__init__" = some (.val (.builtin "ValueError.__init__")))
    (xn_NoSight : PySem.W.takerIn K C_NoSight "number" = some none)
    (xg_NoSight : PySem.W.findIn K (.ref C_NoSight) "__getattribute__" = some (some (.builtin "BaseException.__getattribute__")))
    (xh_NoSight : PySem.W.findIn K (.ref C_NoSight) "__getattr__" = some none)
    (xj_NoSight : PySem.W.findIn K (.ref C_NoSight) "__class__" = some (some (.builtin "object.__class__")))
    (xm_NoSight : PySem.W.mroIn K C_NoSight (.type "object") = some true)
    (xr_NoSight : PySem.W.findIn K (.ref C_NoSight) "number" = some none)
    (c_NoTable : PySem.W.nsIn K mainGlobals "NoTable" = some (some (.ref C_NoTable)))
    (xi_NoTable : PySem.W.excInitIn K C_NoTable [.type "ValueError", .type "Exception", .type "BaseException", .type "object"] "ValueError.__new__" = true)
    (xo_NoTable : PySem.W.excOver K C_NoTable [.type "ValueError", .type "Exception", .type "BaseException", .type "object"] = true)
    (xd_NoTable : PySem.W.hasDictIn K C_NoTable = true)
    (xs_NoTable : PySem.W.findIn K (.ref C_NoTable) "__setattr__" = some (some (.builtin "object.__setattr__")))
    (xe_NoTable : PySem.W.subIn K (.ref C_NoTable) (.type "BaseException") = some true)
    (xt_NoTable : PySem.W.typeIn K (.ref C_NoTable) = some (.type "type"))
    (xk_NoTable : PySem.W.keepIn K (.ref C_NoTable) = true)
    (xa_NoTable : PySem.W.findIn K (.ref C_NoTable) "__init__" = some (some (.ref f_NoTable)))
    (xf_NoTable : PySem.W.typeIn K (.ref f_NoTable) = some (.type "function"))
    (xl_NoTable : K.lookup f_NoTable = some ⟨oc_NoTable, od_NoTable, .func (PySem.W.fnOf "__init__" "NoTable.__init__" (defArgs s_NoTable___init__) (defBody s_NoTable___init__) (defScope s_NoTable___init__) .none kV_NoTable dc_NoTable pm_NoTable an_NoTable cd_NoTable ct_NoTable), sl_NoTable⟩)
    (xc_NoTable : PySem.W.codeIn K cd_NoTable "NoTable.__init__" = true)
    (xb_NoTable : PySem.W.findCls K (.type "ValueError") (.type "type") "__init__" = some (.val (.builtin "ValueError.__init__")))
    (xn_NoTable : PySem.W.takerIn K C_NoTable "field" = some none)
    (xg_NoTable : PySem.W.findIn K (.ref C_NoTable) "__getattribute__" = some (some (.builtin "BaseException.__getattribute__")))
    (xh_NoTable : PySem.W.findIn K (.ref C_NoTable) "__getattr__" = some none)
    (xj_NoTable : PySem.W.findIn K (.ref C_NoTable) "__class__" = some (some (.builtin "object.__class__")))
    (xm_NoTable : PySem.W.mroIn K C_NoTable (.type "object") = some true)
    (xr_NoTable : PySem.W.findIn K (.ref C_NoTable) "field" = some none)
    (c_NoText : PySem.W.nsIn K mainGlobals "NoText" = some (some (.ref C_NoText)))
    (xi_NoText : PySem.W.excInitIn K C_NoText [.type "ValueError", .type "Exception", .type "BaseException", .type "object"] "ValueError.__new__" = true)
    (xo_NoText : PySem.W.excOver K C_NoText [.type "ValueError", .type "Exception", .type "BaseException", .type "object"] = true)
    (xd_NoText : PySem.W.hasDictIn K C_NoText = true)
    (xs_NoText : PySem.W.findIn K (.ref C_NoText) "__setattr__" = some (some (.builtin "object.__setattr__")))
    (xe_NoText : PySem.W.subIn K (.ref C_NoText) (.type "BaseException") = some true)
    (xt_NoText : PySem.W.typeIn K (.ref C_NoText) = some (.type "type"))
    (xk_NoText : PySem.W.keepIn K (.ref C_NoText) = true)
    (xa_NoText : PySem.W.findIn K (.ref C_NoText) "__init__" = some (some (.ref f_NoText)))
    (xf_NoText : PySem.W.typeIn K (.ref f_NoText) = some (.type "function"))
    (xl_NoText : K.lookup f_NoText = some ⟨oc_NoText, od_NoText, .func (PySem.W.fnOf "__init__" "NoText.__init__" (defArgs s_NoText___init__) (defBody s_NoText___init__) (defScope s_NoText___init__) .none kV_NoText dc_NoText pm_NoText an_NoText cd_NoText ct_NoText), sl_NoText⟩)
    (xc_NoText : PySem.W.codeIn K cd_NoText "NoText.__init__" = true)
    (xb_NoText : PySem.W.findCls K (.type "ValueError") (.type "type") "__init__" = some (.val (.builtin "ValueError.__init__")))
    (xn_NoText : PySem.W.takerIn K C_NoText "row" = some none)
    (xg_NoText : PySem.W.findIn K (.ref C_NoText) "__getattribute__" = some (some (.builtin "BaseException.__getattribute__")))
    (xh_NoText : PySem.W.findIn K (.ref C_NoText) "__getattr__" = some none)
    (xj_NoText : PySem.W.findIn K (.ref C_NoText) "__class__" = some (some (.builtin "object.__class__")))
    (xm_NoText : PySem.W.mroIn K C_NoText (.type "object") = some true)
    (xr_NoText : PySem.W.findIn K (.ref C_NoText) "row" = some none)
    (c_NoWord : PySem.W.nsIn K mainGlobals "NoWord" = some (some (.ref C_NoWord)))
    (xi_NoWord : PySem.W.excInitIn K C_NoWord [.type "ValueError", .type "Exception", .type "BaseException", .type "object"] "ValueError.__new__" = true)
    (xo_NoWord : PySem.W.excOver K C_NoWord [.type "ValueError", .type "Exception", .type "BaseException", .type "object"] = true)
    (xd_NoWord : PySem.W.hasDictIn K C_NoWord = true)
    (xs_NoWord : PySem.W.findIn K (.ref C_NoWord) "__setattr__" = some (some (.builtin "object.__setattr__")))
    (xe_NoWord : PySem.W.subIn K (.ref C_NoWord) (.type "BaseException") = some true)
    (xt_NoWord : PySem.W.typeIn K (.ref C_NoWord) = some (.type "type"))
    (xk_NoWord : PySem.W.keepIn K (.ref C_NoWord) = true)
    (xa_NoWord : PySem.W.findIn K (.ref C_NoWord) "__init__" = some (some (.ref f_NoWord)))
    (xf_NoWord : PySem.W.typeIn K (.ref f_NoWord) = some (.type "function"))
    (xl_NoWord : K.lookup f_NoWord = some ⟨oc_NoWord, od_NoWord, .func (PySem.W.fnOf "__init__" "NoWord.__init__" (defArgs s_NoWord___init__) (defBody s_NoWord___init__) (defScope s_NoWord___init__) .none kV_NoWord dc_NoWord pm_NoWord an_NoWord cd_NoWord ct_NoWord), sl_NoWord⟩)
    (xc_NoWord : PySem.W.codeIn K cd_NoWord "NoWord.__init__" = true)
    (xb_NoWord : PySem.W.findCls K (.type "ValueError") (.type "type") "__init__" = some (.val (.builtin "ValueError.__init__")))
    (xn_NoWord : PySem.W.takerIn K C_NoWord "at" = some none)
    (xg_NoWord : PySem.W.findIn K (.ref C_NoWord) "__getattribute__" = some (some (.builtin "BaseException.__getattribute__")))
    (xh_NoWord : PySem.W.findIn K (.ref C_NoWord) "__getattr__" = some none)
    (xj_NoWord : PySem.W.findIn K (.ref C_NoWord) "__class__" = some (some (.builtin "object.__class__")))
    (xm_NoWord : PySem.W.mroIn K C_NoWord (.type "object") = some true)
    (xr_NoWord : PySem.W.findIn K (.ref C_NoWord) "at" = some none)
    (c_NotAlike : PySem.W.nsIn K mainGlobals "NotAlike" = some (some (.ref C_NotAlike)))
    (xi_NotAlike : PySem.W.excInitIn K C_NotAlike [.type "ValueError", .type "Exception", .type "BaseException", .type "object"] "ValueError.__new__" = true)
    (xo_NotAlike : PySem.W.excOver K C_NotAlike [.type "ValueError", .type "Exception", .type "BaseException", .type "object"] = true)
    (xd_NotAlike : PySem.W.hasDictIn K C_NotAlike = true)
    (xs_NotAlike : PySem.W.findIn K (.ref C_NotAlike) "__setattr__" = some (some (.builtin "object.__setattr__")))
    (xe_NotAlike : PySem.W.subIn K (.ref C_NotAlike) (.type "BaseException") = some true)
    (xt_NotAlike : PySem.W.typeIn K (.ref C_NotAlike) = some (.type "type"))
    (xk_NotAlike : PySem.W.keepIn K (.ref C_NotAlike) = true)
    (xa_NotAlike : PySem.W.findIn K (.ref C_NotAlike) "__init__" = some (some (.ref f_NotAlike)))
    (xf_NotAlike : PySem.W.typeIn K (.ref f_NotAlike) = some (.type "function"))
    (xl_NotAlike : K.lookup f_NotAlike = some ⟨oc_NotAlike, od_NotAlike, .func (PySem.W.fnOf "__init__" "NotAlike.__init__" (defArgs s_NotAlike___init__) (defBody s_NotAlike___init__) (defScope s_NotAlike___init__) .none kV_NotAlike dc_NotAlike pm_NotAlike an_NotAlike cd_NotAlike ct_NotAlike), sl_NotAlike⟩)
    (xc_NotAlike : PySem.W.codeIn K cd_NotAlike "NotAlike.__init__" = true)
    (xb_NotAlike : PySem.W.findCls K (.type "ValueError") (.type "type") "__init__" = some (.val (.builtin "ValueError.__init__")))
    (xg_NotAlike : PySem.W.findIn K (.ref C_NotAlike) "__getattribute__" = some (some (.builtin "BaseException.__getattribute__")))
    (xh_NotAlike : PySem.W.findIn K (.ref C_NotAlike) "__getattr__" = some none)
    (xj_NotAlike : PySem.W.findIn K (.ref C_NotAlike) "__class__" = some (some (.builtin "object.__class__")))
    (xm_NotAlike : PySem.W.mroIn K C_NotAlike (.type "object") = some true)
    (c_NotOneOne : PySem.W.nsIn K mainGlobals "NotOneOne" = some (some (.ref C_NotOneOne)))
    (xi_NotOneOne : PySem.W.excInitIn K C_NotOneOne [.type "RuntimeError", .type "Exception", .type "BaseException", .type "object"] "RuntimeError.__new__" = true)
    (xo_NotOneOne : PySem.W.excOver K C_NotOneOne [.type "RuntimeError", .type "Exception", .type "BaseException", .type "object"] = true)
    (xd_NotOneOne : PySem.W.hasDictIn K C_NotOneOne = true)
    (xs_NotOneOne : PySem.W.findIn K (.ref C_NotOneOne) "__setattr__" = some (some (.builtin "object.__setattr__")))
    (xe_NotOneOne : PySem.W.subIn K (.ref C_NotOneOne) (.type "BaseException") = some true)
    (xt_NotOneOne : PySem.W.typeIn K (.ref C_NotOneOne) = some (.type "type"))
    (xk_NotOneOne : PySem.W.keepIn K (.ref C_NotOneOne) = true)
    (xa_NotOneOne : PySem.W.findIn K (.ref C_NotOneOne) "__init__" = some (some (.ref f_NotOneOne)))
    (xf_NotOneOne : PySem.W.typeIn K (.ref f_NotOneOne) = some (.type "function"))
    (xl_NotOneOne : K.lookup f_NotOneOne = some ⟨oc_NotOneOne, od_NotOneOne, .func (PySem.W.fnOf "__init__" "NotOneOne.__init__" (defArgs s_NotOneOne___init__) (defBody s_NotOneOne___init__) (defScope s_NotOneOne___init__) .none kV_NotOneOne dc_NotOneOne pm_NotOneOne an_NotOneOne cd_NotOneOne ct_NotOneOne), sl_NotOneOne⟩)
    (xc_NotOneOne : PySem.W.codeIn K cd_NotOneOne "NotOneOne.__init__" = true)
    (xb_NotOneOne : PySem.W.findCls K (.type "RuntimeError") (.type "type") "__init__" = some (.val (.builtin "RuntimeError.__init__")))
    (xn_NotOneOne : PySem.W.takerIn K C_NotOneOne "fault" = some none)
    (xg_NotOneOne : PySem.W.findIn K (.ref C_NotOneOne) "__getattribute__" = some (some (.builtin "BaseException.__getattribute__")))
    (xh_NotOneOne : PySem.W.findIn K (.ref C_NotOneOne) "__getattr__" = some none)
    (xj_NotOneOne : PySem.W.findIn K (.ref C_NotOneOne) "__class__" = some (some (.builtin "object.__class__")))
    (xm_NotOneOne : PySem.W.mroIn K C_NotOneOne (.type "object") = some true)
    (xr_NotOneOne : PySem.W.findIn K (.ref C_NotOneOne) "fault" = some none)
    (c_NotPart : PySem.W.nsIn K mainGlobals "NotPart" = some (some (.ref C_NotPart)))
    (xi_NotPart : PySem.W.excInitIn K C_NotPart [.type "ValueError", .type "Exception", .type "BaseException", .type "object"] "ValueError.__new__" = true)
    (xo_NotPart : PySem.W.excOver K C_NotPart [.type "ValueError", .type "Exception", .type "BaseException", .type "object"] = true)
    (xd_NotPart : PySem.W.hasDictIn K C_NotPart = true)
    (xs_NotPart : PySem.W.findIn K (.ref C_NotPart) "__setattr__" = some (some (.builtin "object.__setattr__")))
    (xe_NotPart : PySem.W.subIn K (.ref C_NotPart) (.type "BaseException") = some true)
    (xt_NotPart : PySem.W.typeIn K (.ref C_NotPart) = some (.type "type"))
    (xk_NotPart : PySem.W.keepIn K (.ref C_NotPart) = true)
    (xa_NotPart : PySem.W.findIn K (.ref C_NotPart) "__init__" = some (some (.ref f_NotPart)))
    (xf_NotPart : PySem.W.typeIn K (.ref f_NotPart) = some (.type "function"))
    (xl_NotPart : K.lookup f_NotPart = some ⟨oc_NotPart, od_NotPart, .func (PySem.W.fnOf "__init__" "NotPart.__init__" (defArgs s_NotPart___init__) (defBody s_NotPart___init__) (defScope s_NotPart___init__) .none kV_NotPart dc_NotPart pm_NotPart an_NotPart cd_NotPart ct_NotPart), sl_NotPart⟩)
    (xc_NotPart : PySem.W.codeIn K cd_NotPart "NotPart.__init__" = true)
    (xb_NotPart : PySem.W.findCls K (.type "ValueError") (.type "type") "__init__" = some (.val (.builtin "ValueError.__init__")))
    (xn_NotPart : PySem.W.takerIn K C_NotPart "pair" = some none)
    (xg_NotPart : PySem.W.findIn K (.ref C_NotPart) "__getattribute__" = some (some (.builtin "BaseException.__getattribute__")))
    (xh_NotPart : PySem.W.findIn K (.ref C_NotPart) "__getattr__" = some none)
    (xj_NotPart : PySem.W.findIn K (.ref C_NotPart) "__class__" = some (some (.builtin "object.__class__")))
    (xm_NotPart : PySem.W.mroIn K C_NotPart (.type "object") = some true)
    (xr_NotPart : PySem.W.findIn K (.ref C_NotPart) "pair" = some none)
    (c_NotSided : PySem.W.nsIn K mainGlobals "NotSided" = some (some (.ref C_NotSided)))
    (xi_NotSided : PySem.W.excInitIn K C_NotSided [.type "RuntimeError", .type "Exception", .type "BaseException", .type "object"] "RuntimeError.__new__" = true)
    (xo_NotSided : PySem.W.excOver K C_NotSided [.type "RuntimeError", .type "Exception", .type "BaseException", .type "object"] = true)
    (xd_NotSided : PySem.W.hasDictIn K C_NotSided = true)
    (xs_NotSided : PySem.W.findIn K (.ref C_NotSided) "__setattr__" = some (some (.builtin "object.__setattr__")))
    (xe_NotSided : PySem.W.subIn K (.ref C_NotSided) (.type "BaseException") = some true)
    (xt_NotSided : PySem.W.typeIn K (.ref C_NotSided) = some (.type "type"))
    (xk_NotSided : PySem.W.keepIn K (.ref C_NotSided) = true)
    (xa_NotSided : PySem.W.findIn K (.ref C_NotSided) "__init__" = some (some (.ref f_NotSided)))
    (xf_NotSided : PySem.W.typeIn K (.ref f_NotSided) = some (.type "function"))
    (xl_NotSided : K.lookup f_NotSided = some ⟨oc_NotSided, od_NotSided, .func (PySem.W.fnOf "__init__" "NotSided.__init__" (defArgs s_NotSided___init__) (defBody s_NotSided___init__) (defScope s_NotSided___init__) .none kV_NotSided dc_NotSided pm_NotSided an_NotSided cd_NotSided ct_NotSided), sl_NotSided⟩)
    (xc_NotSided : PySem.W.codeIn K cd_NotSided "NotSided.__init__" = true)
    (xb_NotSided : PySem.W.findCls K (.type "RuntimeError") (.type "type") "__init__" = some (.val (.builtin "RuntimeError.__init__")))
    (xn_NotSided : PySem.W.takerIn K C_NotSided "fault" = some none)
    (xg_NotSided : PySem.W.findIn K (.ref C_NotSided) "__getattribute__" = some (some (.builtin "BaseException.__getattribute__")))
    (xh_NotSided : PySem.W.findIn K (.ref C_NotSided) "__getattr__" = some none)
    (xj_NotSided : PySem.W.findIn K (.ref C_NotSided) "__class__" = some (some (.builtin "object.__class__")))
    (xm_NotSided : PySem.W.mroIn K C_NotSided (.type "object") = some true)
    (xr_NotSided : PySem.W.findIn K (.ref C_NotSided) "fault" = some none)
    (c_NotThree : PySem.W.nsIn K mainGlobals "NotThree" = some (some (.ref C_NotThree)))
    (xi_NotThree : PySem.W.excInitIn K C_NotThree [.type "RuntimeError", .type "Exception", .type "BaseException", .type "object"] "RuntimeError.__new__" = true)
    (xo_NotThree : PySem.W.excOver K C_NotThree [.type "RuntimeError", .type "Exception", .type "BaseException", .type "object"] = true)
    (xd_NotThree : PySem.W.hasDictIn K C_NotThree = true)
    (xs_NotThree : PySem.W.findIn K (.ref C_NotThree) "__setattr__" = some (some (.builtin "object.__setattr__")))
    (xe_NotThree : PySem.W.subIn K (.ref C_NotThree) (.type "BaseException") = some true)
    (xt_NotThree : PySem.W.typeIn K (.ref C_NotThree) = some (.type "type"))
    (xk_NotThree : PySem.W.keepIn K (.ref C_NotThree) = true)
    (xa_NotThree : PySem.W.findIn K (.ref C_NotThree) "__init__" = some (some (.ref f_NotThree)))
    (xf_NotThree : PySem.W.typeIn K (.ref f_NotThree) = some (.type "function"))
    (xl_NotThree : K.lookup f_NotThree = some ⟨oc_NotThree, od_NotThree, .func (PySem.W.fnOf "__init__" "NotThree.__init__" (defArgs s_NotThree___init__) (defBody s_NotThree___init__) (defScope s_NotThree___init__) .none kV_NotThree dc_NotThree pm_NotThree an_NotThree cd_NotThree ct_NotThree), sl_NotThree⟩)
    (xc_NotThree : PySem.W.codeIn K cd_NotThree "NotThree.__init__" = true)
    (xb_NotThree : PySem.W.findCls K (.type "RuntimeError") (.type "type") "__init__" = some (.val (.builtin "RuntimeError.__init__")))
    (xn_NotThree : PySem.W.takerIn K C_NotThree "fault" = some none)
    (xg_NotThree : PySem.W.findIn K (.ref C_NotThree) "__getattribute__" = some (some (.builtin "BaseException.__getattribute__")))
    (xh_NotThree : PySem.W.findIn K (.ref C_NotThree) "__getattr__" = some none)
    (xj_NotThree : PySem.W.findIn K (.ref C_NotThree) "__class__" = some (some (.builtin "object.__class__")))
    (xm_NotThree : PySem.W.mroIn K C_NotThree (.type "object") = some true)
    (xr_NotThree : PySem.W.findIn K (.ref C_NotThree) "fault" = some none)
    (c_NotTwice : PySem.W.nsIn K mainGlobals "NotTwice" = some (some (.ref C_NotTwice)))
    (xi_NotTwice : PySem.W.excInitIn K C_NotTwice [.type "RuntimeError", .type "Exception", .type "BaseException", .type "object"] "RuntimeError.__new__" = true)
    (xo_NotTwice : PySem.W.excOver K C_NotTwice [.type "RuntimeError", .type "Exception", .type "BaseException", .type "object"] = true)
    (xd_NotTwice : PySem.W.hasDictIn K C_NotTwice = true)
    (xs_NotTwice : PySem.W.findIn K (.ref C_NotTwice) "__setattr__" = some (some (.builtin "object.__setattr__")))
    (xe_NotTwice : PySem.W.subIn K (.ref C_NotTwice) (.type "BaseException") = some true)
    (xt_NotTwice : PySem.W.typeIn K (.ref C_NotTwice) = some (.type "type"))
    (xk_NotTwice : PySem.W.keepIn K (.ref C_NotTwice) = true)
    (xa_NotTwice : PySem.W.findIn K (.ref C_NotTwice) "__init__" = some (some (.ref f_NotTwice)))
    (xf_NotTwice : PySem.W.typeIn K (.ref f_NotTwice) = some (.type "function"))
    (xl_NotTwice : K.lookup f_NotTwice = some ⟨oc_NotTwice, od_NotTwice, .func (PySem.W.fnOf "__init__" "NotTwice.__init__" (defArgs s_NotTwice___init__) (defBody s_NotTwice___init__) (defScope s_NotTwice___init__) .none kV_NotTwice dc_NotTwice pm_NotTwice an_NotTwice cd_NotTwice ct_NotTwice), sl_NotTwice⟩)
    (xc_NotTwice : PySem.W.codeIn K cd_NotTwice "NotTwice.__init__" = true)
    (xb_NotTwice : PySem.W.findCls K (.type "RuntimeError") (.type "type") "__init__" = some (.val (.builtin "RuntimeError.__init__")))
    (xn_NotTwice : PySem.W.takerIn K C_NotTwice "fault" = some none)
    (xg_NotTwice : PySem.W.findIn K (.ref C_NotTwice) "__getattribute__" = some (some (.builtin "BaseException.__getattribute__")))
    (xh_NotTwice : PySem.W.findIn K (.ref C_NotTwice) "__getattr__" = some none)
    (xj_NotTwice : PySem.W.findIn K (.ref C_NotTwice) "__class__" = some (some (.builtin "object.__class__")))
    (xm_NotTwice : PySem.W.mroIn K C_NotTwice (.type "object") = some true)
    (xr_NotTwice : PySem.W.findIn K (.ref C_NotTwice) "fault" = some none)
    (c_NotWell : PySem.W.nsIn K mainGlobals "NotWell" = some (some (.ref C_NotWell)))
    (xi_NotWell : PySem.W.excInitIn K C_NotWell [.type "ValueError", .type "Exception", .type "BaseException", .type "object"] "ValueError.__new__" = true)
    (xo_NotWell : PySem.W.excOver K C_NotWell [.type "ValueError", .type "Exception", .type "BaseException", .type "object"] = true)
    (xd_NotWell : PySem.W.hasDictIn K C_NotWell = true)
    (xs_NotWell : PySem.W.findIn K (.ref C_NotWell) "__setattr__" = some (some (.builtin "object.__setattr__")))
    (xe_NotWell : PySem.W.subIn K (.ref C_NotWell) (.type "BaseException") = some true)
    (xt_NotWell : PySem.W.typeIn K (.ref C_NotWell) = some (.type "type"))
    (xk_NotWell : PySem.W.keepIn K (.ref C_NotWell) = true)
    (xa_NotWell : PySem.W.findIn K (.ref C_NotWell) "__init__" = some (some (.ref f_NotWell)))
    (xf_NotWell : PySem.W.typeIn K (.ref f_NotWell) = some (.type "function"))
    (xl_NotWell : K.lookup f_NotWell = some ⟨oc_NotWell, od_NotWell, .func (PySem.W.fnOf "__init__" "NotWell.__init__" (defArgs s_NotWell___init__) (defBody s_NotWell___init__) (defScope s_NotWell___init__) .none kV_NotWell dc_NotWell pm_NotWell an_NotWell cd_NotWell ct_NotWell), sl_NotWell⟩)
    (xc_NotWell : PySem.W.codeIn K cd_NotWell "NotWell.__init__" = true)
    (xb_NotWell : PySem.W.findCls K (.type "ValueError") (.type "type") "__init__" = some (.val (.builtin "ValueError.__init__")))
    (xn_NotWell : PySem.W.takerIn K C_NotWell "fault" = some none)
    (xg_NotWell : PySem.W.findIn K (.ref C_NotWell) "__getattribute__" = some (some (.builtin "BaseException.__getattribute__")))
    (xh_NotWell : PySem.W.findIn K (.ref C_NotWell) "__getattr__" = some none)
    (xj_NotWell : PySem.W.findIn K (.ref C_NotWell) "__class__" = some (some (.builtin "object.__class__")))
    (xm_NotWell : PySem.W.mroIn K C_NotWell (.type "object") = some true)
    (xr_NotWell : PySem.W.findIn K (.ref C_NotWell) "fault" = some none)
    (c_SameMark : PySem.W.nsIn K mainGlobals "SameMark" = some (some (.ref C_SameMark)))
    (xi_SameMark : PySem.W.excInitIn K C_SameMark [.type "ValueError", .type "Exception", .type "BaseException", .type "object"] "ValueError.__new__" = true)
    (xo_SameMark : PySem.W.excOver K C_SameMark [.type "ValueError", .type "Exception", .type "BaseException", .type "object"] = true)
    (xd_SameMark : PySem.W.hasDictIn K C_SameMark = true)
    (xs_SameMark : PySem.W.findIn K (.ref C_SameMark) "__setattr__" = some (some (.builtin "object.__setattr__")))
    (xe_SameMark : PySem.W.subIn K (.ref C_SameMark) (.type "BaseException") = some true)
    (xt_SameMark : PySem.W.typeIn K (.ref C_SameMark) = some (.type "type"))
    (xk_SameMark : PySem.W.keepIn K (.ref C_SameMark) = true)
    (xa_SameMark : PySem.W.findIn K (.ref C_SameMark) "__init__" = some (some (.ref f_SameMark)))
    (xf_SameMark : PySem.W.typeIn K (.ref f_SameMark) = some (.type "function"))
    (xl_SameMark : K.lookup f_SameMark = some ⟨oc_SameMark, od_SameMark, .func (PySem.W.fnOf "__init__" "SameMark.__init__" (defArgs s_SameMark___init__) (defBody s_SameMark___init__) (defScope s_SameMark___init__) .none kV_SameMark dc_SameMark pm_SameMark an_SameMark cd_SameMark ct_SameMark), sl_SameMark⟩)
    (xc_SameMark : PySem.W.codeIn K cd_SameMark "SameMark.__init__" = true)
    (xb_SameMark : PySem.W.findCls K (.type "ValueError") (.type "type") "__init__" = some (.val (.builtin "ValueError.__init__")))
    (xn_SameMark : PySem.W.takerIn K C_SameMark "mark" = some none)
    (xg_SameMark : PySem.W.findIn K (.ref C_SameMark) "__getattribute__" = some (some (.builtin "BaseException.__getattribute__")))
    (xh_SameMark : PySem.W.findIn K (.ref C_SameMark) "__getattr__" = some none)
    (xj_SameMark : PySem.W.findIn K (.ref C_SameMark) "__class__" = some (some (.builtin "object.__class__")))
    (xm_SameMark : PySem.W.mroIn K C_SameMark (.type "object") = some true)
    (xr_SameMark : PySem.W.findIn K (.ref C_SameMark) "mark" = some none)
    (c_Taken : PySem.W.nsIn K mainGlobals "Taken" = some (some (.ref C_Taken)))
    (xi_Taken : PySem.W.excInitIn K C_Taken keMro "LookupError.__new__" = true)
    (xo_Taken : PySem.W.excOver K C_Taken keMro = true)
    (xd_Taken : PySem.W.hasDictIn K C_Taken = true)
    (xs_Taken : PySem.W.findIn K (.ref C_Taken) "__setattr__" = some (some (.builtin "object.__setattr__")))
    (xe_Taken : PySem.W.subIn K (.ref C_Taken) (.type "BaseException") = some true)
    (xt_Taken : PySem.W.typeIn K (.ref C_Taken) = some (.type "type"))
    (xk_Taken : PySem.W.keepIn K (.ref C_Taken) = true)
    (xa_Taken : PySem.W.findIn K (.ref C_Taken) "__init__" = some (some (.ref f_Taken)))
    (xf_Taken : PySem.W.typeIn K (.ref f_Taken) = some (.type "function"))
    (xl_Taken : K.lookup f_Taken = some ⟨oc_Taken, od_Taken, .func (PySem.W.fnOf "__init__" "Taken.__init__" (defArgs s_Taken___init__) (defBody s_Taken___init__) (defScope s_Taken___init__) .none kV_Taken dc_Taken pm_Taken an_Taken cd_Taken ct_Taken), sl_Taken⟩)
    (xc_Taken : PySem.W.codeIn K cd_Taken "Taken.__init__" = true)
    (xb_Taken : PySem.W.findCls K (.type "KeyError") (.type "type") "__init__" = some (.val (.builtin "KeyError.__init__")))
    (xn_Taken : PySem.W.takerIn K C_Taken "name" = some none)
    (xg_Taken : PySem.W.findIn K (.ref C_Taken) "__getattribute__" = some (some (.builtin "BaseException.__getattribute__")))
    (xh_Taken : PySem.W.findIn K (.ref C_Taken) "__getattr__" = some none)
    (xj_Taken : PySem.W.findIn K (.ref C_Taken) "__class__" = some (some (.builtin "object.__class__")))
    (xm_Taken : PySem.W.mroIn K C_Taken (.type "object") = some true)
    (xr_Taken : PySem.W.findIn K (.ref C_Taken) "name" = some none)
    (c_TooLong : PySem.W.nsIn K mainGlobals "TooLong" = some (some (.ref C_TooLong)))
    (xi_TooLong : PySem.W.excInitIn K C_TooLong [.type "ArithmeticError", .type "Exception", .type "BaseException", .type "object"] "ArithmeticError.__new__" = true)
    (xo_TooLong : PySem.W.excOver K C_TooLong [.type "ArithmeticError", .type "Exception", .type "BaseException", .type "object"] = true)
    (xd_TooLong : PySem.W.hasDictIn K C_TooLong = true)
    (xs_TooLong : PySem.W.findIn K (.ref C_TooLong) "__setattr__" = some (some (.builtin "object.__setattr__")))
    (xe_TooLong : PySem.W.subIn K (.ref C_TooLong) (.type "BaseException") = some true)
    (xt_TooLong : PySem.W.typeIn K (.ref C_TooLong) = some (.type "type"))
    (xk_TooLong : PySem.W.keepIn K (.ref C_TooLong) = true)
    (xa_TooLong : PySem.W.findIn K (.ref C_TooLong) "__init__" = some (some (.ref f_TooLong)))
    (xf_TooLong : PySem.W.typeIn K (.ref f_TooLong) = some (.type "function"))
    (xl_TooLong : K.lookup f_TooLong = some ⟨oc_TooLong, od_TooLong, .func (PySem.W.fnOf "__init__" "TooLong.__init__" (defArgs s_TooLong___init__) (defBody s_TooLong___init__) (defScope s_TooLong___init__) .none kV_TooLong dc_TooLong pm_TooLong an_TooLong cd_TooLong ct_TooLong), sl_TooLong⟩)
    (xc_TooLong : PySem.W.codeIn K cd_TooLong "TooLong.__init__" = true)
    (xb_TooLong : PySem.W.findCls K (.type "ArithmeticError") (.type "type") "__init__" = some (.val (.builtin "ArithmeticError.__init__")))
    (xn_TooLong : PySem.W.takerIn K C_TooLong "most" = some none)
    (xg_TooLong : PySem.W.findIn K (.ref C_TooLong) "__getattribute__" = some (some (.builtin "BaseException.__getattribute__")))
    (xh_TooLong : PySem.W.findIn K (.ref C_TooLong) "__getattr__" = some none)
    (xj_TooLong : PySem.W.findIn K (.ref C_TooLong) "__class__" = some (some (.builtin "object.__class__")))
    (xm_TooLong : PySem.W.mroIn K C_TooLong (.type "object") = some true)
    (xr_TooLong : PySem.W.findIn K (.ref C_TooLong) "most" = some none)
    (c_TooMany : PySem.W.nsIn K mainGlobals "TooMany" = some (some (.ref C_TooMany)))
    (xi_TooMany : PySem.W.excInitIn K C_TooMany [.type "ArithmeticError", .type "Exception", .type "BaseException", .type "object"] "ArithmeticError.__new__" = true)
    (xo_TooMany : PySem.W.excOver K C_TooMany [.type "ArithmeticError", .type "Exception", .type "BaseException", .type "object"] = true)
    (xd_TooMany : PySem.W.hasDictIn K C_TooMany = true)
    (xs_TooMany : PySem.W.findIn K (.ref C_TooMany) "__setattr__" = some (some (.builtin "object.__setattr__")))
    (xe_TooMany : PySem.W.subIn K (.ref C_TooMany) (.type "BaseException") = some true)
    (xt_TooMany : PySem.W.typeIn K (.ref C_TooMany) = some (.type "type"))
    (xk_TooMany : PySem.W.keepIn K (.ref C_TooMany) = true)
    (xa_TooMany : PySem.W.findIn K (.ref C_TooMany) "__init__" = some (some (.ref f_TooMany)))
    (xf_TooMany : PySem.W.typeIn K (.ref f_TooMany) = some (.type "function"))
    (xl_TooMany : K.lookup f_TooMany = some ⟨oc_TooMany, od_TooMany, .func (PySem.W.fnOf "__init__" "TooMany.__init__" (defArgs s_TooMany___init__) (defBody s_TooMany___init__) (defScope s_TooMany___init__) .none kV_TooMany dc_TooMany pm_TooMany an_TooMany cd_TooMany ct_TooMany), sl_TooMany⟩)
    (xc_TooMany : PySem.W.codeIn K cd_TooMany "TooMany.__init__" = true)
    (xb_TooMany : PySem.W.findCls K (.type "ArithmeticError") (.type "type") "__init__" = some (.val (.builtin "ArithmeticError.__init__")))
    (xn_TooMany : PySem.W.takerIn K C_TooMany "most" = some none)
    (xg_TooMany : PySem.W.findIn K (.ref C_TooMany) "__getattribute__" = some (some (.builtin "BaseException.__getattribute__")))
    (xh_TooMany : PySem.W.findIn K (.ref C_TooMany) "__getattr__" = some none)
    (xj_TooMany : PySem.W.findIn K (.ref C_TooMany) "__class__" = some (some (.builtin "object.__class__")))
    (xm_TooMany : PySem.W.mroIn K C_TooMany (.type "object") = some true)
    (xr_TooMany : PySem.W.findIn K (.ref C_TooMany) "most" = some none)
    (c_Unfit : PySem.W.nsIn K mainGlobals "Unfit" = some (some (.ref C_Unfit)))
    (xi_Unfit : PySem.W.excInitIn K C_Unfit [.type "ValueError", .type "Exception", .type "BaseException", .type "object"] "ValueError.__new__" = true)
    (xo_Unfit : PySem.W.excOver K C_Unfit [.type "ValueError", .type "Exception", .type "BaseException", .type "object"] = true)
    (xd_Unfit : PySem.W.hasDictIn K C_Unfit = true)
    (xs_Unfit : PySem.W.findIn K (.ref C_Unfit) "__setattr__" = some (some (.builtin "object.__setattr__")))
    (xe_Unfit : PySem.W.subIn K (.ref C_Unfit) (.type "BaseException") = some true)
    (xt_Unfit : PySem.W.typeIn K (.ref C_Unfit) = some (.type "type"))
    (xk_Unfit : PySem.W.keepIn K (.ref C_Unfit) = true)
    (xa_Unfit : PySem.W.findIn K (.ref C_Unfit) "__init__" = some (some (.ref f_Unfit)))
    (xf_Unfit : PySem.W.typeIn K (.ref f_Unfit) = some (.type "function"))
    (xl_Unfit : K.lookup f_Unfit = some ⟨oc_Unfit, od_Unfit, .func (PySem.W.fnOf "__init__" "Unfit.__init__" (defArgs s_Unfit___init__) (defBody s_Unfit___init__) (defScope s_Unfit___init__) .none kV_Unfit dc_Unfit pm_Unfit an_Unfit cd_Unfit ct_Unfit), sl_Unfit⟩)
    (xc_Unfit : PySem.W.codeIn K cd_Unfit "Unfit.__init__" = true)
    (xb_Unfit : PySem.W.findCls K (.type "ValueError") (.type "type") "__init__" = some (.val (.builtin "ValueError.__init__")))
    (xn_Unfit : PySem.W.takerIn K C_Unfit "name" = some none)
    (xg_Unfit : PySem.W.findIn K (.ref C_Unfit) "__getattribute__" = some (some (.builtin "BaseException.__getattribute__")))
    (xh_Unfit : PySem.W.findIn K (.ref C_Unfit) "__getattr__" = some none)
    (xj_Unfit : PySem.W.findIn K (.ref C_Unfit) "__class__" = some (some (.builtin "object.__class__")))
    (xm_Unfit : PySem.W.mroIn K C_Unfit (.type "object") = some true)
    (xr_Unfit : PySem.W.findIn K (.ref C_Unfit) "name" = some none)
    (c_Unread : PySem.W.nsIn K mainGlobals "Unread" = some (some (.ref C_Unread)))
    (xi_Unread : PySem.W.excInitIn K C_Unread [.type "ValueError", .type "Exception", .type "BaseException", .type "object"] "ValueError.__new__" = true)
    (xo_Unread : PySem.W.excOver K C_Unread [.type "ValueError", .type "Exception", .type "BaseException", .type "object"] = true)
    (xd_Unread : PySem.W.hasDictIn K C_Unread = true)
    (xs_Unread : PySem.W.findIn K (.ref C_Unread) "__setattr__" = some (some (.builtin "object.__setattr__")))
    (xe_Unread : PySem.W.subIn K (.ref C_Unread) (.type "BaseException") = some true)
    (xt_Unread : PySem.W.typeIn K (.ref C_Unread) = some (.type "type"))
    (xk_Unread : PySem.W.keepIn K (.ref C_Unread) = true)
    (xa_Unread : PySem.W.findIn K (.ref C_Unread) "__init__" = some (some (.ref f_Unread)))
    (xf_Unread : PySem.W.typeIn K (.ref f_Unread) = some (.type "function"))
    (xl_Unread : K.lookup f_Unread = some ⟨oc_Unread, od_Unread, .func (PySem.W.fnOf "__init__" "Unread.__init__" (defArgs s_Unread___init__) (defBody s_Unread___init__) (defScope s_Unread___init__) .none kV_Unread dc_Unread pm_Unread an_Unread cd_Unread ct_Unread), sl_Unread⟩)
    (xc_Unread : PySem.W.codeIn K cd_Unread "Unread.__init__" = true)
    (xb_Unread : PySem.W.findCls K (.type "ValueError") (.type "type") "__init__" = some (.val (.builtin "ValueError.__init__")))
    (xn_Unread : PySem.W.takerIn K C_Unread "row" = some none)
    (xg_Unread : PySem.W.findIn K (.ref C_Unread) "__getattribute__" = some (some (.builtin "BaseException.__getattribute__")))
    (xh_Unread : PySem.W.findIn K (.ref C_Unread) "__getattr__" = some none)
    (xj_Unread : PySem.W.findIn K (.ref C_Unread) "__class__" = some (some (.builtin "object.__class__")))
    (xm_Unread : PySem.W.mroIn K C_Unread (.type "object") = some true)
    (xr_Unread : PySem.W.findIn K (.ref C_Unread) "row" = some none)
    (c_Unseen : PySem.W.nsIn K mainGlobals "Unseen" = some (some (.ref C_Unseen)))
    (xi_Unseen : PySem.W.excInitIn K C_Unseen [.type "ValueError", .type "Exception", .type "BaseException", .type "object"] "ValueError.__new__" = true)
    (xo_Unseen : PySem.W.excOver K C_Unseen [.type "ValueError", .type "Exception", .type "BaseException", .type "object"] = true)
    (xd_Unseen : PySem.W.hasDictIn K C_Unseen = true)
    (xs_Unseen : PySem.W.findIn K (.ref C_Unseen) "__setattr__" = some (some (.builtin "object.__setattr__")))
    (xe_Unseen : PySem.W.subIn K (.ref C_Unseen) (.type "BaseException") = some true)
    (xt_Unseen : PySem.W.typeIn K (.ref C_Unseen) = some (.type "type"))
    (xk_Unseen : PySem.W.keepIn K (.ref C_Unseen) = true)
    (xa_Unseen : PySem.W.findIn K (.ref C_Unseen) "__init__" = some (some (.ref f_Unseen)))
    (xf_Unseen : PySem.W.typeIn K (.ref f_Unseen) = some (.type "function"))
    (xl_Unseen : K.lookup f_Unseen = some ⟨oc_Unseen, od_Unseen, .func (PySem.W.fnOf "__init__" "Unseen.__init__" (defArgs s_Unseen___init__) (defBody s_Unseen___init__) (defScope s_Unseen___init__) .none kV_Unseen dc_Unseen pm_Unseen an_Unseen cd_Unseen ct_Unseen), sl_Unseen⟩)
    (xc_Unseen : PySem.W.codeIn K cd_Unseen "Unseen.__init__" = true)
    (xb_Unseen : PySem.W.findCls K (.type "ValueError") (.type "type") "__init__" = some (.val (.builtin "ValueError.__init__")))
    (xn_Unseen : PySem.W.takerIn K C_Unseen "name" = some none)
    (xg_Unseen : PySem.W.findIn K (.ref C_Unseen) "__getattribute__" = some (some (.builtin "BaseException.__getattribute__")))
    (xh_Unseen : PySem.W.findIn K (.ref C_Unseen) "__getattr__" = some none)
    (xj_Unseen : PySem.W.findIn K (.ref C_Unseen) "__class__" = some (some (.builtin "object.__class__")))
    (xm_Unseen : PySem.W.mroIn K C_Unseen (.type "object") = some true)
    (xr_Unseen : PySem.W.findIn K (.ref C_Unseen) "name" = some none)
    (xp : PySem.W.specialIn K (.builtin "object.__class__") "__get__" = some (some (.builtin "getset_descriptor.__get__")))
    (xq : PySem.W.takesIn K (.builtin "object.__class__") = some true)
    (kn_ArithmeticError : PySem.W.kitOne K (.type "NoneType") (.type "ArithmeticError") = some false)
    (kn_IndexError : PySem.W.kitOne K (.type "NoneType") (.type "IndexError") = some false)
    (kn_KeyError : PySem.W.kitOne K (.type "NoneType") (.type "KeyError") = some false)
    (kn_LookupError : PySem.W.kitOne K (.type "NoneType") (.type "LookupError") = some false)
    (kn_RuntimeError : PySem.W.kitOne K (.type "NoneType") (.type "RuntimeError") = some false)
    (kn_ValueError : PySem.W.kitOne K (.type "NoneType") (.type "ValueError") = some false)
    (kn_Full : PySem.W.kitOne K (.type "NoneType") (.ref C_Full) = some false)
    (kn_Hidden : PySem.W.kitOne K (.type "NoneType") (.ref C_Hidden) = some false)
    (kn_Needed : PySem.W.kitOne K (.type "NoneType") (.ref C_Needed) = some false)
    (kn_NoAsk : PySem.W.kitOne K (.type "NoneType") (.ref C_NoAsk) = some false)
    (kn_NoDeed : PySem.W.kitOne K (.type "NoneType") (.ref C_NoDeed) = some false)
    (kn_NoMark : PySem.W.kitOne K (.type "NoneType") (.ref C_NoMark) = some false)
    (kn_NoName : PySem.W.kitOne K (.type "NoneType") (.ref C_NoName) = some false)
    (kn_NoNames : PySem.W.kitOne K (.type "NoneType") (.ref C_NoNames) = some false)
    (kn_NoNumber : PySem.W.kitOne K (.type "NoneType") (.ref C_NoNumber) = some false)
    (kn_NoOrder : PySem.W.kitOne K (.type "NoneType") (.ref C_NoOrder) = some false)
    (kn_NoPlace : PySem.W.kitOne K (.type "NoneType") (.ref C_NoPlace) = some false)
    (kn_NoRow : PySem.W.kitOne K (.type "NoneType") (.ref C_NoRow) = some false)
    (kn_NoRung : PySem.W.kitOne K (.type "NoneType") (.ref C_NoRung) = some false)
    (kn_NoSight : PySem.W.kitOne K (.type "NoneType") (.ref C_NoSight) = some false)
    (kn_NoTable : PySem.W.kitOne K (.type "NoneType") (.ref C_NoTable) = some false)
    (kn_NoText : PySem.W.kitOne K (.type "NoneType") (.ref C_NoText) = some false)
    (kn_NoWord : PySem.W.kitOne K (.type "NoneType") (.ref C_NoWord) = some false)
    (kn_NotAlike : PySem.W.kitOne K (.type "NoneType") (.ref C_NotAlike) = some false)
    (kn_NotOneOne : PySem.W.kitOne K (.type "NoneType") (.ref C_NotOneOne) = some false)
    (kn_NotPart : PySem.W.kitOne K (.type "NoneType") (.ref C_NotPart) = some false)
    (kn_NotSided : PySem.W.kitOne K (.type "NoneType") (.ref C_NotSided) = some false)
    (kn_NotThree : PySem.W.kitOne K (.type "NoneType") (.ref C_NotThree) = some false)
    (kn_NotTwice : PySem.W.kitOne K (.type "NoneType") (.ref C_NotTwice) = some false)
    (kn_NotWell : PySem.W.kitOne K (.type "NoneType") (.ref C_NotWell) = some false)
    (kn_SameMark : PySem.W.kitOne K (.type "NoneType") (.ref C_SameMark) = some false)
    (kn_Taken : PySem.W.kitOne K (.type "NoneType") (.ref C_Taken) = some false)
    (kn_TooLong : PySem.W.kitOne K (.type "NoneType") (.ref C_TooLong) = some false)
    (kn_TooMany : PySem.W.kitOne K (.type "NoneType") (.ref C_TooMany) = some false)
    (kn_Unfit : PySem.W.kitOne K (.type "NoneType") (.ref C_Unfit) = some false)
    (kn_Unread : PySem.W.kitOne K (.type "NoneType") (.ref C_Unread) = some false)
    (kn_Unseen : PySem.W.kitOne K (.type "NoneType") (.ref C_Unseen) = some false)
    (kt_ArithmeticError : kitTab K (.type "ArithmeticError") [C_Full, C_Hidden, C_Needed, C_NoAsk, C_NoDeed, C_NoMark, C_NoName, C_NoNames, C_NoNumber, C_NoOrder, C_NoPlace, C_NoRow, C_NoRung, C_NoSight, C_NoTable, C_NoText, C_NoWord, C_NotAlike, C_NotOneOne, C_NotPart, C_NotSided, C_NotThree, C_NotTwice, C_NotWell, C_SameMark, C_Taken, C_TooLong, C_TooMany, C_Unfit, C_Unread, C_Unseen] [false, false, false, false, false, false, false, false, false, false, false, false, false, false, false, false, false, false, false, false, false, false, false, false, false, false, true, true, false, false, false] = true)
    (kt_Full : kitTab K (.ref C_Full) [C_Full, C_Hidden, C_Needed, C_NoAsk, C_NoDeed, C_NoMark, C_NoName, C_NoNames, C_NoNumber, C_NoOrder, C_NoPlace, C_NoRow, C_NoRung, C_NoSight, C_NoTable, C_NoText, C_NoWord, C_NotAlike, C_NotOneOne, C_NotPart, C_NotSided, C_NotThree, C_NotTwice, C_NotWell, C_SameMark, C_Taken, C_TooLong, C_TooMany, C_Unfit, C_Unread, C_Unseen] [true, false, false, false, false, false, false, false, false, false, false, false, false, false, false, false, false, false, false, false, false, false, false, false, false, false, false, false, false, false, false] = true)
    (kt_Hidden : kitTab K (.ref C_Hidden) [C_Full, C_Hidden, C_Needed, C_NoAsk, C_NoDeed, C_NoMark, C_NoName, C_NoNames, C_NoNumber, C_NoOrder, C_NoPlace, C_NoRow, C_NoRung, C_NoSight, C_NoTable, C_NoText, C_NoWord, C_NotAlike, C_NotOneOne, C_NotPart, C_NotSided, C_NotThree, C_NotTwice, C_NotWell, C_SameMark, C_Taken, C_TooLong, C_TooMany, C_Unfit, C_Unread, C_Unseen] [false, true, false, false, false, false, false, false, false, false, false, false, false, false, false, false, false, false, false, false, false, false, false, false, false, false, false, false, false, false, false] = true)
    (kt_IndexError : kitTab K (.type "IndexError") [C_Full, C_Hidden, C_Needed, C_NoAsk, C_NoDeed, C_NoMark, C_NoName, C_NoNames, C_NoNumber, C_NoOrder, C_NoPlace, C_NoRow, C_NoRung, C_NoSight, C_NoTable, C_NoText, C_NoWord, C_NotAlike, C_NotOneOne, C_NotPart, C_NotSided, C_NotThree, C_NotTwice, C_NotWell, C_SameMark, C_Taken, C_TooLong, C_TooMany, C_Unfit, C_Unread, C_Unseen] [true, false, false, false, false, false, false, false, true, false, true, false, false, false, false, false, false, false, false, false, false, false, false, false, false, false, false, false, false, false, false] = true)
    (kt_KeyError : kitTab K (.type "KeyError") [C_Full, C_Hidden, C_Needed, C_NoAsk, C_NoDeed, C_NoMark, C_NoName, C_NoNames, C_NoNumber, C_NoOrder, C_NoPlace, C_NoRow, C_NoRung, C_NoSight, C_NoTable, C_NoText, C_NoWord, C_NotAlike, C_NotOneOne, C_NotPart, C_NotSided, C_NotThree, C_NotTwice, C_NotWell, C_SameMark, C_Taken, C_TooLong, C_TooMany, C_Unfit, C_Unread, C_Unseen] [false, false, false, false, false, false, true, false, false, false, false, false, false, false, false, false, false, false, false, false, false, false, false, false, false, true, false, false, false, false, false] = true)
    (kt_LookupError : kitTab K (.type "LookupError") [C_Full, C_Hidden, C_Needed, C_NoAsk, C_NoDeed, C_NoMark, C_NoName, C_NoNames, C_NoNumber, C_NoOrder, C_NoPlace, C_NoRow, C_NoRung, C_NoSight, C_NoTable, C_NoText, C_NoWord, C_NotAlike, C_NotOneOne, C_NotPart, C_NotSided, C_NotThree, C_NotTwice, C_NotWell, C_SameMark, C_Taken, C_TooLong, C_TooMany, C_Unfit, C_Unread, C_Unseen] [true, true, true, false, false, false, true, false, true, false, true, false, false, false, false, false, false, false, false, false, false, false, false, false, false, true, false, false, false, false, false] = true)
    (kt_Needed : kitTab K (.ref C_Needed) [C_Full, C_Hidden, C_Needed, C_NoAsk, C_NoDeed, C_NoMark, C_NoName, C_NoNames, C_NoNumber, C_NoOrder, C_NoPlace, C_NoRow, C_NoRung, C_NoSight, C_NoTable, C_NoText, C_NoWord, C_NotAlike, C_NotOneOne, C_NotPart, C_NotSided, C_NotThree, C_NotTwice, C_NotWell, C_SameMark, C_Taken, C_TooLong, C_TooMany, C_Unfit, C_Unread, C_Unseen] [false, false, true, false, false, false, false, false, false, false, false, false, false, false, false, false, false, false, false, false, false, false, false, false, false, false, false, false, false, false, false] = true)
    (kt_NoAsk : kitTab K (.ref C_NoAsk) [C_Full, C_Hidden, C_Needed, C_NoAsk, C_NoDeed, C_NoMark, C_NoName, C_NoNames, C_NoNumber, C_NoOrder, C_NoPlace, C_NoRow, C_NoRung, C_NoSight, C_NoTable, C_NoText, C_NoWord, C_NotAlike, C_NotOneOne, C_NotPart, C_NotSided, C_NotThree, C_NotTwice, C_NotWell, C_SameMark, C_Taken, C_TooLong, C_TooMany, C_Unfit, C_Unread, C_Unseen] [false, false, false, true, false, false, false, false, false, false, false, false, false, false, false, false, false, false, false, false, false, false, false, false, false, false, false, false, false, false, false] = true)
    (kt_NoDeed : kitTab K (.ref C_NoDeed) [C_Full, C_Hidden, C_Needed, C_NoAsk, C_NoDeed, C_NoMark, C_NoName, C_NoNames, C_NoNumber, C_NoOrder, C_NoPlace, C_NoRow, C_NoRung, C_NoSight, C_NoTable, C_NoText, C_NoWord, C_NotAlike, C_NotOneOne, C_NotPart, C_NotSided, C_NotThree, C_NotTwice, C_NotWell, C_SameMark, C_Taken, C_TooLong, C_TooMany, C_Unfit, C_Unread, C_Unseen] [false, false, false, false, true, false, false, false, false, false, false, false, false, false, false, false, false, false, false, false, false, false, false, false, false, false, false, false, false, false, false] = true)
    (kt_NoMark : kitTab K (.ref C_NoMark) [C_Full, C_Hidden, C_Needed, C_NoAsk, C_NoDeed, C_NoMark, C_NoName, C_NoNames, C_NoNumber, C_NoOrder, C_NoPlace, C_NoRow, C_NoRung, C_NoSight, C_NoTable, C_NoText, C_NoWord, C_NotAlike, C_NotOneOne, C_NotPart, C_NotSided, C_NotThree, C_NotTwice, C_NotWell, C_SameMark, C_Taken, C_TooLong, C_TooMany, C_Unfit, C_Unread, C_Unseen] [false, false, false, false, false, true, false, false, false, false, false, false, false, false, false, false, false, false, false, false, false, false, false, false, false, false, false, false, false, false, false] = true)
    (kt_NoName : kitTab K (.ref C_NoName) [C_Full, C_Hidden, C_Needed, C_NoAsk, C_NoDeed, C_NoMark, C_NoName, C_NoNames, C_NoNumber, C_NoOrder, C_NoPlace, C_NoRow, C_NoRung, C_NoSight, C_NoTable, C_NoText, C_NoWord, C_NotAlike, C_NotOneOne, C_NotPart, C_NotSided, C_NotThree, C_NotTwice, C_NotWell, C_SameMark, C_Taken, C_TooLong, C_TooMany, C_Unfit, C_Unread, C_Unseen] [false, false, false, false, false, false, true, false, false, false, false, false, false, false, false, false, false, false, false, false, false, false, false, false, false, false, false, false, false, false, false] = true)
    (kt_NoNames : kitTab K (.ref C_NoNames) [C_Full, C_Hidden, C_Needed, C_NoAsk, C_NoDeed, C_NoMark, C_NoName, C_NoNames, C_NoNumber, C_NoOrder, C_NoPlace, C_NoRow, C_NoRung, C_NoSight, C_NoTable, C_NoText, C_NoWord, C_NotAlike, C_NotOneOne, C_NotPart, C_NotSided, C_NotThree, C_NotTwice, C_NotWell, C_SameMark, C_Taken, C_TooLong, C_TooMany, C_Unfit, C_Unread, C_Unseen] [false, false, false, false, false, false, false, true, false, false, false, false, false, false, false, false, false, false, false, false, false, false, false, false, false, false, false, false, false, false, false] = true)
    (kt_NoNumber : kitTab K (.ref C_NoNumber) [C_Full, C_Hidden, C_Needed, C_NoAsk, C_NoDeed, C_NoMark, C_NoName, C_NoNames, C_NoNumber, C_NoOrder, C_NoPlace, C_NoRow, C_NoRung, C_NoSight, C_NoTable, C_NoText, C_NoWord, C_NotAlike, C_NotOneOne, C_NotPart, C_NotSided, C_NotThree, C_NotTwice, C_NotWell, C_SameMark, C_Taken, C_TooLong, C_TooMany, C_Unfit, C_Unread, C_Unseen] [false, false, false, false, false, false, false, false, true, false, false, false, false, false, false, false, false, false, false, false, false, false, false, false, false, false, false, false, false, false, false] = true)
    (kt_NoOrder : kitTab K (.ref C_NoOrder) [C_Full, C_Hidden, C_Needed, C_NoAsk, C_NoDeed, C_NoMark, C_NoName, C_NoNames, C_NoNumber, C_NoOrder, C_NoPlace, C_NoRow, C_NoRung, C_NoSight, C_NoTable, C_NoText, C_NoWord, C_NotAlike, C_NotOneOne, C_NotPart, C_NotSided, C_NotThree, C_NotTwice, C_NotWell, C_SameMark, C_Taken, C_TooLong, C_TooMany, C_Unfit, C_Unread, C_Unseen] [false, false, false, false, false, false, false, false, false, true, false, false, false, false, false, false, false, false, false, false, false, false, false, false, false, false, false, false, false, false, false] = true)
    (kt_NoPlace : kitTab K (.ref C_NoPlace) [C_Full, C_Hidden, C_Needed, C_NoAsk, C_NoDeed, C_NoMark, C_NoName, C_NoNames, C_NoNumber, C_NoOrder, C_NoPlace, C_NoRow, C_NoRung, C_NoSight, C_NoTable, C_NoText, C_NoWord, C_NotAlike, C_NotOneOne, C_NotPart, C_NotSided, C_NotThree, C_NotTwice, C_NotWell, C_SameMark, C_Taken, C_TooLong, C_TooMany, C_Unfit, C_Unread, C_Unseen] [false, false, false, false, false, false, false, false, false, false, true, false, false, false, false, false, false, false, false, false, false, false, false, false, false, false, false, false, false, false, false] = true)
    (kt_NoRow : kitTab K (.ref C_NoRow) [C_Full, C_Hidden, C_Needed, C_NoAsk, C_NoDeed, C_NoMark, C_NoName, C_NoNames, C_NoNumber, C_NoOrder, C_NoPlace, C_NoRow, C_NoRung, C_NoSight, C_NoTable, C_NoText, C_NoWord, C_NotAlike, C_NotOneOne, C_NotPart, C_NotSided, C_NotThree, C_NotTwice, C_NotWell, C_SameMark, C_Taken, C_TooLong, C_TooMany, C_Unfit, C_Unread, C_Unseen] [false, false, false, false, false, false, false, false, false, false, false, true, false, false, false, false, false, false, false, false, false, false, false, false, false, false, false, false, false, false, false] = true)
    (kt_NoRung : kitTab K (.ref C_NoRung) [C_Full, C_Hidden, C_Needed, C_NoAsk, C_NoDeed, C_NoMark, C_NoName, C_NoNames, C_NoNumber, C_NoOrder, C_NoPlace, C_NoRow, C_NoRung, C_NoSight, C_NoTable, C_NoText, C_NoWord, C_NotAlike, C_NotOneOne, C_NotPart, C_NotSided, C_NotThree, C_NotTwice, C_NotWell, C_SameMark, C_Taken, C_TooLong, C_TooMany, C_Unfit, C_Unread, C_Unseen] [false, false, false, false, false, false, false, false, false, false, false, false, true, false, false, false, false, false, false, false, false, false, false, false, false, false, false, false, false, false, false] = true)
    (kt_NoSight : kitTab K (.ref C_NoSight) [C_Full, C_Hidden, C_Needed, C_NoAsk, C_NoDeed, C_NoMark, C_NoName, C_NoNames, C_NoNumber, C_NoOrder, C_NoPlace, C_NoRow, C_NoRung, C_NoSight, C_NoTable, C_NoText, C_NoWord, C_NotAlike, C_NotOneOne, C_NotPart, C_NotSided, C_NotThree, C_NotTwice, C_NotWell, C_SameMark, C_Taken, C_TooLong, C_TooMany, C_Unfit, C_Unread, C_Unseen] [false, false, false, false, false, false, false, false, false, false, false, false, false, true, false, false, false, false, false, false, false, false, false, false, false, false, false, false, false, false, false] = true)
    (kt_NoTable : kitTab K (.ref C_NoTable) [C_Full, C_Hidden, C_Needed, C_NoAsk, C_NoDeed, C_NoMark, C_NoName, C_NoNames, C_NoNumber, C_NoOrder, C_NoPlace, C_NoRow, C_NoRung, C_NoSight, C_NoTable, C_NoText, C_NoWord, C_NotAlike, C_NotOneOne, C_NotPart, C_NotSided, C_NotThree, C_NotTwice, C_NotWell, C_SameMark, C_Taken, C_TooLong, C_TooMany, C_Unfit, C_Unread, C_Unseen] [false, false, false, false, false, false, false, false, false, false, false, false, false, false, true, false, false, false, false, false, false, false, false, false, false, false, false, false, false, false, false] = true)
    (kt_NoText : kitTab K (.ref C_NoText) [C_Full, C_Hidden, C_Needed, C_NoAsk, C_NoDeed, C_NoMark, C_NoName, C_NoNames, C_NoNumber, C_NoOrder, C_NoPlace, C_NoRow, C_NoRung, C_NoSight, C_NoTable, C_NoText, C_NoWord, C_NotAlike, C_NotOneOne, C_NotPart, C_NotSided, C_NotThree, C_NotTwice, C_NotWell, C_SameMark, C_Taken, C_TooLong, C_TooMany, C_Unfit, C_Unread, C_Unseen] [false, false, false, false, false, false, false, false, false, false, false, false, false, false, false, true, false, false, false, false, false, false, false, false, false, false, false, false, false, false, false] = true)
    (kt_NoWord : kitTab K (.ref C_NoWord) [C_Full, C_Hidden, C_Needed, C_NoAsk, C_NoDeed, C_NoMark, C_NoName, C_NoNames, C_NoNumber, C_NoOrder, C_NoPlace, C_NoRow, C_NoRung, C_NoSight, C_NoTable, C_NoText, C_NoWord, C_NotAlike, C_NotOneOne, C_NotPart, C_NotSided, C_NotThree, C_NotTwice, C_NotWell, C_SameMark, C_Taken, C_TooLong, C_TooMany, C_Unfit, C_Unread, C_Unseen] [false, false, false, false, false, false, false, false, false, false, false, false, false, false, false, false, true, false, false, false, false, false, false, false, false, false, false, false, false, false, false] = true)
    (kt_NotAlike : kitTab K (.ref C_NotAlike) [C_Full, C_Hidden, C_Needed, C_NoAsk, C_NoDeed, C_NoMark, C_NoName, C_NoNames, C_NoNumber, C_NoOrder, C_NoPlace, C_NoRow, C_NoRung, C_NoSight, C_NoTable, C_NoText, C_NoWord, C_NotAlike, C_NotOneOne, C_NotPart, C_NotSided, C_NotThree, C_NotTwice, C_NotWell, C_SameMark, C_Taken, C_TooLong, C_TooMany, C_Unfit, C_Unread, C_Unseen] [false, false, false, false, false, false, false, false, false, false, false, false, false, false, false, false, false, true, false, false, false, false, false, false, false, false, false, false, false, false, false] = true)
    (kt_NotOneOne : kitTab K (.ref C_NotOneOne) [C_Full, C_Hidden, C_Needed, C_NoAsk, C_NoDeed, C_NoMark, C_NoName, C_NoNames, C_NoNumber, C_NoOrder, C_NoPlace, C_NoRow, C_NoRung, C_NoSight, C_NoTable, C_NoText, C_NoWord, C_NotAlike, C_NotOneOne, C_NotPart, C_NotSided, C_NotThree, C_NotTwice, C_NotWell, C_SameMark, C_Taken, C_TooLong, C_TooMany, C_Unfit, C_Unread, C_Unseen] [false, false, false, false, false, false, false, false, false, false, false, false, false, false, false, false, false, false, true, false, false, false, false, false, false, false, false, false, false, false, false] = true)
    (kt_NotPart : kitTab K (.ref C_NotPart) [C_Full, C_Hidden, C_Needed, C_NoAsk, C_NoDeed, C_NoMark, C_NoName, C_NoNames, C_NoNumber, C_NoOrder, C_NoPlace, C_NoRow, C_NoRung, C_NoSight, C_NoTable, C_NoText, C_NoWord, C_NotAlike, C_NotOneOne, C_NotPart, C_NotSided, C_NotThree, C_NotTwice, C_NotWell, C_SameMark, C_Taken, C_TooLong, C_TooMany, C_Unfit, C_Unread, C_Unseen] [false, false, false, false, false, false, false, false, false, false, false, false, false, false, false, false, false, false, false, true, false, false, false, false, false, false, false, false, false, false, false] = true)
    (kt_NotSided : kitTab K (.ref C_NotSided) [C_Full, C_Hidden, C_Needed, C_NoAsk, C_NoDeed, C_NoMark, C_NoName, C_NoNames, C_NoNumber, C_NoOrder, C_NoPlace, C_NoRow, C_NoRung, C_NoSight, C_NoTable, C_NoText, C_NoWord, C_NotAlike, C_NotOneOne, C_NotPart, C_NotSided, C_NotThree, C_NotTwice, C_NotWell, C_SameMark, C_Taken, C_TooLong, C_TooMany, C_Unfit, C_Unread, C_Unseen] [false, false, false, false, false, false, false, false, false, false, false, false, false, false, false, false, false, false, false, false, true, false, false, false, false, false, false, false, false, false, false] = true)
    (kt_NotThree : kitTab K (.ref C_NotThree) [C_Full, C_Hidden, C_Needed, C_NoAsk, C_NoDeed, C_NoMark, C_NoName, C_NoNames, C_NoNumber, C_NoOrder, C_NoPlace, C_NoRow, C_NoRung, C_NoSight, C_NoTable, C_NoText, C_NoWord, C_NotAlike, C_NotOneOne, C_NotPart, C_NotSided, C_NotThree, C_NotTwice, C_NotWell, C_SameMark, C_Taken, C_TooLong, C_TooMany, C_Unfit, C_Unread, C_Unseen] [false, false, false, false, false, false, false, false, false, false, false, false, false, false, false, false, false, false, false, false, false, true, false, false, false, false, false, false, false, false, false] = true)
    (kt_NotTwice : kitTab K (.ref C_NotTwice) [C_Full, C_Hidden, C_Needed, C_NoAsk, C_NoDeed, C_NoMark, C_NoName, C_NoNames, C_NoNumber, C_NoOrder, C_NoPlace, C_NoRow, C_NoRung, C_NoSight, C_NoTable, C_NoText, C_NoWord, C_NotAlike, C_NotOneOne, C_NotPart, C_NotSided, C_NotThree, C_NotTwice, C_NotWell, C_SameMark, C_Taken, C_TooLong, C_TooMany, C_Unfit, C_Unread, C_Unseen] [false, false, false, false, false, false, false, false, false, false, false, false, false, false, false, false, false, false, false, false, false, false, true, false, false, false, false, false, false, false, false] = true)
    (kt_NotWell : kitTab K (.ref C_NotWell) [C_Full, C_Hidden, C_Needed, C_NoAsk, C_NoDeed, C_NoMark, C_NoName, C_NoNames, C_NoNumber, C_NoOrder, C_NoPlace, C_NoRow, C_NoRung, C_NoSight, C_NoTable, C_NoText, C_NoWord, C_NotAlike, C_NotOneOne, C_NotPart, C_NotSided, C_NotThree, C_NotTwice, C_NotWell, C_SameMark, C_Taken, C_TooLong, C_TooMany, C_Unfit, C_Unread, C_Unseen] [false, false, false, false, false, false, false, false, false, false, false, false, false, false, false, false, false, false, false, false, false, false, false, true, false, false, false, false, false, false, false] = true)
    (kt_RuntimeError : kitTab K (.type "RuntimeError") [C_Full, C_Hidden, C_Needed, C_NoAsk, C_NoDeed, C_NoMark, C_NoName, C_NoNames, C_NoNumber, C_NoOrder, C_NoPlace, C_NoRow, C_NoRung, C_NoSight, C_NoTable, C_NoText, C_NoWord, C_NotAlike, C_NotOneOne, C_NotPart, C_NotSided, C_NotThree, C_NotTwice, C_NotWell, C_SameMark, C_Taken, C_TooLong, C_TooMany, C_Unfit, C_Unread, C_Unseen] [false, false, false, false, false, false, false, false, false, false, false, false, false, false, false, false, false, false, true, false, true, true, true, false, false, false, false, false, false, false, false] = true)
    (kt_SameMark : kitTab K (.ref C_SameMark) [C_Full, C_Hidden, C_Needed, C_NoAsk, C_NoDeed, C_NoMark, C_NoName, C_NoNames, C_NoNumber, C_NoOrder, C_NoPlace, C_NoRow, C_NoRung, C_NoSight, C_NoTable, C_NoText, C_NoWord, C_NotAlike, C_NotOneOne, C_NotPart, C_NotSided, C_NotThree, C_NotTwice, C_NotWell, C_SameMark, C_Taken, C_TooLong, C_TooMany, C_Unfit, C_Unread, C_Unseen] [false, false, false, false, false, false, false, false, false, false, false, false, false, false, false, false, false, false, false, false, false, false, false, false, true, false, false, false, false, false, false] = true)
    (kt_Taken : kitTab K (.ref C_Taken) [C_Full, C_Hidden, C_Needed, C_NoAsk, C_NoDeed, C_NoMark, C_NoName, C_NoNames, C_NoNumber, C_NoOrder, C_NoPlace, C_NoRow, C_NoRung, C_NoSight, C_NoTable, C_NoText, C_NoWord, C_NotAlike, C_NotOneOne, C_NotPart, C_NotSided, C_NotThree, C_NotTwice, C_NotWell, C_SameMark, C_Taken, C_TooLong, C_TooMany, C_Unfit, C_Unread, C_Unseen] [false, false, false, false, false, false, false, false, false, false, false, false, false, false, false, false, false, false, false, false, false, false, false, false, false, true, false, false, false, false, false] = true)
    (kt_TooLong : kitTab K (.ref C_TooLong) [C_Full, C_Hidden, C_Needed, C_NoAsk, C_NoDeed, C_NoMark, C_NoName, C_NoNames, C_NoNumber, C_NoOrder, C_NoPlace, C_NoRow, C_NoRung, C_NoSight, C_NoTable, C_NoText, C_NoWord, C_NotAlike, C_NotOneOne, C_NotPart, C_NotSided, C_NotThree, C_NotTwice, C_NotWell, C_SameMark, C_Taken, C_TooLong, C_TooMany, C_Unfit, C_Unread, C_Unseen] [false, false, false, false, false, false, false, false, false, false, false, false, false, false, false, false, false, false, false, false, false, false, false, false, false, false, true, false, false, false, false] = true)
    (kt_TooMany : kitTab K (.ref C_TooMany) [C_Full, C_Hidden, C_Needed, C_NoAsk, C_NoDeed, C_NoMark, C_NoName, C_NoNames, C_NoNumber, C_NoOrder, C_NoPlace, C_NoRow, C_NoRung, C_NoSight, C_NoTable, C_NoText, C_NoWord, C_NotAlike, C_NotOneOne, C_NotPart, C_NotSided, C_NotThree, C_NotTwice, C_NotWell, C_SameMark, C_Taken, C_TooLong, C_TooMany, C_Unfit, C_Unread, C_Unseen] [false, false, false, false, false, false, false, false, false, false, false, false, false, false, false, false, false, false, false, false, false, false, false, false, false, false, false, true, false, false, false] = true)
    (kt_Unfit : kitTab K (.ref C_Unfit) [C_Full, C_Hidden, C_Needed, C_NoAsk, C_NoDeed, C_NoMark, C_NoName, C_NoNames, C_NoNumber, C_NoOrder, C_NoPlace, C_NoRow, C_NoRung, C_NoSight, C_NoTable, C_NoText, C_NoWord, C_NotAlike, C_NotOneOne, C_NotPart, C_NotSided, C_NotThree, C_NotTwice, C_NotWell, C_SameMark, C_Taken, C_TooLong, C_TooMany, C_Unfit, C_Unread, C_Unseen] [false, false, false, false, false, false, false, false, false, false, false, false, false, false, false, false, false, false, false, false, false, false, false, false, false, false, false, false, true, false, false] = true)
    (kt_Unread : kitTab K (.ref C_Unread) [C_Full, C_Hidden, C_Needed, C_NoAsk, C_NoDeed, C_NoMark, C_NoName, C_NoNames, C_NoNumber, C_NoOrder, C_NoPlace, C_NoRow, C_NoRung, C_NoSight, C_NoTable, C_NoText, C_NoWord, C_NotAlike, C_NotOneOne, C_NotPart, C_NotSided, C_NotThree, C_NotTwice, C_NotWell, C_SameMark, C_Taken, C_TooLong, C_TooMany, C_Unfit, C_Unread, C_Unseen] [false, false, false, false, false, false, false, false, false, false, false, false, false, false, false, false, false, false, false, false, false, false, false, false, false, false, false, false, false, true, false] = true)
    (kt_Unseen : kitTab K (.ref C_Unseen) [C_Full, C_Hidden, C_Needed, C_NoAsk, C_NoDeed, C_NoMark, C_NoName, C_NoNames, C_NoNumber, C_NoOrder, C_NoPlace, C_NoRow, C_NoRung, C_NoSight, C_NoTable, C_NoText, C_NoWord, C_NotAlike, C_NotOneOne, C_NotPart, C_NotSided, C_NotThree, C_NotTwice, C_NotWell, C_SameMark, C_Taken, C_TooLong, C_TooMany, C_Unfit, C_Unread, C_Unseen] [false, false, false, false, false, false, false, false, false, false, false, false, false, false, false, false, false, false, false, false, false, false, false, false, false, false, false, false, false, false, true] = true)
    (kt_ValueError : kitTab K (.type "ValueError") [C_Full, C_Hidden, C_Needed, C_NoAsk, C_NoDeed, C_NoMark, C_NoName, C_NoNames, C_NoNumber, C_NoOrder, C_NoPlace, C_NoRow, C_NoRung, C_NoSight, C_NoTable, C_NoText, C_NoWord, C_NotAlike, C_NotOneOne, C_NotPart, C_NotSided, C_NotThree, C_NotTwice, C_NotWell, C_SameMark, C_Taken, C_TooLong, C_TooMany, C_Unfit, C_Unread, C_Unseen] [false, false, false, true, true, true, false, true, false, true, false, true, true, true, true, true, true, true, false, true, false, false, false, true, true, false, false, false, true, true, true] = true)
    (a_copied : PySem.W.nsIn K mainGlobals "copied" = some (some (.ref f_copied)))
    (l_copied : K.lookup f_copied = some ⟨oc_copied, od_copied, .func (PySem.W.fnOf "copied" "copied" (defArgs s_copied) (defBody s_copied) (defScope s_copied) .none kV_copied dc_copied pm_copied an_copied cd_copied ct_copied), sl_copied⟩)
    (k_copied : PySem.W.codeIn K cd_copied "copied" = true)
    (p_copied : PySem.W.keepIn K (.ref f_copied) = true)
    (a__law_pen : PySem.W.nsIn K mainGlobals "_law_pen" = some (some (.ref f__law_pen)))
    (l__law_pen : K.lookup f__law_pen = some ⟨oc__law_pen, od__law_pen, .func (PySem.W.fnOf "_law_pen" "_law_pen" (defArgs s__law_pen) (defBody s__law_pen) (defScope s__law_pen) .none kV__law_pen dc__law_pen pm__law_pen an__law_pen cd__law_pen ct__law_pen), sl__law_pen⟩)
    (k__law_pen : PySem.W.codeIn K cd__law_pen "_law_pen" = true)
    (p__law_pen : PySem.W.keepIn K (.ref f__law_pen) = true)
    (a__law_draw : PySem.W.nsIn K mainGlobals "_law_draw" = some (some (.ref f__law_draw)))
    (l__law_draw : K.lookup f__law_draw = some ⟨oc__law_draw, od__law_draw, .func (PySem.W.fnOf "_law_draw" "_law_draw" (defArgs s__law_draw) (defBody s__law_draw) (defScope s__law_draw) .none kV__law_draw dc__law_draw pm__law_draw an__law_draw cd__law_draw ct__law_draw), sl__law_draw⟩)
    (k__law_draw : PySem.W.codeIn K cd__law_draw "_law_draw" = true)
    (p__law_draw : PySem.W.keepIn K (.ref f__law_draw) = true)
    (a__law_value : PySem.W.nsIn K mainGlobals "_law_value" = some (some (.ref f__law_value)))
    (l__law_value : K.lookup f__law_value = some ⟨oc__law_value, od__law_value, .func (PySem.W.fnOf "_law_value" "_law_value" (defArgs s__law_value) (defBody s__law_value) (defScope s__law_value) .none kV__law_value dc__law_value pm__law_value an__law_value cd__law_value ct__law_value), sl__law_value⟩)
    (k__law_value : PySem.W.codeIn K cd__law_value "_law_value" = true)
    (p__law_value : PySem.W.keepIn K (.ref f__law_value) = true)
    (a__law_base : PySem.W.nsIn K mainGlobals "_law_base" = some (some (.ref f__law_base)))
    (l__law_base : K.lookup f__law_base = some ⟨oc__law_base, od__law_base, .func (PySem.W.fnOf "_law_base" "_law_base" (defArgs s__law_base) (defBody s__law_base) (defScope s__law_base) .none kV__law_base dc__law_base pm__law_base an__law_base cd__law_base ct__law_base), sl__law_base⟩)
    (k__law_base : PySem.W.codeIn K cd__law_base "_law_base" = true)
    (p__law_base : PySem.W.keepIn K (.ref f__law_base) = true)
    (a__law_own_kinds : PySem.W.nsIn K mainGlobals "_law_own_kinds" = some (some (.ref f__law_own_kinds)))
    (l__law_own_kinds : K.lookup f__law_own_kinds = some ⟨oc__law_own_kinds, od__law_own_kinds, .func (PySem.W.fnOf "_law_own_kinds" "_law_own_kinds" (defArgs s__law_own_kinds) (defBody s__law_own_kinds) (defScope s__law_own_kinds) .none kV__law_own_kinds dc__law_own_kinds pm__law_own_kinds an__law_own_kinds cd__law_own_kinds ct__law_own_kinds), sl__law_own_kinds⟩)
    (k__law_own_kinds : PySem.W.codeIn K cd__law_own_kinds "_law_own_kinds" = true)
    (p__law_own_kinds : PySem.W.keepIn K (.ref f__law_own_kinds) = true)
    (a__law_all_right : PySem.W.nsIn K mainGlobals "_law_all_right" = some (some (.ref f__law_all_right)))
    (l__law_all_right : K.lookup f__law_all_right = some ⟨oc__law_all_right, od__law_all_right, .func (PySem.W.fnOf "_law_all_right" "_law_all_right" (defArgs s__law_all_right) (defBody s__law_all_right) (defScope s__law_all_right) .none kV__law_all_right dc__law_all_right pm__law_all_right an__law_all_right cd__law_all_right ct__law_all_right), sl__law_all_right⟩)
    (k__law_all_right : PySem.W.codeIn K cd__law_all_right "_law_all_right" = true)
    (p__law_all_right : PySem.W.keepIn K (.ref f__law_all_right) = true)
    (a__law_same : PySem.W.nsIn K mainGlobals "_law_same" = some (some (.ref f__law_same)))
    (l__law_same : K.lookup f__law_same = some ⟨oc__law_same, od__law_same, .func (PySem.W.fnOf "_law_same" "_law_same" (defArgs s__law_same) (defBody s__law_same) (defScope s__law_same) .none kV__law_same dc__law_same pm__law_same an__law_same cd__law_same ct__law_same), sl__law_same⟩)
    (k__law_same : PySem.W.codeIn K cd__law_same "_law_same" = true)
    (p__law_same : PySem.W.keepIn K (.ref f__law_same) = true)
    (a__law_value_errors_right : PySem.W.nsIn K mainGlobals "_law_value_errors_right" = some (some (.ref f__law_value_errors_right)))
    (l__law_value_errors_right : K.lookup f__law_value_errors_right = some ⟨oc__law_value_errors_right, od__law_value_errors_right, .func (PySem.W.fnOf "_law_value_errors_right" "_law_value_errors_right" (defArgs s__law_value_errors_right) (defBody s__law_value_errors_right) (defScope s__law_value_errors_right) .none kV__law_value_errors_right dc__law_value_errors_right pm__law_value_errors_right an__law_value_errors_right cd__law_value_errors_right ct__law_value_errors_right), sl__law_value_errors_right⟩)
    (k__law_value_errors_right : PySem.W.codeIn K cd__law_value_errors_right "_law_value_errors_right" = true)
    (p__law_value_errors_right : PySem.W.keepIn K (.ref f__law_value_errors_right) = true)
    (a__law_fault_errors_right : PySem.W.nsIn K mainGlobals "_law_fault_errors_right" = some (some (.ref f__law_fault_errors_right)))
    (l__law_fault_errors_right : K.lookup f__law_fault_errors_right = some ⟨oc__law_fault_errors_right, od__law_fault_errors_right, .func (PySem.W.fnOf "_law_fault_errors_right" "_law_fault_errors_right" (defArgs s__law_fault_errors_right) (defBody s__law_fault_errors_right) (defScope s__law_fault_errors_right) .none kV__law_fault_errors_right dc__law_fault_errors_right pm__law_fault_errors_right an__law_fault_errors_right cd__law_fault_errors_right ct__law_fault_errors_right), sl__law_fault_errors_right⟩)
    (k__law_fault_errors_right : PySem.W.codeIn K cd__law_fault_errors_right "_law_fault_errors_right" = true)
    (p__law_fault_errors_right : PySem.W.keepIn K (.ref f__law_fault_errors_right) = true)
    (a__law_lookup_errors_right : PySem.W.nsIn K mainGlobals "_law_lookup_errors_right" = some (some (.ref f__law_lookup_errors_right)))
    (l__law_lookup_errors_right : K.lookup f__law_lookup_errors_right = some ⟨oc__law_lookup_errors_right, od__law_lookup_errors_right, .func (PySem.W.fnOf "_law_lookup_errors_right" "_law_lookup_errors_right" (defArgs s__law_lookup_errors_right) (defBody s__law_lookup_errors_right) (defScope s__law_lookup_errors_right) .none kV__law_lookup_errors_right dc__law_lookup_errors_right pm__law_lookup_errors_right an__law_lookup_errors_right cd__law_lookup_errors_right ct__law_lookup_errors_right), sl__law_lookup_errors_right⟩)
    (k__law_lookup_errors_right : PySem.W.codeIn K cd__law_lookup_errors_right "_law_lookup_errors_right" = true)
    (p__law_lookup_errors_right : PySem.W.keepIn K (.ref f__law_lookup_errors_right) = true)
    (a_law : PySem.W.nsIn K mainGlobals "law" = some (some (.ref f_law)))
    (l_law : K.lookup f_law = some ⟨oc_law, od_law, .func (PySem.W.fnOf "law" "law" (defArgs s_law) (defBody s_law) (defScope s_law) .none kV_law dc_law pm_law an_law cd_law ct_law), sl_law⟩)
    (k_law : PySem.W.codeIn K cd_law "law" = true)
    (p_law : PySem.W.keepIn K (.ref f_law) = true) : Txt ⟨P, w, K, mg, base⟩ :=
  have XA : XAll (⟨P, w, K, mg, base⟩ : Th) [("Full", C_Full), ("Hidden", C_Hidden), ("Needed", C_Needed), ("NoAsk", C_NoAsk), ("NoDeed", C_NoDeed), ("NoMark", C_NoMark), ("NoName", C_NoName), ("NoNames", C_NoNames), ("NoNumber", C_NoNumber), ("NoOrder", C_NoOrder), ("NoPlace", C_NoPlace), ("NoRow", C_NoRow), ("NoRung", C_NoRung), ("NoSight", C_NoSight), ("NoTable", C_NoTable), ("NoText", C_NoText), ("NoWord", C_NoWord), ("NotAlike", C_NotAlike), ("NotOneOne", C_NotOneOne), ("NotPart", C_NotPart), ("NotSided", C_NotSided), ("NotThree", C_NotThree), ("NotTwice", C_NotTwice), ("NotWell", C_NotWell), ("SameMark", C_SameMark), ("Taken", C_Taken), ("TooLong", C_TooLong), ("TooMany", C_TooMany), ("Unfit", C_Unfit), ("Unread", C_Unread), ("Unseen", C_Unseen)] := (.cons X G c_Full ⟨xg_Full, xh_Full, xe_Full, xd_Full, xj_Full, xp, xq, xm_Full⟩ (.cons X G c_Hidden ⟨xg_Hidden, xh_Hidden, xe_Hidden, xd_Hidden, xj_Hidden, xp, xq, xm_Hidden⟩ (.cons X G c_Needed ⟨xg_Needed, xh_Needed, xe_Needed, xd_Needed, xj_Needed, xp, xq, xm_Needed⟩ (.cons X G c_NoAsk ⟨xg_NoAsk, xh_NoAsk, xe_NoAsk, xd_NoAsk, xj_NoAsk, xp, xq, xm_NoAsk⟩ (.cons X G c_NoDeed ⟨xg_NoDeed, xh_NoDeed, xe_NoDeed, xd_NoDeed, xj_NoDeed, xp, xq, xm_NoDeed⟩ (.cons X G c_NoMark ⟨xg_NoMark, xh_NoMark, xe_NoMark, xd_NoMark, xj_NoMark, xp, xq, xm_NoMark⟩ (.cons X G c_NoName ⟨xg_NoName, xh_NoName, xe_NoName, xd_NoName, xj_NoName, xp, xq, xm_NoName⟩ (.cons X G c_NoNames ⟨xg_NoNames, xh_NoNames, xe_NoNames, xd_NoNames, xj_NoNames, xp, xq, xm_NoNames⟩ (.cons X G c_NoNumber ⟨xg_NoNumber, xh_NoNumber, xe_NoNumber, xd_NoNumber, xj_NoNumber, xp, xq, xm_NoNumber⟩ (.cons X G c_NoOrder ⟨xg_NoOrder, xh_NoOrder, xe_NoOrder, xd_NoOrder, xj_NoOrder, xp, xq, xm_NoOrder⟩ (.cons X G c_NoPlace ⟨xg_NoPlace, xh_NoPlace, xe_NoPlace, xd_NoPlace, xj_NoPlace, xp, xq, xm_NoPlace⟩ (.cons X G c_NoRow ⟨xg_NoRow, xh_NoRow, xe_NoRow, xd_NoRow, xj_NoRow, xp, xq, xm_NoRow⟩ (.cons X G c_NoRung ⟨xg_NoRung, xh_NoRung, xe_NoRung, xd_NoRung, xj_NoRung, xp, xq, xm_NoRung⟩ (.cons X G c_NoSight ⟨xg_NoSight, xh_NoSight, xe_NoSight, xd_NoSight, xj_NoSight, xp, xq, xm_NoSight⟩ (.cons X G c_NoTable ⟨xg_NoTable, xh_NoTable, xe_NoTable, xd_NoTable, xj_NoTable, xp, xq, xm_NoTable⟩ (.cons X G c_NoText ⟨xg_NoText, xh_NoText, xe_NoText, xd_NoText, xj_NoText, xp, xq, xm_NoText⟩ (.cons X G c_NoWord ⟨xg_NoWord, xh_NoWord, xe_NoWord, xd_NoWord, xj_NoWord, xp, xq, xm_NoWord⟩ (.cons X G c_NotAlike ⟨xg_NotAlike, xh_NotAlike, xe_NotAlike, xd_NotAlike, xj_NotAlike, xp, xq, xm_NotAlike⟩ (.cons X G c_NotOneOne ⟨xg_NotOneOne, xh_NotOneOne, xe_NotOneOne, xd_NotOneOne, xj_NotOneOne, xp, xq, xm_NotOneOne⟩ (.cons X G c_NotPart ⟨xg_NotPart, xh_NotPart, xe_NotPart, xd_NotPart, xj_NotPart, xp, xq, xm_NotPart⟩ (.cons X G c_NotSided ⟨xg_NotSided, xh_NotSided, xe_NotSided, xd_NotSided, xj_NotSided, xp, xq, xm_NotSided⟩ (.cons X G c_NotThree ⟨xg_NotThree, xh_NotThree, xe_NotThree, xd_NotThree, xj_NotThree, xp, xq, xm_NotThree⟩ (.cons X G c_NotTwice ⟨xg_NotTwice, xh_NotTwice, xe_NotTwice, xd_NotTwice, xj_NotTwice, xp, xq, xm_NotTwice⟩ (.cons X G c_NotWell ⟨xg_NotWell, xh_NotWell, xe_NotWell, xd_NotWell, xj_NotWell, xp, xq, xm_NotWell⟩ (.cons X G c_SameMark ⟨xg_SameMark, xh_SameMark, xe_SameMark, xd_SameMark, xj_SameMark, xp, xq, xm_SameMark⟩ (.cons X G c_Taken ⟨xg_Taken, xh_Taken, xe_Taken, xd_Taken, xj_Taken, xp, xq, xm_Taken⟩ (.cons X G c_TooLong ⟨xg_TooLong, xh_TooLong, xe_TooLong, xd_TooLong, xj_TooLong, xp, xq, xm_TooLong⟩ (.cons X G c_TooMany ⟨xg_TooMany, xh_TooMany, xe_TooMany, xd_TooMany, xj_TooMany, xp, xq, xm_TooMany⟩ (.cons X G c_Unfit ⟨xg_Unfit, xh_Unfit, xe_Unfit, xd_Unfit, xj_Unfit, xp, xq, xm_Unfit⟩ (.cons X G c_Unread ⟨xg_Unread, xh_Unread, xe_Unread, xd_Unread, xj_Unread, xp, xq, xm_Unread⟩ (.cons X G c_Unseen ⟨xg_Unseen, xh_Unseen, xe_Unseen, xd_Unseen, xj_Unseen, xp, xq, xm_Unseen⟩ .nil)))))))))))))))))))))))))))))))
  {
  n_ArithmeticError := PySem.W.mg_none_of X G z_ArithmeticError
  n_IndexError := PySem.W.mg_none_of X G z_IndexError
  n_KeyError := PySem.W.mg_none_of X G z_KeyError
  n_LookupError := PySem.W.mg_none_of X G z_LookupError
  n_RuntimeError := PySem.W.mg_none_of X G z_RuntimeError
  n_ValueError := PySem.W.mg_none_of X G z_ValueError
  n_bool := PySem.W.mg_none_of X G z_bool
  n_dict := PySem.W.mg_none_of X G z_dict
  n_isinstance := PySem.W.mg_none_of X G z_isinstance
  n_len := PySem.W.mg_none_of X G z_len
  n_list := PySem.W.mg_none_of X G z_list
  n_range := PySem.W.mg_none_of X G z_range
  n_repr := PySem.W.mg_none_of X G z_repr
  n_tuple := PySem.W.mg_none_of X G z_tuple
  x_Full := xDefVB (Θ := ⟨P, w, K, mg, base⟩) X G c_Full ⟨xi_Full, xo_Full, xd_Full, xs_Full, xe_Full, xt_Full, xk_Full⟩ xa_Full xf_Full xl_Full xc_Full fs_Full___init__ xb_Full xn_Full (fun us l1 => match us, l1 with | [_, _], _ => rfl) fun _ _ => rfl
  e_Full := xKn (Θ := ⟨P, w, K, mg, base⟩) X G c_Full ⟨xg_Full, xh_Full, xe_Full, xd_Full, xj_Full, xp, xq, xm_Full⟩ (by simp only [List.mem_cons, List.not_mem_nil, or_false]; rintro f rfl; assumption)
  x_Hidden := xDefVB (Θ := ⟨P, w, K, mg, base⟩) X G c_Hidden ⟨xi_Hidden, xo_Hidden, xd_Hidden, xs_Hidden, xe_Hidden, xt_Hidden, xk_Hidden⟩ xa_Hidden xf_Hidden xl_Hidden xc_Hidden fs_Hidden___init__ xb_Hidden xn_Hidden (fun us l1 => match us, l1 with | [_, _], _ => rfl) fun _ _ => rfl
  e_Hidden := xKn (Θ := ⟨P, w, K, mg, base⟩) X G c_Hidden ⟨xg_Hidden, xh_Hidden, xe_Hidden, xd_Hidden, xj_Hidden, xp, xq, xm_Hidden⟩ (by simp only [List.mem_cons, List.not_mem_nil, or_false]; rintro f rfl; assumption)
  x_Needed := xDefVB (Θ := ⟨P, w, K, mg, base⟩) X G c_Needed ⟨xi_Needed, xo_Needed, xd_Needed, xs_Needed, xe_Needed, xt_Needed, xk_Needed⟩ xa_Needed xf_Needed xl_Needed xc_Needed fs_Needed___init__ xb_Needed xn_Needed (fun us l1 => match us, l1 with | [_, _], _ => rfl) fun _ _ => rfl
  e_Needed := xKn (Θ := ⟨P, w, K, mg, base⟩) X G c_Needed ⟨xg_Needed, xh_Needed, xe_Needed, xd_Needed, xj_Needed, xp, xq, xm_Needed⟩ (by simp only [List.mem_cons, List.not_mem_nil, or_false]; rintro f rfl; assumption)
  x_NoAsk := xDefVB (Θ := ⟨P, w, K, mg, base⟩) X G c_NoAsk ⟨xi_NoAsk, xo_NoAsk, xd_NoAsk, xs_NoAsk, xe_NoAsk, xt_NoAsk, xk_NoAsk⟩ xa_NoAsk xf_NoAsk xl_NoAsk xc_NoAsk fs_NoAsk___init__ xb_NoAsk xn_NoAsk (fun us l1 => match us, l1 with | [_, _], _ => rfl) fun _ _ => rfl
  e_NoAsk := xKn (Θ := ⟨P, w, K, mg, base⟩) X G c_NoAsk ⟨xg_NoAsk, xh_NoAsk, xe_NoAsk, xd_NoAsk, xj_NoAsk, xp, xq, xm_NoAsk⟩ (by simp only [List.mem_cons, List.not_mem_nil, or_false]; rintro f rfl; assumption)
  x_NoDeed := xDefVB (Θ := ⟨P, w, K, mg, base⟩) X G c_NoDeed ⟨xi_NoDeed, xo_NoDeed, xd_NoDeed, xs_NoDeed, xe_NoDeed, xt_NoDeed, xk_NoDeed⟩ xa_NoDeed xf_NoDeed xl_NoDeed xc_NoDeed fs_NoDeed___init__ xb_NoDeed xn_NoDeed (fun us l1 => match us, l1 with | [_, _], _ => rfl) fun _ _ => rfl
  e_NoDeed := xKn (Θ := ⟨P, w, K, mg, base⟩) X G c_NoDeed ⟨xg_NoDeed, xh_NoDeed, xe_NoDeed, xd_NoDeed, xj_NoDeed, xp, xq, xm_NoDeed⟩ (by simp only [List.mem_cons, List.not_mem_nil, or_false]; rintro f rfl; assumption)
  x_NoMark := xDefVB (Θ := ⟨P, w, K, mg, base⟩) X G c_NoMark ⟨xi_NoMark, xo_NoMark, xd_NoMark, xs_NoMark, xe_NoMark, xt_NoMark, xk_NoMark⟩ xa_NoMark xf_NoMark xl_NoMark xc_NoMark fs_NoMark___init__ xb_NoMark xn_NoMark (fun us l1 => match us, l1 with | [_, _], _ => rfl) fun _ _ => rfl
  e_NoMark := xKn (Θ := ⟨P, w, K, mg, base⟩) X G c_NoMark ⟨xg_NoMark, xh_NoMark, xe_NoMark, xd_NoMark, xj_NoMark, xp, xq, xm_NoMark⟩ (by simp only [List.mem_cons, List.not_mem_nil, or_false]; rintro f rfl; assumption)
  x_NoName := xDefVB (Θ := ⟨P, w, K, mg, base⟩) X G c_NoName ⟨xi_NoName, xo_NoName, xd_NoName, xs_NoName, xe_NoName, xt_NoName, xk_NoName⟩ xa_NoName xf_NoName xl_NoName xc_NoName fs_NoName___init__ xb_NoName xn_NoName (fun us l1 => match us, l1 with | [_, _], _ => rfl) fun _ _ => rfl
  e_NoName := xKn (Θ := ⟨P, w, K, mg, base⟩) X G c_NoName ⟨xg_NoName, xh_NoName, xe_NoName, xd_NoName, xj_NoName, xp, xq, xm_NoName⟩ (by simp only [List.mem_cons, List.not_mem_nil, or_false]; rintro f rfl; assumption)
  x_NoNames := xDef0B (Θ := ⟨P, w, K, mg, base⟩) X G c_NoNames ⟨xi_NoNames, xo_NoNames, xd_NoNames, xs_NoNames, xe_NoNames, xt_NoNames, xk_NoNames⟩ xa_NoNames xf_NoNames xl_NoNames xc_NoNames fs_NoNames___init__ xb_NoNames fun _ => rfl
  e_NoNames := xKn (Θ := ⟨P, w, K, mg, base⟩) X G c_NoNames ⟨xg_NoNames, xh_NoNames, xe_NoNames, xd_NoNames, xj_NoNames, xp, xq, xm_NoNames⟩ (fun f hf => nomatch hf)
  x_NoNumber := xDefVB (Θ := ⟨P, w, K, mg, base⟩) X G c_NoNumber ⟨xi_NoNumber, xo_NoNumber, xd_NoNumber, xs_NoNumber, xe_NoNumber, xt_NoNumber, xk_NoNumber⟩ xa_NoNumber xf_NoNumber xl_NoNumber xc_NoNumber fs_NoNumber___init__ xb_NoNumber xn_NoNumber (fun us l1 => match us, l1 with | [_, _], _ => rfl) fun _ _ => rfl
  e_NoNumber := xKn (Θ := ⟨P, w, K, mg, base⟩) X G c_NoNumber ⟨xg_NoNumber, xh_NoNumber, xe_NoNumber, xd_NoNumber, xj_NoNumber, xp, xq, xm_NoNumber⟩ (by simp only [List.mem_cons, List.not_mem_nil, or_false]; rintro f rfl; assumption)
  x_NoOrder := xDefVB (Θ := ⟨P, w, K, mg, base⟩) X G c_NoOrder ⟨xi_NoOrder, xo_NoOrder, xd_NoOrder, xs_NoOrder, xe_NoOrder, xt_NoOrder, xk_NoOrder⟩ xa_NoOrder xf_NoOrder xl_NoOrder xc_NoOrder fs_NoOrder___init__ xb_NoOrder xn_NoOrder (fun us l1 => match us, l1 with | [_, _], _ => rfl) fun _ _ => rfl
  e_NoOrder := xKn (Θ := ⟨P, w, K, mg, base⟩) X G c_NoOrder ⟨xg_NoOrder, xh_NoOrder, xe_NoOrder, xd_NoOrder, xj_NoOrder, xp, xq, xm_NoOrder⟩ (by simp only [List.mem_cons, List.not_mem_nil, or_false]; rintro f rfl; assumption)
  x_NoPlace := xDefVB (Θ := ⟨P, w, K, mg, base⟩) X G c_NoPlace ⟨xi_NoPlace, xo_NoPlace, xd_NoPlace, xs_NoPlace, xe_NoPlace, xt_NoPlace, xk_NoPlace⟩ xa_NoPlace xf_NoPlace xl_NoPlace xc_NoPlace fs_NoPlace___init__ xb_NoPlace xn_NoPlace (fun us l1 => match us, l1 with | [_, _], _ => rfl) fun _ _ => rfl
  e_NoPlace := xKn (Θ := ⟨P, w, K, mg, base⟩) X G c_NoPlace ⟨xg_NoPlace, xh_NoPlace, xe_NoPlace, xd_NoPlace, xj_NoPlace, xp, xq, xm_NoPlace⟩ (by simp only [List.mem_cons, List.not_mem_nil, or_false]; rintro f rfl; assumption)
  x_NoRow := xDefVB (Θ := ⟨P, w, K, mg, base⟩) X G c_NoRow ⟨xi_NoRow, xo_NoRow, xd_NoRow, xs_NoRow, xe_NoRow, xt_NoRow, xk_NoRow⟩ xa_NoRow xf_NoRow xl_NoRow xc_NoRow fs_NoRow___init__ xb_NoRow xn_NoRow (fun us l1 => match us, l1 with | [_, _], _ => rfl) fun _ _ => rfl
  e_NoRow := xKn (Θ := ⟨P, w, K, mg, base⟩) X G c_NoRow ⟨xg_NoRow, xh_NoRow, xe_NoRow, xd_NoRow, xj_NoRow, xp, xq, xm_NoRow⟩ (by simp only [List.mem_cons, List.not_mem_nil, or_false]; rintro f rfl; assumption)
  x_NoRung := xDefVB (Θ := ⟨P, w, K, mg, base⟩) X G c_NoRung ⟨xi_NoRung, xo_NoRung, xd_NoRung, xs_NoRung, xe_NoRung, xt_NoRung, xk_NoRung⟩ xa_NoRung xf_NoRung xl_NoRung xc_NoRung fs_NoRung___init__ xb_NoRung xn_NoRung (fun us l1 => match us, l1 with | [_, _], _ => rfl) fun _ _ => rfl
  e_NoRung := xKn (Θ := ⟨P, w, K, mg, base⟩) X G c_NoRung ⟨xg_NoRung, xh_NoRung, xe_NoRung, xd_NoRung, xj_NoRung, xp, xq, xm_NoRung⟩ (by simp only [List.mem_cons, List.not_mem_nil, or_false]; rintro f rfl; assumption)
  x_NoSight := xDefVB (Θ := ⟨P, w, K, mg, base⟩) X G c_NoSight ⟨xi_NoSight, xo_NoSight, xd_NoSight, xs_NoSight, xe_NoSight, xt_NoSight, xk_NoSight⟩ xa_NoSight xf_NoSight xl_NoSight xc_NoSight fs_NoSight___init__ xb_NoSight xn_NoSight (fun us l1 => match us, l1 with | [_, _], _ => rfl) fun _ _ => rfl
  e_NoSight := xKn (Θ := ⟨P, w, K, mg, base⟩) X G c_NoSight ⟨xg_NoSight, xh_NoSight, xe_NoSight, xd_NoSight, xj_NoSight, xp, xq, xm_NoSight⟩ (by simp only [List.mem_cons, List.not_mem_nil, or_false]; rintro f rfl; assumption)
  x_NoTable := xDefVB (Θ := ⟨P, w, K, mg, base⟩) X G c_NoTable ⟨xi_NoTable, xo_NoTable, xd_NoTable, xs_NoTable, xe_NoTable, xt_NoTable, xk_NoTable⟩ xa_NoTable xf_NoTable xl_NoTable xc_NoTable fs_NoTable___init__ xb_NoTable xn_NoTable (fun us l1 => match us, l1 with | [_, _], _ => rfl) fun _ _ => rfl
  e_NoTable := xKn (Θ := ⟨P, w, K, mg, base⟩) X G c_NoTable ⟨xg_NoTable, xh_NoTable, xe_NoTable, xd_NoTable, xj_NoTable, xp, xq, xm_NoTable⟩ (by simp only [List.mem_cons, List.not_mem_nil, or_false]; rintro f rfl; assumption)
  x_NoText := xDefVB (Θ := ⟨P, w, K, mg, base⟩) X G c_NoText ⟨xi_NoText, xo_NoText, xd_NoText, xs_NoText, xe_NoText, xt_NoText, xk_NoText⟩ xa_NoText xf_NoText xl_NoText xc_NoText fs_NoText___init__ xb_NoText xn_NoText (fun us l1 => match us, l1 with | [_, _], _ => rfl) fun _ _ => rfl
  e_NoText := xKn (Θ := ⟨P, w, K, mg, base⟩) X G c_NoText ⟨xg_NoText, xh_NoText, xe_NoText, xd_NoText, xj_NoText, xp, xq, xm_NoText⟩ (by simp only [List.mem_cons, List.not_mem_nil, or_false]; rintro f rfl; assumption)
  x_NoWord := xDefVB (Θ := ⟨P, w, K, mg, base⟩) X G c_NoWord ⟨xi_NoWord, xo_NoWord, xd_NoWord, xs_NoWord, xe_NoWord, xt_NoWord, xk_NoWord⟩ xa_NoWord xf_NoWord xl_NoWord xc_NoWord fs_NoWord___init__ xb_NoWord xn_NoWord (fun us l1 => match us, l1 with | [_, _], _ => rfl) fun _ _ => rfl
  e_NoWord := xKn (Θ := ⟨P, w, K, mg, base⟩) X G c_NoWord ⟨xg_NoWord, xh_NoWord, xe_NoWord, xd_NoWord, xj_NoWord, xp, xq, xm_NoWord⟩ (by simp only [List.mem_cons, List.not_mem_nil, or_false]; rintro f rfl; assumption)
  x_NotAlike := xDef0B (Θ := ⟨P, w, K, mg, base⟩) X G c_NotAlike ⟨xi_NotAlike, xo_NotAlike, xd_NotAlike, xs_NotAlike, xe_NotAlike, xt_NotAlike, xk_NotAlike⟩ xa_NotAlike xf_NotAlike xl_NotAlike xc_NotAlike fs_NotAlike___init__ xb_NotAlike fun _ => rfl
  e_NotAlike := xKn (Θ := ⟨P, w, K, mg, base⟩) X G c_NotAlike ⟨xg_NotAlike, xh_NotAlike, xe_NotAlike, xd_NotAlike, xj_NotAlike, xp, xq, xm_NotAlike⟩ (fun f hf => nomatch hf)
  x_NotOneOne := xDefVB (Θ := ⟨P, w, K, mg, base⟩) X G c_NotOneOne ⟨xi_NotOneOne, xo_NotOneOne, xd_NotOneOne, xs_NotOneOne, xe_NotOneOne, xt_NotOneOne, xk_NotOneOne⟩ xa_NotOneOne xf_NotOneOne xl_NotOneOne xc_NotOneOne fs_NotOneOne___init__ xb_NotOneOne xn_NotOneOne (fun us l1 => match us, l1 with | [_, _], _ => rfl) fun _ _ => rfl
  e_NotOneOne := xKn (Θ := ⟨P, w, K, mg, base⟩) X G c_NotOneOne ⟨xg_NotOneOne, xh_NotOneOne, xe_NotOneOne, xd_NotOneOne, xj_NotOneOne, xp, xq, xm_NotOneOne⟩ (by simp only [List.mem_cons, List.not_mem_nil, or_false]; rintro f rfl; assumption)
  x_NotPart := xDefVB (Θ := ⟨P, w, K, mg, base⟩) X G c_NotPart ⟨xi_NotPart, xo_NotPart, xd_NotPart, xs_NotPart, xe_NotPart, xt_NotPart, xk_NotPart⟩ xa_NotPart xf_NotPart xl_NotPart xc_NotPart fs_NotPart___init__ xb_NotPart xn_NotPart (fun us l1 => match us, l1 with | [_, _], _ => rfl) fun _ _ => rfl
  e_NotPart := xKn (Θ := ⟨P, w, K, mg, base⟩) X G c_NotPart ⟨xg_NotPart, xh_NotPart, xe_NotPart, xd_NotPart, xj_NotPart, xp, xq, xm_NotPart⟩ (by simp only [List.mem_cons, List.not_mem_nil, or_false]; rintro f rfl; assumption)
  x_NotSided := xDefVB (Θ := ⟨P, w, K, mg, base⟩) X G c_NotSided ⟨xi_NotSided, xo_NotSided, xd_NotSided, xs_NotSided, xe_NotSided, xt_NotSided, xk_NotSided⟩ xa_NotSided xf_NotSided xl_NotSided xc_NotSided fs_NotSided___init__ xb_NotSided xn_NotSided (fun us l1 => match us, l1 with | [_, _], _ => rfl) fun _ _ => rfl
  e_NotSided := xKn (Θ := ⟨P, w, K, mg, base⟩) X G c_NotSided ⟨xg_NotSided, xh_NotSided, xe_NotSided, xd_NotSided, xj_NotSided, xp, xq, xm_NotSided⟩ (by simp only [List.mem_cons, List.not_mem_nil, or_false]; rintro f rfl; assumption)
  x_NotThree := xDefVB (Θ := ⟨P, w, K, mg, base⟩) X G c_NotThree ⟨xi_NotThree, xo_NotThree, xd_NotThree, xs_NotThree, xe_NotThree, xt_NotThree, xk_NotThree⟩ xa_NotThree xf_NotThree xl_NotThree xc_NotThree fs_NotThree___init__ xb_NotThree xn_NotThree (fun us l1 => match us, l1 with | [_, _], _ => rfl) fun _ _ => rfl
  e_NotThree := xKn (Θ := ⟨P, w, K, mg, base⟩) X G c_NotThree ⟨xg_NotThree, xh_NotThree, xe_NotThree, xd_NotThree, xj_NotThree, xp, xq, xm_NotThree⟩ (by simp only [List.mem_cons, List.not_mem_nil, or_false]; rintro f rfl; assumption)
  x_NotTwice := xDefVB (Θ := ⟨P, w, K, mg, base⟩) X G c_NotTwice ⟨xi_NotTwice, xo_NotTwice, xd_NotTwice, xs_NotTwice, xe_NotTwice, xt_NotTwice, xk_NotTwice⟩ xa_NotTwice xf_NotTwice xl_NotTwice xc_NotTwice fs_NotTwice___init__ xb_NotTwice xn_NotTwice (fun us l1 => match us, l1 with | [_, _], _ => rfl) fun _ _ => rfl
  e_NotTwice := xKn (Θ := ⟨P, w, K, mg, base⟩) X G c_NotTwice ⟨xg_NotTwice, xh_NotTwice, xe_NotTwice, xd_NotTwice, xj_NotTwice, xp, xq, xm_NotTwice⟩ (by simp only [List.mem_cons, List.not_mem_nil, or_false]; rintro f rfl; assumption)
  x_NotWell := xDefVB (Θ := ⟨P, w, K, mg, base⟩) X G c_NotWell ⟨xi_NotWell, xo_NotWell, xd_NotWell, xs_NotWell, xe_NotWell, xt_NotWell, xk_NotWell⟩ xa_NotWell xf_NotWell xl_NotWell xc_NotWell fs_NotWell___init__ xb_NotWell xn_NotWell (fun us l1 => match us, l1 with | [_, _], _ => rfl) fun _ _ => rfl
  e_NotWell := xKn (Θ := ⟨P, w, K, mg, base⟩) X G c_NotWell ⟨xg_NotWell, xh_NotWell, xe_NotWell, xd_NotWell, xj_NotWell, xp, xq, xm_NotWell⟩ (by simp only [List.mem_cons, List.not_mem_nil, or_false]; rintro f rfl; assumption)
  x_SameMark := xDefVB (Θ := ⟨P, w, K, mg, base⟩) X G c_SameMark ⟨xi_SameMark, xo_SameMark, xd_SameMark, xs_SameMark, xe_SameMark, xt_SameMark, xk_SameMark⟩ xa_SameMark xf_SameMark xl_SameMark xc_SameMark fs_SameMark___init__ xb_SameMark xn_SameMark (fun us l1 => match us, l1 with | [_, _], _ => rfl) fun _ _ => rfl
  e_SameMark := xKn (Θ := ⟨P, w, K, mg, base⟩) X G c_SameMark ⟨xg_SameMark, xh_SameMark, xe_SameMark, xd_SameMark, xj_SameMark, xp, xq, xm_SameMark⟩ (by simp only [List.mem_cons, List.not_mem_nil, or_false]; rintro f rfl; assumption)
  x_Taken := xDefVB (Θ := ⟨P, w, K, mg, base⟩) X G c_Taken ⟨xi_Taken, xo_Taken, xd_Taken, xs_Taken, xe_Taken, xt_Taken, xk_Taken⟩ xa_Taken xf_Taken xl_Taken xc_Taken fs_Taken___init__ xb_Taken xn_Taken (fun us l1 => match us, l1 with | [_, _], _ => rfl) fun _ _ => rfl
  e_Taken := xKn (Θ := ⟨P, w, K, mg, base⟩) X G c_Taken ⟨xg_Taken, xh_Taken, xe_Taken, xd_Taken, xj_Taken, xp, xq, xm_Taken⟩ (by simp only [List.mem_cons, List.not_mem_nil, or_false]; rintro f rfl; assumption)
  x_TooLong := xDefVB (Θ := ⟨P, w, K, mg, base⟩) X G c_TooLong ⟨xi_TooLong, xo_TooLong, xd_TooLong, xs_TooLong, xe_TooLong, xt_TooLong, xk_TooLong⟩ xa_TooLong xf_TooLong xl_TooLong xc_TooLong fs_TooLong___init__ xb_TooLong xn_TooLong (fun us l1 => match us, l1 with | [_, _], _ => rfl) fun _ _ => rfl
  e_TooLong := xKn (Θ := ⟨P, w, K, mg, base⟩) X G c_TooLong ⟨xg_TooLong, xh_TooLong, xe_TooLong, xd_TooLong, xj_TooLong, xp, xq, xm_TooLong⟩ (by simp only [List.mem_cons, List.not_mem_nil, or_false]; rintro f rfl; assumption)
  x_TooMany := xDefVB (Θ := ⟨P, w, K, mg, base⟩) X G c_TooMany ⟨xi_TooMany, xo_TooMany, xd_TooMany, xs_TooMany, xe_TooMany, xt_TooMany, xk_TooMany⟩ xa_TooMany xf_TooMany xl_TooMany xc_TooMany fs_TooMany___init__ xb_TooMany xn_TooMany (fun us l1 => match us, l1 with | [_, _], _ => rfl) fun _ _ => rfl
  e_TooMany := xKn (Θ := ⟨P, w, K, mg, base⟩) X G c_TooMany ⟨xg_TooMany, xh_TooMany, xe_TooMany, xd_TooMany, xj_TooMany, xp, xq, xm_TooMany⟩ (by simp only [List.mem_cons, List.not_mem_nil, or_false]; rintro f rfl; assumption)
  x_Unfit := xDefVB (Θ := ⟨P, w, K, mg, base⟩) X G c_Unfit ⟨xi_Unfit, xo_Unfit, xd_Unfit, xs_Unfit, xe_Unfit, xt_Unfit, xk_Unfit⟩ xa_Unfit xf_Unfit xl_Unfit xc_Unfit fs_Unfit___init__ xb_Unfit xn_Unfit (fun us l1 => match us, l1 with | [_, _], _ => rfl) fun _ _ => rfl
  e_Unfit := xKn (Θ := ⟨P, w, K, mg, base⟩) X G c_Unfit ⟨xg_Unfit, xh_Unfit, xe_Unfit, xd_Unfit, xj_Unfit, xp, xq, xm_Unfit⟩ (by simp only [List.mem_cons, List.not_mem_nil, or_false]; rintro f rfl; assumption)
  x_Unread := xDefVB (Θ := ⟨P, w, K, mg, base⟩) X G c_Unread ⟨xi_Unread, xo_Unread, xd_Unread, xs_Unread, xe_Unread, xt_Unread, xk_Unread⟩ xa_Unread xf_Unread xl_Unread xc_Unread fs_Unread___init__ xb_Unread xn_Unread (fun us l1 => match us, l1 with | [_, _], _ => rfl) fun _ _ => rfl
  e_Unread := xKn (Θ := ⟨P, w, K, mg, base⟩) X G c_Unread ⟨xg_Unread, xh_Unread, xe_Unread, xd_Unread, xj_Unread, xp, xq, xm_Unread⟩ (by simp only [List.mem_cons, List.not_mem_nil, or_false]; rintro f rfl; assumption)
  x_Unseen := xDefVB (Θ := ⟨P, w, K, mg, base⟩) X G c_Unseen ⟨xi_Unseen, xo_Unseen, xd_Unseen, xs_Unseen, xe_Unseen, xt_Unseen, xk_Unseen⟩ xa_Unseen xf_Unseen xl_Unseen xc_Unseen fs_Unseen___init__ xb_Unseen xn_Unseen (fun us l1 => match us, l1 with | [_, _], _ => rfl) fun _ _ => rfl
  e_Unseen := xKn (Θ := ⟨P, w, K, mg, base⟩) X G c_Unseen ⟨xg_Unseen, xh_Unseen, xe_Unseen, xd_Unseen, xj_Unseen, xp, xq, xm_Unseen⟩ (by simp only [List.mem_cons, List.not_mem_nil, or_false]; rintro f rfl; assumption)
  is_ArithmeticError := (isT_tab XA kn_ArithmeticError kt_ArithmeticError)
  is_Full := ⟨C_Full, PySem.W.mg_of X G c_Full, (isT_tab XA kn_Full kt_Full)⟩
  is_Hidden := ⟨C_Hidden, PySem.W.mg_of X G c_Hidden, (isT_tab XA kn_Hidden kt_Hidden)⟩
  is_IndexError := (isT_tab XA kn_IndexError kt_IndexError)
  is_KeyError := (isT_tab XA kn_KeyError kt_KeyError)
  is_LookupError := (isT_tab XA kn_LookupError kt_LookupError)
  is_Needed := ⟨C_Needed, PySem.W.mg_of X G c_Needed, (isT_tab XA kn_Needed kt_Needed)⟩
  is_NoAsk := ⟨C_NoAsk, PySem.W.mg_of X G c_NoAsk, (isT_tab XA kn_NoAsk kt_NoAsk)⟩
  is_NoDeed := ⟨C_NoDeed, PySem.W.mg_of X G c_NoDeed, (isT_tab XA kn_NoDeed kt_NoDeed)⟩
  is_NoMark := ⟨C_NoMark, PySem.W.mg_of X G c_NoMark, (isT_tab XA kn_NoMark kt_NoMark)⟩
  is_NoName := ⟨C_NoName, PySem.W.mg_of X G c_NoName, (isT_tab XA kn_NoName kt_NoName)⟩
  is_NoNames := ⟨C_NoNames, PySem.W.mg_of X G c_NoNames, (isT_tab XA kn_NoNames kt_NoNames)⟩
  is_NoNumber := ⟨C_NoNumber, PySem.W.mg_of X G c_NoNumber, (isT_tab XA kn_NoNumber kt_NoNumber)⟩
  is_NoOrder := ⟨C_NoOrder, PySem.W.mg_of X G c_NoOrder, (isT_tab XA kn_NoOrder kt_NoOrder)⟩
  is_NoPlace := ⟨C_NoPlace, PySem.W.mg_of X G c_NoPlace, (isT_tab XA kn_NoPlace kt_NoPlace)⟩
  is_NoRow := ⟨C_NoRow, PySem.W.mg_of X G c_NoRow, (isT_tab XA kn_NoRow kt_NoRow)⟩
  is_NoRung := ⟨C_NoRung, PySem.W.mg_of X G c_NoRung, (isT_tab XA kn_NoRung kt_NoRung)⟩
  is_NoSight := ⟨C_NoSight, PySem.W.mg_of X G c_NoSight, (isT_tab XA kn_NoSight kt_NoSight)⟩
  is_NoTable := ⟨C_NoTable, PySem.W.mg_of X G c_NoTable, (isT_tab XA kn_NoTable kt_NoTable)⟩
  is_NoText := ⟨C_NoText, PySem.W.mg_of X G c_NoText, (isT_tab XA kn_NoText kt_NoText)⟩
  is_NoWord := ⟨C_NoWord, PySem.W.mg_of X G c_NoWord, (isT_tab XA kn_NoWord kt_NoWord)⟩
  is_NotAlike := ⟨C_NotAlike, PySem.W.mg_of X G c_NotAlike, (isT_tab XA kn_NotAlike kt_NotAlike)⟩
  is_NotOneOne := ⟨C_NotOneOne, PySem.W.mg_of X G c_NotOneOne, (isT_tab XA kn_NotOneOne kt_NotOneOne)⟩
  is_NotPart := ⟨C_NotPart, PySem.W.mg_of X G c_NotPart, (isT_tab XA kn_NotPart kt_NotPart)⟩
  is_NotSided := ⟨C_NotSided, PySem.W.mg_of X G c_NotSided, (isT_tab XA kn_NotSided kt_NotSided)⟩
  is_NotThree := ⟨C_NotThree, PySem.W.mg_of X G c_NotThree, (isT_tab XA kn_NotThree kt_NotThree)⟩
  is_NotTwice := ⟨C_NotTwice, PySem.W.mg_of X G c_NotTwice, (isT_tab XA kn_NotTwice kt_NotTwice)⟩
  is_NotWell := ⟨C_NotWell, PySem.W.mg_of X G c_NotWell, (isT_tab XA kn_NotWell kt_NotWell)⟩
  is_RuntimeError := (isT_tab XA kn_RuntimeError kt_RuntimeError)
  is_SameMark := ⟨C_SameMark, PySem.W.mg_of X G c_SameMark, (isT_tab XA kn_SameMark kt_SameMark)⟩
  is_Taken := ⟨C_Taken, PySem.W.mg_of X G c_Taken, (isT_tab XA kn_Taken kt_Taken)⟩
  is_TooLong := ⟨C_TooLong, PySem.W.mg_of X G c_TooLong, (isT_tab XA kn_TooLong kt_TooLong)⟩
  is_TooMany := ⟨C_TooMany, PySem.W.mg_of X G c_TooMany, (isT_tab XA kn_TooMany kt_TooMany)⟩
  is_Unfit := ⟨C_Unfit, PySem.W.mg_of X G c_Unfit, (isT_tab XA kn_Unfit kt_Unfit)⟩
  is_Unread := ⟨C_Unread, PySem.W.mg_of X G c_Unread, (isT_tab XA kn_Unread kt_Unread)⟩
  is_Unseen := ⟨C_Unseen, PySem.W.mg_of X G c_Unseen, (isT_tab XA kn_Unseen kt_Unseen)⟩
  is_ValueError := (isT_tab XA kn_ValueError kt_ValueError)
  c_GONE := ⟨⟨_, PySem.W.mg_of X G q_GONE, ⟨_, rfl⟩⟩⟩
  c_HIDDEN := ⟨⟨_, PySem.W.mg_of X G q_HIDDEN, ⟨_, rfl⟩⟩⟩
  c_MOST := ⟨⟨_, PySem.W.mg_of X G q_MOST, ⟨_, rfl⟩⟩⟩
  c_PLACES := ⟨⟨_, PySem.W.mg_of X G q_PLACES, ⟨_, rfl⟩⟩⟩
  c_SHORT := ⟨⟨_, PySem.W.mg_of X G q_SHORT, ⟨_, rfl⟩⟩⟩
  c_WORD := ⟨⟨_, PySem.W.mg_of X G q_WORD, ⟨_, rfl⟩⟩⟩
  d_copied := defB (Θ := ⟨P, w, K, mg, base⟩) X G a_copied l_copied k_copied p_copied fs_copied rfl fun us ws l1 l2 => match us, ws, l1, l2 with | [_], [], _, _ => rfl
  d__law_pen := defB (Θ := ⟨P, w, K, mg, base⟩) X G a__law_pen l__law_pen k__law_pen p__law_pen fs__law_pen rfl fun us ws l1 l2 => match us, ws, l1, l2 with | [_], [], _, _ => rfl
  d__law_draw := defB (Θ := ⟨P, w, K, mg, base⟩) X G a__law_draw l__law_draw k__law_draw p__law_draw fs__law_draw rfl fun us ws l1 l2 => match us, ws, l1, l2 with | [_, _], [], _, _ => rfl
  d__law_value := defB (Θ := ⟨P, w, K, mg, base⟩) X G a__law_value l__law_value k__law_value p__law_value fs__law_value rfl fun us ws l1 l2 => match us, ws, l1, l2 with | [_], [], _, _ => rfl
  d__law_base := defB (Θ := ⟨P, w, K, mg, base⟩) X G a__law_base l__law_base k__law_base p__law_base fs__law_base rfl fun us ws l1 l2 => match us, ws, l1, l2 with | [_], [], _, _ => rfl
  d__law_own_kinds := defB (Θ := ⟨P, w, K, mg, base⟩) X G a__law_own_kinds l__law_own_kinds k__law_own_kinds p__law_own_kinds fs__law_own_kinds rfl fun us ws l1 l2 => match us, ws, l1, l2 with | [_], [], _, _ => rfl
  d__law_all_right := defB (Θ := ⟨P, w, K, mg, base⟩) X G a__law_all_right l__law_all_right k__law_all_right p__law_all_right fs__law_all_right rfl fun us ws l1 l2 => match us, ws, l1, l2 with | [_, _], [], _, _ => rfl
  d__law_same := defB (Θ := ⟨P, w, K, mg, base⟩) X G a__law_same l__law_same k__law_same p__law_same fs__law_same rfl fun us ws l1 l2 => match us, ws, l1, l2 with | [_, _], [], _, _ => rfl
  d__law_value_errors_right := defB (Θ := ⟨P, w, K, mg, base⟩) X G a__law_value_errors_right l__law_value_errors_right k__law_value_errors_right p__law_value_errors_right fs__law_value_errors_right rfl fun us ws l1 l2 => match us, ws, l1, l2 with | [_], [], _, _ => rfl
  d__law_fault_errors_right := defB (Θ := ⟨P, w, K, mg, base⟩) X G a__law_fault_errors_right l__law_fault_errors_right k__law_fault_errors_right p__law_fault_errors_right fs__law_fault_errors_right rfl fun us ws l1 l2 => match us, ws, l1, l2 with | [_], [], _, _ => rfl
  d__law_lookup_errors_right := defB (Θ := ⟨P, w, K, mg, base⟩) X G a__law_lookup_errors_right l__law_lookup_errors_right k__law_lookup_errors_right p__law_lookup_errors_right fs__law_lookup_errors_right rfl fun us ws l1 l2 => match us, ws, l1, l2 with | [_], [], _, _ => rfl
  d_law := defB (Θ := ⟨P, w, K, mg, base⟩) X G a_law l_law k_law p_law fs_law rfl fun us ws l1 l2 => match us, ws, l1, l2 with | [_], [], _, _ => rfl
  }
theorem room_law : Room 12 callerA := ⟨rfl, by decide, by decide⟩
end
end Ev
/-! text T97p -/
set_option Elab.async false
set_option linter.all false
set_option maxRecDepth 100000
set_option maxHeartbeats 4000000
namespace Ev
open PySem L2
/-! ### the pen without great cells -/
def penK2 (cells : List Int) (s : Int) : List (D × D) := [(.str "cells", .lst (cells.map D.int)), (.str "spot", .int s)]
abbrev pen2 (cells : List Int) (s : Int) : C := .dct false (penK2 cells s)
@[simp] theorem pen2_cells {cells : List Int} {s : Int} : ixD (.dct false (penK2 cells s)) (.str "cells") = some (.imm (.lst (cells.map D.int))) := by rfl
@[simp] theorem pen2_spot {cells : List Int} {s : Int} : ixD (.dct false (penK2 cells s)) (.str "spot") = some (.imm (.int s)) := by rfl
@[simp] theorem put2_spot {cells : List Int} {s z : Int} : putDK (penK2 cells s) (.str "spot") (.int z) = some (penK2 cells z) := by rfl
theorem draw2_ok {cells : List Int} {s many : Int} (h0 : 0 ≤ s) (hs : s < 2 ^ 40) (h1 : 1 ≤ many) (h2 : many < 2 ^ 29) :
    Ok (F__law_draw [.own (pen2 cells s), .imm (.int many)]) fun y => ∃ z s' : Int, y = (.imm (.int z), [pen2 cells s']) ∧ 0 ≤ z ∧ z < many ∧ 0 ≤ s' ∧ s' ≤ s + 1 := by
  have e1 : ∀ i : Int, modI i many = some (i % many) := fun i => mod_pos (by omega)
  have e3 : ∀ i : Int, fdivI i 32 = some (i / 32) := fun i => fdiv_pos (by omega) (by omega)
  have z1 : ∀ i : Int, 0 ≤ i % many ∧ i % many < many := fun i => ⟨Int.emod_nonneg _ (by omega), Int.emod_lt_of_pos _ (by omega)⟩
  have f1 : ∀ i j : Int, mulI (i % 2147483647) j = some (i % 2147483647 * j) := fun i j => mulI_l (by omega) (by omega)
  have f2 : ∀ i : Int, mulI 48271 i = some (48271 * i) := fun i => mulI_l (by omega) (by omega)
  have f3 : ∀ i : Int, mulI i s = some (i * s) := fun i => mulI_r (by omega) (by omega)
  have f4 : ∀ i : Int, mulI 30011 i = some (30011 * i) := fun i => mulI_l (by omega) (by omega)
  have f5 : ∀ i j : Int, mulI (i % 2147483629) j = some (i % 2147483629 * j) := fun i j => mulI_l (by omega) (by omega)
  have f6 : ∀ i : Int, mulI 40692 i = some (40692 * i) := fun i => mulI_l (by omega) (by omega)
  have f7 : ∀ i : Int, mulI 7 i = some (7 * i) := fun i => mulI_l (by omega) (by omega)
  have f8 : ∀ i j : Int, mulI (i % 2147483587) j = some (i % 2147483587 * j) := fun i j => mulI_l (by omega) (by omega)
  have f9 : ∀ i : Int, mulI 37 i = some (37 * i) := fun i => mulI_l (by omega) (by omega)
  unfold F__law_draw
  by_cases hc : cells = []
  · subst hc
    simp [slots, N__law_draw, B__law_draw, Ok_if, e1, e3, f1, f2, f3, f4, f5, f6, f7, f8, f9]
    exact ⟨_, s + 1, ⟨rfl, rfl⟩, (z1 _).1, (z1 _).2, by omega, by omega⟩
  · have hl : 0 < cells.length := List.length_pos_iff.mpr hc
    have e4 : modI s (cells.length : Int) = some (s % (cells.length : Int)) := mod_pos (by omega)
    have hb : 0 ≤ s % (cells.length : Int) ∧ s % (cells.length : Int) < cells.length := ⟨Int.emod_nonneg _ (by omega), Int.emod_lt_of_pos _ (by omega)⟩
    obtain ⟨c, ha⟩ : ∃ c : Int, atI (cells.map D.int) (s % (cells.length : Int)) = some (D.int c) := by
      obtain ⟨j, hj⟩ := Int.eq_ofNat_of_zero_le hb.1
      have hj2 : j < cells.length := by omega
      refine ⟨cells[j], ?_⟩
      rw [atI_map, hj, atI_nat' hj2]
      rfl
    simp [slots, N__law_draw, B__law_draw, Ok_if, e1, e3, e4, f1, f2, f3, f4, f5, f6, f7, f8, f9, hc, ha]
    exact ⟨_, s + 1, ⟨rfl, rfl⟩, (z1 _).1, (z1 _).2, by omega, by omega⟩
def PenAt2 (cells : List Int) (b : Int) (c : C) : Prop := ∃ s : Int, c = pen2 cells s ∧ 0 ≤ s ∧ s ≤ b
theorem PenAt2.mono {cells : List Int} {b b' : Int} {c : C} (h : PenAt2 cells b c) (hb : b ≤ b') : PenAt2 cells b' c := by
  obtain ⟨s, e, h1, h2⟩ := h
  exact ⟨s, e, h1, by omega⟩
theorem draw2_at {cells : List Int} {b many : Int} {c : C} (h : PenAt2 cells b c) (hb : b < 2 ^ 40) (h1 : 1 ≤ many) (h2 : many < 2 ^ 29) :
    ∃ (z : Nat) (c' : C), F__law_draw [.own c, .imm (.int many)] = some (.imm (.int z), [c']) ∧ (z : Int) < many ∧ PenAt2 cells (b + 1) c' := by
  obtain ⟨s, rfl, h3, h4⟩ := h
  obtain ⟨y, ey, z, s', rfl, q1, q2, q3, q4⟩ := draw2_ok (cells := cells) h3 (by omega) h1 h2
  obtain ⟨n, rfl⟩ := Int.eq_ofNat_of_zero_le q1
  exact ⟨n, _, ey, q2, s', rfl, q3, by omega⟩
theorem pen2_ok {ns : List Int} : Ok (F__law_pen [.imm (.scr ns)]) fun y => ∃ (cells : List Int) (c : C), y = (.own c, []) ∧ PenAt2 cells 0 c := by
  unfold F__law_pen
  simp [slots, N__law_pen, B__law_pen]
  exact ⟨by decide +kernel, _, 0, rfl, by omega, by omega⟩
end Ev
/-! text T97v -/
set_option Elab.async false
set_option linter.all false
set_option maxRecDepth 100000
set_option maxHeartbeats 4000000
namespace Ev
open PySem L2
def b60 : Int := 1000000000000000000000000000000000000000000000000000000000000
def vals97 : List D := [.non, .bl true, .bl false, .int 0, .int (-1), .int b60, .str "", .str "a", .str "no such name", .tup [], .tup [.str "a"], .lst [.str "a"], .lst [], .dct false [], .dct false [(.str "a", .lst [.int 1])],
  .tup [.str "second", .str "a", .str "b", .str "c"], .tup [.tup [.str "a", .str "b"], .tup [.str "b", .str "a"]], .lst [.lst [.int 0]], .str "line
feed", .int (-b60)]
theorem p60 : powI 10 60 = some b60 := by decide +kernel
theorem value_ok {cells : List Int} {b : Int} {c : C} (h : PenAt2 cells b c) (hb : b < 2 ^ 38) : ∃ (v : D) (c' : C), v ∈ vals97 ∧ F__law_value [.own c] = some (.imm v, [c']) ∧ PenAt2 cells (b + 1) c' := by
  obtain ⟨z, c1, ey, hz, hp1⟩ := draw2_at h (by omega) (show (1 : Int) ≤ 20 by decide) (by decide)
  obtain ⟨v, hv⟩ : ∃ v, vals97[z]? = some v := ⟨_, List.getElem?_eq_getElem (by show z < 20; omega)⟩
  refine ⟨v, c1, List.mem_of_getElem? hv, ok_eq ?_, hp1⟩
  unfold F__law_value
  simp [slots, N__law_value, B__law_value, p60, dnewF, List.replicate, ey]
  have ha : atI vals97 (z : Int) = some v := by
    have hz' : z < vals97.length := by show z < 20; omega
    rw [atI_nat' hz']
    rw [List.getElem?_eq_getElem hz'] at hv
    exact hv
  exact Ok.eq ha (by simp)
end Ev
/-! text U97 -/
set_option Elab.async false
set_option linter.all false
set_option maxRecDepth 100000
set_option maxHeartbeats 4000000
namespace Ev
open PySem L2
def Rt97 (v : D) : Prop := F__law_value_errors_right [.imm v] = some (.imm (.bl true), []) ∧ F__law_fault_errors_right [.imm v] = some (.imm (.bl true), []) ∧ F__law_lookup_errors_right [.imm v] = some (.imm (.bl true), [])
theorem r97_0a : F__law_value_errors_right [.imm .non] = some (.imm (.bl true), []) := by kernel_rfl
theorem r97_0b : F__law_fault_errors_right [.imm .non] = some (.imm (.bl true), []) := by kernel_rfl
theorem r97_0c : F__law_lookup_errors_right [.imm .non] = some (.imm (.bl true), []) := by kernel_rfl
theorem r97_1a : F__law_value_errors_right [.imm (.bl true)] = some (.imm (.bl true), []) := by kernel_rfl
theorem r97_1b : F__law_fault_errors_right [.imm (.bl true)] = some (.imm (.bl true), []) := by kernel_rfl
theorem r97_1c : F__law_lookup_errors_right [.imm (.bl true)] = some (.imm (.bl true), []) := by kernel_rfl
theorem r97_2a : F__law_value_errors_right [.imm (.bl false)] = some (.imm (.bl true), []) := by kernel_rfl
theorem r97_2b : F__law_fault_errors_right [.imm (.bl false)] = some (.imm (.bl true), []) := by kernel_rfl
theorem r97_2c : F__law_lookup_errors_right [.imm (.bl false)] = some (.imm (.bl true), []) := by kernel_rfl
theorem r97_3a : F__law_value_errors_right [.imm (.int 0)] = some (.imm (.bl true), []) := by kernel_rfl
theorem r97_3b : F__law_fault_errors_right [.imm (.int 0)] = some (.imm (.bl true), []) := by kernel_rfl
theorem r97_3c : F__law_lookup_errors_right [.imm (.int 0)] = some (.imm (.bl true), []) := by kernel_rfl
theorem r97_4a : F__law_value_errors_right [.imm (.int (-1))] = some (.imm (.bl true), []) := by kernel_rfl
theorem r97_4b : F__law_fault_errors_right [.imm (.int (-1))] = some (.imm (.bl true), []) := by kernel_rfl
theorem r97_4c : F__law_lookup_errors_right [.imm (.int (-1))] = some (.imm (.bl true), []) := by kernel_rfl
theorem r97_5a : F__law_value_errors_right [.imm (.int b60)] = some (.imm (.bl true), []) := by kernel_rfl
theorem r97_5b : F__law_fault_errors_right [.imm (.int b60)] = some (.imm (.bl true), []) := by kernel_rfl
theorem r97_5c : F__law_lookup_errors_right [.imm (.int b60)] = some (.imm (.bl true), []) := by kernel_rfl
theorem r97_6a : F__law_value_errors_right [.imm (.str "")] = some (.imm (.bl true), []) := by kernel_rfl
theorem r97_6b : F__law_fault_errors_right [.imm (.str "")] = some (.imm (.bl true), []) := by kernel_rfl
theorem r97_6c : F__law_lookup_errors_right [.imm (.str "")] = some (.imm (.bl true), []) := by kernel_rfl
theorem r97_7a : F__law_value_errors_right [.imm (.str "a")] = some (.imm (.bl true), []) := by kernel_rfl
theorem r97_7b : F__law_fault_errors_right [.imm (.str "a")] = some (.imm (.bl true), []) := by kernel_rfl
theorem r97_7c : F__law_lookup_errors_right [.imm (.str "a")] = some (.imm (.bl true), []) := by kernel_rfl
theorem r97_8a : F__law_value_errors_right [.imm (.str "no such name")] = some (.imm (.bl true), []) := by kernel_rfl
theorem r97_8b : F__law_fault_errors_right [.imm (.str "no such name")] = some (.imm (.bl true), []) := by kernel_rfl
theorem r97_8c : F__law_lookup_errors_right [.imm (.str "no such name")] = some (.imm (.bl true), []) := by kernel_rfl
theorem r97_9a : F__law_value_errors_right [.imm (.tup [])] = some (.imm (.bl true), []) := by kernel_rfl
theorem r97_9b : F__law_fault_errors_right [.imm (.tup [])] = some (.imm (.bl true), []) := by kernel_rfl
theorem r97_9c : F__law_lookup_errors_right [.imm (.tup [])] = some (.imm (.bl true), []) := by kernel_rfl
theorem r97_10a : F__law_value_errors_right [.imm (.tup [.str "a"])] = some (.imm (.bl true), []) := by kernel_rfl
theorem r97_10b : F__law_fault_errors_right [.imm (.tup [.str "a"])] = some (.imm (.bl true), []) := by kernel_rfl
theorem r97_10c : F__law_lookup_errors_right [.imm (.tup [.str "a"])] = some (.imm (.bl true), []) := by kernel_rfl
theorem r97_11a : F__law_value_errors_right [.imm (.lst [.str "a"])] = some (.imm (.bl true), []) := by kernel_rfl
theorem r97_11b : F__law_fault_errors_right [.imm (.lst [.str "a"])] = some (.imm (.bl true), []) := by kernel_rfl
theorem r97_11c : F__law_lookup_errors_right [.imm (.lst [.str "a"])] = some (.imm (.bl true), []) := by kernel_rfl
theorem r97_12a : F__law_value_errors_right [.imm (.lst [])] = some (.imm (.bl true), []) := by kernel_rfl
theorem r97_12b : F__law_fault_errors_right [.imm (.lst [])] = some (.imm (.bl true), []) := by kernel_rfl
theorem r97_12c : F__law_lookup_errors_right [.imm (.lst [])] = some (.imm (.bl true), []) := by kernel_rfl
theorem r97_13a : F__law_value_errors_right [.imm (.dct false [])] = some (.imm (.bl true), []) := by kernel_rfl
theorem r97_13b : F__law_fault_errors_right [.imm (.dct false [])] = some (.imm (.bl true), []) := by kernel_rfl
theorem r97_13c : F__law_lookup_errors_right [.imm (.dct false [])] = some (.imm (.bl true), []) := by kernel_rfl
theorem r97_14a : F__law_value_errors_right [.imm (.dct false [(.str "a", .lst [.int 1])])] = some (.imm (.bl true), []) := by kernel_rfl
theorem r97_14b : F__law_fault_errors_right [.imm (.dct false [(.str "a", .lst [.int 1])])] = some (.imm (.bl true), []) := by kernel_rfl
theorem r97_14c : F__law_lookup_errors_right [.imm (.dct false [(.str "a", .lst [.int 1])])] = some (.imm (.bl true), []) := by kernel_rfl
theorem r97_15a : F__law_value_errors_right [.imm (.tup [.str "second", .str "a", .str "b", .str "c"])] = some (.imm (.bl true), []) := by kernel_rfl
theorem r97_15b : F__law_fault_errors_right [.imm (.tup [.str "second", .str "a", .str "b", .str "c"])] = some (.imm (.bl true), []) := by kernel_rfl
theorem r97_15c : F__law_lookup_errors_right [.imm (.tup [.str "second", .str "a", .str "b", .str "c"])] = some (.imm (.bl true), []) := by kernel_rfl
theorem r97_16a : F__law_value_errors_right [.imm (.tup [.tup [.str "a", .str "b"], .tup [.str "b", .str "a"]])] = some (.imm (.bl true), []) := by kernel_rfl
theorem r97_16b : F__law_fault_errors_right [.imm (.tup [.tup [.str "a", .str "b"], .tup [.str "b", .str "a"]])] = some (.imm (.bl true), []) := by kernel_rfl
theorem r97_16c : F__law_lookup_errors_right [.imm (.tup [.tup [.str "a", .str "b"], .tup [.str "b", .str "a"]])] = some (.imm (.bl true), []) := by kernel_rfl
theorem r97_17a : F__law_value_errors_right [.imm (.lst [.lst [.int 0]])] = some (.imm (.bl true), []) := by kernel_rfl
theorem r97_17b : F__law_fault_errors_right [.imm (.lst [.lst [.int 0]])] = some (.imm (.bl true), []) := by kernel_rfl
theorem r97_17c : F__law_lookup_errors_right [.imm (.lst [.lst [.int 0]])] = some (.imm (.bl true), []) := by kernel_rfl
theorem r97_18a : F__law_value_errors_right [.imm (.str "line
feed")] = some (.imm (.bl true), []) := by kernel_rfl
theorem r97_18b : F__law_fault_errors_right [.imm (.str "line
feed")] = some (.imm (.bl true), []) := by kernel_rfl
theorem r97_18c : F__law_lookup_errors_right [.imm (.str "line
feed")] = some (.imm (.bl true), []) := by kernel_rfl
theorem r97_19a : F__law_value_errors_right [.imm (.int (-b60))] = some (.imm (.bl true), []) := by kernel_rfl
theorem r97_19b : F__law_fault_errors_right [.imm (.int (-b60))] = some (.imm (.bl true), []) := by kernel_rfl
theorem r97_19c : F__law_lookup_errors_right [.imm (.int (-b60))] = some (.imm (.bl true), []) := by kernel_rfl
theorem all97 : ∀ v ∈ vals97, Rt97 v := by
  intro v hv
  simp only [vals97, List.mem_cons, List.not_mem_nil, or_false] at hv
  rcases hv with rfl | rfl | rfl | rfl | rfl | rfl | rfl | rfl | rfl | rfl | rfl | rfl | rfl | rfl | rfl | rfl | rfl | rfl | rfl | rfl
  · exact ⟨r97_0a, r97_0b, r97_0c⟩
  · exact ⟨r97_1a, r97_1b, r97_1c⟩
  · exact ⟨r97_2a, r97_2b, r97_2c⟩
  · exact ⟨r97_3a, r97_3b, r97_3c⟩
  · exact ⟨r97_4a, r97_4b, r97_4c⟩
  · exact ⟨r97_5a, r97_5b, r97_5c⟩
  · exact ⟨r97_6a, r97_6b, r97_6c⟩
  · exact ⟨r97_7a, r97_7b, r97_7c⟩
  · exact ⟨r97_8a, r97_8b, r97_8c⟩
  · exact ⟨r97_9a, r97_9b, r97_9c⟩
  · exact ⟨r97_10a, r97_10b, r97_10c⟩
  · exact ⟨r97_11a, r97_11b, r97_11c⟩
  · exact ⟨r97_12a, r97_12b, r97_12c⟩
  · exact ⟨r97_13a, r97_13b, r97_13c⟩
  · exact ⟨r97_14a, r97_14b, r97_14c⟩
  · exact ⟨r97_15a, r97_15b, r97_15c⟩
  · exact ⟨r97_16a, r97_16b, r97_16c⟩
  · exact ⟨r97_17a, r97_17b, r97_17c⟩
  · exact ⟨r97_18a, r97_18b, r97_18c⟩
  · exact ⟨r97_19a, r97_19b, r97_19c⟩
theorem law_true (ns : List Int) (_hn : ns.length ≤ 63) : F_law [.imm (.scr ns)] = some (.imm (.bl true), []) := by
  apply ok_eq
  unfold F_law
  have r4 : rng1 [.int 4] = some (nts (List.range 4)) := rng1_n (n := 4) (by omega)
  obtain ⟨Q4, eQ4⟩ : ∃ Q, Q = List.range 4 := ⟨_, rfl⟩
  rw [← eQ4] at r4
  have ne : neD (.lst [.int 60, .int 8, .int 2000, .int 4, .int 2000, .int 60]) (.lst [.int 60, .int 8, .int 2000, .int 4, .int 2000, .int 60]) = some false := by kernel_rfl
  simp [slots, N_law, B_law, List.replicate]
  refine pen2_ok.imp fun y ⟨cells, c0, ey, hp0⟩ => ?_
  subst ey
  simp [r4, ne]
  rw [eQ4]
  refine (loop_rng (fun k ρ => ∃ (c : C) (x2 x3 : Sl), ρ = [.imm (.scr ns), .own c, x2, x3] ∧ (isPar (some x2) = false ∧ isPar (some x3) = false) ∧ PenAt2 cells (k * 10) c) ?_ ⟨c0, .un, .un, rfl, ⟨rfl, rfl⟩, by simpa using hp0⟩).imp ?_
  · rintro k ρ hk ⟨c, x2, x3, rfl, ⟨n2, n3⟩, hp⟩
    obtain ⟨v, c1, hv, ev, hp1⟩ := value_ok hp (by omega)
    obtain ⟨h1, h2, h3⟩ := all97 v hv
    simp [n2, n3, ev, h1, h2, h3]
    exact ⟨c1, _, _, ⟨rfl, rfl, rfl⟩, ⟨rfl, rfl⟩, hp1.mono (by push_cast; omega)⟩
  · rintro ⟨fl, ρ⟩ ⟨e, c, x2, x3, e2, _⟩
    dsimp only at e e2
    subst e e2
    simp
end Ev
/-! text Ge -/
namespace PySem.W.Fast
def tw14660038545674207646:=0
def tw3380252456279478842:=0
def tw14214243202502255313:=0
def tw17740851510777392702:=0
def tw9328235357600185367:=0
def tw10394410985118009743:=0
def tw2783536082266403787:=0
def tw681784122111385790:=0
def tw10445587977530210551:=0
def tw8783588892918671543:=0
def tw12335307806617178907:=0
def tw17551514214610203551:=0
def tw17091564612955693609:=0
def tw2661157291275548039:=0
def tw8964795769485163941:=0
def tw13535108943293778346:=0
def tw2510089080275976264:=0
def tw14227770317890531036:=0
def tw6523546266744132439:=0
def tw1262885771420110291:=0
def tw3164231040157207851:=0
def tw71591489484434266:=0
def tw5615238099631293481:=0
def tw8750945414846089879:=0
def tw3401502477549409839:=0
def tw958270489798594486:=0
def tw16419231126509873005:=0
def tw13518451198989796285:=0
def tw363568403087120550:=0
def tw4376291603902769087:=0
def tw3620753501030300413:=0
def tw2304991978232190054:=0
def tw8996039929319185265:=0
def tw17793272870020507557:=0
def tw7107410756390951714:=0
def tw10845518337104220924:=0
def tw13946209397171304270:=0
def tw976986059986303734:=0
def tw6133067091192209635:=0
def tw7826475415011033121:=0
def tw16545338567999463507:=0
def tw1108832607735881672:=0
def tw17182173868817294104:=0
def tw15750305518138937070:=0
def tw12367038359618057432:=0
def tw17500358944236031553:=0
def tw7123405867849361373:=0
def tw4277943627690972779:=0
def tw6590875659994222208:=0
def tw4611260170203423288:=0
def tw5495627148377140857:=0
def tw16979975213627154406:=0
def tw395827145557225066:=0
def tw262164147476004380:=0
def tw1495877102122622344:=0
def tw8996253969956544103:=0
def tw1606082553370868447:=0
def tw13696769355551367946:=0
def tw17713935273408836751:=0
def tw13040089173357414477:=0
def tw10067019480066360824:=0
def tw17950037577007915252:=0
def tw7153532141682479253:=0
def tw16246047880302176845:=0
def tw13735098113183587072:=0
def tw7556645869014763345:=0
def tw18342450369100975670:=0
def tw8283689418462499820:=0
def tw18014737577188302229:=0
def tw118118624915441379:=0
def tw9881490760578699560:=0
def tw9050273387489229532:=0
def tw16838537153021127803:=0
def tw16032911689282499693:=0
def tw14052371025584543374:=0
def tw13402192642063036846:=0
def tw15656334993962106680:=0
def tw10277415587119259603:=0
def tw17724723031365224038:=0
def tw11949353791757949154:=0
def tw568816077935666952:=0
def tw15093831530017465254:=0
def tw17417274696303977981:=0
def tw7590010084963868671:=0
def tw2028425831798051615:=0
def tw7888904764711455664:=0
def tw15592437590288579229:=0
def tw3163924987974340233:=0
def tw3744747149632116936:=0
def tw1097182685528939486:=0
def tw5133226537676219838:=0
def tw8300710087609325772:=0
def tw17148400821243096910:=0
def tw13485795793968506475:=0
def tw7698632336898402524:=0
def tw8432178619891179153:=0
def tw8560840684534869629:=0
def tw6462188030823750905:=0
def tw5775742547995461139:=0
def tw4209197336512978088:=0
def tw7385640893715569175:=0
def tw310948820510458431:=0
def tw15940026958328471234:=0
def tw3965781795988691196:=0
def tw12915274705369651396:=0
def tw9980567097397982211:=0
def tw15954456739491070273:=0
def tw10290443551430080208:=0
def tw5929687344144139227:=0
def tw2986821308245336923:=0
def tw3467864002704608300:=0
def tw1103837039790021707:=0
def tw4918324246219721073:=0
def tw13318137831984161496:=0
def tw5879855745651978759:=0
def tw11603188975631758876:=0
def tw105848776728466788:=0
def tw3753367155821243332:=0
def tw8899220362257257552:=0
def tw712894955148751071:=0
def tw16648769197427021801:=0
def tw18195560337619970229:=0
def tw2927261949139811544:=0
def tw9911988593089633508:=0
def tw11351138811580372464:=0
def tw11908733065789364624:=0
def tw13851665640537254233:=0
def tw4364984932707937685:=0
def tw12422106624934169161:=0
def tw2452186364468572059:=0
def tw1461319730159627325:=0
def tw2760828051098714688:=0
def tw16642370113831131239:=0
def tw3301492090895557426:=0
def tw7013187031077244903:=0
def tw3686211230806238158:=0
def tw17327204492783657769:=0
def tw17816805885819313197:=0
def tw13850487785385616963:=0
def tw1834824367933920552:=0
def tw16184460251966608093:=0
def tw2099752415339148512:=0
def tw17964258572514906971:=0
def tw13579652469089090032:=0
def tw172927815458243441:=0
def tw16753624572605272592:=0
def tw9369300440606744171:=0
def tw3487358661965021530:=0
def tw16261812176259452117:=0
def tw14737749503845982648:=0
def tw1391253405740626479:=0
def tw13594331596419065049:=0
def tw3538797034802850901:=0
def tw8972348006185998793:=0
def tw2556751311347962793:=0
def tw12826259808285147360:=0
def tw12078802941523381986:=0
def tw12775092671631698607:=0
def tw14323039312389410112:=0
def tw11000853010520772587:=0
def tw1272557713229997290:=0
def tw8166060521115034055:=0
def tw14030028666386917017:=0
def tw3228673852559881937:=0
def tw1203734389475234631:=0
def tw1694152630317377833:=0
def tw9890889268546411688:=0
def tw3121987632767657400:=0
def tw13031108297772101765:=0
def tw11119737566180665962:=0
def tw16646201278327386611:=0
def tw15301936614592554896:=0
def tw14288517991313520989:=0
def tw6402575448764839375:=0
def tw8315008191744215048:=0
def tw11957128745979297642:=0
def tw17008152152932950958:=0
def tw13874452495571560854:=0
def tw16605474720580042579:=0
def tw2883814690703017283:=0
def tw9895830300064245004:=0
def tw12350533333511457546:=0
def tw4443921351340736024:=0
def tw6679761236727483570:=0
def tw10338711650412600866:=0
def tw7978985936003727419:=0
def tw5527037548745138046:=0
def tw7840138624456901649:=0
def tw11891210916213466703:=0
def tw1111755151818590102:=0
def tw13096023785469021876:=0
def tw11419964544792047925:=0
def tw11159040438410376415:=0
def tw16463154984143212344:=0
def tw177966992966627278:=0
def tw6802268478913823029:=0
def tw10428335920484908450:=0
def tw1365010446291498121:=0
def tw13648728068921502445:=0
def tw6142939926328152947:=0
def tw10525329019855460942:=0
def tw15284068911600403481:=0
def tw17061265880325817024:=0
def tw8844002755365975856:=0
def tw15531415968624747274:=0
def tw9941002882302990048:=0
def tw13768799021497622586:=0
def tw14489656271412693258:=0
def tw3419424704928132469:=0
def tw6063886597512772632:=0
def tw15574166803638146000:=0
def tw14092960129632976038:=0
def tw13666396719584636463:=0
def tw4614637935284141443:=0
def tw4189739274152248274:=0
def tw3132792502243532067:=0
def tw16015837118242968579:=0
def tw4235814260233616393:=0
def tw9034500010025609795:=0
def tw1299324818274033933:=0
def tw2944057937463344221:=0
def tw237079039596946092:=0
def tw4115897501850493230:=0
def tw6787523934611555761:=0
def tw1708735588826222367:=0
def tw11651959324775364058:=0
def tw1798309765976227360:=0
def tw950732748614185318:=0
def tw3278776878038976161:=0
def tw11432145815832533522:=0
def tw11968956544904462228:=0
def tw838608976401031541:=0
def tw6292549591533005573:=0
def tw9066244505824383849:=0
def tw10923812719626150200:=0
def tw1901327995424584097:=0
def tw3484839774107329836:=0
def tw8662353015597714284:=0
def tw3673204278451826590:=0
def tw11223387886355782061:=0
def tw2828809921264402643:=0
def tw12481431030204841955:=0
def tw2112359171967670324:=0
def tw5581099118920990490:=0
def tw8999459255145060636:=0
def tw7667449008786465395:=0
def tw7361404394944224766:=0
def tw8221055827480603839:=0
def tw13386019473707494524:=0
def tw13451382919488830472:=0
def tw3867024221962702394:=0
def tw9490962463363249797:=0
def tw5154968659671967588:=0
def tw5719909416641282986:=0
def tw9598835311413571177:=0
def tw14212984421399230704:=0
def tw852990034003976668:=0
def tw16896434817263161704:=0
def tw4653021042579669953:=0
def tw5226451207561345705:=0
def tw11337810537883259994:=0
def tw15183325874575177375:=0
def tw12571053232540331825:=0
def tw15309669339063402480:=0
def tw13436132884926868190:=0
def tw4595254271210458392:=0
def tw12926350028471400692:=0
def tw7429839220615416949:=0
def tw6699033725702821996:=0
def tw17448914987346417709:=0
def tw11570374002875833235:=0
def tw4660138908832191106:=0
def tw736083126685077753:=0
def tw3157648184068301824:=0
def tw11494784057666555971:=0
def tw16301024608804787546:=0
def tw9673259461617269693:=0
def tw12704481646750645514:=0
def tw17128004567200743445:=0
def tw535269962525804877:=0
def tw6435337013303189389:=0
def tw736242979497937023:=0
def tw6257106112924503793:=0
def tw14780379996235853738:=0
def tw6961987756571415913:=0
def tw8535630338974701674:=0
def tw13523480313035283169:=0
def tw11474894304109693783:=0
def tw7914193270361557850:=0
def tw15101945408903414136:=0
def tw13527679283294025442:=0
def tw4058159512924768192:=0
def tw11109042770855190307:=0
def tw7522622896430607432:=0
def tw5816163192017081390:=0
def tw3131899328309095385:=0
def tw16491097605601114839:=0
def tw60367218146385528:=0
def tw16026175931132895255:=0
def tw7052987700595433026:=0
def tw7746502028388583121:=0
def tw9982153695087613051:=0
def tw6761051938812439114:=0
def tw6897539677134655197:=0
def tw8396003628921276155:=0
def tw7900060221458905656:=0
def tw10753091196059092920:=0
def tw3253663267427394582:=0
def tw18211560614089406845:=0
def tw5413439678861875553:=0
def tw14318591398586096385:=0
def tw10363988432478551392:=0
def tw4014248290217514057:=0
def tw6437808594428726993:=0
def tw7773548574591872272:=0
def tw6676454175374758564:=0
def tw15889828587826187655:=0
def tw35928011441371155:=0
def tw9650514114716476210:=0
def tw2449437137076884712:=0
def tw6060964516103581459:=0
def tw14212433307525512980:=0
def tw2532839915569004327:=0
def tw15357602128585397311:=0
def tw13837176071545677241:=0
def tw5309500062859732390:=0
def tw8510665680076283136:=0
def tw5732085206893102383:=0
def tw1643236034041099635:=0
def tw13040490947747522618:=0
def tw17646794771848275804:=0
def tw6774930717041678361:=0
def tw10575719363994041807:=0
def tw15910374431448074731:=0
def tw9078549011061977258:=0
def tw2588906523646318562:=0
def tw11594478672622233243:=0
def tw4989138077755206565:=0
def tw7208088132703719490:=0
def tw11453830589731406060:=0
def tw4925909099019313479:=0
def tw7345536225406436886:=0
def tw5407715272583089959:=0
def tw310181811039028794:=0
def tw11724645849254299003:=0
def tw13402112236505459347:=0
def tw12188949130110535718:=0
def tw4426858670160040447:=0
def tw9173240335366750632:=0
def tw9074879614116885515:=0
def tw12312720156343638095:=0
def tw2454802187051629574:=0
def tw13817465263846471520:=0
def tw3237866124235212976:=0
def tw7165036132792212718:=0
def tw730000901163023451:=0
def tw1407940435388754335:=0
def tw9726782815187525156:=0
def tw12418985425789418896:=0
def tw12542367926960405186:=0
def tw3147221551548369433:=0
def tw14246087998380911605:=0
def tw8670380681783081757:=0
def tw10759423879043276743:=0
def tw2214335971211751270:=0
def tw274155899310986334:=0
def tw13433716323081763136:=0
def tw15187524298490877214:=0
def tw11308687690394418138:=0
def tw18325712072047155764:=0
def tw16487737334362373829:=0
def tw16991909826816849202:=0
def tw8990044948004266920:=0
def tw5534320095816820707:=0
def tw948088693578206640:=0
def tw15185967903176251941:=0
def tw12809446050491715527:=0
def tw16213992892206189217:=0
def tw10013859004211460285:=0
def tw12462356470055098620:=0
def tw1338758650966751317:=0
def tw12302622190188714827:=0
def tw14588233936658915894:=0
def tw3089148018964609815:=0
def tw13834280421805787435:=0
def tw5110570097373880724:=0
def tw10662093759206047242:=0
def tw16120014704228089449:=0
def tw17423258212221230953:=0
def tw9749196677486739143:=0
def tw2009901774172093406:=0
def tw5866598641603101687:=0
def tw15122935245676851851:=0
def tw10615775520417978898:=0
def tw7535975216348360264:=0
def tw4483993601003081663:=0
def tw7644056392740375159:=0
def tw4511381104295579749:=0
def tw4661551977899062885:=0
def tw6964379501837573959:=0
def tw16740759258637539893:=0
def tw8735156821081388132:=0
def tw16946821258630484627:=0
def tw11903772147007460288:=0
def tw10650204615235931820:=0
def tw11969016765345146848:=0
def tw2912093979833887555:=0
def tw8037720764605698140:=0
def tw13788114964180952543:=0
def tw7021315875012146356:=0
def tw18213886180415058474:=0
def tw14924776849367561779:=0
def tw1432249491735233321:=0
def tw3500316587914313370:=0
def tw2900745056821732599:=0
def tw6477477099847251939:=0
def tw7425062911165626791:=0
def tw8401896040447278188:=0
def tw1348852238154415942:=0
def tw2415833634225895459:=0
def tw16323578577434365762:=0
def tw12482731456197094264:=0
def tw11916605777410009646:=0
def tw7945864240896636519:=0
def tw7415430551454003535:=0
def tw16950728650757175265:=0
def tw14320142529132873530:=0
def tw3754628189750176595:=0
def tw1495376282552981476:=0
def tw11448305707302902343:=0
def tw109264965737688452:=0
def tw14605514582782734427:=0
def tw3687099494762038930:=0
def tw8378189908152713620:=0
def tw1395038713425274905:=0
def tw11566256803674712172:=0
def tw4065990179990387465:=0
def tw15285459372157391053:=0
def tw15301881846486948161:=0
def tw1774866167421313592:=0
def tw10902913862331421951:=0
def tw11020458563189909677:=0
def tw18033711584782262964:=0
def tw5451769771357332401:=0
def tw4992352552899191375:=0
def tw14014672115318402116:=0
def tw2221871598930707966:=0
def tw4957790194647913129:=0
def tw810865250309593052:=0
def tw13371163049023934546:=0
def tw9393852489543126747:=0
def tw1687627336483306527:=0
def tw7148011732584676662:=0
def tw9095390075933316591:=0
def tw9715328118520000237:=0
def tw5615980852581029168:=0
def tw17541340862011162635:=0
def tw18441883257951796486:=0
def tw4807475179976774480:=0
def tw4410768603343285323:=0
def tw14808394718280666513:=0
def tw11087180084478315009:=0
def tw8532524599993707991:=0
def tw15404562528615817156:=0
def tw14443991388351990456:=0
def tw13911266593045414853:=0
def tw17599071601792963092:=0
def tw8814080815006559860:=0
def tw2296801273738533632:=0
def tw2022426273524843578:=0
def tw12485897348023878272:=0
def tw8290418860426369274:=0
def tw5920218667276985616:=0
def tw9529878724606273077:=0
def tw2545718940603471280:=0
def tw1025718673571063155:=0
def tw17085785137977003240:=0
def tw11725172805414173889:=0
def tw2335557574666442166:=0
def tw4158421453383323199:=0
def tw13536973429611961000:=0
def tw11289678813387679504:=0
def tw11856140453485991780:=0
def tw5912184131629274416:=0
def tw14900245910845696810:=0
def tw9122945380730733193:=0
def tw8986886942325872494:=0
def tw16601765007750864388:=0
def tw15899126103429340107:=0
def tw8422016920308760150:=0
def tw11830860050837305556:=0
def tw17449599842686881105:=0
def tw9318487995931460287:=0
def tw3388622721500518649:=0
def tw10960102617110999236:=0
def tw9600892298403642615:=0
def tw13882553723670069267:=0
def tw4451202236147953131:=0
def tw14062793933300994263:=0
def tw12269156250660485626:=0
def tw11296859446036245182:=0
def tw9329330210608144490:=0
def tw6944121074964157258:=0
def tw8388966124103227429:=0
def tw17985189616028694740:=0
def tw3456408014907173379:=0
def tw15104646886324005999:=0
def tw8677961693804859587:=0
def tw297424223996443753:=0
def tw2418555872115266235:=0
def tw869984397858428426:=0
def tw5076224837218584018:=0
def tw17024719481431833637:=0
def tw8928840758513536928:=0
def tw4432226954541812278:=0
def tw15270398753489956019:=0
def tw11699678875980764234:=0
def tw13921431387172610232:=0
def tw15153874853435024777:=0
def tw13315266284098790760:=0
def tw11219579769655102467:=0
def tw11903891395055004663:=0
def tw8602910917458492837:=0
def tw2479255970532236364:=0
def tw2036445277054675980:=0
def tw8594902694074863158:=0
def tw1754295646990967109:=0
def tw8288002373207724127:=0
def tw5161476966112064179:=0
def tw4515100947570789937:=0
def tw14038885411224042588:=0
def tw7837532130345218492:=0
def tw13125166705814488150:=0
def tw5833003895141404573:=0
def tw3872841963181439260:=0
def tw1166909715639370938:=0
def tw13317615028073992744:=0
def tw15475958975173423649:=0
def tw4788090809478858766:=0
def tw2756709266501504336:=0
def tw1504811241401322038:=0
def tw12252605296888311352:=0
def tw15154176711257519503:=0
def tw5809539141162195965:=0
def tw17508476556096999247:=0
def tw7369474593010725372:=0
def tw12905169533538471794:=0
def tw17917521867457577567:=0
def tw13099028028784299901:=0
def tw11751440185226683816:=0
def tw6585083302089620864:=0
def tw18061989784756926233:=0
def tw12561841696591901211:=0
def tw13937636586017455198:=0
def tw12300989897531739478:=0
def tw11628426811516369113:=0
def tw1694022292285576495:=0
def tw12580448923328732507:=0
def tw12963712301368812790:=0
def tw5708414651612791144:=0
def tw9752429915212715096:=0
def tw14771389897385451310:=0
def tw13947404864444670207:=0
def tw13471362050812735263:=0
def tw2360208829503225092:=0
def tw13145408460797483042:=0
def tw10089399779022251451:=0
def tw5446072253579640267:=0
def tw1436085001925235889:=0
def tw15064230588683402993:=0
def tw18161000003870708184:=0
def tw7259136649876755897:=0
def tw17168002318682814280:=0
def tw11066046888534948213:=0
def tw8978383726044826996:=0
def tw74403144645348205:=0
def tw10908638716271226227:=0
def tw10327040906442705108:=0
def tw8277716733206886253:=0
def tw4232578135940061029:=0
def tw6342997337686120698:=0
def tw8265716283057302062:=0
def tw16776510608507865118:=0
def tw14604605979326030198:=0
def tw5618205509251625931:=0
def tw3040764879100739824:=0
def tw1159626120012104542:=0
end PySem.W.Fast
open PySem PySem.W PyProof.Rows in
set_option maxRecDepth 100000 in
set_option maxHeartbeats 0 in
theorem PySem.Challenge.cw_passmarks_k97_errors_and_bounds_holds : PySem.Challenge.rw_passmarks_k97_errors_and_bounds.Holds := by
  w_on; o_law; k_head; (case hw => w_witness2)
  k_fill
  refine Ev.walkD (hno := rfl) (l := PySem.Challenge.rw_passmarks_k97_errors_and_bounds) (n := 63) (k := 12) (F := Ev.F_law) rfl (by decide) rfl Ev.room_law (fun w h Y => PySem.W.kIn_of Y) ?FF Ev.law_true
  case FF =>
    intro w mg h base KX G
    refine Ev.h_law ?tx
    refine' Ev.txt_mk KX G ?z_ArithmeticError ?z_IndexError ?z_KeyError ?z_LookupError ?z_RuntimeError ?z_ValueError ?z_bool ?z_dict ?z_isinstance ?z_len ?z_list ?z_range ?z_repr ?z_tuple ?q_GONE ?q_HIDDEN ?q_MOST ?q_PLACES ?q_SHORT ?q_WORD ?c_Full ?xi_Full ?xo_Full ?xd_Full ?xs_Full ?xe_Full ?xt_Full ?xk_Full ?xa_Full ?xf_Full ?xl_Full ?xc_Full ?xb_Full ?xn_Full ?xg_Full ?xh_Full ?xj_Full ?xm_Full ?xr_Full ?c_Hidden ?xi_Hidden ?xo_Hidden ?xd_Hidden ?xs_Hidden ?xe_Hidden ?xt_Hidden ?xk_Hidden ?xa_Hidden ?xf_Hidden ?xl_Hidden ?xc_Hidden ?xb_Hidden ?xn_Hidden ?xg_Hidden ?xh_Hidden ?xj_Hidden ?xm_Hidden ?xr_Hidden ?c_Needed ?xi_Needed ?xo_Needed ?xd_Needed ?xs_Needed ?xe_Needed ?xt_Needed ?xk_Needed ?xa_Needed ?xf_Needed ?xl_Needed ?xc_Needed ?xb_Needed ?xn_Needed ?xg_Needed ?xh_Needed ?xj_Needed ?xm_Needed ?xr_Needed ?c_NoAsk ?xi_NoAsk ?xo_NoAsk ?xd_NoAsk ?xs_NoAsk ?xe_NoAsk ?xt_NoAsk ?xk_NoAsk ?xa_NoAsk ?xf_NoAsk ?xl_NoAsk ?xc_NoAsk ?xb_NoAsk ?xn_NoAsk ?xg_NoAsk ?xh_NoAsk ?xj_NoAsk ?xm_NoAsk ?xr_NoAsk ?c_NoDeed ?xi_NoDeed ?xo_NoDeed ?xd_NoDeed ?xs_NoDeed ?xe_NoDeed ?xt_NoDeed ?xk_NoDeed ?xa_NoDeed ?xf_NoDeed ?xl_NoDeed ?xc_NoDeed ?xb_NoDeed ?xn_NoDeed ?xg_NoDeed ?xh_NoDeed ?xj_NoDeed ?xm_NoDeed ?xr_NoDeed ?c_NoMark ?xi_NoMark ?xo_NoMark ?xd_NoMark ?xs_NoMark ?xe_NoMark ?xt_NoMark ?xk_NoMark ?xa_NoMark ?xf_NoMark ?xl_NoMark ?xc_NoMark ?xb_NoMark ?xn_NoMark ?xg_NoMark ?xh_NoMark ?xj_NoMark ?xm_NoMark ?xr_NoMark ?c_NoName ?xi_NoName ?xo_NoName ?xd_NoName ?xs_NoName ?xe_NoName ?xt_NoName ?xk_NoName ?xa_NoName ?xf_NoName ?xl_NoName ?xc_NoName ?xb_NoName ?xn_NoName ?xg_NoName ?xh_NoName ?xj_NoName ?xm_NoName ?xr_NoName ?c_NoNames ?xi_NoNames ?xo_NoNames ?xd_NoNames ?xs_NoNames ?xe_NoNames ?xt_NoNames ?xk_NoNames ?xa_NoNames ?xf_NoNames ?xl_NoNames ?xc_NoNames ?xb_NoNames ?xg_NoNames ?xh_NoNames ?xj_NoNames ?xm_NoNames ?c_NoNumber ?xi_NoNumber ?xo_NoNumber ?xd_NoNumber ?xs_NoNumber ?xe_NoNumber ?xt_NoNumber ?xk_NoNumber ?xa_NoNumber ?xf_NoNumber ?xl_NoNumber ?xc_NoNumber ?xb_NoNumber ?xn_NoNumber ?xg_NoNumber ?xh_NoNumber ?xj_NoNumber ?xm_NoNumber ?xr_NoNumber ?c_NoOrder ?xi_NoOrder ?xo_NoOrder ?xd_NoOrder ?xs_NoOrder ?xe_NoOrder ?xt_NoOrder ?xk_NoOrder ?xa_NoOrder ?xf_NoOrder ?xl_NoOrder ?xc_NoOrder ?xb_NoOrder ?xn_NoOrder ?xg_NoOrder ?xh_NoOrder ?xj_NoOrder ?xm_NoOrder ?xr_NoOrder ?c_NoPlace ?xi_NoPlace ?xo_NoPlace ?xd_NoPlace ?xs_NoPlace ?xe_NoPlace ?xt_NoPlace ?xk_NoPlace ?xa_NoPlace ?xf_NoPlace ?xl_NoPlace ?xc_NoPlace ?xb_NoPlace ?xn_NoPlace ?xg_NoPlace ?xh_NoPlace ?xj_NoPlace ?xm_NoPlace ?xr_NoPlace ?c_NoRow ?xi_NoRow ?xo_NoRow ?xd_NoRow ?xs_NoRow ?xe_NoRow ?xt_NoRow ?xk_NoRow ?xa_NoRow ?xf_NoRow ?xl_NoRow ?xc_NoRow ?xb_NoRow ?xn_NoRow ?xg_NoRow ?xh_NoRow ?xj_NoRow ?xm_NoRow ?xr_NoRow ?c_NoRung ?xi_NoRung ?xo_NoRung ?xd_NoRung ?xs_NoRung ?xe_NoRung ?xt_NoRung ?xk_NoRung ?xa_NoRung ?xf_NoRung ?xl_NoRung ?xc_NoRung ?xb_NoRung ?xn_NoRung ?xg_NoRung ?xh_NoRung ?xj_NoRung ?xm_NoRung ?xr_NoRung ?c_NoSight ?xi_NoSight ?xo_NoSight ?xd_NoSight ?xs_NoSight ?xe_NoSight ?xt_NoSight ?xk_NoSight ?xa_NoSight ?xf_NoSight ?xl_NoSight ?xc_NoSight ?xb_NoSight ?xn_NoSight ?xg_NoSight ?xh_NoSight ?xj_NoSight ?xm_NoSight ?xr_NoSight ?c_NoTable ?xi_NoTable ?xo_NoTable ?xd_NoTable ?xs_NoTable ?xe_NoTable ?xt_NoTable ?xk_NoTable ?xa_NoTable ?xf_NoTable ?xl_NoTable ?xc_NoTable ?xb_NoTable ?xn_NoTable ?xg_NoTable ?xh_NoTable ?xj_NoTable ?xm_NoTable ?xr_NoTable ?c_NoText ?xi_NoText ?xo_NoText ?xd_NoText ?xs_NoText ?xe_NoText ?xt_NoText ?xk_NoText ?xa_NoText ?xf_NoText ?xl_NoText ?xc_NoText ?xb_NoText ?xn_NoText ?xg_NoText ?xh_NoText ?xj_NoText ?xm_NoText ?xr_NoText ?c_NoWord ?xi_NoWord ?xo_NoWord ?xd_NoWord ?xs_NoWord ?xe_NoWord ?xt_NoWord ?xk_NoWord ?xa_NoWord ?xf_NoWord ?xl_NoWord ?xc_NoWord ?xb_NoWord ?xn_NoWord ?xg_NoWord ?xh_NoWord ?xj_NoWord ?xm_NoWord ?xr_NoWord ?c_NotAlike ?xi_NotAlike ?xo_NotAlike ?xd_NotAlike ?xs_NotAlike ?xe_NotAlike ?xt_NotAlike ?xk_NotAlike ?xa_NotAlike ?xf_NotAlike ?xl_NotAlike ?xc_NotAlike ?xb_NotAlike ?xg_NotAlike ?xh_NotAlike ?xj_NotAlike ?xm_NotAlike ?c_NotOneOne ?xi_NotOneOne ?xo_NotOneOne ?xd_NotOneOne ?xs_NotOneOne ?xe_NotOneOne ?xt_NotOneOne ?xk_NotOneOne ?xa_NotOneOne ?xf_NotOneOne ?xl_NotOneOne ?xc_NotOneOne ?xb_NotOneOne ?xn_NotOneOne ?xg_NotOneOne ?xh_NotOneOne ?xj_NotOneOne ?xm_NotOneOne ?xr_NotOneOne ?c_NotPart ?xi_NotPart ?xo_NotPart ?xd_NotPart ?xs_NotPart ?xe_NotPart ?xt_NotPart ?xk_NotPart ?xa_NotPart ?xf_NotPart ?xl_NotPart ?xc_NotPart ?xb_NotPart ?xn_NotPart ?xg_NotPart ?xh_NotPart ?xj_NotPart ?xm_NotPart ?xr_NotPart ?c_NotSided ?xi_NotSided ?xo_NotSided ?xd_NotSided ?xs_NotSided ?xe_NotSided ?xt_NotSided ?xk_NotSided ?xa_NotSided ?xf_NotSided ?xl_NotSided ?xc_NotSided ?xb_NotSided ?xn_NotSided ?xg_NotSided ?xh_NotSided ?xj_NotSided ?xm_NotSided ?xr_NotSided ?c_NotThree ?xi_NotThree ?xo_NotThree ?xd_NotThree ?xs_NotThree ?xe_NotThree ?xt_NotThree ?xk_NotThree ?xa_NotThree ?xf_NotThree ?xl_NotThree ?xc_NotThree ?xb_NotThree ?xn_NotThree ?xg_NotThree ?xh_NotThree ?xj_NotThree ?xm_NotThree ?xr_NotThree ?c_NotTwice ?xi_NotTwice ?xo_NotTwice ?xd_NotTwice ?xs_NotTwice ?xe_NotTwice ?xt_NotTwice ?xk_NotTwice ?xa_NotTwice ?xf_NotTwice ?xl_NotTwice ?xc_NotTwice ?xb_NotTwice ?xn_NotTwice ?xg_NotTwice ?xh_NotTwice ?xj_NotTwice ?xm_NotTwice ?xr_NotTwice ?c_NotWell ?xi_NotWell ?xo_NotWell ?xd_NotWell ?xs_NotWell ?xe_NotWell ?xt_NotWell ?xk_NotWell ?xa_NotWell ?xf_NotWell ?xl_NotWell ?xc_NotWell ?xb_NotWell ?xn_NotWell ?xg_NotWell ?xh_NotWell ?xj_NotWell ?xm_NotWell ?xr_NotWell ?c_SameMark ?xi_SameMark ?xo_SameMark ?xd_SameMark ?xs_SameMark ?xe_SameMark ?xt_SameMark ?xk_SameMark ?xa_SameMark ?xf_SameMark ?xl_SameMark ?xc_SameMark ?xb_SameMark ?xn_SameMark ?xg_SameMark ?xh_SameMark ?xj_SameMark ?xm_SameMark ?xr_SameMark ?c_Taken ?xi_Taken ?xo_Taken ?xd_Taken ?xs_Taken ?xe_Taken ?xt_Taken ?xk_Taken ?xa_Taken ?xf_Taken ?xl_Taken ?xc_Taken ?xb_Taken ?xn_Taken ?xg_Taken ?xh_Taken ?xj_Taken ?xm_Taken ?xr_Taken ?c_TooLong ?xi_TooLong ?xo_TooLong ?xd_TooLong ?xs_TooLong ?xe_TooLong ?xt_TooLong ?xk_TooLong ?xa_TooLong ?xf_TooLong ?xl_TooLong ?xc_TooLong ?xb_TooLong ?xn_TooLong ?xg_TooLong ?xh_TooLong ?xj_TooLong ?xm_TooLong ?xr_TooLong ?c_TooMany ?xi_TooMany ?xo_TooMany ?xd_TooMany ?xs_TooMany ?xe_TooMany ?xt_TooMany ?xk_TooMany ?xa_TooMany ?xf_TooMany ?xl_TooMany ?xc_TooMany ?xb_TooMany ?xn_TooMany ?xg_TooMany ?xh_TooMany ?xj_TooMany ?xm_TooMany ?xr_TooMany ?c_Unfit ?xi_Unfit ?xo_Unfit ?xd_Unfit ?xs_Unfit ?xe_Unfit ?xt_Unfit ?xk_Unfit ?xa_Unfit ?xf_Unfit ?xl_Unfit ?xc_Unfit ?xb_Unfit ?xn_Unfit ?xg_Unfit ?xh_Unfit ?xj_Unfit ?xm_Unfit ?xr_Unfit ?c_Unread ?xi_Unread ?xo_Unread ?xd_Unread ?xs_Unread ?xe_Unread ?xt_Unread ?xk_Unread ?xa_Unread ?xf_Unread ?xl_Unread ?xc_Unread ?xb_Unread ?xn_Unread ?xg_Unread ?xh_Unread ?xj_Unread ?xm_Unread ?xr_Unread ?c_Unseen ?xi_Unseen ?xo_Unseen ?xd_Unseen ?xs_Unseen ?xe_Unseen ?xt_Unseen ?xk_Unseen ?xa_Unseen ?xf_Unseen ?xl_Unseen ?xc_Unseen ?xb_Unseen ?xn_Unseen ?xg_Unseen ?xh_Unseen ?xj_Unseen ?xm_Unseen ?xr_Unseen ?xp ?xq ?kn_ArithmeticError ?kn_IndexError ?kn_KeyError ?kn_LookupError ?kn_RuntimeError ?kn_ValueError ?kn_Full ?kn_Hidden ?kn_Needed ?kn_NoAsk ?kn_NoDeed ?kn_NoMark ?kn_NoName ?kn_NoNames ?kn_NoNumber ?kn_NoOrder ?kn_NoPlace ?kn_NoRow ?kn_NoRung ?kn_NoSight ?kn_NoTable ?kn_NoText ?kn_NoWord ?kn_NotAlike ?kn_NotOneOne ?kn_NotPart ?kn_NotSided ?kn_NotThree ?kn_NotTwice ?kn_NotWell ?kn_SameMark ?kn_Taken ?kn_TooLong ?kn_TooMany ?kn_Unfit ?kn_Unread ?kn_Unseen ?kt_ArithmeticError ?kt_Full ?kt_Hidden ?kt_IndexError ?kt_KeyError ?kt_LookupError ?kt_Needed ?kt_NoAsk ?kt_NoDeed ?kt_NoMark ?kt_NoName ?kt_NoNames ?kt_NoNumber ?kt_NoOrder ?kt_NoPlace ?kt_NoRow ?kt_NoRung ?kt_NoSight ?kt_NoTable ?kt_NoText ?kt_NoWord ?kt_NotAlike ?kt_NotOneOne ?kt_NotPart ?kt_NotSided ?kt_NotThree ?kt_NotTwice ?kt_NotWell ?kt_RuntimeError ?kt_SameMark ?kt_Taken ?kt_TooLong ?kt_TooMany ?kt_Unfit ?kt_Unread ?kt_Unseen ?kt_ValueError ?a_copied ?l_copied ?k_copied ?p_copied ?a__law_pen ?l__law_pen ?k__law_pen ?p__law_pen ?a__law_draw ?l__law_draw ?k__law_draw ?p__law_draw ?a__law_value ?l__law_value ?k__law_value ?p__law_value ?a__law_base ?l__law_base ?k__law_base ?p__law_base ?a__law_own_kinds ?l__law_own_kinds ?k__law_own_kinds ?p__law_own_kinds ?a__law_all_right ?l__law_all_right ?k__law_all_right ?p__law_all_right ?a__law_same ?l__law_same ?k__law_same ?p__law_same ?a__law_value_errors_right ?l__law_value_errors_right ?k__law_value_errors_right ?p__law_value_errors_right ?a__law_fault_errors_right ?l__law_fault_errors_right ?k__law_fault_errors_right ?p__law_fault_errors_right ?a__law_lookup_errors_right ?l__law_lookup_errors_right ?k__law_lookup_errors_right ?p__law_lookup_errors_right ?a_law ?l_law ?k_law ?p_law
    (case c_Full => k_is)
    (case c_Hidden => k_is)
    (case c_Needed => k_is)
    (case c_NoAsk => k_is)
    (case c_NoDeed => k_is)
    (case c_NoMark => k_is)
    (case c_NoName => k_is)
    (case c_NoNames => k_is)
    (case c_NoNumber => k_is)
    (case c_NoOrder => k_is)
    (case c_NoPlace => k_is)
    (case c_NoRow => k_is)
    (case c_NoRung => k_is)
    (case c_NoSight => k_is)
    (case c_NoTable => k_is)
    (case c_NoText => k_is)
    (case c_NoWord => k_is)
    (case c_NotAlike => k_is)
    (case c_NotOneOne => k_is)
    (case c_NotPart => k_is)
    (case c_NotSided => k_is)
    (case c_NotThree => k_is)
    (case c_NotTwice => k_is)
    (case c_NotWell => k_is)
    (case c_SameMark => k_is)
    (case c_Taken => k_is)
    (case c_TooLong => k_is)
    (case c_TooMany => k_is)
    (case c_Unfit => k_is)
    (case c_Unread => k_is)
    (case c_Unseen => k_is)
    (case z_ArithmeticError => k_is)
    (case z_IndexError => k_is)
    (case z_KeyError => k_is)
    (case z_LookupError => k_is)
    (case z_RuntimeError => k_is)
    (case z_ValueError => k_is)
    (case z_bool => k_is)
    (case z_dict => k_is)
    (case z_isinstance => k_is)
    (case z_len => k_is)
    (case z_list => k_is)
    (case z_range => k_is)
    (case z_repr => k_is)
    (case z_tuple => k_is)
    (case q_GONE => k_is)
    (case q_HIDDEN => k_is)
    (case q_MOST => k_is)
    (case q_PLACES => k_is)
    (case q_SHORT => k_is)
    (case q_WORD => k_is)
    (case xi_Full => first | kernel_rfl | exact L2.kit_ty (by decide +kernel) | exact Ev.kit_same)
    (case xo_Full => first | kernel_rfl | exact L2.kit_ty (by decide +kernel) | exact Ev.kit_same)
    (case xd_Full => k_is)
    (case xs_Full => k_is)
    (case xe_Full => k_is)
    (case xt_Full => k_is)
    (case xk_Full => k_is)
    (case xa_Full => k_is)
    (case xf_Full => k_is)
    (case xl_Full => k_is)
    (case xc_Full => k_is)
    (case xb_Full => k_is)
    (case xn_Full => k_is)
    (case xg_Full => k_is)
    (case xh_Full => k_is)
    (case xj_Full => k_is)
    (case xm_Full => k_is)
    (case xr_Full => k_is)
    (case xi_Hidden => first | kernel_rfl | exact L2.kit_ty (by decide +kernel) | exact Ev.kit_same)
    (case xo_Hidden => first | kernel_rfl | exact L2.kit_ty (by decide +kernel) | exact Ev.kit_same)
    (case xd_Hidden => k_is)
    (case xs_Hidden => k_is)
    (case xe_Hidden => k_is)
    (case xt_Hidden => k_is)
    (case xk_Hidden => k_is)
    (case xa_Hidden => k_is)
    (case xf_Hidden => k_is)
    (case xl_Hidden => k_is)
    (case xc_Hidden => k_is)
    (case xb_Hidden => k_is)
    (case xn_Hidden => k_is)
    (case xg_Hidden => k_is)
    (case xh_Hidden => k_is)
    (case xj_Hidden => k_is)
    (case xm_Hidden => k_is)
    (case xr_Hidden => k_is)
    (case xi_Needed => first | kernel_rfl | exact L2.kit_ty (by decide +kernel) | exact Ev.kit_same)
    (case xo_Needed => first | kernel_rfl | exact L2.kit_ty (by decide +kernel) | exact Ev.kit_same)
    (case xd_Needed => k_is)
    (case xs_Needed => k_is)
    (case xe_Needed => k_is)
    (case xt_Needed => k_is)
    (case xk_Needed => k_is)
    (case xa_Needed => k_is)
    (case xf_Needed => k_is)
    (case xl_Needed => k_is)
    (case xc_Needed => k_is)
    (case xb_Needed => k_is)
    (case xn_Needed => k_is)
    (case xg_Needed => k_is)
    (case xh_Needed => k_is)
    (case xj_Needed => k_is)
    (case xm_Needed => k_is)
    (case xr_Needed => k_is)
    (case xi_NoAsk => first | kernel_rfl | exact L2.kit_ty (by decide +kernel) | exact Ev.kit_same)
    (case xo_NoAsk => first | kernel_rfl | exact L2.kit_ty (by decide +kernel) | exact Ev.kit_same)
    (case xd_NoAsk => k_is)
    (case xs_NoAsk => k_is)
    (case xe_NoAsk => k_is)
    (case xt_NoAsk => k_is)
    (case xk_NoAsk => k_is)
    (case xa_NoAsk => k_is)
    (case xf_NoAsk => k_is)
    (case xl_NoAsk => k_is)
    (case xc_NoAsk => k_is)
    (case xb_NoAsk => k_is)
    (case xn_NoAsk => k_is)
    (case xg_NoAsk => k_is)
    (case xh_NoAsk => k_is)
    (case xj_NoAsk => k_is)
    (case xm_NoAsk => k_is)
    (case xr_NoAsk => k_is)
    (case xi_NoDeed => first | kernel_rfl | exact L2.kit_ty (by decide +kernel) | exact Ev.kit_same)
    (case xo_NoDeed => first | kernel_rfl | exact L2.kit_ty (by decide +kernel) | exact Ev.kit_same)
    (case xd_NoDeed => k_is)
    (case xs_NoDeed => k_is)
    (case xe_NoDeed => k_is)
    (case xt_NoDeed => k_is)
    (case xk_NoDeed => k_is)
    (case xa_NoDeed => k_is)
    (case xf_NoDeed => k_is)
    (case xl_NoDeed => k_is)
    (case xc_NoDeed => k_is)
    (case xb_NoDeed => k_is)
    (case xn_NoDeed => k_is)
    (case xg_NoDeed => k_is)
    (case xh_NoDeed => k_is)
    (case xj_NoDeed => k_is)
    (case xm_NoDeed => k_is)
    (case xr_NoDeed => k_is)
    (case xi_NoMark => first | kernel_rfl | exact L2.kit_ty (by decide +kernel) | exact Ev.kit_same)
    (case xo_NoMark => first | kernel_rfl | exact L2.kit_ty (by decide +kernel) | exact Ev.kit_same)
    (case xd_NoMark => k_is)
    (case xs_NoMark => k_is)
    (case xe_NoMark => k_is)
    (case xt_NoMark => k_is)
    (case xk_NoMark => k_is)
    (case xa_NoMark => k_is)
    (case xf_NoMark => k_is)
    (case xl_NoMark => k_is)
    (case xc_NoMark => k_is)
    (case xb_NoMark => k_is)
    (case xn_NoMark => k_is)
    (case xg_NoMark => k_is)
    (case xh_NoMark => k_is)
    (case xj_NoMark => k_is)
    (case xm_NoMark => k_is)
    (case xr_NoMark => k_is)
    (case xi_NoName => first | kernel_rfl | exact L2.kit_ty (by decide +kernel) | exact Ev.kit_same)
    (case xo_NoName => first | kernel_rfl | exact L2.kit_ty (by decide +kernel) | exact Ev.kit_same)
    (case xd_NoName => k_is)
    (case xs_NoName => k_is)
    (case xe_NoName => k_is)
    (case xt_NoName => k_is)
    (case xk_NoName => k_is)
    (case xa_NoName => k_is)
    (case xf_NoName => k_is)
    (case xl_NoName => k_is)
    (case xc_NoName => k_is)
    (case xb_NoName => k_is)
    (case xn_NoName => k_is)
    (case xg_NoName => k_is)
    (case xh_NoName => k_is)
    (case xj_NoName => k_is)
    (case xm_NoName => k_is)
    (case xr_NoName => k_is)
    (case xi_NoNames => first | kernel_rfl | exact L2.kit_ty (by decide +kernel) | exact Ev.kit_same)
    (case xo_NoNames => first | kernel_rfl | exact L2.kit_ty (by decide +kernel) | exact Ev.kit_same)
    (case xd_NoNames => k_is)
    (case xs_NoNames => k_is)
    (case xe_NoNames => k_is)
    (case xt_NoNames => k_is)
    (case xk_NoNames => k_is)
    (case xa_NoNames => k_is)
    (case xf_NoNames => k_is)
    (case xl_NoNames => k_is)
    (case xc_NoNames => k_is)
    (case xb_NoNames => k_is)
    (case xg_NoNames => k_is)
    (case xh_NoNames => k_is)
    (case xj_NoNames => k_is)
    (case xm_NoNames => k_is)
    (case xi_NoNumber => first | kernel_rfl | exact L2.kit_ty (by decide +kernel) | exact Ev.kit_same)
    (case xo_NoNumber => first | kernel_rfl | exact L2.kit_ty (by decide +kernel) | exact Ev.kit_same)
    (case xd_NoNumber => k_is)
    (case xs_NoNumber => k_is)
    (case xe_NoNumber => k_is)
    (case xt_NoNumber => k_is)
    (case xk_NoNumber => k_is)
    (case xa_NoNumber => k_is)
    (case xf_NoNumber => k_is)
    (case xl_NoNumber => k_is)
    (case xc_NoNumber => k_is)
    (case xb_NoNumber => k_is)
    (case xn_NoNumber => k_is)
    (case xg_NoNumber => k_is)
    (case xh_NoNumber => k_is)
    (case xj_NoNumber => k_is)
    (case xm_NoNumber => k_is)
    (case xr_NoNumber => k_is)
    (case xi_NoOrder => first | kernel_rfl | exact L2.kit_ty (by decide +kernel) | exact Ev.kit_same)
    (case xo_NoOrder => first | kernel_rfl | exact L2.kit_ty (by decide +kernel) | exact Ev.kit_same)
    (case xd_NoOrder => k_is)
    (case xs_NoOrder => k_is)
    (case xe_NoOrder => k_is)
    (case xt_NoOrder => k_is)
    (case xk_NoOrder => k_is)
    (case xa_NoOrder => k_is)
    (case xf_NoOrder => k_is)
    (case xl_NoOrder => k_is)
    (case xc_NoOrder => k_is)
    (case xb_NoOrder => k_is)
    (case xn_NoOrder => k_is)
    (case xg_NoOrder => k_is)
    (case xh_NoOrder => k_is)
    (case xj_NoOrder => k_is)
    (case xm_NoOrder => k_is)
    (case xr_NoOrder => k_is)
    (case xi_NoPlace => first | kernel_rfl | exact L2.kit_ty (by decide +kernel) | exact Ev.kit_same)
    (case xo_NoPlace => first | kernel_rfl | exact L2.kit_ty (by decide +kernel) | exact Ev.kit_same)
    (case xd_NoPlace => k_is)
    (case xs_NoPlace => k_is)
    (case xe_NoPlace => k_is)
    (case xt_NoPlace => k_is)
    (case xk_NoPlace => k_is)
    (case xa_NoPlace => k_is)
    (case xf_NoPlace => k_is)
    (case xl_NoPlace => k_is)
    (case xc_NoPlace => k_is)
    (case xb_NoPlace => k_is)
    (case xn_NoPlace => k_is)
    (case xg_NoPlace => k_is)
    (case xh_NoPlace => k_is)
    (case xj_NoPlace => k_is)
    (case xm_NoPlace => k_is)
    (case xr_NoPlace => k_is)
    (case xi_NoRow => first | kernel_rfl | exact L2.kit_ty (by decide +kernel) | exact Ev.kit_same)
    (case xo_NoRow => first | kernel_rfl | exact L2.kit_ty (by decide +kernel) | exact Ev.kit_same)
    (case xd_NoRow => k_is)
    (case xs_NoRow => k_is)
    (case xe_NoRow => k_is)
    (case xt_NoRow => k_is)
    (case xk_NoRow => k_is)
    (case xa_NoRow => k_is)
    (case xf_NoRow => k_is)
    (case xl_NoRow => k_is)
    (case xc_NoRow => k_is)
    (case xb_NoRow => k_is)
    (case xn_NoRow => k_is)
    (case xg_NoRow => k_is)
    (case xh_NoRow => k_is)
    (case xj_NoRow => k_is)
    (case xm_NoRow => k_is)
    (case xr_NoRow => k_is)
    (case xi_NoRung => first | kernel_rfl | exact L2.kit_ty (by decide +kernel) | exact Ev.kit_same)
    (case xo_NoRung => first | kernel_rfl | exact L2.kit_ty (by decide +kernel) | exact Ev.kit_same)
    (case xd_NoRung => k_is)
    (case xs_NoRung => k_is)
    (case xe_NoRung => k_is)
    (case xt_NoRung => k_is)
    (case xk_NoRung => k_is)
    (case xa_NoRung => k_is)
    (case xf_NoRung => k_is)
    (case xl_NoRung => k_is)
    (case xc_NoRung => k_is)
    (case xb_NoRung => k_is)
    (case xn_NoRung => k_is)
    (case xg_NoRung => k_is)
    (case xh_NoRung => k_is)
    (case xj_NoRung => k_is)
    (case xm_NoRung => k_is)
    (case xr_NoRung => k_is)
    (case xi_NoSight => first | kernel_rfl | exact L2.kit_ty (by decide +kernel) | exact Ev.kit_same)
    (case xo_NoSight => first | kernel_rfl | exact L2.kit_ty (by decide +kernel) | exact Ev.kit_same)
    (case xd_NoSight => k_is)
    (case xs_NoSight => k_is)
    (case xe_NoSight => k_is)
    (case xt_NoSight => k_is)
    (case xk_NoSight => k_is)
    (case xa_NoSight => k_is)
    (case xf_NoSight => k_is)
    (case xl_NoSight => k_is)
    (case xc_NoSight => k_is)
    (case xb_NoSight => k_is)
    (case xn_NoSight => k_is)
    (case xg_NoSight => k_is)
    (case xh_NoSight => k_is)
    (case xj_NoSight => k_is)
    (case xm_NoSight => k_is)
    (case xr_NoSight => k_is)
    (case xi_NoTable => first | kernel_rfl | exact L2.kit_ty (by decide +kernel) | exact Ev.kit_same)
    (case xo_NoTable => first | kernel_rfl | exact L2.kit_ty (by decide +kernel) | exact Ev.kit_same)
    (case xd_NoTable => k_is)
    (case xs_NoTable => k_is)
    (case xe_NoTable => k_is)
    (case xt_NoTable => k_is)
    (case xk_NoTable => k_is)
    (case xa_NoTable => k_is)
    (case xf_NoTable => k_is)
    (case xl_NoTable => k_is)
    (case xc_NoTable => k_is)
    (case xb_NoTable => k_is)
    (case xn_NoTable => k_is)
    (case xg_NoTable => k_is)
    (case xh_NoTable => k_is)
    (case xj_NoTable => k_is)
    (case xm_NoTable => k_is)
    (case xr_NoTable => k_is)
    (case xi_NoText => first | kernel_rfl | exact L2.kit_ty (by decide +kernel) | exact Ev.kit_same)
    (case xo_NoText => first | kernel_rfl | exact L2.kit_ty (by decide +kernel) | exact Ev.kit_same)
    (case xd_NoText => k_is)
    (case xs_NoText => k_is)
    (case xe_NoText => k_is)
    (case xt_NoText => k_is)
    (case xk_NoText => k_is)
    (case xa_NoText => k_is)
    (case xf_NoText => k_is)
    (case xl_NoText => k_is)
    (case xc_NoText => k_is)
    (case xb_NoText => k_is)
    (case xn_NoText => k_is)
    (case xg_NoText => k_is)
    (case xh_NoText => k_is)
    (case xj_NoText => k_is)
    (case xm_NoText => k_is)
    (case xr_NoText => k_is)
    (case xi_NoWord => first | kernel_rfl | exact L2.kit_ty (by decide +kernel) | exact Ev.kit_same)
    (case xo_NoWord => first | kernel_rfl | exact L2.kit_ty (by decide +kernel) | exact Ev.kit_same)
    (case xd_NoWord => k_is)
    (case xs_NoWord => k_is)
    (case xe_NoWord => k_is)
    (case xt_NoWord => k_is)
    (case xk_NoWord => k_is)
    (case xa_NoWord => k_is)
    (case xf_NoWord => k_is)
    (case xl_NoWord => k_is)
    (case xc_NoWord => k_is)
    (case xb_NoWord => k_is)
    (case xn_NoWord => k_is)
    (case xg_NoWord => k_is)
    (case xh_NoWord => k_is)
    (case xj_NoWord => k_is)
    (case xm_NoWord => k_is)
    (case xr_NoWord => k_is)
    (case xi_NotAlike => first | kernel_rfl | exact L2.kit_ty (by decide +kernel) | exact Ev.kit_same)
    (case xo_NotAlike => first | kernel_rfl | exact L2.kit_ty (by decide +kernel) | exact Ev.kit_same)
    (case xd_NotAlike => k_is)
    (case xs_NotAlike => k_is)
    (case xe_NotAlike => k_is)
    (case xt_NotAlike => k_is)
    (case xk_NotAlike => k_is)
    (case xa_NotAlike => k_is)
    (case xf_NotAlike => k_is)
    (case xl_NotAlike => k_is)
    (case xc_NotAlike => k_is)
    (case xb_NotAlike => k_is)
    (case xg_NotAlike => k_is)
    (case xh_NotAlike => k_is)
    (case xj_NotAlike => k_is)
    (case xm_NotAlike => k_is)
    (case xi_NotOneOne => first | kernel_rfl | exact L2.kit_ty (by decide +kernel) | exact Ev.kit_same)
    (case xo_NotOneOne => first | kernel_rfl | exact L2.kit_ty (by decide +kernel) | exact Ev.kit_same)
    (case xd_NotOneOne => k_is)
    (case xs_NotOneOne => k_is)
    (case xe_NotOneOne => k_is)
    (case xt_NotOneOne => k_is)
    (case xk_NotOneOne => k_is)
    (case xa_NotOneOne => k_is)
    (case xf_NotOneOne => k_is)
    (case xl_NotOneOne => k_is)
    (case xc_NotOneOne => k_is)
    (case xb_NotOneOne => k_is)
    (case xn_NotOneOne => k_is)
    (case xg_NotOneOne => k_is)
    (case xh_NotOneOne => k_is)
    (case xj_NotOneOne => k_is)
    (case xm_NotOneOne => k_is)
    (case xr_NotOneOne => k_is)
    (case xi_NotPart => first | kernel_rfl | exact L2.kit_ty (by decide +kernel) | exact Ev.kit_same)
    (case xo_NotPart => first | kernel_rfl | exact L2.kit_ty (by decide +kernel) | exact Ev.kit_same)
    (case xd_NotPart => k_is)
    (case xs_NotPart => k_is)
    (case xe_NotPart => k_is)
    (case xt_NotPart => k_is)
    (case xk_NotPart => k_is)
    (case xa_NotPart => k_is)
    (case xf_NotPart => k_is)
    (case xl_NotPart => k_is)
    (case xc_NotPart => k_is)
    (case xb_NotPart => k_is)
    (case xn_NotPart => k_is)
    (case xg_NotPart => k_is)
    (case xh_NotPart => k_is)
    (case xj_NotPart => k_is)
    (case xm_NotPart => k_is)
    (case xr_NotPart => k_is)
    (case xi_NotSided => first | kernel_rfl | exact L2.kit_ty (by decide +kernel) | exact Ev.kit_same)
    (case xo_NotSided => first | kernel_rfl | exact L2.kit_ty (by decide +kernel) | exact Ev.kit_same)
    (case xd_NotSided => k_is)
    (case xs_NotSided => k_is)
    (case xe_NotSided => k_is)
    (case xt_NotSided => k_is)
    (case xk_NotSided => k_is)
    (case xa_NotSided => k_is)
    (case xf_NotSided => k_is)
    (case xl_NotSided => k_is)
    (case xc_NotSided => k_is)
    (case xb_NotSided => k_is)
    (case xn_NotSided => k_is)
    (case xg_NotSided => k_is)
    (case xh_NotSided => k_is)
    (case xj_NotSided => k_is)
    (case xm_NotSided => k_is)
    (case xr_NotSided => k_is)
    (case xi_NotThree => first | kernel_rfl | exact L2.kit_ty (by decide +kernel) | exact Ev.kit_same)
    (case xo_NotThree => first | kernel_rfl | exact L2.kit_ty (by decide +kernel) | exact Ev.kit_same)
    (case xd_NotThree => k_is)
    (case xs_NotThree => k_is)
    (case xe_NotThree => k_is)
    (case xt_NotThree => k_is)
    (case xk_NotThree => k_is)
    (case xa_NotThree => k_is)
    (case xf_NotThree => k_is)
    (case xl_NotThree => k_is)
    (case xc_NotThree => k_is)
    (case xb_NotThree => k_is)
    (case xn_NotThree => k_is)
    (case xg_NotThree => k_is)
    (case xh_NotThree => k_is)
    (case xj_NotThree => k_is)
    (case xm_NotThree => k_is)
    (case xr_NotThree => k_is)
    (case xi_NotTwice => first | kernel_rfl | exact L2.kit_ty (by decide +kernel) | exact Ev.kit_same)
    (case xo_NotTwice => first | kernel_rfl | exact L2.kit_ty (by decide +kernel) | exact Ev.kit_same)
    (case xd_NotTwice => k_is)
    (case xs_NotTwice => k_is)
    (case xe_NotTwice => k_is)
    (case xt_NotTwice => k_is)
    (case xk_NotTwice => k_is)
    (case xa_NotTwice => k_is)
    (case xf_NotTwice => k_is)
    (case xl_NotTwice => k_is)
    (case xc_NotTwice => k_is)
    (case xb_NotTwice => k_is)
    (case xn_NotTwice => k_is)
    (case xg_NotTwice => k_is)
    (case xh_NotTwice => k_is)
    (case xj_NotTwice => k_is)
    (case xm_NotTwice => k_is)
    (case xr_NotTwice => k_is)
    (case xi_NotWell => first | kernel_rfl | exact L2.kit_ty (by decide +kernel) | exact Ev.kit_same)
    (case xo_NotWell => first | kernel_rfl | exact L2.kit_ty (by decide +kernel) | exact Ev.kit_same)
    (case xd_NotWell => k_is)
    (case xs_NotWell => k_is)
    (case xe_NotWell => k_is)
    (case xt_NotWell => k_is)
    (case xk_NotWell => k_is)
    (case xa_NotWell => k_is)
    (case xf_NotWell => k_is)
    (case xl_NotWell => k_is)
    (case xc_NotWell => k_is)
    (case xb_NotWell => k_is)
    (case xn_NotWell => k_is)
    (case xg_NotWell => k_is)
    (case xh_NotWell => k_is)
    (case xj_NotWell => k_is)
    (case xm_NotWell => k_is)
    (case xr_NotWell => k_is)
    (case xi_SameMark => first | kernel_rfl | exact L2.kit_ty (by decide +kernel) | exact Ev.kit_same)
    (case xo_SameMark => first | kernel_rfl | exact L2.kit_ty (by decide +kernel) | exact Ev.kit_same)
    (case xd_SameMark => k_is)
    (case xs_SameMark => k_is)
    (case xe_SameMark => k_is)
    (case xt_SameMark => k_is)
    (case xk_SameMark => k_is)
    (case xa_SameMark => k_is)
    (case xf_SameMark => k_is)
    (case xl_SameMark => k_is)
    (case xc_SameMark => k_is)
    (case xb_SameMark => k_is)
    (case xn_SameMark => k_is)
    (case xg_SameMark => k_is)
    (case xh_SameMark => k_is)
    (case xj_SameMark => k_is)
    (case xm_SameMark => k_is)
    (case xr_SameMark => k_is)
    (case xi_Taken => first | kernel_rfl | exact L2.kit_ty (by decide +kernel) | exact Ev.kit_same)
    (case xo_Taken => first | kernel_rfl | exact L2.kit_ty (by decide +kernel) | exact Ev.kit_same)
    (case xd_Taken => k_is)
    (case xs_Taken => k_is)
    (case xe_Taken => k_is)
    (case xt_Taken => k_is)
    (case xk_Taken => k_is)
    (case xa_Taken => k_is)
    (case xf_Taken => k_is)
    (case xl_Taken => k_is)
    (case xc_Taken => k_is)
    (case xb_Taken => k_is)
    (case xn_Taken => k_is)
    (case xg_Taken => k_is)
    (case xh_Taken => k_is)
    (case xj_Taken => k_is)
    (case xm_Taken => k_is)
    (case xr_Taken => k_is)
    (case xi_TooLong => first | kernel_rfl | exact L2.kit_ty (by decide +kernel) | exact Ev.kit_same)
    (case xo_TooLong => first | kernel_rfl | exact L2.kit_ty (by decide +kernel) | exact Ev.kit_same)
    (case xd_TooLong => k_is)
    (case xs_TooLong => k_is)
    (case xe_TooLong => k_is)
    (case xt_TooLong => k_is)
    (case xk_TooLong => k_is)
    (case xa_TooLong => k_is)
    (case xf_TooLong => k_is)
    (case xl_TooLong => k_is)
    (case xc_TooLong => k_is)
    (case xb_TooLong => k_is)
    (case xn_TooLong => k_is)
    (case xg_TooLong => k_is)
    (case xh_TooLong => k_is)
    (case xj_TooLong => k_is)
    (case xm_TooLong => k_is)
    (case xr_TooLong => k_is)
    (case xi_TooMany => first | kernel_rfl | exact L2.kit_ty (by decide +kernel) | exact Ev.kit_same)
    (case xo_TooMany => first | kernel_rfl | exact L2.kit_ty (by decide +kernel) | exact Ev.kit_same)
    (case xd_TooMany => k_is)
    (case xs_TooMany => k_is)
    (case xe_TooMany => k_is)
    (case xt_TooMany => k_is)
    (case xk_TooMany => k_is)
    (case xa_TooMany => k_is)
    (case xf_TooMany => k_is)
    (case xl_TooMany => k_is)
    (case xc_TooMany => k_is)
    (case xb_TooMany => k_is)
    (case xn_TooMany => k_is)
    (case xg_TooMany => k_is)
    (case xh_TooMany => k_is)
    (case xj_TooMany => k_is)
    (case xm_TooMany => k_is)
    (case xr_TooMany => k_is)
    (case xi_Unfit => first | kernel_rfl | exact L2.kit_ty (by decide +kernel) | exact Ev.kit_same)
    (case xo_Unfit => first | kernel_rfl | exact L2.kit_ty (by decide +kernel) | exact Ev.kit_same)
    (case xd_Unfit => k_is)
    (case xs_Unfit => k_is)
    (case xe_Unfit => k_is)
    (case xt_Unfit => k_is)
    (case xk_Unfit => k_is)
    (case xa_Unfit => k_is)
    (case xf_Unfit => k_is)
    (case xl_Unfit => k_is)
    (case xc_Unfit => k_is)
    (case xb_Unfit => k_is)
    (case xn_Unfit => k_is)
    (case xg_Unfit => k_is)
    (case xh_Unfit => k_is)
    (case xj_Unfit => k_is)
    (case xm_Unfit => k_is)
    (case xr_Unfit => k_is)
    (case xi_Unread => first | kernel_rfl | exact L2.kit_ty (by decide +kernel) | exact Ev.kit_same)
    (case xo_Unread => first | kernel_rfl | exact L2.kit_ty (by decide +kernel) | exact Ev.kit_same)
    (case xd_Unread => k_is)
    (case xs_Unread => k_is)
    (case xe_Unread => k_is)
    (case xt_Unread => k_is)
    (case xk_Unread => k_is)
    (case xa_Unread => k_is)
    (case xf_Unread => k_is)
    (case xl_Unread => k_is)
    (case xc_Unread => k_is)
    (case xb_Unread => k_is)
    (case xn_Unread => k_is)
    (case xg_Unread => k_is)
    (case xh_Unread => k_is)
    (case xj_Unread => k_is)
    (case xm_Unread => k_is)
    (case xr_Unread => k_is)
    (case xi_Unseen => first | kernel_rfl | exact L2.kit_ty (by decide +kernel) | exact Ev.kit_same)
    (case xo_Unseen => first | kernel_rfl | exact L2.kit_ty (by decide +kernel) | exact Ev.kit_same)
    (case xd_Unseen => k_is)
    (case xs_Unseen => k_is)
    (case xe_Unseen => k_is)
    (case xt_Unseen => k_is)
    (case xk_Unseen => k_is)
    (case xa_Unseen => k_is)
    (case xf_Unseen => k_is)
    (case xl_Unseen => k_is)
    (case xc_Unseen => k_is)
    (case xb_Unseen => k_is)
    (case xn_Unseen => k_is)
    (case xg_Unseen => k_is)
    (case xh_Unseen => k_is)
    (case xj_Unseen => k_is)
    (case xm_Unseen => k_is)
    (case xr_Unseen => k_is)
    (case xp => k_is)
    (case xq => k_is)
    (case kn_ArithmeticError => first | kernel_rfl | exact L2.kit_ty (by decide +kernel) | exact Ev.kit_same)
    (case kn_IndexError => first | kernel_rfl | exact L2.kit_ty (by decide +kernel) | exact Ev.kit_same)
    (case kn_KeyError => first | kernel_rfl | exact L2.kit_ty (by decide +kernel) | exact Ev.kit_same)
    (case kn_LookupError => first | kernel_rfl | exact L2.kit_ty (by decide +kernel) | exact Ev.kit_same)
    (case kn_RuntimeError => first | kernel_rfl | exact L2.kit_ty (by decide +kernel) | exact Ev.kit_same)
    (case kn_ValueError => first | kernel_rfl | exact L2.kit_ty (by decide +kernel) | exact Ev.kit_same)
    (case kn_Full => first | kernel_rfl | exact L2.kit_ty (by decide +kernel) | exact Ev.kit_same)
    (case kn_Hidden => first | kernel_rfl | exact L2.kit_ty (by decide +kernel) | exact Ev.kit_same)
    (case kn_Needed => first | kernel_rfl | exact L2.kit_ty (by decide +kernel) | exact Ev.kit_same)
    (case kn_NoAsk => first | kernel_rfl | exact L2.kit_ty (by decide +kernel) | exact Ev.kit_same)
    (case kn_NoDeed => first | kernel_rfl | exact L2.kit_ty (by decide +kernel) | exact Ev.kit_same)
    (case kn_NoMark => first | kernel_rfl | exact L2.kit_ty (by decide +kernel) | exact Ev.kit_same)
    (case kn_NoName => first | kernel_rfl | exact L2.kit_ty (by decide +kernel) | exact Ev.kit_same)
    (case kn_NoNames => first | kernel_rfl | exact L2.kit_ty (by decide +kernel) | exact Ev.kit_same)
    (case kn_NoNumber => first | kernel_rfl | exact L2.kit_ty (by decide +kernel) | exact Ev.kit_same)
    (case kn_NoOrder => first | kernel_rfl | exact L2.kit_ty (by decide +kernel) | exact Ev.kit_same)
    (case kn_NoPlace => first | kernel_rfl | exact L2.kit_ty (by decide +kernel) | exact Ev.kit_same)
    (case kn_NoRow => first | kernel_rfl | exact L2.kit_ty (by decide +kernel) | exact Ev.kit_same)
    (case kn_NoRung => first | kernel_rfl | exact L2.kit_ty (by decide +kernel) | exact Ev.kit_same)
    (case kn_NoSight => first | kernel_rfl | exact L2.kit_ty (by decide +kernel) | exact Ev.kit_same)
    (case kn_NoTable => first | kernel_rfl | exact L2.kit_ty (by decide +kernel) | exact Ev.kit_same)
    (case kn_NoText => first | kernel_rfl | exact L2.kit_ty (by decide +kernel) | exact Ev.kit_same)
    (case kn_NoWord => first | kernel_rfl | exact L2.kit_ty (by decide +kernel) | exact Ev.kit_same)
    (case kn_NotAlike => first | kernel_rfl | exact L2.kit_ty (by decide +kernel) | exact Ev.kit_same)
    (case kn_NotOneOne => first | kernel_rfl | exact L2.kit_ty (by decide +kernel) | exact Ev.kit_same)
    (case kn_NotPart => first | kernel_rfl | exact L2.kit_ty (by decide +kernel) | exact Ev.kit_same)
    (case kn_NotSided => first | kernel_rfl | exact L2.kit_ty (by decide +kernel) | exact Ev.kit_same)
    (case kn_NotThree => first | kernel_rfl | exact L2.kit_ty (by decide +kernel) | exact Ev.kit_same)
    (case kn_NotTwice => first | kernel_rfl | exact L2.kit_ty (by decide +kernel) | exact Ev.kit_same)
    (case kn_NotWell => first | kernel_rfl | exact L2.kit_ty (by decide +kernel) | exact Ev.kit_same)
    (case kn_SameMark => first | kernel_rfl | exact L2.kit_ty (by decide +kernel) | exact Ev.kit_same)
    (case kn_Taken => first | kernel_rfl | exact L2.kit_ty (by decide +kernel) | exact Ev.kit_same)
    (case kn_TooLong => first | kernel_rfl | exact L2.kit_ty (by decide +kernel) | exact Ev.kit_same)
    (case kn_TooMany => first | kernel_rfl | exact L2.kit_ty (by decide +kernel) | exact Ev.kit_same)
    (case kn_Unfit => first | kernel_rfl | exact L2.kit_ty (by decide +kernel) | exact Ev.kit_same)
    (case kn_Unread => first | kernel_rfl | exact L2.kit_ty (by decide +kernel) | exact Ev.kit_same)
    (case kn_Unseen => first | kernel_rfl | exact L2.kit_ty (by decide +kernel) | exact Ev.kit_same)
    (case kt_ArithmeticError => first | kernel_rfl | exact L2.kit_ty (by decide +kernel) | exact Ev.kit_same)
    (case kt_Full => first | kernel_rfl | exact L2.kit_ty (by decide +kernel) | exact Ev.kit_same)
    (case kt_Hidden => first | kernel_rfl | exact L2.kit_ty (by decide +kernel) | exact Ev.kit_same)
    (case kt_IndexError => first | kernel_rfl | exact L2.kit_ty (by decide +kernel) | exact Ev.kit_same)
    (case kt_KeyError => first | kernel_rfl | exact L2.kit_ty (by decide +kernel) | exact Ev.kit_same)
    (case kt_LookupError => first | kernel_rfl | exact L2.kit_ty (by decide +kernel) | exact Ev.kit_same)
    (case kt_Needed => first | kernel_rfl | exact L2.kit_ty (by decide +kernel) | exact Ev.kit_same)
    (case kt_NoAsk => first | kernel_rfl | exact L2.kit_ty (by decide +kernel) | exact Ev.kit_same)
    (case kt_NoDeed => first | kernel_rfl | exact L2.kit_ty (by decide +kernel) | exact Ev.kit_same)
    (case kt_NoMark => first | kernel_rfl | exact L2.kit_ty (by decide +kernel) | exact Ev.kit_same)
    (case kt_NoName => first | kernel_rfl | exact L2.kit_ty (by decide +kernel) | exact Ev.kit_same)
    (case kt_NoNames => first | kernel_rfl | exact L2.kit_ty (by decide +kernel) | exact Ev.kit_same)
    (case kt_NoNumber => first | kernel_rfl | exact L2.kit_ty (by decide +kernel) | exact Ev.kit_same)
    (case kt_NoOrder => first | kernel_rfl | exact L2.kit_ty (by decide +kernel) | exact Ev.kit_same)
    (case kt_NoPlace => first | kernel_rfl | exact L2.kit_ty (by decide +kernel) | exact Ev.kit_same)
    (case kt_NoRow => first | kernel_rfl | exact L2.kit_ty (by decide +kernel) | exact Ev.kit_same)
    (case kt_NoRung => first | kernel_rfl | exact L2.kit_ty (by decide +kernel) | exact Ev.kit_same)
    (case kt_NoSight => first | kernel_rfl | exact L2.kit_ty (by decide +kernel) | exact Ev.kit_same)
    (case kt_NoTable => first | kernel_rfl | exact L2.kit_ty (by decide +kernel) | exact Ev.kit_same)
    (case kt_NoText => first | kernel_rfl | exact L2.kit_ty (by decide +kernel) | exact Ev.kit_same)
    (case kt_NoWord => first | kernel_rfl | exact L2.kit_ty (by decide +kernel) | exact Ev.kit_same)
    (case kt_NotAlike => first | kernel_rfl | exact L2.kit_ty (by decide +kernel) | exact Ev.kit_same)
    (case kt_NotOneOne => first | kernel_rfl | exact L2.kit_ty (by decide +kernel) | exact Ev.kit_same)
    (case kt_NotPart => first | kernel_rfl | exact L2.kit_ty (by decide +kernel) | exact Ev.kit_same)
    (case kt_NotSided => first | kernel_rfl | exact L2.kit_ty (by decide +kernel) | exact Ev.kit_same)
    (case kt_NotThree => first | kernel_rfl | exact L2.kit_ty (by decide +kernel) | exact Ev.kit_same)
    (case kt_NotTwice => first | kernel_rfl | exact L2.kit_ty (by decide +kernel) | exact Ev.kit_same)
    (case kt_NotWell => first | kernel_rfl | exact L2.kit_ty (by decide +kernel) | exact Ev.kit_same)
    (case kt_RuntimeError => first | kernel_rfl | exact L2.kit_ty (by decide +kernel) | exact Ev.kit_same)
    (case kt_SameMark => first | kernel_rfl | exact L2.kit_ty (by decide +kernel) | exact Ev.kit_same)
    (case kt_Taken => first | kernel_rfl | exact L2.kit_ty (by decide +kernel) | exact Ev.kit_same)
    (case kt_TooLong => first | kernel_rfl | exact L2.kit_ty (by decide +kernel) | exact Ev.kit_same)
    (case kt_TooMany => first | kernel_rfl | exact L2.kit_ty (by decide +kernel) | exact Ev.kit_same)
    (case kt_Unfit => first | kernel_rfl | exact L2.kit_ty (by decide +kernel) | exact Ev.kit_same)
    (case kt_Unread => first | kernel_rfl | exact L2.kit_ty (by decide +kernel) | exact Ev.kit_same)
    (case kt_Unseen => first | kernel_rfl | exact L2.kit_ty (by decide +kernel) | exact Ev.kit_same)
    (case kt_ValueError => first | kernel_rfl | exact L2.kit_ty (by decide +kernel) | exact Ev.kit_same)
    (case a_copied => k_is)
    (case l_copied => k_is)
    (case k_copied => k_is)
    (case p_copied => k_is)
    (case a__law_pen => k_is)
    (case l__law_pen => k_is)
    (case k__law_pen => k_is)
    (case p__law_pen => k_is)
    (case a__law_draw => k_is)
    (case l__law_draw => k_is)
    (case k__law_draw => k_is)
    (case p__law_draw => k_is)
    (case a__law_value => k_is)
    (case l__law_value => k_is)
    (case k__law_value => k_is)
    (case p__law_value => k_is)
    (case a__law_base => k_is)
    (case l__law_base => k_is)
    (case k__law_base => k_is)
    (case p__law_base => k_is)
    (case a__law_own_kinds => k_is)
    (case l__law_own_kinds => k_is)
    (case k__law_own_kinds => k_is)
    (case p__law_own_kinds => k_is)
    (case a__law_all_right => k_is)
    (case l__law_all_right => k_is)
    (case k__law_all_right => k_is)
    (case p__law_all_right => k_is)
    (case a__law_same => k_is)
    (case l__law_same => k_is)
    (case k__law_same => k_is)
    (case p__law_same => k_is)
    (case a__law_value_errors_right => k_is)
    (case l__law_value_errors_right => k_is)
    (case k__law_value_errors_right => k_is)
    (case p__law_value_errors_right => k_is)
    (case a__law_fault_errors_right => k_is)
    (case l__law_fault_errors_right => k_is)
    (case k__law_fault_errors_right => k_is)
    (case p__law_fault_errors_right => k_is)
    (case a__law_lookup_errors_right => k_is)
    (case l__law_lookup_errors_right => k_is)
    (case k__law_lookup_errors_right => k_is)
    (case p__law_lookup_errors_right => k_is)
    (case a_law => k_is)
    (case l_law => k_is)
    (case k_law => k_is)
    (case p_law => k_is)
