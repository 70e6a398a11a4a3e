import PyProof.Rows.All
import Wide.All
import OpenK.AllK
import Wide.FinOn
import KE.KStateDown
import HandS.ForMost
import HandS.Defaults
import HandS.Head0
import HandS.Head1
import HandS.Head2
import HandS.HeadEnd
import HandS.HeadHook1
import HandS.HeadHook2
import KE.KFromBytes
import PyProof.Rows.FactsExc_KeyError
import HandS.Exc
import HandS.ExcInit
import HandS.ExcOwn
import HandS.TryMany
import HandS.ClsMeth
import HandS.Wide
import HandS.IsInst
import HandS.WordsExc
import HandS.ListItems
import HandS.More
import HandS.Flow
import HandS.Style
import HandS.Steps
import HandS.WideBits
import HandS.TupAny
import HandS.TupLe
import HandS.Walk
import KE.GoesMore
import PySem.Challenge.RW_guestfleet_k87_needs_and_least_promises
set_option Elab.async false
set_option linter.all false
set_option maxRecDepth 100000
set_option maxHeartbeats 4000000
/-! The hook of our heads: defs as data, and one Bool over the written part. -/
namespace Hk
open PySem PySem.Spec PyProof.Rows L2
abbrev AlB : Type := He.AlD × Bool
def obsB (fa : List He.Fa) (fn : List He.DefD) (ex : PySem.W.Frag → Bool) (K : PySem.W.Frag) : AlB := (He.obsD fa fn K, ex K)
def valB (fn : List He.DefD) : AlB := (He.valD fn, true)
/-- what the walk leans on -/
structure SaysB (fa : List He.Fa) (fn : List He.DefD) (ex : PySem.W.Frag → Bool) (K : PySem.W.Frag) : Prop where
  d : He.SaysD fa fn K
  x : ex K = true
def obsBG (n : Nat) (fa : List He.Fa) (fn : List He.DefD) (ex : PySem.W.Frag → Bool) (g : Addr → Option Obj) : AlB := obsB fa fn ex (He.frG g (PySem.cStatics :: He.asD g n))
theorem says_of {fa : List He.Fa} {fn : List He.DefD} {ex : PySem.W.Frag → Bool} {K : PySem.W.Frag} (e : obsB fa fn ex K = valB fn) : SaysB fa fn ex K :=
  ⟨congrArg (fun z : AlB => z.1) e, congrArg (fun z : AlB => z.2) e⟩
def hookB (n : Nat) (fa : List He.Fa) (fn : List He.DefD) (ex : PySem.W.Frag → Bool) : PySem.W.Hook where
  α := AlB
  obs := fun s => obsBG n fa fn ex s.heap.get?
  val := fun _ => valB fn
  says := fun _ h => ∃ K : PySem.W.Frag, K.In h ∧ SaysB fa fn ex K
  of := fun _ _ e => ⟨_, He.frG_in, says_of e⟩
  keeps := fun _ _ _ ⟨K, hK, c⟩ k => ⟨K, PySem.W.Frag.In.keeps hK k, c⟩
theorem obsBG_eq {n : Nat} {fa : List He.Fa} {fn : List He.DefD} {ex : PySem.W.Frag → Bool} {g : Addr → Option Obj} {s : Shared} (h : ∀ a, g a = s.heap.get? a) : obsBG n fa fn ex g = (hookB n fa fn ex).obs s := by
  have e : g = s.heap.get? := funext h
  rw [e] <;> rfl
end Hk

set_option Elab.async false
set_option linter.all false
set_option maxRecDepth 100000
set_option maxHeartbeats 4000000
/-! GX1: own exception classes over any base with the BaseException maker: how they are made, initialised, stored to. -/
namespace GX
open PySem PySem.W PySem.Calls PyProof.Rows PySem.HandSPX
section
variable {prog : Program} {w : World} {M : Model} {A : Around} {E : Value → Shared → Prop} {R : Result → Shared → Prop} {h : Heap} {g : Array GenState} {d : Drawn} {t : Nat} {os : OsState}
variable {nm q : Str} {C N : Addr} {bs bm bmB : List Value} {hdct : Bool} {sn : List Str} {sub : List Value} {ab : Bool} {col : Option Bool} {dd : Option Addr} {k0 k1 k2 k3 k5 : Option Value} {B newId initId : String}
/-- what the maker asks of the class's chain: it stands over the maker's owner, and is no AttributeError, no NameError -/
structure Over (B : String) (bm : List Value) : Prop where
  has : bm.contains (.type B) = true
  noA : bm.contains (.type "AttributeError") = false
  noN : bm.contains (.type "NameError") = false
theorem Over.cons {B : String} {bm : List Value} (o : Over B bm) (C : Addr) : Over B (.ref C :: bm) :=
  ⟨by rw [List.contains_cons, o.has, Bool.or_true], by rw [List.contains_cons, o.noA]; rfl, by rw [List.contains_cons, o.noN]; rfl⟩
theorem chk_new (F : ExcBaseFacts B newId initId bmB) (o : Over B bm) {rest : List Value} {Q : Unit → Shared → Prop}
    (hC : h.get? C = some (excClassObj nm q C N bs bm hdct sn sub ab col dd k0 k1 k2 k3 k5 newId)) (hq : Q () ⟨h, g, d, t, os⟩) :
    wpAny M A (checkBuiltinCall newId ⟨.ref C :: rest, []⟩) Q E ⟨h, g, d, t, os⟩ := by
  have c1 := (o.cons C).has
  have c2 := F.noStar
  simp only [checkBuiltinCall, F.newKind, F.newSplit, F.newRow]
  repeat (first
    | refine wpAny_loadPart_at hC ?_
    | (refine wpAny_isSubtype_exc hC ?_; rw [c1])
    | refine wpAny_staticBase_exc hC ?_
    | refine wpAny_madeBy_exc hC ?_
    | simp only [bne_self_eq_false, Bool.false_eq_true, if_false]
    | wp_step)
  exact hq
theorem run_new (F : ExcBaseFacts B newId initId bmB) (o : Over B bm) {rest : List Value} (hC : h.get? C = some (excClassObj nm q C N bs bm hdct sn sub ab col dd k0 k1 k2 k3 k5 newId))
    (hq : R (.ok (.ret (.ref (h.objs.size + 1)))) ⟨(h.push (kdv_tup rest)).push (excO C h.objs.size), g, d, t, os⟩) (hrest : rest.length ≤ sizeLine) :
    codeAny (model prog w) A (.builtin newId ⟨.ref C :: rest, []⟩) R ⟨h, g, d, t, os⟩ := by
  have c0 := F.ends
  have c1 := (o.cons C).has
  have c2 := (o.cons C).noA
  have c3 := (o.cons C).noN
  refine codeAny_builtinAt F.entry ?_
  unfold Builtin.«BaseException.__new__»
  refine PySem.wpAt_bind ?_
  show PySem.wpAt _ _ _ (stack >>= _) _ _ _
  refine PySem.wpAt_bind (PySem.wpAt_stack fun p below => PySem.wpAt_of_wpAny ?_)
  wp_walk
  refine PySem.wpAt_of_wpAny ?_
  rw [F.owner]
  repeat (first
    | with_reducible refine wpAny_madeHere_exc F.canon hC ?_
    | with_reducible refine wpAny_loadPart_at hC ?_
    | (with_reducible refine wpAny_isSubtype_exc hC ?_; first | rw [c1] | rw [c2] | rw [c3])
    | wp_step)
  show R _ _
  rw [Heap.size_push]
  exact hq
theorem run_type (F : ExcBaseFacts B newId initId bmB) (o : Over B bm) {rest : List Value} {fI : Addr} {Q : Fin → Shared → Prop} (hC : h.get? C = some (excClassObj nm q C N bs bm hdct sn sub ab col dd k0 k1 k2 k3 k5 newId))
    (hi : Looks (model prog w) h (typeLookup (.ref C) "__init__") (some (.ref fI))) (hb : ∀ self, Looks (model prog w) h (bindSpecial (.ref fI) self) (.ref fI, [self])) (hrest : rest.length ≤ sizeLine)
    (hq : codeAny (model prog w) A (.call (.ref fI) ⟨.ref (h.objs.size + 1) :: rest, []⟩)
      (fun r s' => match r with | .ok (.ret v) => v = .none ∧ Q (.done (.ret (.ref (h.objs.size + 1)))) s' | .ok _ => False | .error e => E e s')
      ⟨(h.push (kdv_tup rest)).push (excO C h.objs.size), g, d, t, os⟩) :
    wpAny (model prog w) A (Builtin.«type.__call__» ⟨.ref C :: rest, []⟩) Q E ⟨h, g, d, t, os⟩ := by
  repeat (first | with_reducible refine wpAny_loadPart_at hC ?_ | with_reducible refine wpAny_madeBy_exc hC ?_ | wp_step)
  refine codeAny_call_builtin_code (Code.quiet_builtin _ F.quiet) (chk_new F o hC ?_)
  refine run_new F o hC ?_ hrest
  show wpAny _ _ _ _ _ _
  have kk : ∀ b u, h.get? b = some u → ((h.push (kdv_tup rest)).push (excO C h.objs.size)).get? b = some u := fun b u e => Heap.get?_push_of_some _ (Heap.get?_push_of_some _ e)
  have hC2 := kk _ _ hC
  have hget : ((h.push (kdv_tup rest)).push (excO C h.objs.size)).get? (h.objs.size + 1) = some (excO C h.objs.size) := by heap_get
  have hself : (Value.ref C :: bm).contains (.ref C) = true := by simp
  have i1 := hi.keeps kk
  have b1 := (hb (.ref (h.objs.size + 1))).keeps kk
  unfold isInstance
  repeat (first | with_reducible refine wpAny_loadPart_at hget ?_ | (with_reducible refine wpAny_isSubtype_exc hC2 ?_; rw [hself]) | wp_step)
  show wpAny _ _ (typeLookup (.ref C) _) _ _ _
  refine i1.at ?_
  refine wpAny_holding (wpAny_bind (b1.at ?_))
  refine wpAny_bind (wpAny_call (codeAny_mono hq fun r s' z => ?_))
  rcases r with e | (v | _ | _ | _) <;> first | exact z | exact z.elim | skip
  obtain ⟨rfl, z⟩ := z
  first
    | exact wpAny_pure (wpAny_pure z)
    | (wp_walk; exact z)
/-- C(..): the record is made, then C's own __init__ runs -/
theorem call_cls (F : ExcBaseFacts B newId initId bmB) (o : Over B bm) {rest : List Value} {fI : Addr} (hC : h.get? C = some (excClassObj nm q C N bs bm hdct sn sub ab col dd k0 k1 k2 k3 k5 newId))
    (hi : Looks (model prog w) h (typeLookup (.ref C) "__init__") (some (.ref fI))) (hb : ∀ self, Looks (model prog w) h (bindSpecial (.ref fI) self) (.ref fI, [self])) (hrest : rest.length ≤ sizeLine)
    (hq : codeAny (model prog w) (A.under (.builtin "type.__call__" ⟨.ref C :: rest, []⟩)) (.call (.ref fI) ⟨.ref (h.objs.size + 1) :: rest, []⟩) (InitBack (h.objs.size + 1) R)
      ⟨(h.push (kdv_tup rest)).push (excO C h.objs.size), g, d, t, os⟩) :
    codeAny (model prog w) A (.call (.ref C) ⟨rest, []⟩) R ⟨h, g, d, t, os⟩ := by
  have f1 := tc_lookup
  have f2 := tc_bind (.ref C)
  have hTy : (⟨h, g, d, t, os⟩ : Shared).TypeIs (.ref C) "type" := ⟨_, hC, rfl⟩
  refine codeAny_of_tree ?_
  show wpAny _ _ (callAny (.ref C) _) _ _ _
  repeat (any_goals (first | assumption | with_reducible refine wpAny_loadPart_at hC ?_ | wp_step))
  refine ⟨rfl, ?_⟩
  refine codeAny_call_builtin_at (Code.quiet_builtin _ (by decide +kernel)) entry_typeCall (wpAny_check_type_call_sub hC (run_type F o hC hi hb hrest ?_))
  refine codeAny_mono hq fun r s' z => ?_
  rcases r with e | (v | _ | _ | _) <;> exact z

/-! ### B.__init__(e, ..): the args are laid anew -/
/-- what is asked of the name of B's own __init__ -/
structure InitF (B initId : String) : Prop where
  slot : Slot B "__init__" initId
  entry : entryFor table initId = some Builtin.«BaseException.__init__»
  split : splitId initId = some (B, "__init__")
  kind : builtinKind initId = some .slot
  row : Manifest.signature? initId = some ⟨.positional, "*", B, .self, [⟨"args", .varPos, false⟩]⟩
  noStar : (B != "*") = true
theorem init_ok (F : InitF B initId) (o : bm.contains (.type B) = true) {e t0 : Addr} {rest : List Value} (hC : h.get? C = some (excClassObj nm q C N bs bm hdct sn sub ab col dd k0 k1 k2 k3 k5 newId)) (he : h.get? e = some (excO C t0))
    (hrest : rest.length ≤ sizeLine) (hq : ∀ h' t1, (∀ b u, b ≠ e → h.get? b = some u → h'.get? b = some u) → h'.get? e = some (excO C t1) → R (.ok (.ret .none)) ⟨h', g, d, t, os⟩) :
    codeAny (model prog w) A (.call (.builtin initId) ⟨.ref e :: rest, []⟩) R ⟨h, g, d, t, os⟩ := by
  refine codeAny_call_builtin F.slot.plain F.entry ?_
  have c1 : (Value.ref C :: bm).contains (.type B) = true := by rw [List.contains_cons, o, Bool.or_true]
  have c2 := F.noStar
  have hcls : (excO C t0).cls = .ref C := rfl
  have goal : ∀ {A : Around} {Q : Unit → Shared → Prop} {E : Value → Shared → Prop}, Q () ⟨h, g, d, t, os⟩ → wpAny (model prog w) A (checkBuiltinCall initId ⟨.ref e :: rest, []⟩) Q E ⟨h, g, d, t, os⟩ := fun {A Q E} hq => by
    simp only [checkBuiltinCall, F.kind, F.split, F.row]
    repeat (first
      | (with_reducible refine wpAny_loadPart_at he ?_; rw [hcls])
      | with_reducible refine wpAny_loadPart_at hC ?_
      | (with_reducible refine wpAny_isSubtype_exc hC ?_; rw [c1])
      | wp_step)
    refine wpAny_onRaise ?_
    have star : ∀ (a b : String) (n : Nat), Bind.check ⟨.positional, "*", B, .self, [⟨"args", .varPos, false⟩]⟩ a b n (List.map (fun x => x.fst) ({ pos := Value.ref e :: rest } : Args).kw) = pure () := fun a b n => check_star_args _ _ _ _ _ _
    rw [star]
    exact wpAny_pure hq
  refine goal ?_
  wp_walk
  refine hq _ h.objs.size (fun b u hb hu => ?_) ?_
  · rw [Heap.get?_update_other _ _ (Ne.symm hb)]
    exact Heap.get?_push_of_some _ hu
  · rw [Heap.get?_update_self _ (Heap.get?_push_of_some _ he) rfl]
    rfl
end
theorem initF_of {B newId initId : String} {bm : List Value} (F : ExcBaseFacts B newId initId bm) : InitF B initId := ⟨F.init, F.initEntry, F.initSplit, F.initKind, F.initRow, F.noStar⟩
theorem initF_KeyError : InitF "KeyError" "KeyError.__init__" :=
  ⟨excClass_KeyError.init, excClass_KeyError.initEntry, excClass_KeyError.initSplit, excClass_KeyError.initKind, by kernel_rfl, excClass_KeyError.notStar⟩

/-! ### self.name = v on such an instance that has no dict yet -/
section
open Builtin Builtin.ObjectAttr
variable {prog : Program} {w : World} {A : Around} {R : Result → Shared → Prop} {hp : Heap} {g : Array GenState} {d : Drawn} {t : Nat} {os : OsState}
/-- what is asked of the chain: nobody of it refuses a store -/
structure Lets (mro : List Value) : Prop where
  obj : mro.contains (.type "object") = true
  ne : mro.isEmpty = false
  pass : ∀ self : Value, refuseLoop self "__setattr__" mro = pure ()
theorem Lets.cons {mro : List Value} (l : Lets mro) (C : Addr) : Lets (.ref C :: mro) := ⟨by rw [List.contains_cons, l.obj, Bool.or_true], rfl, fun self => by rw [refuseLoop_ref]; exact l.pass self⟩
theorem store_new {K : W.Frag} {name : Str} {tk : Tok} {v : Value} {x C : Addr} {fv : Array Value} {cd : ClassData}
    (X : K.In hp) (hx : hp.get? x = some { cls := .ref C, data := .fields fv }) (hcd : W.clsIn K C = some cd) (hm : Lets cd.mro) (hh : cd.hasDict = true) (ha : W.findIn K (.ref C) name = some none)
    (hq : ∀ h' tk' dx, (∀ b u, b ≠ x → hp.get? b = some u → h'.get? b = some u) → hp.objs.size ≤ dx → dx ≠ x → h'.get? x = some { cls := .ref C, dict := some dx, data := .fields fv } →
      h'.Ns1 dx (fun y => if y = name then some v else none) → R (.ok (.ret .none)) ⟨h', g, d, tk', os⟩) :
    codeAny (model prog w) A (.call (.builtin "object.__setattr__") ⟨[.ref x, .str name tk, v], []⟩) R ⟨hp, g, d, t, os⟩ := by
  have I : W.InstAt hp x { cls := .ref C, data := .fields fv } C none := ⟨hx, rfl, rfl, trivial⟩
  have SF := F.store_object
  have hxs : x ≠ hp.objs.size := Nat.ne_of_lt (Heap.lt_size hx)
  have isobj : W.mroIn K C (.type "object") = some true := by
    unfold W.mroIn
    rw [hcd, Option.bind_some, if_neg (by rw [hm.ne]; decide), hm.obj]
  have sub : W.Looks (model prog w) hp (isInstance (.ref x) (.type "object")) true := I.type.andThen (W.looks_mroIn X isobj)
  refine codeAny_call_builtin SF.slot.plain SF.entry (@W.check_slot (model prog w) _ _ ⟨hp, g, d, t, os⟩ "object.__setattr__" "object" "__setattr__" (.ref x) [.str name tk, v] [] _ SF.kind SF.split sub (SF.args (.ref x) (.str name tk) v) ?_)
  have lmro : W.Looks (model prog w) hp (mroOf (.ref C)) cd.mro := (W.looks_clsIn X hcd).andThen .now
  have ltk : W.Looks (model prog w) hp (storeTaker? none) none := .now
  have lcls : W.Looks (model prog w) hp (classData C) cd := W.looks_clsIn X hcd
  rw [W.osa_eq, refuse_eq]
  refine wpAny_bind (wpAny_bind (I.type.at (wpAny_bind (lmro.at ?_))))
  rw [hm.pass]
  refine wpAny_pure (wpAny_bind (I.type.at (wpAny_bind ((W.looks_findIn X ha).at (wpAny_bind (ltk.at ?_))))))
  show wpAny _ _ (storeInOwnDict (.ref x) (.ref C) (.str name tk) name v false) _ _ _
  obtain ⟨nm, bs, mro, ns, qn, hd, sn, sb, ab, col, del⟩ := cd
  dsimp only at hh
  subst hh
  unfold storeInOwnDict ownDictForStores
  repeat (first
    | with_reducible refine HandSPX.store_in_new ?_ ?_
    | with_reducible refine wpAny_loadPart_at hx ?_
    | with_reducible refine lcls.at ?_
    | wp_step)
  · exact ⟨_, #[], _, (Heap.get?_update_ne _ _ _ _ hxs.symm).trans (Heap.get?_push_at rfl rfl), rfl, fun e he => absurd he (by simp), fun _ => rfl⟩
  · intro h' tk' hn' hs
    have hx1 : (hp.push { cls := .type "dict", data := .dict #[] }).get? x = some { cls := .ref C, data := .fields fv } := Heap.get?_push_of_some _ hx
    refine hq h' tk' hp.objs.size (fun b u hb hu => ?_) (Nat.le_refl _) hxs.symm ?_ hn'
    · exact (hs.2 b (Nat.ne_of_lt (Heap.lt_size hu))).trans ((Heap.get?_update_ne _ _ _ _ hb).trans (Heap.get?_push_of_some _ hu))
    · exact (hs.2 x hxs).trans (Heap.get?_update_self _ hx1 rfl)
end
end GX

set_option Elab.async false
set_option linter.all false
set_option maxRecDepth 100000
set_option maxHeartbeats 1000000
/-! GX2: an own exception class with one field: its __init__, raising it, reading its field in a suite. -/
namespace GX
open PySem PySem.Spec PyProof.Rows L2
/-! ### bases -/
/-- a base: the maker of its classes, its own __init__, its chain -/
structure Bs where
  maker : String
  own : String
  base : String
  ini : String
  tail : List Value
structure Bs.Ok (b : Bs) : Prop where
  facts : ∃ ini bm, PySem.ExcBaseFacts b.own b.maker ini bm
  over : Over b.own b.tail
  lets : Lets b.tail
  init : InitF b.base b.ini
  has : b.tail.contains (.type b.base) = true
  plain : PySem.W.handedIn (.builtin b.ini) = true
def bVE : Bs := ⟨"ValueError.__new__", "ValueError", "ValueError", "ValueError.__init__", [.type "ValueError", .type "Exception", .type "BaseException", .type "object"]⟩
def bKE : Bs := ⟨"LookupError.__new__", "LookupError", "KeyError", "KeyError.__init__", [.type "KeyError", .type "LookupError", .type "Exception", .type "BaseException", .type "object"]⟩
def bLE : Bs := ⟨"LookupError.__new__", "LookupError", "LookupError", "LookupError.__init__", [.type "LookupError", .type "Exception", .type "BaseException", .type "object"]⟩
theorem bVE_ok : bVE.Ok := ⟨⟨_, _, F.excBase_ValueError⟩, ⟨by decide +kernel, by decide +kernel, by decide +kernel⟩, ⟨by decide +kernel, rfl, fun self => F.store_ValueError.passes self⟩, initF_of F.excBase_ValueError, by decide +kernel, by decide +kernel⟩
theorem bLE_ok : bLE.Ok := ⟨⟨_, _, F.excBase_LookupError⟩, ⟨by decide +kernel, by decide +kernel, by decide +kernel⟩, ⟨by decide +kernel, rfl, fun self => by kernel_rfl⟩, initF_of F.excBase_LookupError, by decide +kernel, by decide +kernel⟩
theorem bKE_ok : bKE.Ok := ⟨⟨_, _, F.excBase_LookupError⟩, ⟨by decide +kernel, by decide +kernel, by decide +kernel⟩, ⟨by decide +kernel, rfl, fun self => by kernel_rfl⟩, initF_KeyError, by decide +kernel, by decide +kernel⟩
/-- own classes, then the base's chain -/
def refsB (tail : List Value) : List Value → Bool
  | [] => tail.isEmpty
  | v :: r => (match v with
    | .ref _ => refsB tail r
    | _ => false) || decide (v :: r = tail)
theorem refsB_ind {tail : List Value} {P : List Value → Prop} (h0 : P tail) (h1 : ∀ C r, P r → P (.ref C :: r)) : ∀ l, refsB tail l = true → P l
  | [], e => by
    have q : tail = [] := List.isEmpty_iff.mp e
    rw [q] at h0
    exact h0
  | v :: r, e => by
    unfold refsB at e
    rcases Bool.or_eq_true_iff.mp e with z | z
    · cases v with
      | ref C => exact h1 C r (refsB_ind h0 h1 r z)
      | _ => cases z
    · rw [of_decide_eq_true z]
      exact h0
theorem over_refs {b : Bs} (k : b.Ok) {bm : List Value} (e : refsB b.tail bm = true) : Over b.own bm := refsB_ind (P := Over b.own) k.over (fun C _ o => o.cons C) bm e
theorem lets_refs {b : Bs} (k : b.Ok) {bm : List Value} (e : refsB b.tail bm = true) : Lets bm := refsB_ind (P := Lets) k.lets (fun C _ o => o.cons C) bm e
theorem has_refs {b : Bs} (k : b.Ok) {bm : List Value} (e : refsB b.tail bm = true) : bm.contains (.type b.base) = true :=
  refsB_ind (P := fun l => l.contains (.type b.base) = true) k.has (fun C _ o => by rw [List.contains_cons, o, Bool.or_true]) bm e
/-! ### what the written part says of such a class at C, its field called f -/
structure XC (K : PySem.W.Frag) (b : Bs) (C : Addr) (f : Str) : Prop where
  ok : b.Ok
  cls : ∃ nm q N bs bm sn sub ab col dd k0 k1 k2 k3 k5, K.lookup C = some (excClassObj nm q C N bs bm true sn sub ab col dd k0 k1 k2 k3 k5 b.maker) ∧ refsB b.tail bm = true
  sa : PySem.W.findIn K (.ref C) "__setattr__" = some (some (.builtin "object.__setattr__"))
  ga : PySem.W.findIn K (.ref C) "__getattribute__" = some (some (.builtin "BaseException.__getattribute__"))
  gg : PySem.W.findIn K (.ref C) "__getattr__" = some none
  nf : PySem.W.findIn K (.ref C) f = some none
  exC : PySem.W.subIn K (.ref C) (.type "BaseException") = some true
  tyC : PySem.W.typeIn K (.ref C) = some (.type "type")
  kC : PySem.W.keepIn K (.ref C) = true
  hdC : PySem.W.hasDictIn K C = true
def clsB (K : PySem.W.Frag) (b : Bs) (C : Addr) : Bool := match K.lookup C with
  | some ⟨.type "type", _, .cls cd, sl⟩ => (match cd.mro, sl.toList with
    | .ref D :: bm, [_, _, _, _, some (.builtin n), _] => D == C && n == b.maker && !cd.hasDel && cd.hasDict && refsB b.tail bm
    | _, _ => false)
  | _ => false
theorem clsB_ok {K : PySem.W.Frag} {b : Bs} {C : Addr} (h : clsB K b C = true) :
    ∃ nm q N bs bm sn sub ab col dd k0 k1 k2 k3 k5, K.lookup C = some (excClassObj nm q C N bs bm true sn sub ab col dd k0 k1 k2 k3 k5 b.maker) ∧ refsB b.tail bm = true := by
  unfold clsB at h
  split at h
  · rename_i dd cd sl ho
    split at h
    · rename_i D bm k0 k1 k2 k3 n k5 hm hs
      simp only [Bool.and_eq_true, beq_iff_eq, Bool.not_eq_true'] at h
      obtain ⟨⟨⟨⟨e1, e2⟩, e3⟩, e4⟩, e5⟩ := h
      obtain ⟨nm, bs, mro, ns, qn, hd, sn, sub, ab, col, del⟩ := cd
      dsimp only at hm e3 e4
      subst e1 e2 hm e3 e4
      have hsl : sl = #[k0, k1, k2, k3, some (.builtin b.maker), k5] := by
        obtain ⟨l⟩ := sl
        simp only at hs
        rw [hs]
      subst hsl
      exact ⟨_, _, _, _, bm, _, _, _, _, _, _, _, _, _, _, ho, e5⟩
    · cases h
  · cases h
def xcB (K : PySem.W.Frag) (b : Bs) (C : Addr) (f : Str) : Bool :=
  clsB K b C && (He.eqO (PySem.W.findIn K (.ref C) "__setattr__") (some (some (.builtin "object.__setattr__"))) && (He.eqO (PySem.W.findIn K (.ref C) "__getattribute__") (some (some (.builtin "BaseException.__getattribute__"))) &&
  (He.eqO (PySem.W.findIn K (.ref C) "__getattr__") (some none) && (He.eqO (PySem.W.findIn K (.ref C) f) (some none) && (decide (PySem.W.subIn K (.ref C) (.type "BaseException") = some true) &&
  (decide (PySem.W.typeIn K (.ref C) = some (.type "type")) && (PySem.W.keepIn K (.ref C) && PySem.W.hasDictIn K C)))))))
theorem xcB_ok {K : PySem.W.Frag} {b : Bs} {C : Addr} {f : Str} (k : b.Ok) (h : xcB K b C f = true) : XC K b C f := by
  unfold xcB at h
  simp only [Bool.and_eq_true] at h
  obtain ⟨h1, h2, h3, h4, h5, h6, h7, h8, h9⟩ := h
  exact ⟨k, clsB_ok h1, He.eqO_ok h2, He.eqO_ok h3, He.eqO_ok h4, He.eqO_ok h5, of_decide_eq_true h6, of_decide_eq_true h7, h8, h9⟩
/-- the own base class at G, whose __init__ is the built-in base's -/
structure GB (K : PySem.W.Frag) (b : Bs) (G : Addr) : Prop where
  rd : PySem.W.readsIn K G (.type "type") = true
  ga : PySem.W.specialIn K (.ref G) "__getattribute__" = some (some (.builtin "type.__getattribute__"))
  at_ : PySem.W.findCls K (.ref G) (.type "type") "__init__" = some (.val (.builtin b.ini))
def gbB (K : PySem.W.Frag) (b : Bs) (G : Addr) : Bool :=
  PySem.W.readsIn K G (.type "type") && (He.eqO (PySem.W.specialIn K (.ref G) "__getattribute__") (some (some (.builtin "type.__getattribute__"))) && (match PySem.W.findCls K (.ref G) (.type "type") "__init__" with
    | some (.val (.builtin n)) => decide (n = b.ini)
    | _ => false))
theorem gbB_ok {K : PySem.W.Frag} {b : Bs} {G : Addr} (h : gbB K b G = true) : GB K b G := by
  unfold gbB at h
  simp only [Bool.and_eq_true] at h
  obtain ⟨h1, h2, h3⟩ := h
  refine ⟨h1, He.eqO_ok h2, ?_⟩
  split at h3
  · rename_i n e
    rw [e, of_decide_eq_true h3]
  · cases h3
section
variable {X : Cx} {pins : List (Addr × Obj)} {σ : L2.St} {H : Hp} {s : Shared} {a C dx : Addr} {b : Bs} {f : Str} {y : V} {u : Value} {fs : List (Str × V)} {Q : Unit → Shared → Prop} {E : Value → Shared → Prop} {A : Around}
/-- self.f = y, the first field -/
theorem xst_new (T : XC X.K b C f) (I : Inv X pins σ H s) (e : H a = some (exo a C none)) (ry : RelV y u)
    (h : ∀ dx s', H dx = none → dx ≠ a → Inv X pins σ (upd (upd H dx (exd dx [(f, y)])) a (exo a C (some dx))) s' → Q () s') : wpAny (model X.prog X.w) A (setAttr (.ref a) f u) Q E s := by
  obtain ⟨nm, q, N, bs, bm, sn, sub, ab, col, dd, k0, k1, k2, k3, k5, hC, hbm⟩ := T.cls
  have hcl : PySem.W.clsIn X.K C = some { name := nm, bases := bs, mro := .ref C :: bm, ns := N, qualname := q, hasDict := true, slotNames := sn, subclasses := sub, abstract := ab, collection := col, hasDel := false } := by
    unfold PySem.W.clsIn
    rw [hC] <;> rfl
  obtain ⟨t1, ho⟩ := exo_at I.hok e
  obtain ⟨hp, g, d, t, os⟩ := s
  refine PySem.W.set_plain I.kIn (ox := { cls := .ref C, dict := none, data := .fields #[.ref t1, .none, .none, .none, .bool false, .none] }) (od := none) ⟨ho, rfl, rfl, trivial⟩ T.sa ?_
  refine store_new I.kIn ho hcl ((lets_refs T.ok hbm).cons C) rfl T.nf (fun h' tk' dx k dn dne hx hn => ?_)
  have hnd : H dx = none := I.hok.fresh dn
  have nd : ∀ {c : Addr} {o : Obj}, hp.get? c = some o → c ≠ dx := fun {c o} q => Nat.ne_of_lt (Nat.lt_of_lt_of_le (Heap.lt_size q) dn)
  have na : ∀ {c : Addr}, H c = none → c ≠ a := fun {c} n z => by
    rw [z, e] at n
    cases n
  have U : Un X.fs [] H (upd (upd H dx (exd dx [(f, y)])) a (exo a C (some dx))) hp h' := {
    keep := fun c o q n _ _ => k c o (na n) q
    slot := fun c o q n _ _ => ⟨o.slots, k c o (na n) q⟩
    free := fun c o q n _ => by
      rw [upd_ne (na n), upd_ne (nd q)]
      exact n
    there := fun c o q _ => by
      by_cases hb : c = a
      · exact ⟨_, by rw [hb]; exact hx⟩
      · exact ⟨o, k c o hb q⟩
    tups := fun c xs q => by
      rw [upd_ne (at_ne e q exo_tup), upd_ne (ne_of_none q hnd)]
      exact q
    frzs := fun c o v q => by
      rw [upd_ne (at_ne e q exo_frz), upd_ne (ne_of_none q hnd)]
      exact q
    tbls := fun c ps q => ⟨#[], by
      rw [upd_ne (at_ne e q exo_tbl), upd_ne (ne_of_none q hnd), q]
      simp⟩ }
  refine h dx _ hnd dne (I.un (t' := tk') U fun c o q => ?_)
  by_cases hb : c = a
  · subst hb
    rw [upd_same] at q
    cases q
    exact exo_ok hx
  · rw [upd_ne hb] at q
    by_cases hd : c = dx
    · subst hd
      rw [upd_same] at q
      cases q
      exact exd_ok hn (relO_put (fs := []) ry fun g => True.intro)
    · rw [upd_ne hd] at q
      have far : ∀ c', c' = c ∨ H c' = some (.own c) → c' ≠ a := fun c' hc => hc.elim (fun z => by rw [z]; exact hb) fun z => at_ne e z exo_own
      exact (I.hok c o q).stay (fun c' v hc z => k c' v (far c' hc) z)
        (fun c' hc => by
          rw [upd_ne (at_ne e hc exo_own), upd_ne (ne_of_none hc hnd)]
          exact hc)
        (fun c' xs hc => by
          rw [upd_ne (at_ne e hc exo_tup), upd_ne (ne_of_none hc hnd)]
          exact hc)
/-- B.__init__(self, ..) -/
theorem xinit_ok {us : List Value} {Q : Value → Shared → Prop} (T : XC X.K b C f) (I : Inv X pins σ H s) (e : H a = some (exo a C none)) (hl : us.length ≤ sizeLine) (h : ∀ s', Inv X pins σ H s' → Q .none s') :
    wpAny (model X.prog X.w) A (call (.builtin b.ini) (.ref a :: us)) Q E s := by
  obtain ⟨nm, q, N, bs, bm, sn, sub, ab, col, dd, k0, k1, k2, k3, k5, hC, hbm⟩ := T.cls
  obtain ⟨t1, ho⟩ := exo_at I.hok e
  obtain ⟨hp, g, d, t, os⟩ := s
  refine wpAny_call (init_ok T.ok.init (has_refs T.ok hbm) (I.kIn _ _ hC) ho hl fun h' t2 k hx => ?_)
  have J := I.write (t' := t) (x := a) (e := a) (o := exo a C none) (by rw [e]; exact True.intro) (.inl rfl) k ⟨_, hx⟩ (exo_ok hx)
  have eu : upd H a (exo a C none) = H := by
    funext c
    by_cases hb : c = a
    · rw [hb, upd_same, e]
    · rw [upd_ne hb]
  rw [eu] at J
  exact h _ J
end
/-! ### readings and rules -/
/-- G.__init__(self, ..) -/
def tGI (K : PySem.W.Frag) (b : Bs) (f : Str) (ta : TA) : TE := fun σ H Q => ta σ H fun vs H1 => ∃ (a C : Addr) (ws : List V), vs = .ref a :: ws ∧ ws.length ≤ 1000 ∧ XC K b C f ∧ H1 a = some (exo a C none) ∧ Q .non H1
/-- self.f = e -/
def tXst (K : PySem.W.Frag) (b : Bs) (f : Str) (to te : TE) : TS := fun D σ H => te σ H fun y H1 => to σ H1 fun x H2 => ∃ a C : Addr, x = .ref a ∧ XC K b C f ∧ H2 a = some (exo a C none) ∧
  ∀ dx, H2 dx = none → dx ≠ a → D.nx σ (upd (upd H2 dx (exd dx [(f, y)])) a (exo a C (some dx)))
section
variable {X : Cx} {o e : Expr} {es : List Expr} {to te : TE} {ta : TA} {b : Bs} {f x : Str} {p p' p1 p2 pos : Pos} {G : Addr}
theorem pe_ginit {pl : Sem Bool} (gb : GB X.K b G) (bk : b.Ok) (hg : Gl X x) (hm : X.mg x = some (.ref G)) (ha : PA X (e :: es) ta)
    (hc : eval (.Call (.Attribute (.Name x p1) "__init__" p2) (e :: es) [] pos) X.env = (do
      let ov ← eval (.Name x p1) X.env
      standAt p2.atName
      let (f, first) ← holding [ov] (getMethod ov "__init__" pl)
      callWith pos f first (backTo pos (starEach (e :: es) X.env)) (backToKw pos (keywordEach [] X.env))) := by rfl)
    (hdb : (x == ("__debug__" : Str)) = false := by decide) (he : starEach (e :: es) X.env = (false, eval e X.env) :: starEach es X.env := by rfl) (hpl : (backTo pos (starEach es X.env)).any (·.1) = false := by rfl) :
    PE X (.Call (.Attribute (.Name x p1) "__init__" p2) (e :: es) [] pos) (tGI X.K b f ta) := by
  refine ⟨fun pins s σ H Q I h => ?_⟩
  refine PySem.W.methodCall_KW (ld_glob I hg hm ?_ hdb) hc
  refine PySem.W.method_cls I.kIn gb.ga (PySem.W.cls_value I.kIn gb.rd gb.at_ bk.plain ?_)
  show wpAny _ _ (callWith pos (Value.builtin b.ini) [] (backTo pos (starEach (e :: es) X.env)) []) _ _ _
  refine PyProof.Rows.callWith_method1 (thn (ha.run pos pins _ σ H _ (I.tok _) h) fun us s1 ⟨vs, H1, I1, r1, a, C, ws, ev, hl, T, ea, q⟩ => ?_) he hpl
  subst ev
  cases r1 with
  | @cons _ u0 _ ur ra rw' =>
    obtain rfl : u0 = Value.ref a := ra
    have hlen : ur.length ≤ sizeLine := by
      rw [← Paired.length rw', sizeLine_eq]
      omega
    exact xinit_ok T I1 ea hlen fun s' J => ⟨.non, H1, J, rfl, q⟩
theorem ps_xst (ho : PE X o to) (he : PE X e te) (hs : swapsWith e (some (.Attribute o f p')) pos.line X.env = pure false := by rfl) : PS X (.Assign [.Attribute o f p'] e pos) (tXst X.K b f to te) := by
  refine ⟨fun pins s σ H D I h => ?_⟩
  refine plainObj_wpAny_Assign_Attribute (thn (he.run pins s σ H _ I h) fun v s1 ⟨y, H1, I1, r1, q1⟩ => thn (ho.run pins s1 σ H1 _ I1 q1) fun u s2 ⟨x, H2, I2, r2, a, C, ex, T, ea, q⟩ => ?_) hs
  subst ex
  obtain rfl : u = Value.ref a := r2
  exact xst_new T I2 ea r1 fun dx s' n ne J => ⟨σ, _, J, q dx n ne⟩
/-- the __init__'s promise -/
def spX (K : PySem.W.Frag) (b : Bs) (f : Str) : Sp := fun vs H Q _ => ∃ (a C : Addr) (v : V), vs = [.ref a, v] ∧ XC K b C f ∧ H a = some (exo a C none) ∧ ∀ d, H d = none → d ≠ a → Q .non (upd (upd H d (exd d [(f, v)])) a (exo a C (some d)))
/-- C(e): an error whose own dict holds the field -/
def tMkX (C : Addr) (f : Str) (ta : TE) : L2.St → Hp → XK → Prop := fun σ H Q => ta σ H fun v H1 => ∀ d, H1 d = none → Q (.ref C) (some d) (upd H1 d (.xd [(f, v)]))
theorem pmk_x {CX : CXT} {fI C : Addr} {k : Nat} {fd : FuncData} {ps : List Str} (T : XC X.K b C f) (iC : PySem.W.findIn X.K (.ref C) "__init__" = some (some (.ref fI))) (tI : PySem.W.typeIn X.K (.ref fI) = some (.type "function"))
    (F1 : FnOk X.prog X.w X.K X.mg X.base CX k fI fd ps (spX X.K b f)) (hr : Room (k + 1) X.A) (hb : Binds X.K fd ps []) (hx : Passes CX X (fun _ _ _ => False)) (hg : Gl X x) (hm : X.mg x = some (.ref C)) (ha1 : PA X [e] (tCons te tNil))
    (hdb : (x == ("__debug__" : Str)) = false := by decide) (he : starEach [e] X.env = (false, eval e X.env) :: starEach [] X.env := by rfl) (hpl : (backTo pos (starEach [] X.env)).any (·.1) = false := by rfl) :
    PMk X (.Call (.Name x p) [e] [] pos) (tMkX C f te) := by
  intro pins s σ H Q I h
  obtain ⟨nm, q, N, bs, bm, sn, sub, ab, col, dd, k0, k1, k2, k3, k5, hC, hbm⟩ := T.cls
  obtain ⟨ini, bmB, FB⟩ := T.ok.facts
  refine wpAny_Call_Name_kw (ld_glob I hg hm ?_ hdb)
  have h1 : tCons te tNil σ H (fun vs H1 => match vs with
    | [v] => ∀ d, H1 d = none → Q (.ref C) (some d) (upd H1 d (.xd [(f, v)]))
    | _ => False) := h
  refine PySem.W.callWith_K (h₀ := X.base) I.ok.mod.kin T.kC (thn (ha1.run pos pins s σ H _ I h1) fun us s1 ⟨vs, H1, I1, r1, q1⟩ => ⟨I1.kIn, ?_⟩) he hpl
  cases r1 with
  | nil => exact q1.elim
  | @cons v u vs1 us1 rv rr =>
    cases rr with
    | cons _ _ => exact q1.elim
    | nil =>
      show wpAny _ _ (call (.ref C) [u]) _ _ _
      obtain ⟨hp, g, dr, tk, os⟩ := s1
      have hsz : hp.objs.size ≤ hp.objs.size + 1 := Nat.le_succ _
      have hn : H1 (hp.objs.size + 1) = none := I1.hok.fresh hsz
      have kk : ∀ c o, hp.get? c = some o → ((hp.push (PySem.W.kdv_tup [u])).push (PySem.HandSPX.excO C hp.objs.size)).get? c = some o := fun c o z => Heap.get?_push_of_some _ (Heap.get?_push_of_some _ z)
      have hget : ((hp.push (PySem.W.kdv_tup [u])).push (PySem.HandSPX.excO C hp.objs.size)).get? (hp.objs.size + 1) = some (PySem.HandSPX.excO C hp.objs.size) := by heap_get
      have I2 := I1.laid (t' := tk) (a := hp.objs.size + 1) (o := exo (hp.objs.size + 1) C none) (h' := (hp.push (PySem.W.kdv_tup [u])).push (PySem.HandSPX.excO C hp.objs.size)) kk hsz (exo_ok hget)
      have r2 : Vals [V.ref (hp.objs.size + 1), v] [Value.ref (hp.objs.size + 1), u] := .cons rfl (.cons rv .nil)
      -- what the __init__ leaves is an error's dict
      have hq : spX X.K b f [V.ref (hp.objs.size + 1), v] (upd H1 (hp.objs.size + 1) (exo (hp.objs.size + 1) C none))
          (fun w H2 => w = .non ∧ ∃ (d : Addr), H2 (hp.objs.size + 1) = some (exo (hp.objs.size + 1) C (some d)) ∧ H2 d = some (exd d [(f, v)]) ∧ H1 d = none ∧ Q (.ref C) (some d) (upd (del H2 (hp.objs.size + 1)) d (.xd [(f, v)]))) (fun _ _ _ => False) := by
        refine ⟨_, C, v, rfl, T, upd_same, fun d hd hne => ⟨rfl, d, upd_same, ?_, ?_, ?_⟩⟩
        · rw [upd_ne hne, upd_same]
        · rw [upd_ne hne] at hd
          exact hd
        · rw [upd_ne hne] at hd
          have z := q1 d hd
          have eh : upd (del (upd (upd (upd H1 (hp.objs.size + 1) (exo (hp.objs.size + 1) C none)) d (exd d [(f, v)])) (hp.objs.size + 1) (exo (hp.objs.size + 1) C (some d))) (hp.objs.size + 1)) d (.xd [(f, v)]) = upd H1 d (.xd [(f, v)]) := by
            funext c
            by_cases c1 : c = d
            · rw [c1, upd_same, upd_same]
            · rw [upd_ne c1, upd_ne c1]
              by_cases c2 : c = hp.objs.size + 1
              · rw [c2, del_same, hn]
              · rw [del_ne c2, upd_ne c2, upd_ne c1, upd_ne c2]
          rw [eh]
          exact z
      have hl : ([Value.ref (hp.objs.size + 1), u] ++ []).length = ps.length := (F1.len _ _ _ _ hq)
      refine wpAny_call (call_cls FB (over_refs T.ok hbm) (I1.kIn _ _ hC) (PySem.W.looks_findIn I1.kIn iC) (fun self => PySem.W.bind_fn I1.kIn self tI) (by rw [sizeLine_eq]; show 1 ≤ 16777216; decide)
        (codeAny_mono (F1.run _ X.stack _ _ ⟨[Value.ref (hp.objs.size + 1), u], []⟩ [Value.ref (hp.objs.size + 1), u] _ _ (fun _ _ _ => False) (hr.make C [u] []) (I2.env0.make C [u] []) (hb _ [Value.ref (hp.objs.size + 1), u] I2.kIn hl) r2 hq) fun r s' hq' => ?_))
      cases r with
      | error er => exact hx pins σ _ _ er s' I2 hq'
      | ok fl =>
        cases fl with
        | ret w =>
          obtain ⟨v2, H2, os2, bare2, un2, hok2, rv2, ev, d, ea, ed, hd1, q2⟩ := hq'
          subst ev
          obtain ⟨h2, g2, d2, t2, os'⟩ := s'
          exact ⟨rv2, mk_end (raises_own T.exC T.tyC) I1 hsz kk un2 hok2 os2 bare2 ea ed hd1 q2⟩
        | next => exact False.elim hq'
        | brk => exact False.elim hq'
        | cont => exact False.elim hq'
/-- e.f, e the error that the suite holds (at a; its class cls, its dict d) -/
def tXfld (C : Addr) (f : Str) (a : Addr) (cls : Value) (d : Option Addr) (te : TE) : TE := fun σ H Q => te σ H fun x H1 => x = .ref a ∧ cls = .ref C ∧ ∃ (dd : Addr) (v : V), d = some dd ∧ H1 dd = some (.xd [(f, v)]) ∧ Q v H1
theorem pe_xfld {C a : Addr} {oe : Obj} {cls : Value} {d : Option Addr} {pn : List (Addr × Obj)} (T : XC X.K b C f) (hz : Zc cls d oe) (hf : ∃ vs, oe.data = .fields vs) (he : PE (X.suite a ((a, oe) :: pn)) e te)
    (hb : attributeBase e f X.env (eval e X.env) = eval e X.env := by rfl) : PE (X.suite a ((a, oe) :: pn)) (.Attribute e f pos) (tXfld C f a cls d te) := by
  refine ⟨fun pins s σ H Q I h => ?_⟩
  refine attr_of hb (thn (he.run pins s σ H _ I h) fun u s1 ⟨x, H1, I1, rx, ex, ec, dd, v, ed, ea, q⟩ => ?_)
  subst ex ec ed
  obtain rfl : u = Value.ref a := rx
  obtain ⟨ha, _⟩ := I1.pin (a, oe) (List.mem_append_left _ List.mem_cons_self)
  obtain ⟨vs, hd⟩ := hf
  obtain ⟨mA, hns, hr⟩ := (show ObjOk X.prog X.w H1 s1.heap dd (.xd [(f, v)]) from I1.hok dd _ ea)
  obtain ⟨od, ho, hl⟩ := lookIn_ns hns
  have l : List.lookup f [(f, v)] = some v := by simp [List.lookup]
  obtain ⟨u, hu, ru⟩ := RelO.some_of (v := v) (o := mA f) (by rw [← l]; exact hr f)
  have J : PySem.W.InstAt s1.heap a oe C (some od) := ⟨ha, hz.1, by unfold PySem.W.notCls; rw [hd] <;> rfl, by rw [hz.2]; exact ho⟩
  exact HandSPX.exc_get I1.kIn J T.ga T.gg T.exC (PySem.W.findObj_own T.hdC T.nf rfl (by rw [hl, hu])) (handed_of ru) ⟨v, H1, I1.tok _, ru, q⟩
end
end GX

set_option Elab.async false
set_option linter.all false
set_option maxRecDepth 100000
set_option maxHeartbeats 1000000
/-! GX3: a try with several clauses, each with or without a name. -/
namespace GX
open PySem PySem.Spec PyProof.Rows L2
/-- what is wanted behind a suite that holds a name in slot i: the slot is empty then -/
abbrev gone (D : Ends) (i : Nat) : Ends := { nx := fun σ H => D.nx (σ.set i none) H, rt := D.rt, bk := fun σ H => D.bk (σ.set i none) H, ct := fun σ H => D.ct (σ.set i none) H }
/-- a clause's suite, entered with the error at a -/
def enter (D : Ends) (oi : Option Nat) (t : TS) (a : Addr) (σ : L2.St) (H : Hp) : Prop := match oi with
  | none => t D σ H
  | some i => t (gone D i) (σ.set i (some (.ref a))) H
abbrev Cl : Type := Value × Option Nat × (Addr → Value → Option Addr → TS)
/-- what the clauses wish of an error of the body, one after the other -/
def wMA (K : PySem.W.Frag) (Wout : WX) (D : Ends) : List Cl → WX
  | [] => Wout
  | (c, oi, ts) :: r => fun cls d σ H => ∃ b, PySem.W.exmOne K cls c = some b ∧ (b = true → ∀ a, H a = none → enter D oi (ts a cls d) a σ H) ∧ (b = false → wMA K Wout D r cls d σ H)
inductive HdA (X : Cx) : List ExceptHandler → List Cl → Prop
  | nil : HdA X [] []
  | bare {x : Str} {c : Value} {ts : Addr → Value → Option Addr → TS} {b0 : Stmt} {suite : List Stmt} {np pos' : Pos} {hds : List ExceptHandler} {l : List Cl} (hc : Names X x c)
      (hsu : ∀ (a : Addr) (oe : Obj) (cls : Value) (d : Option Addr) (pn : List (Addr × Obj)), Zc cls d oe → (∃ vs, oe.data = .fields vs) → PSs (X.suite a ((a, oe) :: pn)) (b0 :: suite) (ts a cls d)) (r : HdA X hds l) :
      HdA X (.ExceptHandler (some (.Name x np)) none (b0 :: suite) pos' :: hds) ((c, none, ts) :: l)
  | named {x n : Str} {i : Nat} {c : Value} {ts : Addr → Value → Option Addr → TS} {b0 : Stmt} {suite : List Stmt} {np pos' : Pos} {hds : List ExceptHandler} {l : List Cl} (hi : X.N[i]? = some n) (hln : X.env.kindOf n = some .local) (hc : Names X x c)
      (hsu : ∀ (a : Addr) (oe : Obj) (cls : Value) (d : Option Addr) (pn : List (Addr × Obj)), Zc cls d oe → (∃ vs, oe.data = .fields vs) → PSs (X.suite a ((a, oe) :: pn)) (b0 :: suite) (ts a cls d)) (r : HdA X hds l) :
      HdA X (.ExceptHandler (some (.Name x np)) (some n) (b0 :: suite) pos' :: hds) ((c, some i, ts) :: l)
section
variable {X : Cx} {body : List Stmt} {h0 : ExceptHandler} {hds : List ExceptHandler} {l : List Cl} {pos : Pos} {tb : WX → TS} {Wout : WX}
theorem ps_try_ma (hs : X.stack = X.env :: X.outer) (hf : X.env.frame = some X.env.locals) (hN : X.N.Nodup) (tk : Takes X Wout)
    (hb : ∀ (W : WX) (pn : List (Addr × Obj)) (xe : Value → Shared → Prop), Takes (X.tr pn xe) W → PassesOwn (model X.prog X.w) X.A X.env xe → PSs (X.tr pn xe) body (tb W))
    (hh : HdA X (h0 :: hds) l) : PS X (.Try body (h0 :: hds) [] [] pos) (fun D σ H => tb (wMA X.K Wout D l) D σ H) := by
  refine ⟨fun pins s σ H D I h => ?_⟩
  have ok := I.ok
  have hfr : X.A.frames = some (X.env :: X.outer) := by rw [ok.frames, hs]
  have back : ∀ {f : Flow} {s1 : Shared}, SP (X.tr (X.pn ++ pins) (fun e s₁ => wpAny (model X.prog X.w) X.A (noteFrame e X.env) (fun _ s₂ => wpAny (model X.prog X.w) X.A (setFlight e none) (fun _ s₃ =>
      wpAny (model X.prog X.w) X.A (handleBy e X.env (h0 :: hds)) (SP X pins D) X.xe s₃) X.xe s₂) X.xe s₁)) [] D f s1 → SP X pins D f s1 := fun {f s1} hsp => by
    cases f with
    | next =>
      obtain ⟨σ1, H1, J, q⟩ := hsp
      exact ⟨σ1, H1, J.ofTry ok, q⟩
    | brk =>
      obtain ⟨σ1, H1, J, q⟩ := hsp
      exact ⟨σ1, H1, J.ofTry ok, q⟩
    | cont =>
      obtain ⟨σ1, H1, J, q⟩ := hsp
      exact ⟨σ1, H1, J.ofTry ok, q⟩
    | ret u =>
      obtain ⟨v, σ1, H1, J, r, q⟩ := hsp
      exact ⟨v, σ1, H1, J.ofTry ok, r, q⟩
  refine wpAny_Try_except ?_
  refine wpAny_mono ((hb (wMA X.K Wout D l) (X.pn ++ pins) _ (fun u s' xx => ?_) PassesOwn.looking).run [] s σ H D (I.toTry _) h) (fun f s1 hsp => ?_) (fun e s1 he => he)
  · obtain ⟨a, B, sI, pins', σ', H', cls, d, rfl, J', nb, up, sky, na, os, ag, w⟩ := xx
    have J : Inv X pins σ' H' sI := J'.ofTry ok
    have sky' : Sky B (X.env :: X.outer) a (Zc cls d) X.env.locals s'.heap := by
      rw [← hs]
      exact sky
    show wpAny (model X.prog X.w) X.A (noteFrame (.ref a) X.env) _ _ _
    refine Sky.land Zc.steady hfr hf sky' fun h3 fl3 up3 => ?_
    have J3 : Inv X pins σ' H' { s' with heap := h3 } := J.landed nb fl3.1 (up.trans up3) os ag
    obtain ⟨oe3, vs3, he3, hz3, hd3⟩ := fl3.there
    have nfr : a ∉ frs (X.env :: X.outer) := fun hm => by
      obtain ⟨_, o', e', hnf⟩ := fl3.2.2.1.mem hm
      rw [he3] at e'
      cases e'
      exact hnf _ hd3
    have nL : a ≠ X.env.locals := fun z => nfr (List.mem_filterMap.mpr ⟨X.env, List.mem_cons_self, by rw [hf, z]⟩)
    have nF : a ∉ X.fs := fun hm => by
      obtain ⟨e, he, q⟩ := List.mem_filterMap.mp hm
      exact nfr (List.mem_filterMap.mpr ⟨e, List.mem_cons_of_mem _ he, q⟩)
    have S3 := J3.suite he3 hd3 na nL nF
    -- the class named by a clause
    have test : ∀ {x : Str} {np : Pos} {c : Value} {Q : Value → Shared → Prop} {E : Value → Shared → Prop}, Names X x c → Q c { s' with heap := h3 } → wpAny (model X.prog X.w) (X.A.mark (some (.ref a))) (eval (.Name x np) X.env) Q E { s' with heap := h3 } := fun {x np c Q E} hc q => by
      obtain ⟨hg, hdbg, hm | ⟨hm, hv, hnn⟩⟩ := hc
      · exact ld_glob (X := X.suite a ((a, oe3) :: (X.pn ++ pins))) S3 hg hm q hdbg
      · exact ld_blt (X := X.suite a ((a, oe3) :: (X.pn ++ pins))) S3 hg hm hv q hnn hdbg
    have LT : PySem.W.Looks (model X.prog X.w) h3 (typeOf (.ref a)) cls := fun A Q E s k q => wpAny_typeOf_ref (k _ _ he3) (by rw [hz3.1]; exact q)
    have go : ∀ {hds' : List ExceptHandler} {l' : List Cl}, HdA X hds' l' → wMA X.K Wout D l' cls d σ' H' → wpAny (model X.prog X.w) X.A (handleBy (.ref a) X.env hds') (SP X pins D) X.xe { s' with heap := h3 } := by
      intro hds' l' hk
      induction hk with
      | nil =>
        intro w
        refine wpAny_handleBy_nil ?_
        obtain ⟨k1, k2, k3, oe, vs, T, oT, ts', he, hz, hd, h1, hr⟩ := id fl3
        unfold PySem.passOn
        refine wpAny_bind (wpAny_field he hd h1 ?_)
        rw [if_neg (show ¬ ((Value.ref T == Value.none) = true) from by simp)]
        have fin : wpAny (model X.prog X.w) X.A (setFlight (.ref a) X.env.frame) (fun _ s4 => wpAny (model X.prog X.w) X.A (throw (.ref a) : Sem Flow) (SP X pins D) X.xe s4) X.xe { s' with heap := h3 } := by
          rw [hf]
          refine HandSPX.setFlight_upZ fl3 fun h4 hh4 up4 => wpAny_throw (tk _ _ ?_)
          exact ⟨a, B, sI, pins, σ', H', cls, d, rfl, J, nb, (up.trans up3).trans up4, .inr (.inr (by rw [hs]; exact hh4)), na, os, ag, w⟩
        first
          | exact wpAny_bind (wpAny_pure (wpAny_bind fin))
          | exact wpAny_bind fin
      | @bare x c ts b0 suite np pos' hds2 l2 hc hsu r ih =>
        intro w
        obtain ⟨b, hb1, hyes, hno⟩ := w
        refine wpAny_handleBy_cons (codeAny_handlers_test ?_) (by intro q; cases q)
        refine test hc ((PySem.W.exm_one (M := model X.prog X.w) (J3.kIn) LT hb1).here ?_)
        cases b with
        | true =>
          refine codeAny_handlers_suite ?_
          refine HandSPX.lands_againZ fl3 fun h4 fl4 up4 => ?_
          have J4 : Inv X pins σ' H' { s' with heap := h4 } := J.landed nb fl4.1 ((up.trans up3).trans up4) os ag
          obtain ⟨oe4, vs4, he4, hz4, hd4⟩ := fl4.there
          have S4 := J4.suite he4 hd4 na nL nF
          refine wpAny_mono ((hsu a oe4 cls d (X.pn ++ pins) hz4 ⟨_, hd4⟩).run [] _ _ H' _ S4 (hyes rfl a na)) (fun f s6 hsp => ?_) (fun _ _ z => False.elim z)
          cases f with
          | next =>
            obtain ⟨σ6, H6, S6, q6⟩ := hsp
            exact ⟨_, _, S6.unsuite ok, q6⟩
          | brk =>
            obtain ⟨σ6, H6, S6, q6⟩ := hsp
            exact ⟨_, _, S6.unsuite ok, q6⟩
          | cont =>
            obtain ⟨σ6, H6, S6, q6⟩ := hsp
            exact ⟨_, _, S6.unsuite ok, q6⟩
          | ret u =>
            obtain ⟨v6, σ6, H6, S6, r6, q6⟩ := hsp
            exact ⟨_, _, _, S6.unsuite ok, r6, q6⟩
        | false =>
          show wpAny _ X.A (handleBy (.ref a) X.env hds2) _ _ _
          exact ih (hno rfl)
      | @named x n i c ts b0 suite np pos' hds2 l2 hi hln hc hsu r ih =>
        intro w
        obtain ⟨b, hb1, hyes, hno⟩ := w
        refine wpAny_handleBy_cons (codeAny_handlers_test ?_) (by intro q; cases q)
        refine test hc ((PySem.W.exm_one (M := model X.prog X.w) (J3.kIn) LT hb1).here ?_)
        cases b with
        | true =>
          refine codeAny_handlers_suite_as ?_
          refine HandSPX.lands_againZ fl3 fun h4 fl4 up4 => ?_
          have J4 : Inv X pins σ' H' { s' with heap := h4 } := J.landed nb fl4.1 ((up.trans up3).trans up4) os ag
          obtain ⟨oe4, vs4, he4, hz4, hd4⟩ := fl4.there
          have S4 := J4.suite he4 hd4 na nL nF
          refine store_ok (X := X.suite a ((a, oe4) :: (X.pn ++ pins))) (v := .ref a) S4 hN hi (.inl hln) rfl (fun s5 S5 => ?_) (.inr hln)
          have hent := hyes rfl a na
          refine wpAny_mono ((hsu a oe4 cls d (X.pn ++ pins) hz4 ⟨_, hd4⟩).run [] s5 _ H' _ S5 hent) (fun f s6 hsp => ?_) (fun _ _ z => False.elim z)
          have end_ : ∀ {σ6 : L2.St} {H6 : Hp} {Q : Shared → Prop}, Inv (X.suite a ((a, oe4) :: (X.pn ++ pins))) [] σ6 H6 s6 → (∀ s7, Inv X pins (σ6.set i none) H6 s7 → Q s7) →
              wpAny (model X.prog X.w) X.A (do bindName X.env n .none; unbindBehindTheSuite X.env n pos') (fun _ s7 => Q s7) X.xe s6 := fun {σ6 H6 Q} S6 hq => gone_ok (S6.unsuite ok) hN hi hln hq
          cases f with
          | next =>
            obtain ⟨σ6, H6, S6, q6⟩ := hsp
            exact end_ S6 fun s7 J7 => ⟨_, _, J7, q6⟩
          | brk =>
            obtain ⟨σ6, H6, S6, q6⟩ := hsp
            exact end_ S6 fun s7 J7 => ⟨_, _, J7, q6⟩
          | cont =>
            obtain ⟨σ6, H6, S6, q6⟩ := hsp
            exact end_ S6 fun s7 J7 => ⟨_, _, J7, q6⟩
          | ret u =>
            obtain ⟨v6, σ6, H6, S6, r6, q6⟩ := hsp
            exact end_ S6 fun s7 J7 => ⟨_, _, _, J7, r6, q6⟩
        | false =>
          show wpAny _ X.A (handleBy (.ref a) X.env hds2) _ _ _
          exact ih (hno rfl)
    exact go hh w
  · have q := back hsp
    cases f with
    | next => exact wpAny_execs_nil q
    | brk => exact q
    | cont => exact q
    | ret u => exact q
end
end GX

set_option Elab.async false
set_option linter.all false
set_option maxRecDepth 100000
set_option maxHeartbeats 1000000
/-! RP: plain data, and what stands for it in the heap; defs by name. -/
namespace RP
open PySem PySem.Spec PyProof.Rows L2
/-! ### plain data -/
inductive D where
  | non | bl (b : Bool) | int (i : Int) | str (x : Str) | lst (l : List D) | tup (l : List D) | dct (l : List (Str × D))
mutual
inductive Rep (K : PySem.W.Frag) (H : Hp) : V → D → Prop where
  | non : Rep K H .non .non
  | bl (b : Bool) : Rep K H (.bl b) (.bl b)
  | int (i : Int) : Rep K H (.int i) (.int i)
  | str (x : Str) (h : x.length ≤ sizeLine) : Rep K H (.str x) (.str x)
  | lst {a : Addr} {vs : List V} {ds : List D} (h : SqL K H a vs) (r : Reps K H vs ds) : Rep K H (.ref a) (.lst ds)
  | tup {a : Addr} {vs : List V} {ds : List D} (h : SqT K H a vs) (r : Reps K H vs ds) : Rep K H (.ref a) (.tup ds)
  | dct {a : Addr} {kvs : List (Key × V)} {ds : List (Str × D)} (h : Rd H a (.dK kvs)) (r : RepK K H kvs ds) : Rep K H (.ref a) (.dct ds)
inductive Reps (K : PySem.W.Frag) (H : Hp) : List V → List D → Prop where
  | nil : Reps K H [] []
  | cons {v : V} {d : D} {vs : List V} {ds : List D} (h : Rep K H v d) (t : Reps K H vs ds) : Reps K H (v :: vs) (d :: ds)
inductive RepK (K : PySem.W.Frag) (H : Hp) : List (Key × V) → List (Str × D) → Prop where
  | nil : RepK K H [] []
  | cons {x : Str} {v : V} {d : D} {kvs : List (Key × V)} {ds : List (Str × D)} (hx : x.length ≤ sizeLine) (h : Rep K H v d) (t : RepK K H kvs ds) : RepK K H ((.inr x, v) :: kvs) ((x, d) :: ds)
end
/-! ### heaps that know the same -/
/-- what is to be read in R is to be read in H -/
def Lq (R H : Hp) : Prop := ∀ a u, Rd R a u → Rd H a u
theorem Lq.refl (H : Hp) : Lq H H := fun _ _ h => h
theorem Lq.trans {A B C : Hp} (h : Lq A B) (k : Lq B C) : Lq A C := fun a u r => k a u (h a u r)
theorem Lq.of {R H : Hp} (s : Same R H) : Lq R H := fun a u r => by
  rcases r with r | ⟨o, r⟩
  · exact .inl (s a _ r)
  · exact .inr ⟨o, s a _ r⟩
theorem Lq.seq {K : PySem.W.Frag} {R H : Hp} (l : Lq R H) {a : Addr} {xs : List V} (h : SqL K R a xs) : SqL K H a xs := h.elim (fun z => .inl (l _ _ z)) .inr
theorem Lq.tup {K : PySem.W.Frag} {R H : Hp} (l : Lq R H) {a : Addr} {xs : List V} (h : SqT K R a xs) : SqT K H a xs := h.elim (fun z => .inl (l _ _ z)) .inr
mutual
theorem Rep.mono {K : PySem.W.Frag} {R H : Hp} (l : Lq R H) : ∀ {v : V} {d : D}, Rep K R v d → Rep K H v d
  | _, _, .non => .non
  | _, _, .bl b => .bl b
  | _, _, .int i => .int i
  | _, _, .str x h => .str x h
  | _, _, .lst h r => .lst (l.seq h) (Reps.mono l r)
  | _, _, .tup h r => .tup (l.tup h) (Reps.mono l r)
  | _, _, .dct h r => .dct (l _ _ h) (RepK.mono l r)
theorem Reps.mono {K : PySem.W.Frag} {R H : Hp} (l : Lq R H) : ∀ {vs : List V} {ds : List D}, Reps K R vs ds → Reps K H vs ds
  | _, _, .nil => .nil
  | _, _, .cons h t => .cons (Rep.mono l h) (Reps.mono l t)
theorem RepK.mono {K : PySem.W.Frag} {R H : Hp} (l : Lq R H) : ∀ {kvs : List (Key × V)} {ds : List (Str × D)}, RepK K R kvs ds → RepK K H kvs ds
  | _, _, .nil => .nil
  | _, _, .cons hx h t => .cons hx (Rep.mono l h) (RepK.mono l t)
end
theorem Rep.same {K : PySem.W.Frag} {R H : Hp} (s : Same R H) {v : V} {d : D} (r : Rep K R v d) : Rep K H v d := r.mono (Lq.of s)
theorem Reps.same {K : PySem.W.Frag} {R H : Hp} (s : Same R H) {v : List V} {d : List D} (r : Reps K R v d) : Reps K H v d := r.mono (Lq.of s)
theorem RepK.same {K : PySem.W.Frag} {R H : Hp} (s : Same R H) {v : List (Key × V)} {d : List (Str × D)} (r : RepK K R v d) : RepK K H v d := r.mono (Lq.of s)
/-- a dict is locked, and let go -/
theorem Lq.lock {R H : Hp} (l : Lq R H) {d : Addr} {u : HO} {o : Obj} (h : H d = some u) (m : Mut (some u)) : Lq R (upd H d (.frz o u)) := fun a v r => by
  have q := l a v r
  by_cases e : a = d
  · subst e
    rcases q with q | ⟨o', q⟩
    · rw [h] at q
      cases q
      exact .inr ⟨o, upd_same⟩
    · rw [h] at q
      cases q
      exact m.elim
  · rcases q with q | ⟨o', q⟩
    · exact .inl (by rw [upd_ne e]; exact q)
    · exact .inr ⟨o', by rw [upd_ne e]; exact q⟩
theorem same_new {H : Hp} {p : Addr} {o : HO} (h : H p = none) : Same H (upd H p o) := fun b u e => by
  rw [upd_ne (ne_of_none e h)]
  exact e
/-- what was locked stands again -/
theorem _root_.L2.Same.unlock {H H' : Hp} {d : Addr} {u : HO} {o : Obj} (h : H d = some u) (s : Same (upd H d (.frz o u)) H') : Same H (upd H' d u) := fun b v e => by
  by_cases q : b = d
  · subst q
    rw [h] at e
    cases e
    exact upd_same
  · rw [upd_ne q]
    exact s b v (by rw [upd_ne q]; exact e)
/-! ### known parts -/
/-- a part of the heap that holds no locked thing -/
def Plain (R : Hp) : Prop := ∀ a o u, R a ≠ some (.frz o u)
theorem Plain.put {R : Hp} (p : Plain R) {a : Addr} {o : HO} (h : ∀ ob u, o ≠ .frz ob u) : Plain (upd R a o) := fun b ob u e => by
  by_cases q : b = a
  · subst q
    rw [upd_same] at e
    exact h ob u (Option.some.inj e)
  · rw [upd_ne q] at e
    exact p b ob u e
theorem Plain.none : Plain fun _ => none := fun _ _ _ e => nomatch e
theorem Plain.rd {R : Hp} (p : Plain R) {a : Addr} {u : HO} (r : Rd R a u) : R a = some u := by
  rcases r with r | ⟨o, r⟩
  · exact r
  · exact (p _ _ _ r).elim
theorem _root_.L2.Same.out {R H : Hp} (s : Same R H) {p : Addr} (h : H p = none) : R p = none := s.free h
theorem _root_.L2.Same.put {R H : Hp} (s : Same R H) {p : Addr} {o : HO} : Same (upd R p o) (upd H p o) := fun b u e => by
  by_cases q : b = p
  · subst q
    rw [upd_same] at e ⊢
    exact e
  · rw [upd_ne q] at e ⊢
    exact s b u e
theorem _root_.L2.Same.skip {R H : Hp} (s : Same R H) {p : Addr} {o : HO} (h : R p = none) : Same R (upd H p o) := fun b u e => by
  rw [upd_ne (fun q => by rw [q, h] at e; cases e)]
  exact s b u e
/-- all but what stands at b is as it was -/
def But (b : Addr) (H H' : Hp) : Prop := ∀ a o, a ≠ b → H a = some o → H' a = some o
theorem But.refl (b : Addr) (H : Hp) : But b H H := fun _ _ _ h => h
theorem But.trans {b : Addr} {A B C : Hp} (h : But b A B) (k : But b B C) : But b A C := fun a o n e => k a o n (h a o n e)
theorem But.of {b : Addr} {H H' : Hp} (s : Same H H') : But b H H' := fun a o _ e => s a o e
theorem But.same {b : Addr} {R H H' : Hp} (k : But b H H') (n : R b = none) (s : Same R H) : Same R H' := fun a o e => k a o (fun q => by rw [q, n] at e; cases e) (s a o e)
theorem But.free {b : Addr} {H H' : Hp} (k : But b H H') {p : Addr} (n : p ≠ b) (h : H' p = none) : H p = none := by
  cases q : H p with
  | none => rfl
  | some o =>
    rw [k p o n q] at h
    cases h
theorem But.write {b : Addr} {H : Hp} {o : HO} : But b H (upd H b o) := fun a u n e => by
  rw [upd_ne n]
  exact e
/-- R2 knows besides R only what is new behind H -/
structure Grow (H R R2 : Hp) : Prop where
  same : Same R R2
  old : ∀ a, H a ≠ none → R2 a = R a
theorem Grow.refl (H R : Hp) : Grow H R R := ⟨Same.refl R, fun _ _ => rfl⟩
theorem Grow.trans {H H1 R R1 R2 : Hp} (a : Grow H R R1) (b : Grow H1 R1 R2) (k : ∀ x, H x ≠ none → H1 x ≠ none) : Grow H R R2 := ⟨a.same.trans b.same, fun x h => (b.old x (k x h)).trans (a.old x h)⟩
theorem Grow.put {H R R1 : Hp} (a : Grow H R R1) {p : Addr} {o : HO} (h : H p = none) (n : R1 p = none) : Grow H R (upd R1 p o) := ⟨a.same.trans (same_new n), fun x hx => by
  rw [upd_ne (fun q => hx (by rw [q]; exact h))]
  exact a.old x hx⟩
theorem Grow.off {H R R2 : Hp} (g : Grow H R R2) {b : Addr} {o : HO} (h : H b = some o) (n : R b = none) : R2 b = none := (g.old b (by rw [h]; exact fun z => nomatch z)).trans n
theorem Reps.len {K : PySem.W.Frag} {R : Hp} : ∀ {zs : List V} {ds : List D}, Reps K R zs ds → zs.length = ds.length
  | _, _, .nil => rfl
  | _, _, .cons _ t => by rw [List.length_cons, List.length_cons, t.len]
theorem Reps.get {K : PySem.W.Frag} {R : Hp} : ∀ {zs : List V} {ds : List D} {i : Nat} {z : V}, Reps K R zs ds → zs[i]? = some z → ∃ d, ds[i]? = some d ∧ Rep K R z d
  | _, _, _, _, .nil, h => nomatch h
  | _, _, 0, _, .cons h _, e => by
    cases e
    exact ⟨_, rfl, h⟩
  | _, _, i + 1, _, .cons _ t, e => t.get (i := i) e
theorem Reps.at {K : PySem.W.Frag} {R : Hp} : ∀ {zs : List V} {ds : List D} {i : Nat} {d : D}, Reps K R zs ds → ds[i]? = some d → ∃ z, zs[i]? = some z ∧ Rep K R z d
  | _, _, _, _, .nil, h => nomatch h
  | _, _, 0, _, .cons h _, e => by
    cases e
    exact ⟨_, rfl, h⟩
  | _, _, i + 1, _, .cons _ t, e => t.at (i := i) e
theorem RepK.len {K : PySem.W.Frag} {R : Hp} : ∀ {zs : List (Key × V)} {ds : List (Str × D)}, RepK K R zs ds → zs.length = ds.length
  | _, _, .nil => rfl
  | _, _, .cons _ _ t => by rw [List.length_cons, List.length_cons, t.len]
theorem RepK.get {K : PySem.W.Frag} {R : Hp} : ∀ {zs : List (Key × V)} {ds : List (Str × D)} {i : Nat} {k : Key} {z : V}, RepK K R zs ds → zs[i]? = some (k, z) → ∃ x d, ds[i]? = some (x, d) ∧ k = .inr x ∧ x.length ≤ sizeLine ∧ Rep K R z d
  | _, _, _, _, _, .nil, h => nomatch h
  | _, _, 0, _, _, .cons hx h _, e => by
    cases e
    exact ⟨_, _, rfl, rfl, hx, h⟩
  | _, _, i + 1, _, _, .cons _ _ t, e => t.get (i := i) e
/-! ### data by its kind -/
def D.ty : D → String
  | .non => "NoneType"
  | .bl _ => "bool"
  | .int _ => "int"
  | .str _ => "str"
  | .lst _ => "list"
  | .tup _ => "tuple"
  | .dct _ => "dict"
theorem sqL_ty {K : PySem.W.Frag} {H : Hp} {a : Addr} {xs : List V} (h : SqL K H a xs) : TyX K H (.ref a) (.type "list") := by
  rcases h with (h | ⟨o, h⟩) | ⟨o, its, n, hk, hc, _⟩
  · exact .base (.lst h)
  · exact .base (.frz h)
  · exact .kList hk hc
theorem sqT_ty {K : PySem.W.Frag} {H : Hp} {a : Addr} {xs : List V} (h : SqT K H a xs) : TyX K H (.ref a) (.type "tuple") := by
  rcases h with (h | ⟨o, h⟩) | ⟨o, its, n, hk, hc, _⟩
  · exact .base (.tup h)
  · exact .fTuple h
  · exact .kTuple hk hc
theorem Rep.tyx {K : PySem.W.Frag} {H : Hp} {v : V} {d : D} (r : Rep K H v d) : TyX K H v (.type d.ty) := by
  cases r with
  | non => exact .base .non
  | bl b => exact .base (.bl b)
  | int i => exact .base (.int i)
  | str x _ => exact .base (.str x)
  | lst h _ => exact sqL_ty h
  | tup h _ => exact sqT_ty h
  | dct h _ =>
    rcases h with h | ⟨o, h⟩
    · exact .base (.dK h)
    · exact .fDict h
/-- isinstance of data -/
def D.isa (d : D) (T : String) : Bool := decide (d.ty = T) || (decide (d.ty = "bool") && decide (T = "int"))
theorem isa_kit {K : PySem.W.Frag} (d : D) {T : String} (h : T ∈ ["int", "bool", "str", "list", "tuple", "dict"]) : PySem.W.kitOne K (.type d.ty) (.type T) = some (d.isa T) := by
  have key : ∀ t ∈ ["NoneType", "bool", "int", "str", "list", "tuple", "dict"], ∀ T ∈ ["int", "bool", "str", "list", "tuple", "dict"], kitB t T = some (decide (t = T) || (decide (t = "bool") && decide (T = "int"))) := by decide +kernel
  have ht : d.ty ∈ ["NoneType", "bool", "int", "str", "list", "tuple", "dict"] := by cases d <;> simp [D.ty]
  exact kit_ty (key _ ht _ h)
/-! ### readings -/
/-- a reading that is answered by a lemma, never unfolded on the way -/
structure Box (p : Prop) : Prop where
  out : p
theorem call_box {X : Cx} {f : Value} {r : List V → Hp → VK → Prop} (h : CallR X f r) : CallR X f (fun xs H Q => Box (r xs H Q)) := fun pins s σ H xs us Q I rv q => h pins s σ H xs us Q I rv q.out
theorem call_is {X : Cx} : CallR X (.builtin "isinstance") (fun xs H Q => Box (rIsi X.K xs H Q)) := call_box call_isi
theorem call_isLT {X : Cx} : CallR X (.builtin "isinstance") (fun xs H Q => Box (rIsiT X.K xs H Q)) := call_box call_isiT
section
variable {K : PySem.W.Frag} {H : Hp} {v : V} {d : D} {Q : VK}
/-- isinstance(x, T) -/
theorem rd_isi {T : String} (r : Rep K H v d) (h : Q (.bl (d.isa T)) H) (hT : T ∈ ["int", "bool", "str", "list", "tuple", "dict"] := by decide) : Box (rIsi K [v, .ty T] H Q) := ⟨_, _, _, _, _, rfl, .ty T, r.tyx, isa_kit d hT, h⟩
/-- isinstance(x, (list, tuple)), the tuple just laid -/
theorem rd_isiLT {p : Addr} (r : Rep K H v d) (hp : H p = none) (h : Q (.bl (d.isa "list" || d.isa "tuple")) (upd H p (.tup [.ty "list", .ty "tuple"]))) : Box (rIsiT K [v, .ref p] (upd H p (.tup [.ty "list", .ty "tuple"])) Q) := by
  have r2 := r.same (same_new (o := .tup [.ty "list", .ty "tuple"]) hp)
  have e : PySem.W.kitAny K (.type d.ty) [.type "list", .type "tuple"] = some (d.isa "list" || d.isa "tuple") := by
    have h1 := isa_kit (K := K) d (T := "list") (by decide)
    have h2 := isa_kit (K := K) d (T := "tuple") (by decide)
    refine kitAny_cons h1 (fun z => ?_) fun z => by rw [z]; rfl
    rw [z]
    refine kitAny_cons h2 (fun z2 => ?_) fun z2 => by rw [z2]; rfl
    rw [z2]
    exact kitAny_nil
  exact ⟨_, _, _, _, _, _, rfl, upd_same, .cons (.ty _) (.cons (.ty _) .nil), r2.tyx, e, h⟩
end
theorem ite_dec {A B : Prop} {c : Bool} (h1 : c = true → A) (h2 : c = false → B) : if c = true then A else B := by
  cases c with
  | true => exact iteT (h1 rfl)
  | false => exact iteF (h2 rfl)
end RP

set_option Elab.async false
set_option linter.all false
set_option maxRecDepth 100000
set_option maxHeartbeats 1000000
/-! DF: a def of the top by its name, its calls; short readings. -/
namespace RP
open PySem PySem.Spec PyProof.Rows L2
/-- the def that the module calls x keeps the promise sp, by at most level k -/
def Def (P : Program) (w : World) (K : PySem.W.Frag) (mg : Str → Option Value) (base : Heap) (k : Nat) (x : Str) (ps : List Str) (sp : Sp) : Prop :=
  ∃ (f : Addr) (fd : FuncData), mg x = some (.ref f) ∧ PySem.W.keepIn K (.ref f) = true ∧ Binds K fd ps [] ∧ FnOk P w K mg base (L2.CX P w) k f fd ps sp
/-- where a def of the text stands -/
structure At (K : PySem.W.Frag) (mg : Str → Option Value) (x : Str) (st : Stmt) (f : Addr) (fd : FuncData) : Prop where
  fn : FunD K x x (defArgs st) (defBody st) (defScope st) [] [] f fd
  mg : mg x = some (.ref f)
section
variable {P : Program} {w : World} {K : PySem.W.Frag} {mg : Str → Option Value} {base : Heap}
theorem Def.mono {j k : Nat} {x : Str} {ps : List Str} {sp : Sp} (D : Def P w K mg base j x ps sp) (h : j ≤ k) : Def P w K mg base k x ps sp := by
  obtain ⟨f, fd, a, b, c, d⟩ := D
  exact ⟨f, fd, a, b, c, d.mono h⟩
theorem Def.imp {k : Nat} {x : Str} {ps : List Str} {sp sp' : Sp} (D : Def P w K mg base k x ps sp) (h : ∀ vs H Q E, sp' vs H Q E → sp vs H Q E) : Def P w K mg base k x ps sp' := by
  obtain ⟨f, fd, a, b, c, d⟩ := D
  exact ⟨f, fd, a, b, c, d.imp h⟩
/-- THE RULE for a def of the text -/
theorem Def.mk {x : Str} {st : Stmt} {f : Addr} {fd : FuncData} {N ps : List Str} {k : Nat} {sp : Sp} (F : At K mg x st f fd) (S : FnScope N ps (defScope st))
    (hb : ∀ (kV doc pm : Value) (an : Option Addr) (cdv ct : Value) (us : List Value), us.length = ps.length → bindArgs (PySem.W.fnOf x x (defArgs st) (defBody st) (defScope st) .none kV doc pm an cdv ct) ⟨us, []⟩ = pure (ps.zip us))
    (len : ∀ vs H Q E, sp vs H Q E → vs.length = ps.length)
    (hbody : ∀ (cdv : Value) (A : Around) (outer : List Env) (s : Shared) (H : Hp) (vs : List V) (Q : VK) (E : XK), Room k (A.deeper (envOfC x (defScope st) s.heap.objs.size f cdv)) → sp vs H Q E →
      ∃ t, PSs (cxOf (L2.CX P w) P w K mg base N x (defScope st) f cdv A outer s H E) (defBody st) t ∧ t { nx := fun _ H' => Q .non H', rt := Q } (start N vs) H) : Def P w K mg base (k + 1) x ps sp :=
  ⟨f, fd, F.mg, F.fn.kp, F.fn.bindsN hb, F.fn.ok S len hbody⟩
end
section
variable {X : Cx} {k : Nat} {x : Str} {ps : List Str} {sp : Sp} {p pos : Pos} {e : Expr} {es : List Expr} {t : TA} {W : WX}
/-- a call of a def that lets nothing out here -/
def tD (sp : Sp) (t : TA) : TE := fun σ H Q => t σ H fun vs H1 => sp vs H1 Q E0
theorem pe_d (D : Def X.prog X.w X.K X.mg X.base k x ps sp) (hr : Room k X.A) (hg : Gl X x) (ha : PA X (e :: es) t) (hdb : (x == ("__debug__" : Str)) = false := by decide)
    (he : starEach (e :: es) X.env = (false, eval e X.env) :: starEach es X.env := by rfl) (hpl : (backTo pos (starEach es X.env)).any (·.1) = false := by rfl) : PE X (.Call (.Name x p) (e :: es) [] pos) (tD sp t) := by
  obtain ⟨f, fd, hm, hk, hb, F⟩ := D
  have z := pe_call (dvs := []) (E := E0) (p := p) (pos := pos) F hr hg hm hk hb .nil passL ha hdb he hpl
  refine ⟨fun pins s σ H Q I h => z.run pins s σ H Q I ?_⟩
  have eq : ∀ vs : List V, vs ++ [] = vs := List.append_nil
  show t σ H fun vs H1 => sp (vs ++ []) H1 Q E0
  simp only [List.append_nil]
  exact h
/-- a call whose errors go where W says -/
def tDX (sp : Sp) (W : WX) (t : TA) : TE := fun σ H Q => t σ H fun vs H1 => sp vs H1 Q fun cls d H' => W cls d σ H'
theorem pe_dX (D : Def X.prog X.w X.K X.mg X.base k x ps sp) (hr : Room k X.A) (hg : Gl X x) (tk : Takes X W) (ha : PA X (e :: es) t) (hdb : (x == ("__debug__" : Str)) = false := by decide)
    (he : starEach (e :: es) X.env = (false, eval e X.env) :: starEach es X.env := by rfl) (hpl : (backTo pos (starEach es X.env)).any (·.1) = false := by rfl) : PE X (.Call (.Name x p) (e :: es) [] pos) (tDX sp W t) := by
  obtain ⟨f, fd, hm, hk, hb, F⟩ := D
  exact pe_callS (E := WE W) F hr hg hm hk hb (passAt tk) ha hdb he hpl
end
/-- in a def's own body: what is let out is what the def lets out -/
abbrev tkB {P : Program} {w : World} {K : PySem.W.Frag} {mg : Str → Option Value} {base : Heap} {N : List Str} {x : Str} {sc : Scope} {f : Addr} {cdv : Value} {A : Around} {outer : List Env} {s : Shared} {H : Hp} {E : XK} :
    Takes (cxOf (L2.CX P w) P w K mg base N x sc f cdv A outer s H E) (fun cls d _ H => E cls d H) := takes_of rfl rfl rfl rfl
end RP
namespace RP
open PySem PySem.Spec PyProof.Rows L2
section
variable {X : Cx} {x : Str} {pos : Pos}
/-- a module's number, a module's text -/
theorem pe_gi {i : Int} (hg : Gl X x) (h : ∃ t, X.mg x = some (.int i t)) (hd : (x == ("__debug__" : Str)) = false := by decide) : PE X (.Name x pos) (tC (.int i)) := by
  obtain ⟨t, e⟩ := h
  exact pe_glob hg e ⟨t, rfl⟩ hd
theorem pe_gs {z : Str} (hg : Gl X x) (h : ∃ t, X.mg x = some (.str z t)) (hd : (x == ("__debug__" : Str)) = false := by decide) : PE X (.Name x pos) (tC (.str z)) := by
  obtain ⟨t, e⟩ := h
  exact pe_glob hg e ⟨t, rfl⟩ hd
end
end RP

set_option Elab.async false
set_option linter.all false
set_option maxRecDepth 100000
set_option maxHeartbeats 1000000
/-! KR: the layer's rules with the written part K named, so that they serve in a comprehension's block too. -/
namespace RP
open PySem PySem.Spec PyProof.Rows L2
section
variable {X : Cx} (K : PySem.W.Frag) (h : X.K = K)
include h
theorem kix_list : IxR X (rIxL K) := by subst h; exact ix_list
theorem kix_tup : IxR X (rIxT K) := by subst h; exact ix_tup
theorem ksl_list : SlR X (rSlL K) := by subst h; exact sl_list
theorem ksl_tup : SlR X (rSlA K) := by subst h; exact sl_tupA
theorem kcall_len_seq : CallR X (.builtin "len") (fun xs H Q => ∃ p ys, xs = [.ref p] ∧ (SqL K H p ys ∨ SqT K H p ys) ∧ Q (.int ys.length) H) := by subst h; exact call_len_seq
theorem kcall_len : CallR X (.builtin "len") (fun xs H Q => ∃ x n, xs = [x] ∧ LenV K x H n ∧ Q (.int n) H) := by subst h; exact call_len
theorem kcall_list_of : CallR X (.type "list") (fun xs H Q => ∃ p ys, xs = [.ref p] ∧ (SqL K H p ys ∨ SqT K H p ys) ∧ ∀ l, H l = none → Q (.ref l) (upd H l (.lst ys))) := by subst h; exact call_list_of
theorem kcall_tuple_of : CallR X (.type "tuple") (fun xs H Q => ∃ p ys, xs = [.ref p] ∧ ((SqL K H p ys ∧ ∀ l, H l = none → Q (.ref l) (upd H l (.tup ys))) ∨ (SqT K H p ys ∧ Q (.ref p) H))) := by subst h; exact call_tuple_of
theorem kcall_dictP (hc : X.calm = true) : CallR X (.type "dict") (fun xs H Q => ∃ (a : Addr) (ps : List Addr) (kvs : List (Key × V)), xs = [.ref a] ∧ SqL K H a (ps.map V.ref) ∧ Paired (fun p kv => SqT K H p [kV kv.1, kv.2]) ps kvs ∧
    ∀ p, H p = none → Q (.ref p) (upd H p (.dK (mergeK [] kvs)))) := by subst h; exact call_dictP hc
theorem kcr_sum (hc : X.calm = true) : CallR X (.builtin "sum") (rSum K) := by subst h; exact cr_sum hc
theorem kcr_all (hc : X.calm = true) : CallR X (.builtin "all") (rAll K) := by subst h; exact cr_all hc
theorem kcr_any (hc : X.calm = true) : CallR X (.builtin "any") (rAny K) := by subst h; exact cr_any hc
theorem kcall_is : CallR X (.builtin "isinstance") (fun xs H Q => Box (rIsi K xs H Q)) := by subst h; exact call_is
theorem kcall_isLT : CallR X (.builtin "isinstance") (fun xs H Q => Box (rIsiT K xs H Q)) := by subst h; exact call_isLT
theorem kmt_index : MtR X "list.index" (rIndex K) := by subst h; exact mt_index
theorem kmt_indexB : MtR X "list.index" (fun x xs H Q => Box (rIndex K x xs H Q)) := by
  subst h
  exact fun pins s σ H x xs v us Q I rx rv q => mt_index pins s σ H x xs v us Q I rx rv q.out
theorem kop_catA : OpR X (binaryOp .Add) (rCatA K) := by subst h; exact op_catA
theorem kop_in_seq : OpR X (compareOp .In) (rIn K false) := by subst h; exact op_in_seq
theorem kop_notIn_seq : OpR X (compareOp .NotIn) (rIn K true) := by subst h; exact op_notIn_seq
theorem kop_eqD (hu : X.A.units + 64 < cLine) : OpR X (compareOp .Eq) (rEqD K) := by subst h; exact op_eqD hu
theorem kop_neD (hu : X.A.units + 64 < cLine) : OpR X (compareOp .NotEq) (rNeD K) := by subst h; exact op_neD hu
end
section
variable {X : Cx} (K : PySem.W.Frag) (h : X.K = K) {tg e o : Expr} {es : List Expr} {te to : TE} {ta : TA}
include h
theorem kpi_list (hl : PE X e te) : PI X tg e (iList K te) := by subst h; exact pi_list hl
theorem kpi_tup (hl : PE X e te) : PI X tg e (iTup K te) := by subst h; exact pi_tup hl
theorem kpi_enum {p pos tpos : Pos} {elts : List Expr} {kk : Nat} (hg : Gl X "enumerate") (hm : X.mg "enumerate" = none) (ha : PA X [e] ta) (hs : starEach [e] X.env = [(false, eval e X.env)] := by rfl) :
    PI X (.Tuple elts kk tpos) (.Call (.Name "enumerate" p) [e] [] pos) (iEnum K ta) := by subst h; exact pi_enum hg hm ha hs
theorem kpg_tup {k : Nat} {t : TGs} {n : Nat} {pos : Pos} (hc : X.calm = true) (hp : PGs X es t) (hn : (assignEach es X.env).length = n := by rfl) (hst : (assignEach es X.env).findIdx? (·.1) = none := by rfl) : PG X (.Tuple es k pos) (gTup K n t) := by
  subst h
  exact pg_tup hc hp hn hst
theorem kpe_bm {nm : Str} {r : V → List V → Hp → VK → Prop} {apos cpos : Pos} {T' : String} (z : PE X (.Call (.Attribute o nm apos) es [] cpos) (tBM X.K T' r to ta)) : PE X (.Call (.Attribute o nm apos) es [] cpos) (tBM K T' r to ta) := by
  subst h
  exact z
end
end RP

set_option Elab.async false
set_option linter.all false
set_option maxRecDepth 100000
set_option maxHeartbeats 1000000
/-! LC: comprehensions that only make new things. -/
namespace RP
open PySem PySem.Spec PyProof.Rows L2
theorem range_succ_filterMap {α : Type} (f : Nat → Option α) (n : Nat) : (List.range (n + 1)).filterMap f = (List.range n).filterMap f ++ (match f n with
    | some y => [y]
    | none => []) := by
  rw [List.range_succ, List.filterMap_append]
  cases h : f n <;> simp [h]
theorem filterMap_range_length {α : Type} (f : Nat → Option α) (n : Nat) : ((List.range n).filterMap f).length ≤ n := by
  have h := List.length_filterMap_le f (List.range n)
  rw [List.length_range] at h
  exact h
section
variable {J : It} {n : Nat} {G : Hp → Prop} {Y : Nat → Hp → V → Hp → Prop} {g : TG} {tt : TT} {te : TE} {vs : List Nat} {σ : L2.St} {H1 : Hp} {L : Addr} {Qd : Hp → Prop}
/-- each value is told by f (none: left out) -/
theorem lc_vals (w : Walk J n G Y) (f : Nat → Option V) (hD : H1 L = none) (hn : n ≤ 1000000) (hG : ∀ H, Same H1 H → G H)
    (hs : ∀ i x H H' (Y2 : V → Hp → Prop) (N2 : Hp → Prop), i < n → Same H1 H → H L ≠ none → Y i H x H' → (∀ y H4, f i = some y → Same H H4 → Y2 y H4) → (∀ H3, f i = none → Same H H3 → N2 H3) →
      g x (wipe σ vs) H' fun σ2 H2 => wipe σ2 vs = wipe σ vs ∧ tt σ2 H2 fun b H3 => if b = true then te σ2 H3 Y2 else N2 H3)
    (hd : ∀ H, Same H1 H → H L = some (.lst ((List.range n).filterMap f)) → Qd H) :
    ∃ W : Nat → Nat → Hp → Prop, (∃ m, W 0 m (upd H1 L (.lst []))) ∧ ∀ i m H, W i m H →
      (J.stop i H ∧ Qd H) ∨ (J.go i H ∧ ∃ Nx : Hp → Prop, (∀ H', Nx H' → ∃ m', m' < m ∧ W (i + 1) m' H') ∧ ∀ x H', J.yld i H x H' → g x (wipe σ vs) H' fun σ2 H2 => wipe σ2 vs = wipe σ vs ∧ tt σ2 H2 fun b H3 =>
        if b = true then te σ2 H3 fun y H4 => ∃ acc, H4 L = some (.lst acc) ∧ acc.length < sizeLine ∧ Nx (upd H4 L (.lst (acc ++ [y]))) else Nx H3) := by
  refine lc_it w (fun i H => Same H1 H ∧ H L = some (.lst ((List.range i).filterMap f))) ⟨same_new hD, by rw [upd_same]; rfl⟩ (fun i H _ p => hG H p.1) ?_ (fun H p => hd H p.1 p.2)
  intro i x H H' hi p y
  refine hs i x H H' _ _ hi p.1 (by rw [p.2]; exact fun z => nomatch z) y (fun v H4 e s => ?_) (fun H3 e s => ?_)
  · refine ⟨_, s _ _ p.2, ?_, ?_, ?_⟩
    · have := filterMap_range_length f i
      exact Nat.lt_of_le_of_lt (Nat.le_trans this (by omega)) (show 1000000 < sizeLine by rw [sizeLine_eq]; decide)
    · exact (p.1.trans s).skip hD
    · rw [upd_same, range_succ_filterMap, e]
  · refine ⟨p.1.trans s, ?_⟩
    rw [s _ _ p.2, range_succ_filterMap, e, List.append_nil]
/-- each value stands for data told by f -/
theorem lc_reps {K : PySem.W.Frag} {R : Hp} (w : Walk J n G Y) (f : Nat → Option D) (hD : H1 L = none) (hn : n ≤ 1000000) (hR : Same R H1) (hP : Plain R) (hG : ∀ H, Same H1 H → G H)
    (hs : ∀ i x H H' R1 (Y2 : V → Hp → Prop) (N2 : Hp → Prop), i < n → Same H1 H → H L ≠ none → Grow H1 R R1 → Plain R1 → Same R1 H → Y i H x H' →
      (∀ y H4 R4 d, f i = some d → Same H H4 → Grow H R1 R4 → Plain R4 → Same R4 H4 → Rep K R4 y d → Y2 y H4) → (∀ H3, f i = none → Same H H3 → N2 H3) →
      g x (wipe σ vs) H' fun σ2 H2 => wipe σ2 vs = wipe σ vs ∧ tt σ2 H2 fun b H3 => if b = true then te σ2 H3 Y2 else N2 H3)
    (hd : ∀ H R1 zs, Same H1 H → Grow H1 R R1 → Plain R1 → Same R1 H → R1 L = none → H L = some (.lst zs) → Reps K R1 zs ((List.range n).filterMap f) → Qd H) :
    ∃ W : Nat → Nat → Hp → Prop, (∃ m, W 0 m (upd H1 L (.lst []))) ∧ ∀ i m H, W i m H →
      (J.stop i H ∧ Qd H) ∨ (J.go i H ∧ ∃ Nx : Hp → Prop, (∀ H', Nx H' → ∃ m', m' < m ∧ W (i + 1) m' H') ∧ ∀ x H', J.yld i H x H' → g x (wipe σ vs) H' fun σ2 H2 => wipe σ2 vs = wipe σ vs ∧ tt σ2 H2 fun b H3 =>
        if b = true then te σ2 H3 fun y H4 => ∃ acc, H4 L = some (.lst acc) ∧ acc.length < sizeLine ∧ Nx (upd H4 L (.lst (acc ++ [y]))) else Nx H3) := by
  have app : ∀ {R : Hp} {zs : List V} {ds : List RP.D} {y : V} {d : RP.D}, Reps K R zs ds → Rep K R y d → Reps K R (zs ++ [y]) (ds ++ [d]) := by
    intro R zs ds y d r q
    induction zs generalizing ds with
    | nil =>
      cases r
      exact .cons q .nil
    | cons z zs ih =>
      cases r with
      | cons h t => exact .cons h (ih t)
  have len : ∀ {R : Hp} {zs : List V} {ds : List RP.D}, Reps K R zs ds → zs.length = ds.length := by
    intro R zs ds r
    induction zs generalizing ds with
    | nil =>
      cases r
      rfl
    | cons z zs ih =>
      cases r with
      | cons h t => rw [List.length_cons, List.length_cons, ih t]
  have hRD : R L = none := hR.out hD
  refine lc_it w (fun i H => ∃ R1 zs, Same H1 H ∧ Grow H1 R R1 ∧ Plain R1 ∧ Same R1 H ∧ R1 L = none ∧ H L = some (.lst zs) ∧ Reps K R1 zs ((List.range i).filterMap f))
    ⟨R, [], same_new hD, Grow.refl _ _, hP, hR.skip hRD, hRD, upd_same, .nil⟩ (fun i H _ ⟨_, _, p, _⟩ => hG H p) ?_ (fun H ⟨R1, zs, p1, p2, p3, p4, p5, p6, p7⟩ => hd H R1 zs p1 p2 p3 p4 p5 p6 p7)
  rintro i x H H' hi ⟨R1, zs, p1, p2, p3, p4, p5, p6, p7⟩ y
  refine hs i x H H' R1 _ _ hi p1 (by rw [p6]; exact fun z => nomatch z) p2 p3 p4 y (fun v H4 R4 d e s gr pl sr rp => ?_) (fun H3 e s => ?_)
  · have h4D : R4 L = none := (gr.old L (by rw [p6]; exact fun z => nomatch z)).trans p5
    refine ⟨_, s _ _ p6, ?_, R4, zs ++ [v], ?_, ?_, pl, sr.skip h4D, h4D, upd_same, ?_⟩
    · have h1 := filterMap_range_length f i
      have h2 := len p7
      exact Nat.lt_of_le_of_lt (by omega) (show 1000000 < sizeLine by rw [sizeLine_eq]; decide)
    · exact (p1.trans s).skip hD
    · refine p2.trans gr fun a ha z => ?_
      cases q : H1 a with
      | none => exact ha q
      | some o =>
        rw [p1 a o q] at z
        cases z
    · rw [range_succ_filterMap, e]
      exact app (p7.same gr.same) rp
  · refine ⟨R1, zs, p1.trans s, p2, p3, p4.trans s, p5, s _ _ p6, ?_⟩
    rw [range_succ_filterMap, e, List.append_nil]
    exact p7
end
end RP

set_option Elab.async false
set_option linter.all false
set_option maxRecDepth 100000
set_option maxHeartbeats 1000000
/-! GX4: an own error class of the text, by its name; raising it. -/
namespace GX
open PySem PySem.Spec PyProof.Rows L2 RP
/-- an own base class of the text -/
structure GAt (K : PySem.W.Frag) (mg : Str → Option Value) (b : Bs) (x : Str) (G : Addr) : Prop where
  gb : GB K b G
  g : mg x = some (.ref G)
/-- an own error class of the text, its field f, its __init__ the def st -/
structure XAt (K : PySem.W.Frag) (mg : Str → Option Value) (b : Bs) (x f qual : Str) (st : Stmt) (C fI : Addr) (fd : FuncData) : Prop where
  xc : XC K b C f
  g : mg x = some (.ref C)
  i : PySem.W.findIn K (.ref C) "__init__" = some (some (.ref fI))
  t : PySem.W.typeIn K (.ref fI) = some (.type "function")
  fn : FunD K "__init__" qual (defArgs st) (defBody st) (defScope st) [] [] fI fd
/-- such a class that raises: its __init__ keeps spX -/
def XDef (P : Program) (w : World) (K : PySem.W.Frag) (mg : Str → Option Value) (base : Heap) (b : Bs) (x f : Str) (ps : List Str) (C : Addr) : Prop :=
  XC K b C f ∧ mg x = some (.ref C) ∧ ∃ (fI : Addr) (fd : FuncData), PySem.W.findIn K (.ref C) "__init__" = some (some (.ref fI)) ∧ PySem.W.typeIn K (.ref fI) = some (.type "function") ∧ Binds K fd ps [] ∧ FnOk P w K mg base (L2.CX P w) 1 fI fd ps (spX K b f)
section
variable {P : Program} {w : World} {K : PySem.W.Frag} {mg : Str → Option Value} {base : Heap} {b : Bs} {x f qual : Str} {st : Stmt} {C fI : Addr} {fd : FuncData}
theorem XDef.mk {N ps : List Str} (F : XAt K mg b x f qual st C fI fd) (S : FnScope N ps (defScope st)) (hps : ps.length = 2)
    (hb : ∀ (kV doc pm : Value) (an : Option Addr) (cdv ct : Value) (us : List Value), us.length = ps.length → bindArgs (PySem.W.fnOf "__init__" qual (defArgs st) (defBody st) (defScope st) .none kV doc pm an cdv ct) ⟨us, []⟩ = pure (ps.zip us))
    (hbody : ∀ (cdv : Value) (A : Around) (outer : List Env) (s : Shared) (H : Hp) (E : XK), Room 0 (A.deeper (envOfC qual (defScope st) s.heap.objs.size fI cdv)) →
      ∃ ta to te, PSs (cxOf (L2.CX P w) P w K mg base N qual (defScope st) fI cdv A outer s H E) (defBody st) (tSeq (tDrop (tGI K b f ta)) (tXst K b f to te)) ∧
        (∀ (a v : V) (H : Hp) (Q : List V → Hp → Prop), (∀ z, Q [a, z] H) → ta (start N [a, v]) H Q) ∧ (∀ (a v : V) (H : Hp) (Q : VK), Q a H → to (start N [a, v]) H Q) ∧ (∀ (a v : V) (H : Hp) (Q : VK), Q v H → te (start N [a, v]) H Q)) : XDef P w K mg base b x f ps C := by
  refine ⟨F.xc, F.g, fI, fd, F.i, F.t, F.fn.bindsN hb, F.fn.ok S (fun vs H Q E h => ?_) (fun cdv A outer s H vs Q E hr h => ?_)⟩
  · obtain ⟨a, C', v, rfl, _⟩ := h
    rw [hps]
    rfl
  · obtain ⟨ta, to, te, hp, hq⟩ := hbody cdv A outer s H E hr
    obtain ⟨a, D, v, rfl, T, ha, k⟩ := h
    obtain ⟨q1, q2, q3⟩ := hq
    exact ⟨_, hp, q1 (.ref a) v H _ fun z => ⟨a, D, [z], rfl, by show 1 ≤ 1000; decide, T, ha, q3 (.ref a) v H _ (q2 (.ref a) v H _ ⟨a, D, rfl, T, ha, fun dx hd hne => k dx hd hne⟩)⟩⟩
end
section
variable {X : Cx} {b : Bs} {x f : Str} {ps : List Str} {C : Addr} {e : Expr} {te : TE} {p pos : Pos} {n : Nat}
/-- X(e), to be raised -/
theorem pmk_at (D : XDef X.prog X.w X.K X.mg X.base b x f ps C) (hr : Room n X.A) (hn : 2 ≤ n) (hg : Gl X x) (ha1 : PA X [e] (tCons te tNil))
    (hdb : (x == ("__debug__" : Str)) = false := by decide) (he : starEach [e] X.env = (false, eval e X.env) :: starEach [] X.env := by rfl) (hpl : (backTo pos (starEach [] X.env)).any (·.1) = false := by rfl) :
    PMk X (.Call (.Name x p) [e] [] pos) (tMkX C f te) := by
  obtain ⟨xc, g, fI, fd, i, t, hb, F⟩ := D
  exact pmk_x xc i t F (hr.mono hn) hb passL hg g ha1 hdb he hpl
end
end GX

set_option Elab.async false
set_option linter.all false
set_option maxRecDepth 100000
set_option maxHeartbeats 1000000
/-! IT: walks over a list or a tuple; enumerate of a tuple. -/
namespace RP
open PySem PySem.Spec PyProof.Rows L2
/-- enumerate(v), v told by what its iterator is -/
theorem meets_enum1B {v : Value} {o : Obj} {H : Heap → Prop} (B : Begins v o H) :
    Meets (Builtin.«enumerate.__new__» ⟨[.type "enumerate", v], []⟩) (fun _ R s => H s.heap ∧
      R (.ok (.ret (.ref (s.heap.push o).objs.size))) { s with heap := (s.heap.push o).push { cls := .type "enumerate", data := .fields #[.none, .bool false, .ref s.heap.objs.size, rawInt 0, .none, .none] } }) :=
  .of_wp fun prog w A R s h => by
    obtain ⟨hp, g, d, tk, os⟩ := s; obtain ⟨h1, h⟩ := h
    have hsub := sub_enumerate
    have q1 : ∀ {A' : Around} {E : Value → Shared → Prop} {Q : Value → Shared → Prop}, Q (.ref hp.objs.size) ⟨hp.push o, g, d, tk, os⟩ → wpAny (model prog w) A' (pyIter v) Q E ⟨hp, g, d, tk, os⟩ :=
      fun q => B.iter prog w _ _ ⟨hp, g, d, tk, os⟩ _ h1 q
    wp_walk using q1
    refine wpAny_stack_any fun st => wpAny_pure ?_
    split
    · rename_i c _ _ _ _ _
      cases (c == Value.type "enumerate")
      · wp_walk using q1
        exact ⟨_, rfl, h⟩
      · wp_walk using q1
        exact ⟨_, rfl, h⟩
    · wp_walk using q1
      exact ⟨_, rfl, h⟩
section
variable {prog : Program} {w : World} {A : Around} {E : Value → Shared → Prop} {s : Shared}
theorem enum1_begins {v : Value} {o : Obj} {H : Heap → Prop} {Q : Value → Shared → Prop} (B : Begins v o H) (h1 : H s.heap)
    (h : ∀ h', IsEnum h' (s.heap.objs.size + 1) s.heap.objs.size 0 .none → h'.get? s.heap.objs.size = some o → h'.objs.size = s.heap.objs.size + 2 →
      (∀ b o, s.heap.get? b = some o → h'.get? b = some o) → Q (.ref (s.heap.objs.size + 1)) { s with heap := h' }) :
    wpAny (model prog w) A (call (.type "enumerate") [v]) Q E s := by
  refine callType_new F.called_enumerate (by decide) (F.typeCall_enumerate_1 _) (F.newCall_enumerate_1 _) (fun obj => F.args_object_init_2 obj _) F.entry_enumerate_new
    (meets_enum1B B) ⟨h1, ?_⟩
  have hz : (s.heap.push o).objs.size = s.heap.objs.size + 1 := Heap.size_push ..
  show _ ∧ _
  rw [hz]
  have he : IsEnum ((s.heap.push o).push { cls := .type "enumerate", data := .fields #[.none, .bool false, .ref s.heap.objs.size, rawInt 0, .none, .none] }) (s.heap.objs.size + 1) s.heap.objs.size 0 .none := by
    have := Heap.get?_push_size (s.heap.push o) (o := { cls := .type "enumerate", data := .fields #[.none, .bool false, .ref s.heap.objs.size, rawInt 0, .none, .none] }) rfl
    rw [hz] at this; exact this
  refine ⟨⟨_, he, rfl⟩, h _ he (Heap.get?_push_of_some _ (Heap.get?_push_size _ B.free)) (by rw [Heap.size_push, hz]) fun b o x => Heap.get?_push_of_some _ (Heap.get?_push_of_some _ x)⟩
end
/-- the tuple at a, each item in a new pair -/
def IteT (K : PySem.W.Frag) (a : Addr) : It :=
  ⟨fun i H => ∃ (xs : List V) (x : V), SqT K H a xs ∧ xs[i]? = some x, fun i H v H' => ∃ T x, v = .ref T ∧ H T = none ∧ H' = upd H T (.tup [.int (i : Nat), x]) ∧ ∀ xs, SqT K H a xs → xs[i]? = some x, fun i H => ∃ xs : List V, SqT K H a xs ∧ xs.length ≤ i⟩
theorem enum_apart {h : Heap} {e it a : Addr} {c : Int} {old : Value} {its : Array Value} {i : Nat} (he : IsEnum h e it c old) (hit : h.IsTupleIter it a i) (p : h.IsTuple a its) : a ≠ it ∧ e ∉ [it, a] := by
  obtain ⟨o1, h1, c1, d1⟩ := hit
  obtain ⟨o2, h2, c2, n2, d2⟩ := p
  have ne : ∀ {x y : Addr} {o o' : Obj}, h.get? x = some o → h.get? y = some o' → o.cls ≠ o'.cls → x ≠ y := fun hx hy q z => by
    rw [z, hy] at hx
    exact q (by rw [Option.some.inj hx])
  refine ⟨ne h2 h1 (by rw [c1, c2]; decide), fun m => ?_⟩
  rcases List.mem_cons.mp m with z | z
  · exact ne he h1 (by show Value.type "enumerate" ≠ _; rw [c1]; decide) z
  · rw [List.mem_singleton] at z
    exact ne he h2 (by show Value.type "enumerate" ≠ _; rw [c2]; decide) z
theorem turn_enumT {P : Program} {w : World} {K : PySem.W.Frag} {elts : List Expr} {kk : Nat} {tpos : Pos} (a e it : Addr) :
    Turn P w K (.Tuple elts kk tpos) (IteT K a) [e, it] e (fun i h => (∃ old, IsEnum h e it ((i : Nat) : Int) old) ∧ h.IsTupleIter it a i ∧ e ≠ it) where
  mem := by simp
  obj := fun i h st b hb => by
    obtain ⟨⟨old, he⟩, ⟨o, ho, hc, hd⟩, _⟩ := st
    have e' : b = e ∨ b = it := by simpa using hb
    rcases e' with z | z
    · rw [z]; exact ⟨_, he, fun v q => nomatch q⟩
    · rw [z]; exact ⟨o, ho, fun v q => by rw [hd] at q; cases q⟩
  keep := fun i h h' st k => let ⟨⟨old, he⟩, hi, hne⟩ := st; ⟨⟨old, k e (by simp) _ he⟩, hi.at fun o q => k it (by simp) o q, hne⟩
  item := by
    intro X hP hw hK hc i pins s σ H E I hf st hg
    subst hP hw hK
    obtain ⟨⟨old, he⟩, hit, hne⟩ := st
    obtain ⟨xs, x, hq, hx⟩ := hg
    obtain ⟨its, rv, p, hz⟩ := I.tuple hq
    have p' : s.heap.IsTuple a its.toArray := p
    obtain ⟨u, hu, ru⟩ := rv.get hx
    have hel : e < s.heap.objs.size := Heap.lt_size he
    have hil : it < s.heap.objs.size := by obtain ⟨_, q, _⟩ := hit; exact Heap.lt_size q
    obtain ⟨hai, hea⟩ := enum_apart he hit p'
    have hli : i < its.toArray.size := by
      have := (List.getElem?_eq_some_iff.mp hu).1
      simpa using this
    refine wpAny_pyNext_enum_itemD (Draws.tuple (A := X.A.in1) (by exact I.ok.hd hc) it a hai its.toArray) he ⟨hit, p'⟩ hli hne hea fun y h' tk hP ho hst hT hsz hk => ?_
    obtain ⟨hit', _⟩ := hst
    have hy : y = u := by
      have q : its.toArray[i]? = some u := by simpa using hu
      rw [q] at hP
      exact (Option.some.inj hP).symm
    subst hy
    refine ⟨_, rfl, wpAny_letOwnedTupleGo_enum (s := { s with heap := h', toks := tk + 1 }) ho fun h'' he' sb => ?_⟩
    have hT2 : h''.get? s.heap.objs.size = some { cls := .type "tuple", data := .seq #[.int i tk, y] } := (sb.2 _ (Nat.ne_of_gt hel)).trans hT
    have new : ObjOk X.prog X.w (upd H s.heap.objs.size (.tup [.int (i : Nat), x])) h'' s.heap.objs.size (.tup [.int (i : Nat), x]) :=
      ⟨by show 2 ≤ sizeLine; decide, [.int i tk, y], .cons ⟨_, rfl⟩ (.cons ru .nil), ⟨_, hT2, rfl, _, rfl⟩⟩
    have I1 : Inv X pins σ (upd H s.heap.objs.size (.tup [.int (i : Nat), x])) { s with heap := h'', toks := tk + 1 } :=
      I.turnedNew (ch := [e, it]) (fun b ob hb q => (sb.2 b (fun z => hb (by simp [z]))).trans (hk b ob (fun z => hb (by simp [z])) (fun z => hb (by simp [z])) q)) hf (Nat.le_refl _) new
    refine ⟨.ref s.heap.objs.size, _, I1, rfl, ⟨_, x, rfl, I.hok.fresh (Nat.le_refl _), rfl, fun ys hy => by rw [I.tuple_inj hy hq]; exact hx⟩, ⟨⟨y, ?_⟩, hit'.at fun o q => (sb.2 it (Ne.symm hne)).trans q, hne⟩, fun b hb => ?_⟩
    · have e1 : ((i + 1 : Nat) : Int) = (i : Int) + 1 := by omega
      rw [e1]; exact he'
    · have hb' : b < s.heap.objs.size := by
        have e' : b = e ∨ b = it := by simpa using hb
        rcases e' with z | z
        · rw [z]; exact hel
        · rw [z]; exact hil
      rw [upd_ne (Nat.ne_of_lt hb')]
      exact (hf b hb).1
  done := by
    intro X hP hw hK hc i pins s σ H E I hf st hg
    subst hP hw hK
    obtain ⟨⟨old, he⟩, hit, hne⟩ := st
    obtain ⟨xs, hq, hx⟩ := hg
    obtain ⟨its, rv, p, hz⟩ := I.tuple hq
    have p' : s.heap.IsTuple a its.toArray := p
    obtain ⟨f0, f1, f2, f3, f4, f5⟩ := hf it (by simp)
    have hl := rv.length
    have hT : s.TypeIs (.ref e) "enumerate" := ⟨_, he, rfl⟩
    have fin : wpAny (model X.prog X.w) X.A (pyNext (.ref e)) (fun r s1 => r = none ∧ Inv X pins σ H s1) E s := by
      unfold pyNext
      refine wpAny_bind (wpAny_attempt (wpAny_callSpecial?_slot (name := Str.ofString "__next__") hT F.slot_enumerate_next
        (wpAny_call_entry F.slot_enumerate_next hT F.entry_enumerate_next ?_ (F.args_enumerate_next_1 _))))
      show wpAny _ _ (field (.ref e) 2 >>= _) _ _ _
      refine wpAny_bind (wpAny_field he rfl (x := .ref it) rfl ?_)
      refine wpAny_bind (wpAny_nextOf_tuple_end (by exact I.ok.hd hc) hit p' (by simp; omega) fun h' x eb hx' => ?_)
      obtain ⟨o, ho, hc'⟩ := hx'
      refine wpAny_bind (wpAny_isInstance (T := "StopIteration") (b := true) ⟨o, ho, hc'⟩ isSubtype_stop ?_)
      exact wpAny_pure ⟨rfl, I.turned (t' := s.toks) (fun b o hb q => eb b o hb q) f0 f1 f3 f4 f5⟩
    exact fin
  self := fun A i s Q E st h => let ⟨⟨_, he⟩, _⟩ := st; wpAny_pyIter_enum he h
/-! ### the rules: a list (true) or a tuple (false) -/
def Sq (b : Bool) (K : PySem.W.Frag) (H : Hp) (a : Addr) (xs : List V) : Prop := match b with
  | true => SqL K H a xs
  | false => SqT K H a xs
def ItB (b : Bool) (K : PySem.W.Frag) (a : Addr) : It := match b with
  | true => Itl K a
  | false => Itt K a
def ItEB (b : Bool) (K : PySem.W.Frag) (a : Addr) : It := match b with
  | true => Ite K a
  | false => IteT K a
theorem Sq.or {b : Bool} {K : PySem.W.Frag} {H : Hp} {a : Addr} {xs : List V} (h : Sq b K H a xs) : SqL K H a xs ∨ SqT K H a xs := by
  cases b with
  | true => exact .inl h
  | false => exact .inr h
theorem Sq.mono {b : Bool} {K : PySem.W.Frag} {R H : Hp} {a : Addr} {xs : List V} (l : Lq R H) (h : Sq b K R a xs) : Sq b K H a xs := by
  cases b with
  | true => exact l.seq h
  | false => exact l.tup h
def iSeq (K : PySem.W.Frag) (tl : TE) : TI := fun σ H R => tl σ H fun x H1 => ∃ a b, x = .ref a ∧ (∃ xs, Sq b K H1 a xs) ∧ R (ItB b K a) H1
theorem pi_seq {X : Cx} {tg l : Expr} {tl : TE} (hl : PE X l tl) : PI X tg l (iSeq X.K tl) := by
  refine ⟨fun pins s σ H R I h => ?_⟩
  refine thn (hl.run pins s σ H _ I h) fun v s1 ⟨x, H1, I1, r1, q1⟩ => ?_
  obtain ⟨a, b, e, ⟨xs, hq⟩, q⟩ := q1
  cases b with
  | true =>
    subst e
    cases r1
    obtain ⟨its, rv, p, hz⟩ := I1.list hq
    refine wpAny_pyIter_list p.isList ?_
    refine ⟨s1.heap.objs.size, [s1.heap.objs.size], _, _, H1, rfl, I1.kept (t' := s1.toks) fun b o e => Heap.get?_push_of_some _ e, turn_list a _, ⟨_, Heap.get?_push_size _ rfl, rfl, rfl⟩, fun b hb => ?_, q⟩
    have e : b = s1.heap.objs.size := by simpa using hb
    subst e
    exact I1.fpOk (Nat.le_refl _) (I1.hok.fresh (Nat.le_refl _))
  | false =>
    subst e
    cases r1
    obtain ⟨its, rv, p, hz⟩ := I1.tuple hq
    refine wpAny_pyIter_tuple (show s1.heap.IsTuple a its.toArray from p) ?_
    refine ⟨s1.heap.objs.size, [s1.heap.objs.size], _, _, H1, rfl, I1.kept (t' := s1.toks) fun b o e => Heap.get?_push_of_some _ e, turn_tuple a _, ⟨_, Heap.get?_push_size _ rfl, rfl, rfl⟩, fun b hb => ?_, q⟩
    have e : b = s1.heap.objs.size := by simpa using hb
    subst e
    exact I1.fpOk (Nat.le_refl _) (I1.hok.fresh (Nat.le_refl _))
theorem kpi_seq {X : Cx} (K : PySem.W.Frag) (h : X.K = K) {tg l : Expr} {tl : TE} (hl : PE X l tl) : PI X tg l (iSeq K tl) := by subst h; exact pi_seq hl
def iEnumS (K : PySem.W.Frag) (ta : TA) : TI := fun σ H R => ta σ H fun vs H1 => ∃ a b xs, vs = [.ref a] ∧ Sq b K H1 a xs ∧ R (ItEB b K a) H1
theorem pi_enumS {X : Cx} {e : Expr} {ta : TA} {p pos tpos : Pos} {elts : List Expr} {kk : Nat} (hg : Gl X "enumerate") (hm : X.mg "enumerate" = none) (ha : PA X [e] ta) (hs : starEach [e] X.env = [(false, eval e X.env)] := by rfl) :
    PI X (.Tuple elts kk tpos) (.Call (.Name "enumerate" p) [e] [] pos) (iEnumS X.K ta) := by
  refine ⟨fun pins s σ H R I h => ?_⟩
  refine Call_ (ld_blt I hg hm boot_enumerate (PyProof.Rows.callWith_type1 (thn (ha.run pos pins s σ H _ I h) fun us s1 ⟨vs, H1, I1, r1, q1⟩ => ?_) hs rfl))
  obtain ⟨a, b, xs, ex, hq, q⟩ := q1
  subst ex
  cases r1 with
  | cons r rr =>
    cases rr
    cases r
    have fin : ∀ {J : It} {tn : Nat → Heap → Prop} {h' : Heap}, (∀ b o, s1.heap.get? b = some o → h'.get? b = some o) → Turn X.prog X.w X.K (.Tuple elts kk tpos) J [s1.heap.objs.size + 1, s1.heap.objs.size] (s1.heap.objs.size + 1) tn → tn 0 h' → R J H1 →
        PIE X pins σ (.Tuple elts kk tpos) R (.ref (s1.heap.objs.size + 1)) { s1 with heap := h' } := fun {J tn h'} hk tr t0 q => by
      refine ⟨s1.heap.objs.size + 1, [s1.heap.objs.size + 1, s1.heap.objs.size], _, _, H1, rfl, I1.kept (t' := s1.toks) hk, tr, t0, fun b hb => ?_, q⟩
      have I2 : Inv X pins σ H1 { s1 with heap := h' } := I1.kept (t' := s1.toks) hk
      have e' : b = s1.heap.objs.size + 1 ∨ b = s1.heap.objs.size := by simpa using hb
      have hle : s1.heap.objs.size ≤ b := by
        rcases e' with z | z
        · rw [z]; exact Nat.le_add_right _ _
        · rw [z]; exact Nat.le_refl _
      exact I1.fpOk hle (I1.hok.fresh hle)
    cases b with
    | true =>
      obtain ⟨its, rv, p', hz⟩ := I1.list hq
      exact call_enumerate_list p'.isList fun h' he hit hsz hk => wpAny_pyIter_enum he (fin hk (turn_enum a _ _) ⟨⟨.none, he⟩, hit, Nat.succ_ne_self _⟩ q)
    | false =>
      obtain ⟨its, rv, p', hz⟩ := I1.tuple hq
      have pt : s1.heap.IsTuple a its.toArray := p'
      exact enum1_begins (begins_tuple a its.toArray) pt fun h' he hit hsz hk => wpAny_pyIter_enum he (fin hk (turn_enumT a _ _) ⟨⟨.none, he⟩, ⟨_, hit, rfl, rfl⟩, Nat.succ_ne_self _⟩ q)
theorem kpi_enumS {X : Cx} (K : PySem.W.Frag) (h : X.K = K) {e : Expr} {ta : TA} {p pos tpos : Pos} {elts : List Expr} {kk : Nat} (hg : Gl X "enumerate") (hm : X.mg "enumerate" = none) (ha : PA X [e] ta) (hs : starEach [e] X.env = [(false, eval e X.env)] := by rfl) :
    PI X (.Tuple elts kk tpos) (.Call (.Name "enumerate" p) [e] [] pos) (iEnumS K ta) := by subst h; exact pi_enumS hg hm ha hs
theorem walk_enumT {K : PySem.W.Frag} {a : Addr} {xs : List V} : Walk (IteT K a) xs.length (fun H => SqT K H a xs) (YPair (fun i => some (.int (i : Nat))) (fun i => xs[i]?)) := by
  refine ⟨fun i _ hi q => ⟨xs, xs[i], q, by simp [hi]⟩, fun _ q => ⟨xs, q, Nat.le_refl _⟩, fun i H v H' _ q y => ?_⟩
  obtain ⟨T, x, h1, h2, h3, h4⟩ := y
  exact ⟨T, .int (i : Nat), x, h1, h2, h3, rfl, h4 xs q⟩
theorem walk_seq {K : PySem.W.Frag} {a : Addr} {xs : List V} : ∀ {b : Bool}, Walk (ItB b K a) xs.length (fun H => Sq b K H a xs) (YAt xs)
  | true => walk_list
  | false => walk_tup
theorem walk_enumS {K : PySem.W.Frag} {a : Addr} {xs : List V} : ∀ {b : Bool}, Walk (ItEB b K a) xs.length (fun H => Sq b K H a xs) (YPair (fun i => some (.int (i : Nat))) (fun i => xs[i]?))
  | true => walk_enum
  | false => walk_enumT
/-! ### a list of whole numbers == [], != [] -/
theorem dp_ints {K : PySem.W.Frag} {H : Hp} : ∀ is : List Int, DpAll K H (is.map V.int) (is.map PyData.int)
  | [] => .nil
  | i :: r => .cons (.int i) (dp_ints r)
theorem ints_can : ∀ is : List Int, PyData.canLayAll0 (is.map PyData.int) = true
  | [] => by unfold PyData.canLayAll0; rfl
  | i :: r => by
    rw [List.map_cons]
    unfold PyData.canLayAll0
    rw [ints_can r]
    unfold PyData.canLay0
    rfl
theorem ints_depth : ∀ is : List Int, PyData.depthAll (is.map PyData.int) = 0
  | [] => by unfold PyData.depthAll; rfl
  | i :: r => by
    rw [List.map_cons]
    unfold PyData.depthAll
    rw [ints_depth r]
    unfold PyData.depth
    rfl
theorem ints_shaped (is : List Int) : SeqAt.shaped (.list (is.map PyData.int)) = true := by
  unfold SeqAt.shaped
  have e1 : PyData.canLay0 (.list (is.map PyData.int)) = true := by
    unfold PyData.canLay0
    exact ints_can is
  have e2 : PyData.depth (.list (is.map PyData.int)) = 1 := by
    unfold PyData.depth
    rw [ints_depth]
  rw [e1, e2]
  rfl
theorem ints_eqv (is : List Int) : PyData.eqv (.list (is.map PyData.int)) (.list []) = is.isEmpty := by
  cases is <;> rfl
def rEqE (K : PySem.W.Frag) : R2 := fun x y H Q => ∃ (a b : Addr) (is : List Int), x = .ref a ∧ y = .ref b ∧ SqL K H a (is.map V.int) ∧ SqL K H b [] ∧ Q (.bl is.isEmpty) H
def rNeE (K : PySem.W.Frag) : R2 := fun x y H Q => ∃ (a b : Addr) (is : List Int), x = .ref a ∧ y = .ref b ∧ SqL K H a (is.map V.int) ∧ SqL K H b [] ∧ Q (.bl (!is.isEmpty)) H
theorem kop_eqE {X : Cx} (K : PySem.W.Frag) (h : X.K = K) (hu : X.A.units + 64 < cLine) : OpR X (compareOp .Eq) (rEqE K) := by
  subst h
  intro pins s σ H x y v u Q I rx ry q
  obtain ⟨a, b, is, rfl, rfl, h1, h2, q⟩ := q
  refine op_eqD hu pins s σ H _ _ v u Q I rx ry ⟨_, _, .lst h1 (dp_ints is), .lst h2 .nil, ints_shaped is, by decide, ?_⟩
  rw [ints_eqv]
  exact q
theorem kop_neE {X : Cx} (K : PySem.W.Frag) (h : X.K = K) (hu : X.A.units + 64 < cLine) : OpR X (compareOp .NotEq) (rNeE K) := by
  subst h
  intro pins s σ H x y v u Q I rx ry q
  obtain ⟨a, b, is, rfl, rfl, h1, h2, q⟩ := q
  refine op_neD hu pins s σ H _ _ v u Q I rx ry ⟨_, _, .lst h1 (dp_ints is), .lst h2 .nil, ints_shaped is, by decide, ?_⟩
  rw [ints_eqv]
  exact q
/-! ### x[i] of a text, a list or a tuple -/
def rIxAny (K : PySem.W.Frag) : R2 := fun x y H Q => rIxS x y H Q ∨ ∃ (b : Bool) (p : Addr) (xs : List V) (i : Int) (v : V), x = .ref p ∧ y = .int i ∧ Sq b K H p xs ∧ atI xs i = some v ∧ Q v H
theorem kix_any {X : Cx} (K : PySem.W.Frag) (h : X.K = K) : IxR X (rIxAny K) := by
  subst h
  intro value slice pins s σ H x y v u Q I rx ry h hs
  rcases h with h | ⟨b, p, xs, i, w, h1, h2, h3, h4, h5⟩
  · exact ix_str value slice pins s σ H x y v u Q I rx ry h hs
  · cases b with
    | true => exact ix_list value slice pins s σ H x y v u Q I rx ry ⟨p, xs, i, w, h1, h2, h3, h4, h5⟩ hs
    | false => exact ix_tup value slice pins s σ H x y v u Q I rx ry ⟨p, xs, i, w, h1, h2, h3, h4, h5⟩ hs
theorem Sq.len {b : Bool} {K : PySem.W.Frag} {H : Hp} {a : Addr} {xs : List V} (h : Sq b K H a xs) : LenV K (.ref a) H xs.length := by
  rcases h.or with h | h
  · exact .inl ⟨xs, h, rfl⟩
  · exact .inr ⟨xs, h, rfl⟩
theorem cut_one {z : Str} {k c : Nat} (h : z.cps.toList[k]? = some c) : cutS z (some (k : Int)) (some ((k : Int) + 1)) = ⟨#[c]⟩ := by
  have hk : k < z.cps.toList.length := (List.getElem?_eq_some_iff.mp h).1
  have hl : z.length = z.cps.toList.length := by show z.cps.size = _; simp
  unfold cutS
  have e1 : HT.sIx z.length 0 (some (k : Int)) = k := by
    rw [HT.sIx_nat]
    omega
  have e2 : HT.sIx z.length z.length (some ((k : Int) + 1)) = k + 1 := by
    have : ((k : Int) + 1) = ((k + 1 : Nat) : Int) := by omega
    rw [this, HT.sIx_nat]
    omega
  rw [e1, e2, show k + 1 - k = 1 by omega]
  have e3 : (z.cps.toList.drop k).take 1 = [c] := by
    have hc : z.cps.toList[k] = c := (List.getElem?_eq_some_iff.mp h).2
    rw [List.drop_eq_getElem_cons hk, hc]
    rfl
  rw [e3]
end RP

set_option Elab.async false
set_option linter.all false
set_option maxRecDepth 100000
set_option maxHeartbeats 1000000
namespace K87
open PySem PySem.Spec PyProof.Rows L2
def top (i : Nat) : Stmt := PySem.Challenge.pw_guestfleet_k87_needs_and_least_promises.main.body.getD i (.Pass ⟨0, 0, 0, 0⟩)
abbrev s_NoNumber_init : Stmt := inClass (top 3) 0
abbrev s_NoShare_init : Stmt := inClass (top 4) 0
abbrev s_NoGuest_init : Stmt := inClass (top 5) 0
abbrev s_NoNeeds_init : Stmt := inClass (top 6) 0
abbrev s_is_whole : Stmt := top 10
abbrev s_is_name : Stmt := top 11
abbrev s_need_length : Stmt := top 16
abbrev s_are_shares : Stmt := top 17
abbrev s_need_case : Stmt := top 21
abbrev s_ahead_by_promise : Stmt := top 22
abbrev s_ahead : Stmt := top 23
abbrev s_turn_of : Stmt := top 24
abbrev s_latest : Stmt := top 25
abbrev s_at_least_in : Stmt := top 26
abbrev s_at_least : Stmt := top 27
abbrev s_worst : Stmt := top 28
abbrev s_next_of : Stmt := top 29
abbrev s_are_needs : Stmt := top 30
abbrev s_first_unmet : Stmt := top 31
abbrev s_with_promise : Stmt := top 32
abbrev s_least_promise : Stmt := top 33
abbrev s__law_cell : Stmt := top 35
abbrev s__law_box : Stmt := top 36
abbrev s__law_take : Stmt := top 37
abbrev s__law_same : Stmt := top 38
abbrev s__law_deal : Stmt := top 39
abbrev s__law_stretch : Stmt := top 40
abbrev s__law_case : Stmt := top 41
abbrev s__law_surely : Stmt := top 42
abbrev s__law_unmet : Stmt := top 43
abbrev s__law_least : Stmt := top 44
abbrev s__law_needs : Stmt := top 45
abbrev s__law_asked : Stmt := top 46
abbrev s__law_refusals_right : Stmt := top 47
abbrev s_law : Stmt := top 48
structure Txt (K : PySem.W.Frag) (mg : Str → Option Value) : Prop where
  b_KeyError : mg "KeyError" = none
  b_ValueError : mg "ValueError" = none
  b_abs : mg "abs" = none
  b_all : mg "all" = none
  b_bool : mg "bool" = none
  b_dict : mg "dict" = none
  b_divmod : mg "divmod" = none
  b_enumerate : mg "enumerate" = none
  b_int : mg "int" = none
  b_isinstance : mg "isinstance" = none
  b_len : mg "len" = none
  b_list : mg "list" = none
  b_max : mg "max" = none
  b_min : mg "min" = none
  b_range : mg "range" = none
  b_str : mg "str" = none
  b_sum : mg "sum" = none
  b_tuple : mg "tuple" = none
  c_LETTERS : ∃ t, mg "LETTERS" = some (.str "abcdefghijklmnopqrstuvwxyz" t)
  c_LONGEST_NAME : ∃ t, mg "LONGEST_NAME" = some (.int (8) t)
  c_LEAST_LENGTH : ∃ t, mg "LEAST_LENGTH" = some (.int (4) t)
  c_MOST_LENGTH : ∃ t, mg "MOST_LENGTH" = some (.int (60) t)
  c_MOST_GUESTS : ∃ t, mg "MOST_GUESTS" = some (.int (6) t)
  c_MOST_TURNS : ∃ t, mg "MOST_TURNS" = some (.int (400) t)
  c_MOST_NEEDS : ∃ t, mg "MOST_NEEDS" = some (.int (60) t)
  g_GuestError : GX.GAt K mg GX.bVE "GuestError" (He.ga K "GuestError")
  g_Missing : GX.GAt K mg GX.bKE "Missing" (He.ga K "Missing")
  x_NoNumber : ∃ fI fd, GX.XAt K mg GX.bVE "NoNumber" "found" "NoNumber.__init__" s_NoNumber_init (He.ga K "NoNumber") fI fd
  x_NoShare : ∃ fI fd, GX.XAt K mg GX.bVE "NoShare" "found" "NoShare.__init__" s_NoShare_init (He.ga K "NoShare") fI fd
  x_NoGuest : ∃ fI fd, GX.XAt K mg GX.bKE "NoGuest" "found" "NoGuest.__init__" s_NoGuest_init (He.ga K "NoGuest") fI fd
  x_NoNeeds : ∃ fI fd, GX.XAt K mg GX.bVE "NoNeeds" "found" "NoNeeds.__init__" s_NoNeeds_init (He.ga K "NoNeeds") fI fd
  a_is_whole : ∃ f fd, RP.At K mg "is_whole" s_is_whole f fd
  a_is_name : ∃ f fd, RP.At K mg "is_name" s_is_name f fd
  a_need_length : ∃ f fd, RP.At K mg "need_length" s_need_length f fd
  a_are_shares : ∃ f fd, RP.At K mg "are_shares" s_are_shares f fd
  a_need_case : ∃ f fd, RP.At K mg "need_case" s_need_case f fd
  a_ahead_by_promise : ∃ f fd, RP.At K mg "ahead_by_promise" s_ahead_by_promise f fd
  a_ahead : ∃ f fd, RP.At K mg "ahead" s_ahead f fd
  a_turn_of : ∃ f fd, RP.At K mg "turn_of" s_turn_of f fd
  a_latest : ∃ f fd, RP.At K mg "latest" s_latest f fd
  a_at_least_in : ∃ f fd, RP.At K mg "at_least_in" s_at_least_in f fd
  a_at_least : ∃ f fd, RP.At K mg "at_least" s_at_least f fd
  a_worst : ∃ f fd, RP.At K mg "worst" s_worst f fd
  a_next_of : ∃ f fd, RP.At K mg "next_of" s_next_of f fd
  a_are_needs : ∃ f fd, RP.At K mg "are_needs" s_are_needs f fd
  a_first_unmet : ∃ f fd, RP.At K mg "first_unmet" s_first_unmet f fd
  a_with_promise : ∃ f fd, RP.At K mg "with_promise" s_with_promise f fd
  a_least_promise : ∃ f fd, RP.At K mg "least_promise" s_least_promise f fd
  a__law_cell : ∃ f fd, RP.At K mg "_law_cell" s__law_cell f fd
  a__law_box : ∃ f fd, RP.At K mg "_law_box" s__law_box f fd
  a__law_take : ∃ f fd, RP.At K mg "_law_take" s__law_take f fd
  a__law_same : ∃ f fd, RP.At K mg "_law_same" s__law_same f fd
  a__law_deal : ∃ f fd, RP.At K mg "_law_deal" s__law_deal f fd
  a__law_stretch : ∃ f fd, RP.At K mg "_law_stretch" s__law_stretch f fd
  a__law_case : ∃ f fd, RP.At K mg "_law_case" s__law_case f fd
  a__law_surely : ∃ f fd, RP.At K mg "_law_surely" s__law_surely f fd
  a__law_unmet : ∃ f fd, RP.At K mg "_law_unmet" s__law_unmet f fd
  a__law_least : ∃ f fd, RP.At K mg "_law_least" s__law_least f fd
  a__law_needs : ∃ f fd, RP.At K mg "_law_needs" s__law_needs f fd
  a__law_asked : ∃ f fd, RP.At K mg "_law_asked" s__law_asked f fd
  a__law_refusals_right : ∃ f fd, RP.At K mg "_law_refusals_right" s__law_refusals_right f fd
  a_law : ∃ f fd, RP.At K mg "law" s_law f fd
section
variable {P : Program} {w : World} {K : PySem.W.Frag} {mg : Str → Option Value} {base : Heap}
theorem sc_NoNumber_init : FnScope ["self", "found"] ["self", "found"] (defScope s_NoNumber_init) := ⟨rfl, rfl, rfl, by decide +kernel, rfl, by decide +kernel, by decide +kernel⟩
theorem xd_NoNumber (T : Txt K mg) : GX.XDef P w K mg base GX.bVE "NoNumber" "found" ["self", "found"] (He.ga K "NoNumber") := by
  obtain ⟨fI, fd, F⟩ := T.x_NoNumber
  refine GX.XDef.mk F sc_NoNumber_init rfl (fun _ _ _ _ _ _ us hl => match us, hl with | [_, _], _ => rfl) (fun cdv A outer s H E hr => ?_)
  exact ⟨_, _, _, pss_cons (ps_expr (GX.pe_ginit T.g_GuestError.gb GX.bVE_ok (by rfl) T.g_GuestError.g (pa_cons (pv 0) (pa_cons pe_str pa_nil)))) (pss_one (GX.ps_xst (pv 0) (pv 1))),
    fun a v H Q h => ⟨_, rfl, h _⟩, fun a v H Q h => ⟨_, rfl, h⟩, fun a v H Q h => ⟨_, rfl, h⟩⟩
theorem pmk_NoNumber {X : Cx} {e : Expr} {te : TE} {p pos : Pos} {n : Nat} (hr : Room n X.A) (T : Txt X.K X.mg) (ha1 : PA X [e] (tCons te tNil)) (hg : Gl X "NoNumber" := by rfl) (hn : 2 ≤ n := by decide)
    (he : starEach [e] X.env = (false, eval e X.env) :: starEach [] X.env := by rfl) (hpl : (backTo pos (starEach [] X.env)).any (·.1) = false := by rfl) :
    PMk X (.Call (.Name "NoNumber" p) [e] [] pos) (GX.tMkX (He.ga X.K "NoNumber") "found" te) := GX.pmk_at (xd_NoNumber T) hr hn hg ha1 (by decide) he hpl
theorem sc_NoShare_init : FnScope ["self", "found"] ["self", "found"] (defScope s_NoShare_init) := ⟨rfl, rfl, rfl, by decide +kernel, rfl, by decide +kernel, by decide +kernel⟩
theorem xd_NoShare (T : Txt K mg) : GX.XDef P w K mg base GX.bVE "NoShare" "found" ["self", "found"] (He.ga K "NoShare") := by
  obtain ⟨fI, fd, F⟩ := T.x_NoShare
  refine GX.XDef.mk F sc_NoShare_init rfl (fun _ _ _ _ _ _ us hl => match us, hl with | [_, _], _ => rfl) (fun cdv A outer s H E hr => ?_)
  exact ⟨_, _, _, pss_cons (ps_expr (GX.pe_ginit T.g_GuestError.gb GX.bVE_ok (by rfl) T.g_GuestError.g (pa_cons (pv 0) (pa_cons pe_str pa_nil)))) (pss_one (GX.ps_xst (pv 0) (pv 1))),
    fun a v H Q h => ⟨_, rfl, h _⟩, fun a v H Q h => ⟨_, rfl, h⟩, fun a v H Q h => ⟨_, rfl, h⟩⟩
theorem pmk_NoShare {X : Cx} {e : Expr} {te : TE} {p pos : Pos} {n : Nat} (hr : Room n X.A) (T : Txt X.K X.mg) (ha1 : PA X [e] (tCons te tNil)) (hg : Gl X "NoShare" := by rfl) (hn : 2 ≤ n := by decide)
    (he : starEach [e] X.env = (false, eval e X.env) :: starEach [] X.env := by rfl) (hpl : (backTo pos (starEach [] X.env)).any (·.1) = false := by rfl) :
    PMk X (.Call (.Name "NoShare" p) [e] [] pos) (GX.tMkX (He.ga X.K "NoShare") "found" te) := GX.pmk_at (xd_NoShare T) hr hn hg ha1 (by decide) he hpl
theorem sc_NoGuest_init : FnScope ["self", "found"] ["self", "found"] (defScope s_NoGuest_init) := ⟨rfl, rfl, rfl, by decide +kernel, rfl, by decide +kernel, by decide +kernel⟩
theorem xd_NoGuest (T : Txt K mg) : GX.XDef P w K mg base GX.bKE "NoGuest" "found" ["self", "found"] (He.ga K "NoGuest") := by
  obtain ⟨fI, fd, F⟩ := T.x_NoGuest
  refine GX.XDef.mk F sc_NoGuest_init rfl (fun _ _ _ _ _ _ us hl => match us, hl with | [_, _], _ => rfl) (fun cdv A outer s H E hr => ?_)
  exact ⟨_, _, _, pss_cons (ps_expr (GX.pe_ginit T.g_Missing.gb GX.bKE_ok (by rfl) T.g_Missing.g (pa_cons (pv 0) (pa_cons pe_str pa_nil)))) (pss_one (GX.ps_xst (pv 0) (pv 1))),
    fun a v H Q h => ⟨_, rfl, h _⟩, fun a v H Q h => ⟨_, rfl, h⟩, fun a v H Q h => ⟨_, rfl, h⟩⟩
theorem pmk_NoGuest {X : Cx} {e : Expr} {te : TE} {p pos : Pos} {n : Nat} (hr : Room n X.A) (T : Txt X.K X.mg) (ha1 : PA X [e] (tCons te tNil)) (hg : Gl X "NoGuest" := by rfl) (hn : 2 ≤ n := by decide)
    (he : starEach [e] X.env = (false, eval e X.env) :: starEach [] X.env := by rfl) (hpl : (backTo pos (starEach [] X.env)).any (·.1) = false := by rfl) :
    PMk X (.Call (.Name "NoGuest" p) [e] [] pos) (GX.tMkX (He.ga X.K "NoGuest") "found" te) := GX.pmk_at (xd_NoGuest T) hr hn hg ha1 (by decide) he hpl
theorem sc_NoNeeds_init : FnScope ["self", "found"] ["self", "found"] (defScope s_NoNeeds_init) := ⟨rfl, rfl, rfl, by decide +kernel, rfl, by decide +kernel, by decide +kernel⟩
theorem xd_NoNeeds (T : Txt K mg) : GX.XDef P w K mg base GX.bVE "NoNeeds" "found" ["self", "found"] (He.ga K "NoNeeds") := by
  obtain ⟨fI, fd, F⟩ := T.x_NoNeeds
  refine GX.XDef.mk F sc_NoNeeds_init rfl (fun _ _ _ _ _ _ us hl => match us, hl with | [_, _], _ => rfl) (fun cdv A outer s H E hr => ?_)
  exact ⟨_, _, _, pss_cons (ps_expr (GX.pe_ginit T.g_GuestError.gb GX.bVE_ok (by rfl) T.g_GuestError.g (pa_cons (pv 0) (pa_cons pe_str pa_nil)))) (pss_one (GX.ps_xst (pv 0) (pv 1))),
    fun a v H Q h => ⟨_, rfl, h _⟩, fun a v H Q h => ⟨_, rfl, h⟩, fun a v H Q h => ⟨_, rfl, h⟩⟩
theorem pmk_NoNeeds {X : Cx} {e : Expr} {te : TE} {p pos : Pos} {n : Nat} (hr : Room n X.A) (T : Txt X.K X.mg) (ha1 : PA X [e] (tCons te tNil)) (hg : Gl X "NoNeeds" := by rfl) (hn : 2 ≤ n := by decide)
    (he : starEach [e] X.env = (false, eval e X.env) :: starEach [] X.env := by rfl) (hpl : (backTo pos (starEach [] X.env)).any (·.1) = false := by rfl) :
    PMk X (.Call (.Name "NoNeeds" p) [e] [] pos) (GX.tMkX (He.ga X.K "NoNeeds") "found" te) := GX.pmk_at (xd_NoNeeds T) hr hn hg ha1 (by decide) he hpl
end
end K87

set_option Elab.async false
set_option linter.all false
set_option maxRecDepth 100000
set_option maxHeartbeats 1000000
namespace K87
open PySem PySem.Spec PyProof.Rows L2 RP
section
variable {P : Program} {w : World} {K : PySem.W.Frag} {mg : Str → Option Value} {base : Heap}
/-! ### is_whole -/
theorem sc_is_whole : FnScope ["thing", "low", "high"] ["thing", "low", "high"] (defScope s_is_whole) := ⟨rfl, rfl, rfl, by decide +kernel, rfl, by decide +kernel, by decide +kernel⟩
def _root_.RP.D.whole (d : D) (lo hi : Int) : Bool := match d with
  | .int i => decide (lo ≤ i) && decide (i ≤ hi)
  | _ => false
def spWhole (K : PySem.W.Frag) : Sp := fun vs H Q _ => ∃ (v : V) (d : D) (lo hi : Int), vs = [v, .int lo, .int hi] ∧ Rep K H v d ∧ Q (.bl (d.whole lo hi)) H
theorem ok_is_whole (T : Txt K mg) : Def P w K mg base 1 "is_whole" ["thing", "low", "high"] (spWhole K) := by
  obtain ⟨f, fd, F⟩ := T.a_is_whole
  refine Def.mk F sc_is_whole (fun _ _ _ _ _ _ us hl => match us, hl with | [_, _, _], _ => rfl) (fun vs H Q E h => ?_) (fun cdv A outer s H vs Q E hr h => ?_)
  · obtain ⟨v, d, lo, hi, rfl, _⟩ := h
    rfl
  · obtain ⟨v, d, lo, hi, rfl, hv, hq⟩ := h
    refine ⟨_, (pss_one (ps_ret (pe_and (pe_callB (kcall_is K rfl) (by rfl) T.b_isinstance (by decide +kernel) (pa_cons (pv 0) (pa_cons (pe_bltn (v := .ty "int") (by rfl) T.b_int (by decide +kernel) rfl) pa_nil))) (pe_and (pe_not (pe_callB (kcall_is K rfl) (by rfl) T.b_isinstance (by decide +kernel) (pa_cons (pv 0) (pa_cons (pe_bltn (v := .ty "bool") (by rfl) T.b_bool (by decide +kernel) rfl) pa_nil)))) (pe_one (pe_chain op_le op_le (pv 1) (pv 0) (pv 2))))))), ?_⟩
    refine ⟨_, rfl, rd_isi hv ⟨_, rfl, ?_⟩⟩
    cases d with
    | int i =>
      cases hv
      refine iteT ⟨_, rfl, rd_isi (.int i) ⟨_, rfl, ⟨_, rfl, ?_⟩⟩⟩
      refine iteT ⟨_, rfl, _, rfl, _, _, rfl, rfl, _, rfl, ?_⟩
      show if decide (lo ≤ i) = true then _ else _
      refine ite_dec (fun c => ⟨_, rfl, _, _, rfl, rfl, ?_⟩) (fun c => ?_)
      · have e : (D.int i).whole lo hi = decide (i ≤ hi) := by
          show (decide (lo ≤ i) && decide (i ≤ hi)) = _
          rw [c]
          rfl
        rw [e] at hq
        exact hq
      · have e : (D.int i).whole lo hi = false := by
          show (decide (lo ≤ i) && decide (i ≤ hi)) = _
          rw [c]
          rfl
        rw [e] at hq
        exact hq
    | bl b => exact iteT ⟨_, rfl, rd_isi hv ⟨_, rfl, ⟨_, rfl, iteF hq⟩⟩⟩
    | _ => exact iteF hq
theorem all_range_getD (a : Array Nat) (p : Nat → Bool) : ((List.range a.size).map fun i => p (a.getD i 0)).all id = a.toList.all p := by
  have e : a.toList = (List.range a.size).map fun i => a.getD i 0 := by
    refine List.ext_getElem (by simp) fun i h1 h2 => ?_
    have h3 : i < a.size := by simpa using h1
    simp [h3]
  rw [e, List.all_map, List.all_map]
  rfl
/-! ### is_name -/
theorem sc_is_name : FnScope ["thing", "sign"] ["thing"] (defScope s_is_name) := ⟨rfl, rfl, rfl, by decide +kernel, rfl, by decide +kernel, by decide +kernel⟩
def abc : Str := "abcdefghijklmnopqrstuvwxyz"
def okName (z : Str) : Bool := decide (1 ≤ z.length) && (decide (z.length ≤ 8) && z.cps.toList.all fun c => decide (c ∈ abc.cps.toList))
def _root_.RP.D.name (d : D) : Bool := match d with
  | .str z => okName z
  | _ => false
def spName (K : PySem.W.Frag) : Sp := fun vs H Q _ => ∃ (v : V) (d : D), vs = [v] ∧ Rep K H v d ∧ ∀ H', Same H H' → Q (.bl d.name) H'
theorem ok_is_name (T : Txt K mg) : Def P w K mg base 1 "is_name" ["thing"] (spName K) := by
  obtain ⟨f, fd, F⟩ := T.a_is_name
  refine Def.mk F sc_is_name (fun _ _ _ _ _ _ us hl => match us, hl with | [_], _ => rfl) (fun vs H Q E h => ?_) (fun cdv A outer s H vs Q E hr h => ?_)
  · obtain ⟨v, d, rfl, _⟩ := h
    rfl
  · obtain ⟨v, d, rfl, hv, hq⟩ := h
    refine ⟨_, (pss_cons (ps_if (PW.pt (pw_or (pt_not (pt_val (pe_callB (kcall_is K rfl) (by rfl) T.b_isinstance (by decide +kernel) (pa_cons (pv 0) (pa_cons (pe_bltn (v := .ty "str") (by rfl) T.b_str (by decide +kernel) rfl) pa_nil))))) (pw_or1 (pt_not (pt_chain op_le op_le pe_int (pe_callB call_len_str (by rfl) T.b_len (by decide +kernel) (pa_cons (pv 0) pa_nil)) (pe_gi (by rfl) T.c_LONGEST_NAME)))))) (pss_one (ps_ret pe_bl)) pss_nil)
      (pss_one (ps_ret (pe_callB (kcr_all K rfl rfl) (by rfl) T.b_all (by decide +kernel) (pa_cons (pe_lc (own := [("sign", 1)]) rfl sc_is_name.nd (pi_str (pv 0)) (blkOk_by (own := [("sign", 1)]) (N := ["thing", "sign"]) (sc := defScope s_is_name) (by decide +kernel)) (fun _ _ _ _ _ => (pg_name (i := 1) sc_is_name.nd rfl (Or.inl rfl))) (fun _ _ _ _ _ => pts_nil) (fun _ _ _ _ _ => (pe_cmpR op_inS (pv 1) (pe_gs (by rfl) T.c_LETTERS) (by rfl)))) pa_nil))))), ?_⟩
    refine ⟨_, rfl, rd_isi hv ⟨_, rfl, ?_⟩⟩
    cases d with
    | str z =>
      cases hv with
      | str _ hz =>
      refine iteF ⟨_, rfl, z, rfl, hz, _, _, rfl, rfl, _, rfl, ?_⟩
      show if decide ((1 : Int) ≤ (z.length : Int)) = true then _ else _
      refine ite_dec (fun c1 => ⟨_, _, rfl, rfl, _, rfl, ?_⟩) (fun c1 => ⟨_, rfl, iteT ?_⟩)
      · show if (!decide ((z.length : Int) ≤ 8)) = true then _ else _
        refine ite_dec (fun c2 => ?_) (fun c2 => ?_)
        · refine (?_ : Q (.bl false) H)
          have e : (D.str z).name = false := by
            have q : ¬ z.length ≤ 8 := by simp at c2; omega
            show okName z = false
            unfold okName
            rw [decide_eq_false q, Bool.false_and, Bool.and_false]
          rw [e] at hq
          exact hq H (Same.refl H)
        · have q1 : 1 ≤ z.length := by have := of_decide_eq_true c1; omega
          have q2 : z.length ≤ 8 := by simp at c2; omega
          refine ⟨_, rfl, z, rfl, fun L hL => ?_⟩
          refine lc_vals (w := walk_str) (fun i => some (.bl (decide (z.cps.getD i 0 ∈ abc.cps.toList)))) hL (by show z.cps.size ≤ 1000000; have : z.cps.size = z.length := rfl; omega) (fun _ _ => True.intro) ?_ ?_
          · rintro i x H1 H2 Y2 N2 hi s1 hn ⟨rfl, c, hc, rfl⟩ k1 k2
            refine ⟨rfl, ⟨_, rfl, c, abc, rfl, rfl, k1 _ _ ?_ (Same.refl _)⟩⟩
            have e : z.cps.getD i 0 = c := by rw [Array.getD_eq_getD_getElem?, hc]; rfl
            rw [e]
          · intro H2 s2 h2
            refine ⟨L, (List.range z.cps.size).map (fun i => decide (z.cps.getD i 0 ∈ abc.cps.toList)), rfl, SqL.of ?_, ?_⟩
            · rw [h2]
              congr 2
              rw [List.map_map]
              induction z.cps.size with
              | zero => rfl
              | succ n ih => rw [range_succ_filterMap, List.range_succ, List.map_append, ih]; rfl
            · have e : ((List.range z.cps.size).map fun i => decide (z.cps.getD i 0 ∈ abc.cps.toList)).all id = (D.str z).name := by
                rw [all_range_getD z.cps fun c => decide (c ∈ abc.cps.toList)]
                show _ = okName z
                unfold okName
                rw [decide_eq_true q1, decide_eq_true q2, Bool.true_and, Bool.true_and]
              rw [e]
              exact hq _ s2
      · refine (?_ : Q (.bl false) H)
        have e : (D.str z).name = false := by
          have q : ¬ 1 ≤ z.length := by simp at c1; omega
          show okName z = false
          unfold okName
          rw [decide_eq_false q, Bool.false_and]
        rw [e] at hq
        exact hq H (Same.refl H)
    | _ => exact iteT (iteT (hq H (Same.refl H)))
end
end K87

set_option Elab.async false
set_option linter.all false
set_option maxRecDepth 100000
set_option maxHeartbeats 1000000
namespace K87
open PySem PySem.Spec PyProof.Rows L2 RP
section
variable {P : Program} {w : World} {K : PySem.W.Frag} {mg : Str → Option Value} {base : Heap}
/-! ### need_length -/
theorem sc_need_length : FnScope ["length"] ["length"] (defScope s_need_length) := ⟨rfl, rfl, rfl, by decide +kernel, rfl, by decide +kernel, by decide +kernel⟩
/-- an error of the class x, its field the very thing -/
def Errs (K : PySem.W.Frag) (x f : Str) (v : V) (H : Hp) (E : XK) : Prop := ∀ (H' : Hp) (d : Addr), Same H H' → H d = none → H' d = some (.xd [(f, v)]) → E (.ref (He.ga K x)) (some d) H'
def spNeedLen (K : PySem.W.Frag) : Sp := fun vs H Q E => ∃ (v : V) (d : D), vs = [v] ∧ Rep K H v d ∧ (d.whole 4 60 = true → Q .non H) ∧ (d.whole 4 60 = false → Errs K "NoNumber" "found" v H E)
theorem ok_need_length (T : Txt K mg) (G_is_whole : Def P w K mg base 1 "is_whole" ["thing", "low", "high"] (spWhole K)) : Def P w K mg base 3 "need_length" ["length"] (spNeedLen K) := by
  obtain ⟨f, fd, F⟩ := T.a_need_length
  refine Def.mk F sc_need_length (fun _ _ _ _ _ _ us hl => match us, hl with | [_], _ => rfl) (fun vs H Q E h => ?_) (fun cdv A outer s H vs Q E hr h => ?_)
  · obtain ⟨v, d, rfl, _⟩ := h
    rfl
  · obtain ⟨v, d, rfl, hv, h1, h2⟩ := h
    refine ⟨_, (pss_one (ps_if (pt_not (pt_val (pe_d G_is_whole (hr.mono (by decide)) (by rfl) (pa_cons (pv 0) (pa_cons (pe_gi (by rfl) T.c_LEAST_LENGTH) (pa_cons (pe_gi (by rfl) T.c_MOST_LENGTH) pa_nil)))))) (pss_one (ps_raise rfl tkB (pmk_NoNumber hr T (pa_cons (pv 0) pa_nil)))) pss_nil)), ?_⟩
    refine ⟨_, rfl, v, d, 4, 60, rfl, hv, _, rfl, ?_⟩
    show if (!d.whole 4 60) = true then _ else _
    cases c : d.whole 4 60 with
    | true => exact h1 c
    | false => exact ⟨_, rfl, fun dd hd => h2 c _ dd (same_new hd) hd upd_same⟩
theorem max_if (a b : Int) : max a b = if b > a then b else a := by
  show (if a ≤ b then b else a) = _
  split <;> split <;> omega
theorem two_of {K : PySem.W.Frag} {H : Hp} {vs : List V} {ds : List D} (r : Reps K H vs ds) : (∃ p c vp vc, ds = [p, c] ∧ vs = [vp, vc] ∧ Rep K H vp p ∧ Rep K H vc c) ∨ vs.length ≠ 2 := by
  cases r with
  | nil => exact .inr (by decide)
  | cons h1 t =>
    cases t with
    | nil => exact .inr (by simp)
    | cons h2 t2 =>
      cases t2 with
      | nil => exact .inl ⟨_, _, _, _, rfl, rfl, h1, h2⟩
      | cons _ _ => exact .inr (by simp)
/-! ### are_shares -/
theorem sc_are_shares : FnScope ["thing", "length", "together", "name", "share", "promise", "ceiling"] ["thing", "length"] (defScope s_are_shares) := ⟨rfl, rfl, rfl, by decide +kernel, rfl, by decide +kernel, by decide +kernel⟩
/-- one guest's share: its promise, where all is well -/
def shEnt (len : Int) (e : Str × D) : Option Int := match e.2 with
  | .tup [p, c] => match p with
    | .int p => if okName e.1 = true ∧ (D.int p).whole 0 len = true ∧ c.whole (max 1 p) len = true then some p else none
    | _ => none
  | _ => none
theorem shEnt_tup {len : Int} {x : Str} {ds : List D} (h : ds.length ≠ 2) : shEnt len (x, .tup ds) = none := by
  match ds, h with
  | [], _ => rfl
  | [_], _ => rfl
  | [_, _], h => exact absurd rfl h
  | _ :: _ :: _ :: _, _ => rfl
def shSum (len : Int) : List (Str × D) → Option Int
  | [] => some 0
  | e :: r => match shEnt len e, shSum len r with
    | some p, some s => some (p + s)
    | _, _ => none
def _root_.RP.D.shares (d : D) (len : Int) : Bool := match d with
  | .dct l => decide (l.length ≤ 6) && (match shSum len l with
    | some s => decide (s ≤ len)
    | none => false)
  | _ => false
theorem shares_dct (l : List (Str × D)) (len : Int) : (D.dct l).shares len = (decide (l.length ≤ 6) && (match shSum len l with
    | some s => decide (s ≤ len)
    | none => false)) := rfl
theorem shSum_bad {len : Int} : ∀ {l : List (Str × D)} {i : Nat} {e : Str × D}, l[i]? = some e → shEnt len e = none → shSum len l = none
  | [], _, _, h, _ => nomatch h
  | a :: r, 0, e, h, b => by
    cases h
    unfold shSum
    rw [b]
  | a :: r, i + 1, e, h, b => by
    have ih := shSum_bad (l := r) (i := i) h b
    unfold shSum
    rw [ih]
    cases shEnt len a <;> rfl
theorem shSum_take {len : Int} : ∀ {l : List (Str × D)} {i : Nat} {e : Str × D} {s p : Int}, l[i]? = some e → shEnt len e = some p → shSum len (l.take i) = some s → shSum len (l.take (i + 1)) = some (s + p)
  | [], _, _, _, _, h, _, _ => nomatch h
  | a :: r, 0, e, s, p, h, b, c => by
    cases h
    cases c
    show shSum len [a] = _
    unfold shSum
    rw [b]
    show some (p + 0) = some (0 + p)
    rw [Int.add_comm]
  | a :: r, i + 1, e, s, p, h, b, c => by
    have c2 : shSum len (a :: r.take i) = some s := c
    unfold shSum at c2
    cases q1 : shEnt len a with
    | none =>
      rw [q1] at c2
      cases c2
    | some x =>
      cases q2 : shSum len (r.take i) with
      | none =>
        rw [q1, q2] at c2
        cases c2
      | some y =>
        rw [q1, q2] at c2
        have e2 : x + y = s := Option.some.inj c2
        have ih := shSum_take (l := r) (i := i) h b q2
        show shSum len (a :: r.take (i + 1)) = _
        unfold shSum
        rw [q1, ih]
        show some (x + (y + p)) = some (s + p)
        rw [← e2, Int.add_assoc]
def spShares (K : PySem.W.Frag) : Sp := fun vs H Q _ => ∃ (R : Hp) (v : V) (d : D) (len : Int), vs = [v, .int len] ∧ Same R H ∧ Plain R ∧ Rep K R v d ∧ ∀ H', Same H H' → Q (.bl (d.shares len)) H'
theorem ok_are_shares (T : Txt K mg) (G_is_whole : Def P w K mg base 1 "is_whole" ["thing", "low", "high"] (spWhole K)) (G_is_name : Def P w K mg base 1 "is_name" ["thing"] (spName K)) :
    Def P w K mg base 3 "are_shares" ["thing", "length"] (spShares K) := by
  obtain ⟨f, fd, F⟩ := T.a_are_shares
  refine Def.mk F sc_are_shares (fun _ _ _ _ _ _ us hl => match us, hl with | [_, _], _ => rfl) (fun vs H Q E h => ?_) (fun cdv A outer s H vs Q E hr h => ?_)
  · obtain ⟨R, v, d, len, rfl, _⟩ := h
    rfl
  · obtain ⟨R, v, d, len, rfl, sR, pR, hv, hq⟩ := h
    refine ⟨_, (pss_cons (ps_if (PW.pt (pw_or (pt_not (pt_val (pe_callB (kcall_is K rfl) (by rfl) T.b_isinstance (by decide +kernel) (pa_cons (pv 0) (pa_cons (pe_bltn (v := .ty "dict") (by rfl) T.b_dict (by decide +kernel) rfl) pa_nil))))) (pw_or1 (pt_cmpR op_gt (pe_callB call_lenD (by rfl) T.b_len (by decide +kernel) (pa_cons (pv 0) pa_nil)) (pe_gi (by rfl) T.c_MOST_GUESTS) (nomark _))))) (pss_one (ps_ret pe_bl)) pss_nil)
      (pss_cons (ps_set (i := 2) sc_are_shares.nd rfl (Or.inl rfl) pe_int)
      (pss_cons (ps_lock (ps_for (passes_of rfl) rfl (pi_items (pv 0)) (kpg_tup K rfl (n := 2) rfl (pgs_cons (pg_name (i := 3) sc_are_shares.nd rfl (Or.inl rfl)) (pgs_cons (pg_name (i := 4) sc_are_shares.nd rfl (Or.inl rfl)) pgs_nil)))
        (pss_cons (ps_if (PW.pt (pw_or (pt_not (pt_val (pe_d G_is_name (hr.mono (by decide)) (by rfl) (pa_cons (pv 3) pa_nil)))) (pw_or (pt_not (pt_val (pe_callB (kcall_is K rfl) (by rfl) T.b_isinstance (by decide +kernel) (pa_cons (pv 4) (pa_cons (pe_bltn (v := .ty "tuple") (by rfl) T.b_tuple (by decide +kernel) rfl) pa_nil))))) (pw_or1 (pt_cmpR op_ne (pe_callB (kcall_len_seq K rfl) (by rfl) T.b_len (by decide +kernel) (pa_cons (pv 4) pa_nil)) pe_int (nomark _)))))) (pss_one (ps_ret pe_bl)) pss_nil)
      (pss_cons (ps_asg (pv 4) (kpg_tup K rfl (n := 2) rfl (pgs_cons (pg_name (i := 5) sc_are_shares.nd rfl (Or.inl rfl)) (pgs_cons (pg_name (i := 6) sc_are_shares.nd rfl (Or.inl rfl)) pgs_nil))))
      (pss_cons (ps_if (PW.pt (pw_or (pt_not (pt_val (pe_d G_is_whole (hr.mono (by decide)) (by rfl) (pa_cons (pv 5) (pa_cons pe_int (pa_cons (pv 1) pa_nil)))))) (pw_or1 (pt_not (pt_val (pe_d G_is_whole (hr.mono (by decide)) (by rfl) (pa_cons (pv 6) (pa_cons (pe_callB (call_max2 rfl) (by rfl) T.b_max (by decide +kernel) (pa_cons pe_int (pa_cons (pv 5) pa_nil))) (pa_cons (pv 1) pa_nil))))))))) (pss_one (ps_ret pe_bl)) pss_nil)
      (pss_one (ps_aug (i := 2) sc_are_shares.nd rfl (Or.inl rfl) (pv 5) ip_add)))))))
      (pss_one (ps_ret (pe_cmpR op_le (pv 2) (pv 1) (nomark _))))))), ?_⟩
    refine ⟨_, rfl, rd_isi (hv.same sR) ⟨_, rfl, ?_⟩⟩
    cases d with
    | dct l =>
      cases hv with
      | @dct a kvs _ hk rk =>
      have hH : H a = some (.dK kvs) := sR _ _ (pR.rd hk)
      have hl := rk.len
      refine iteF ⟨_, rfl, a, kvs, rfl, hH, _, _, rfl, rfl, _, rfl, ?_⟩
      show if decide ((6 : Int) < (kvs.length : Int)) = true then _ else _
      refine ite_dec (fun c1 => ?_) (fun c1 => ?_)
      · refine (?_ : Q (.bl false) H)
        have e : (D.dct l).shares len = false := by
          have q : ¬ l.length ≤ 6 := by
            have := of_decide_eq_true c1
            omega
          rw [shares_dct, decide_eq_false q, Bool.false_and]
        rw [e] at hq
        exact hq H (Same.refl H)
      · have hl6 : l.length ≤ 6 := by
          have := of_decide_eq_false c1
          omega
        have bad : ∀ {i : Nat} {e : Str × D} {H' : Hp} {od : Obj}, l[i]? = some e → shEnt len e = none → Same (upd H a (.frz od (.dK kvs))) H' → H' a = some (.frz od (.dK kvs)) ∧ Q (.bl false) (upd H' a (.dK kvs)) := fun {i e H' od} h1 h2 s => by
          have e2 : (D.dct l).shares len = false := by
            rw [shares_dct, shSum_bad h1 h2, Bool.and_false]
          have z := hq _ (Same.unlock hH s)
          rw [e2] at z
          exact ⟨s _ _ upd_same, z⟩
        refine ⟨a, .dK kvs, hH, True.intro, fun od => ⟨_, rfl, a, od, kvs, rfl, upd_same, ?_⟩⟩
        refine for_it (w := walk_items) (fun i σ H' => ∃ (s : Int) (o3 o4 o5 o6 : Option V), σ = [some (.ref a), some (.int len), some (.int s), o3, o4, o5, o6] ∧ shSum len (l.take i) = some s ∧ Same (upd H a (.frz od (.dK kvs))) H')
          ⟨0, none, none, none, none, rfl, rfl, Same.refl _⟩ (fun i σ H' _ ⟨_, _, _, _, _, _, _, s⟩ => s _ _ upd_same) ?_ ?_
        · rintro i x σ H1 H2 hi ⟨s, o3, o4, o5, o6, rfl, hs, s1⟩ ⟨t, kx, vx, rfl, ht, rfl, hkx, hvx⟩
          obtain ⟨ky, hky, rfl⟩ := Option.map_eq_some_iff.mp hkx
          obtain ⟨kz, hkz, rfl⟩ := Option.map_eq_some_iff.mp hvx
          rw [hky] at hkz
          cases hkz
          obtain ⟨k, z⟩ := ky
          obtain ⟨x, d, hd, rfl, hx, rz⟩ := rk.get hky
          have lq : Lq R (upd H1 t (.tup [.str x, z])) := ((Lq.of sR).lock hH True.intro).trans ((Lq.of s1).trans (Lq.of (same_new ht)))
          have s2 : Same (upd H a (.frz od (.dK kvs))) (upd H1 t (.tup [.str x, z])) := s1.trans (same_new ht)
          have rz' := rz.mono lq
          refine ⟨t, [.str x, z], rfl, SqT.of upd_same, rfl, _, _, rfl, _, _, rfl, rfl, ?_⟩
          -- the first test
          refine ⟨_, rfl, .str x, .str x, rfl, .str x hx, fun H3 s3 => ?_⟩
          refine ⟨_, rfl, ?_⟩
          show if (!okName x) = true then _ else _
          cases c2 : okName x with
          | false =>
            refine bad hd ?_ (s2.trans s3)
            unfold shEnt
            split
            · split
              · rw [if_neg]
                intro q
                rw [c2] at q
                cases q.1
              · rfl
            · rfl
          | true =>
            refine iteF ⟨_, rfl, rd_isi (rz'.same s3) ⟨_, rfl, ?_⟩⟩
            have no : shEnt len (x, d) = none → H3 a = some (.frz od (.dK kvs)) ∧ Q (.bl false) (upd H3 a (.dK kvs)) := fun q => bad hd q (s2.trans s3)
            cases d with
            | tup ds =>
              cases rz' with
              | @tup b ys _ hT rT =>
              have hT3 : SqT K H3 b ys := (Lq.of s3).tup hT
              have r3 := rT.same s3
              refine iteF ⟨_, rfl, b, ys, rfl, .inr hT3, rfl, _, rfl, ?_⟩
              rcases two_of r3 with ⟨p, c, vp, vc, rfl, rfl, rp, rc⟩ | hne
              · skip
                refine ⟨_, rfl, b, [vp, vc], rfl, hT3, rfl, _, _, rfl, _, _, rfl, rfl, ?_⟩
                refine ⟨_, rfl, _, rfl, vp, p, 0, len, rfl, rp, _, rfl, ?_⟩
                show if (!p.whole 0 len) = true then _ else _
                cases c3 : p.whole 0 len with
                | false =>
                  refine no ?_
                  cases p with
                  | int p =>
                    show (if okName x = true ∧ (D.int p).whole 0 len = true ∧ c.whole (max 1 p) len = true then some p else none) = none
                    rw [if_neg]
                    intro q
                    rw [c3] at q
                    exact absurd q.2.1 (by decide)
                  | _ => rfl
                | true =>
                  cases p with
                  | int p =>
                    cases rp
                    refine iteF ⟨_, rfl, _, rfl, _, _, rfl, ⟨_, rfl, ?_⟩⟩
                    refine ⟨vc, c, max 1 p, len, by rw [max_if], rc, _, rfl, ?_⟩
                    show if (!c.whole (max 1 p) len) = true then _ else _
                    cases c4 : c.whole (max 1 p) len with
                    | false =>
                      refine no ?_
                      show (if okName x = true ∧ (D.int p).whole 0 len = true ∧ c.whole (max 1 p) len = true then some p else none) = none
                      rw [if_neg]
                      intro q
                      rw [c4] at q
                      exact absurd q.2.2 (by decide)
                    | true =>
                      have he : shEnt len (x, .tup [.int p, c]) = some p := by
                        show (if okName x = true ∧ (D.int p).whole 0 len = true ∧ c.whole (max 1 p) len = true then some p else none) = some p
                        rw [if_pos ⟨c2, c3, c4⟩]
                      refine ⟨_, rfl, _, rfl, _, _, rfl, rfl, ?_⟩
                      exact ⟨s + p, _, _, _, _, rfl, shSum_take hd he hs, s2.trans s3⟩
                  | _ => cases c3
              · have hq : (!decide (V.int (ys.length : Int) = V.int 2)) = true := by
                  have z : ys.length ≠ 2 := hne
                  simp
                  omega
                show if (!decide (V.int (ys.length : Int) = V.int 2)) = true then _ else _
                rw [if_pos hq]
                exact no (shEnt_tup (by rw [← r3.len]; exact hne))
            | _ => exact iteT (no rfl)
        · rintro σ H1 ⟨s, o3, o4, o5, o6, rfl, hs, s1⟩
          refine ⟨s1 _ _ upd_same, ?_⟩
          have hs2 : shSum len l = some s := by
            rw [hl, List.take_length] at hs
            exact hs
          refine ⟨_, rfl, _, rfl, _, _, rfl, rfl, ?_⟩
          have e : (D.dct l).shares len = decide (s ≤ len) := by
            rw [shares_dct, hs2, decide_eq_true hl6, Bool.true_and]
          rw [e] at hq
          exact hq _ (Same.unlock hH s1)
    | _ => exact iteT (iteT (hq H (Same.refl H)))
end
end K87

set_option Elab.async false
set_option linter.all false
set_option maxRecDepth 100000
set_option maxHeartbeats 1000000
namespace RP
open PySem PySem.Spec PyProof.Rows L2
/-- a dict's value -/
def dlook (l : List (Str × D)) (z : Str) : Option D := (l.find? fun e => decide (e.1 = z)).map (·.2)
theorem RepK.val {K : PySem.W.Frag} {H : Hp} (z : Str) : ∀ {kvs : List (Key × V)} {ds : List (Str × D)}, RepK K H kvs ds →
    (∃ v d, valV kvs (.inr z) = some v ∧ dlook ds z = some d ∧ Rep K H v d) ∨ (valV kvs (.inr z) = none ∧ dlook ds z = none)
  | _, _, .nil => .inr ⟨rfl, rfl⟩
  | _, _, .cons (x := x) (v := v) (d := d) (kvs := kvs) (ds := ds) hx h t => by
    by_cases e : x = z
    · refine .inl ⟨v, d, valV_pos (by rw [e]), ?_, h⟩
      unfold dlook
      rw [List.find?_cons]
      simp [e]
    · have e2 : ¬ (Sum.inr x : Key) = Sum.inr z := fun q => e (Sum.inr.inj q)
      have e3 : dlook ((x, d) :: ds) z = dlook ds z := by
        unfold dlook
        rw [List.find?_cons]
        simp [e]
      rw [valV_neg (by exact e2), e3]
      exact RepK.val z t
theorem dlook_any (l : List (Str × D)) (z : Str) : (dlook l z).isSome = l.any fun e => decide (e.1 = z) := by
  unfold dlook
  rw [Option.isSome_map]
  induction l with
  | nil => rfl
  | cons a r ih =>
    rw [List.find?_cons, List.any_cons]
    cases h : decide (a.1 = z) with
    | true => rfl
    | false => rw [Bool.false_or]; exact ih
/-- what is read off a dict -/
theorem RepK.get_of {K : PySem.W.Frag} {H : Hp} {a : Addr} {kvs : List (Key × V)} {ds : List (Str × D)} {z : Str} {d : D} (r : RepK K H kvs ds) (h : Rd H a (.dK kvs)) (e : dlook ds z = some d) : ∃ v, DGet H a (.str z) (some v) ∧ Rep K H v d := by
  rcases r.val z with ⟨v, d2, e1, e2, q⟩ | ⟨_, e2⟩
  · rw [e] at e2
    cases e2
    exact ⟨v, .inl ⟨kvs, .inr z, h, rfl, e1.symm⟩, q⟩
  · rw [e] at e2
    cases e2
end RP
namespace K87
open PySem PySem.Spec PyProof.Rows L2 RP
section
variable {P : Program} {w : World} {K : PySem.W.Frag} {mg : Str → Option Value} {base : Heap}
theorem Errs.same {x f : Str} {v : V} {H H1 : Hp} {E : XK} (s : Same H H1) (h : Errs K x f v H E) : Errs K x f v H1 E := fun H' d s' hd e => h H' d (s.trans s') (s.free hd) e
/-! ### need_case -/
theorem sc_need_case : FnScope ["length", "guests", "name"] ["length", "guests", "name"] (defScope s_need_case) := ⟨rfl, rfl, rfl, by decide +kernel, rfl, by decide +kernel, by decide +kernel⟩
def _root_.RP.D.keyOf (dn dg : D) : Bool := match dn, dg with
  | .str z, .dct l => (dlook l z).isSome
  | _, _ => false
/-- 0: no length, 1: no shares, 2: no guest, 3: all is well -/
def caseR (dl dg dn : D) : Nat := match dl with
  | .int len => if (D.int len).whole 4 60 = true then if dg.shares len = true then if dn.keyOf dg = true then 3 else 2 else 1 else 0
  | _ => 0
def spNeedCase (K : PySem.W.Frag) : Sp := fun vs H Q E => ∃ (R : Hp) (vl vg vn : V) (dl dg dn : D), vs = [vl, vg, vn] ∧ Same R H ∧ Plain R ∧ Rep K R vl dl ∧ Rep K R vg dg ∧ Rep K R vn dn ∧
  (caseR dl dg dn = 0 → Errs K "NoNumber" "found" vl H E) ∧ (caseR dl dg dn = 1 → Errs K "NoShare" "found" vg H E) ∧ (caseR dl dg dn = 2 → Errs K "NoGuest" "found" vn H E) ∧ (caseR dl dg dn = 3 → ∀ H', Same H H' → Q .non H')
theorem whole_int {d : D} {lo hi : Int} (h : d.whole lo hi = true) : ∃ i, d = .int i ∧ lo ≤ i ∧ i ≤ hi := by
  cases d with
  | int i =>
    have h2 : (decide (lo ≤ i) && decide (i ≤ hi)) = true := h
    rw [Bool.and_eq_true] at h2
    exact ⟨i, rfl, of_decide_eq_true h2.1, of_decide_eq_true h2.2⟩
  | _ => cases h
theorem shares_dct_of {d : D} {len : Int} (h : d.shares len = true) : ∃ l, d = .dct l := by
  cases d with
  | dct l => exact ⟨l, rfl⟩
  | _ => cases h
theorem ok_need_case (T : Txt K mg) (G_need_length : Def P w K mg base 3 "need_length" ["length"] (spNeedLen K)) (G_are_shares : Def P w K mg base 3 "are_shares" ["thing", "length"] (spShares K)) :
    Def P w K mg base 4 "need_case" ["length", "guests", "name"] (spNeedCase K) := by
  obtain ⟨f, fd, F⟩ := T.a_need_case
  refine Def.mk F sc_need_case (fun _ _ _ _ _ _ us hl => match us, hl with | [_, _, _], _ => rfl) (fun vs H Q E h => ?_) (fun cdv A outer s H vs Q E hr h => ?_)
  · obtain ⟨R, vl, vg, vn, dl, dg, dn, rfl, _⟩ := h
    rfl
  · obtain ⟨R, vl, vg, vn, dl, dg, dn, rfl, sR, pR, hl, hg, hn, k0, k1, k2, k3⟩ := h
    refine ⟨_, (pss_cons (ps_expr (pe_dX G_need_length (hr.mono (by decide)) (by rfl) tkB (pa_cons (pv 0) pa_nil)))
      (pss_cons (ps_if (pt_not (pt_val (pe_d G_are_shares (hr.mono (by decide)) (by rfl) (pa_cons (pv 1) (pa_cons (pv 0) pa_nil))))) (pss_one (ps_raise rfl tkB (pmk_NoShare hr T (pa_cons (pv 1) pa_nil)))) pss_nil)
      (pss_one (ps_if (PW.pt (pw_or (pt_not (pt_val (pe_callB (kcall_is K rfl) (by rfl) T.b_isinstance (by decide +kernel) (pa_cons (pv 2) (pa_cons (pe_bltn (v := .ty "str") (by rfl) T.b_str (by decide +kernel) rfl) pa_nil))))) (pw_or1 (pt_cmp (pc_dnotin (hu_of hr) (pv 2) (pv 1)))))) (pss_one (ps_raise rfl tkB (pmk_NoGuest hr T (pa_cons (pv 2) pa_nil)))) pss_nil)))), ?_⟩
    refine ⟨_, rfl, vl, dl, rfl, hl.same sR, fun c0 => ?_, fun c0 => k0 ?_⟩
    · obtain ⟨len, rfl, _, _⟩ := whole_int c0
      cases hl
      refine ⟨_, rfl, _, rfl, R, vg, dg, len, rfl, sR, pR, hg, fun H1 s1 => ⟨_, rfl, ?_⟩⟩
      show if (!dg.shares len) = true then _ else _
      have hc : caseR (.int len) dg dn = if dg.shares len = true then if dn.keyOf dg = true then 3 else 2 else 1 := by
        show (if (D.int len).whole 4 60 = true then _ else _) = _
        rw [if_pos c0]
      cases c1 : dg.shares len with
      | false =>
        rw [c1] at hc
        exact ⟨_, rfl, fun dd hd => (k1 hc).same s1 _ dd (same_new hd) hd upd_same⟩
      | true =>
        rw [c1] at hc
        obtain ⟨l, rfl⟩ := shares_dct_of c1
        refine iteF ⟨_, rfl, rd_isi (hn.same (sR.trans s1)) ⟨_, rfl, ?_⟩⟩
        have raise : caseR (.int len) (.dct l) dn = 2 → ∀ dd, H1 dd = none → E (.ref (He.ga K "NoGuest")) (some dd) (upd H1 dd (.xd [("found", vn)])) := fun z dd hd => (k2 z).same s1 _ dd (same_new hd) hd upd_same
        cases dn with
        | str z =>
          cases hn with
          | str _ hz =>
          cases hg with
          | @dct a kvs _ hk rk =>
          have hk1 := ((Lq.of sR).trans (Lq.of s1)) _ _ hk
          refine iteF ⟨_, rfl, _, rfl, a, valV kvs (.inr z), rfl, .inl ⟨kvs, .inr z, hk1, rfl, rfl⟩, _, rfl, ?_⟩
          rcases rk.val z with ⟨v, d, e1, e2, _⟩ | ⟨e1, e2⟩
          · rw [e1]
            refine k3 ?_ H1 s1
            rw [hc]
            show (if ((dlook l z).isSome) = true then 3 else 2) = 3
            rw [e2]
            rfl
          · rw [e1]
            refine ⟨_, rfl, raise ?_⟩
            rw [hc]
            show (if ((dlook l z).isSome) = true then 3 else 2) = 2
            rw [e2]
            rfl
        | _ => exact iteT ⟨_, rfl, raise (by rw [hc]; rfl)⟩
    · cases dl with
      | int len =>
        show (if (D.int len).whole 4 60 = true then _ else 0) = 0
        rw [c0]
        rfl
      | _ => rfl
end
end K87

set_option Elab.async false
set_option linter.all false
set_option maxRecDepth 100000
set_option maxHeartbeats 1000000
namespace K87
open PySem PySem.Spec PyProof.Rows L2 RP
/-! ### the data of a case: guests with their shares -/
abbrev G3 := Str × Int × Int
def gD (gs : List G3) : D := .dct (gs.map fun e => (e.1, .tup [.int e.2.1, .int e.2.2]))
structure GsOk (len : Int) (gs : List G3) : Prop where
  n6 : gs.length ≤ 6
  nd : (gs.map (·.1)).Nodup
  nm : ∀ e ∈ gs, okName e.1 = true
  sh : ∀ e ∈ gs, 0 ≤ e.2.1 ∧ e.2.1 ≤ len ∧ max 1 e.2.1 ≤ e.2.2 ∧ e.2.2 ≤ len
  sum : (gs.map (·.2.1)).sum ≤ len
  len : 4 ≤ len ∧ len ≤ 60
theorem shSum_gs {len : Int} : ∀ {gs : List G3}, (∀ e ∈ gs, okName e.1 = true) → (∀ e ∈ gs, 0 ≤ e.2.1 ∧ e.2.1 ≤ len ∧ max 1 e.2.1 ≤ e.2.2 ∧ e.2.2 ≤ len) → shSum len (gs.map fun e => (e.1, D.tup [.int e.2.1, .int e.2.2])) = some (gs.map (·.2.1)).sum
  | [], _, _ => rfl
  | e :: r, h1, h2 => by
    have ih := shSum_gs (gs := r) (fun a ha => h1 a (List.mem_cons_of_mem _ ha)) (fun a ha => h2 a (List.mem_cons_of_mem _ ha))
    obtain ⟨a1, a2, a3, a4⟩ := h2 e List.mem_cons_self
    have he : shEnt len (e.1, .tup [.int e.2.1, .int e.2.2]) = some e.2.1 := by
      show (if okName e.1 = true ∧ (D.int e.2.1).whole 0 len = true ∧ (D.int e.2.2).whole (max 1 e.2.1) len = true then some e.2.1 else none) = some e.2.1
      rw [if_pos]
      refine ⟨h1 e List.mem_cons_self, ?_, ?_⟩
      · show (decide (0 ≤ e.2.1) && decide (e.2.1 ≤ len)) = true
        rw [decide_eq_true a1, decide_eq_true a2]
        rfl
      · show (decide (max 1 e.2.1 ≤ e.2.2) && decide (e.2.2 ≤ len)) = true
        rw [decide_eq_true a3, decide_eq_true a4]
        rfl
    rw [List.map_cons, List.map_cons, List.sum_cons]
    unfold shSum
    rw [he, ih]
theorem GsOk.shares {len : Int} {gs : List G3} (g : GsOk len gs) : (gD gs).shares len = true := by
  unfold gD
  rw [shares_dct, shSum_gs g.nm g.sh, List.length_map, decide_eq_true g.n6, Bool.true_and]
  exact decide_eq_true g.sum
theorem GsOk.whole {len : Int} {gs : List G3} (g : GsOk len gs) : (D.int len).whole 4 60 = true := by
  show (decide (4 ≤ len) && decide (len ≤ 60)) = true
  rw [decide_eq_true g.len.1, decide_eq_true g.len.2]
  rfl
theorem dlook_gs : ∀ {gs : List G3} {j : Nat} {z : Str} {p c : Int}, (gs.map (·.1)).Nodup → gs[j]? = some (z, p, c) → dlook (gs.map fun e => (e.1, D.tup [.int e.2.1, .int e.2.2])) z = some (.tup [.int p, .int c])
  | [], _, _, _, _, _, h => nomatch h
  | e :: r, 0, z, p, c, _, h => by
    cases h
    unfold dlook
    simp
  | e :: r, j + 1, z, p, c, nd, h => by
    rw [List.map_cons, List.nodup_cons] at nd
    have ih := dlook_gs (gs := r) (j := j) nd.2 h
    have hm : z ∈ r.map (·.1) := List.mem_map.mpr ⟨_, List.mem_of_getElem? h, rfl⟩
    have ne : ¬ e.1 = z := fun q => nd.1 (by rw [q]; exact hm)
    unfold dlook at ih ⊢
    rw [List.map_cons, List.find?_cons]
    simp only [ne, decide_false]
    exact ih
theorem GsOk.case {len : Int} {gs : List G3} (g : GsOk len gs) {j : Nat} {z : Str} {p c : Int} (h : gs[j]? = some (z, p, c)) : caseR (.int len) (gD gs) (.str z) = 3 := by
  show (if (D.int len).whole 4 60 = true then _ else _) = _
  rw [if_pos g.whole, if_pos g.shares, if_pos]
  show (dlook _ z).isSome = true
  rw [dlook_gs g.nd h]
  rfl
/-! ### what is told -/
def aheadP (p q u : Int) (e : Bool) : Int := min q (if e = true then u * q / p + 1 else -(-(u * q) / p))
def aheadF (p q qc u : Int) (e : Bool) : Int := if u < p then aheadP p q u e else min qc (max q (u + if e = true then 1 else 0))
def shAt (gs : List G3) (i : Nat) : Int × Int := (gs.getD i (Str.empty, 0, 0)).2
def nmAt (gs : List G3) (i : Nat) : Str := (gs.getD i (Str.empty, 0, 0)).1
/-- what all others can have ahead of one at j that has used u turns -/
def aheadAll (gs : List G3) (j : Nat) (u : Int) (is : List Nat) : Int := (is.map fun i => aheadF (shAt gs j).1 (shAt gs i).1 (shAt gs i).2 u (decide (i < j))).sum
def others (gs : List G3) (j : Nat) : List Nat := (List.range gs.length).filter fun i => decide (i ≠ j)
def turnOf (len : Int) (gs : List G3) (j : Nat) (many : Int) : Option Int :=
  if many > (shAt gs j).2 then none else if many + aheadAll gs j (many - 1) (others gs j) ≤ len then some (many + aheadAll gs j (many - 1) (others gs j)) else none
def optV : Option Int → V
  | none => .non
  | some i => .int i
theorem shAt_of {gs : List G3} {j : Nat} {z : Str} {p c : Int} (h : gs[j]? = some (z, p, c)) : shAt gs j = (p, c) := by
  unfold shAt
  rw [List.getD_eq_getElem?_getD, h]
  rfl
theorem nmAt_of {gs : List G3} {j : Nat} {z : Str} {p c : Int} (h : gs[j]? = some (z, p, c)) : nmAt gs j = z := by
  unfold nmAt
  rw [List.getD_eq_getElem?_getD, h]
  rfl
end K87

set_option Elab.async false
set_option linter.all false
set_option maxRecDepth 100000
set_option maxHeartbeats 1000000
namespace RP
open PySem PySem.Spec PyProof.Rows L2
theorem RepK.keys {K : PySem.W.Frag} {H : Hp} : ∀ {kvs : List (Key × V)} {ds : List (Str × D)}, RepK K H kvs ds → (kvs.map fun kv => kV kv.1) = ds.map fun e => V.str e.1
  | _, _, .nil => rfl
  | _, _, .cons _ _ t => by
    rw [List.map_cons, List.map_cons, t.keys]
    rfl
theorem fm_if {α β : Type} (p : α → Prop) [DecidablePred p] (f : α → β) : ∀ l : List α, (l.filterMap fun i => if p i then none else some (f i)) = (l.filter fun i => decide (¬ p i)).map f
  | [] => rfl
  | a :: l => by
    rw [List.filterMap_cons, List.filter_cons]
    by_cases h : p a
    · simp only [h, if_pos, not_true, decide_false, Bool.false_eq_true, if_false]
      exact fm_if p f l
    · simp only [h, if_neg, not_false_eq_true, decide_true, if_true, List.map_cons]
      exact congrArg _ (fm_if p f l)
theorem take_next {α : Type} {l : List α} {i : Nat} {x : α} (h : l[i]? = some x) : l.take (i + 1) = l.take i ++ [x] := by
  rw [List.take_add_one, h]
  rfl
theorem wmul {i j : Int} (h1 : i.natAbs < 2 ^ 40) (h2 : j.natAbs < 2 ^ 40) : CMulW i j := wide_mul h1 h2 (by decide) (by decide) (by decide)
theorem wdiv {i j : Int} (h : 0 < j) (h2 : j.natAbs < 2 ^ 40) : CDivW i j := wide_div h h2 (by decide) (by decide)
/-- the index of one text among different ones -/
theorem rd_index {K : PySem.W.Frag} {H : Hp} {a : Addr} {ns : List Str} {z : Str} {j : Nat} {Q : VK} (h : SqL K H a (ns.map V.str)) (nd : ns.Nodup) (hj : ns[j]? = some z) (q : Q (.int (j : Nat)) H) : Box (rIndex K (.ref a) [.str z] H Q) := by
  have fl : ∀ l : List Str, (l.map V.str).all flatV = true := fun l => by
    rw [List.all_map]
    exact List.all_eq_true.mpr fun _ _ => rfl
  have eqs : ∀ x y : Str, eqV (.str x) (.str y) = decide (x = y) := fun x y => rfl
  refine ⟨a, _, _, j, .str z, rfl, rfl, h, rfl, fl ns, by rw [List.getElem?_map, hj]; rfl, by rw [eqs]; simp, fun m z' hm hz => ?_, q⟩
  rw [List.getElem?_map] at hz
  obtain ⟨y, hy, rfl⟩ := Option.map_eq_some_iff.mp hz
  rw [eqs]
  refine decide_eq_false fun e => ?_
  subst e
  have := nd_ix nd hy hj
  omega
end RP
namespace K87
open PySem PySem.Spec PyProof.Rows L2 RP
section
variable {P : Program} {w : World} {K : PySem.W.Frag} {mg : Str → Option Value} {base : Heap}
/-- a share's tuple -/
def Sh (K : PySem.W.Frag) (H : Hp) (v : V) (p c : Int) : Prop := ∃ a, v = .ref a ∧ SqT K H a [.int p, .int c]
theorem Sh.same {H H' : Hp} {v : V} {p c : Int} (s : Same H H') (h : Sh K H v p c) : Sh K H' v p c := by
  obtain ⟨a, e, q⟩ := h
  exact ⟨a, e, (Lq.of s).tup q⟩
theorem sh_of {H : Hp} {v : V} {p c : Int} (h : Rep K H v (.tup [.int p, .int c])) : Sh K H v p c := by
  cases h with
  | tup h r =>
    cases r with
    | cons h1 t =>
      cases h1
      cases t with
      | cons h2 t =>
        cases h2
        cases t
        exact ⟨_, rfl, h⟩
/-! ### ahead_by_promise -/
theorem sc_ahead_by_promise : FnScope ["share", "other", "used", "earlier", "promise", "ceiling", "its_promise", "its_ceiling", "part", "many"] ["share", "other", "used", "earlier"] (defScope s_ahead_by_promise) := ⟨rfl, rfl, rfl, by decide +kernel, rfl, by decide +kernel, by decide +kernel⟩
def spAheadP (K : PySem.W.Frag) : Sp := fun vs H Q _ => ∃ (v1 v2 : V) (p c q qc u : Int) (e : Bool), vs = [v1, v2, .int u, .bl e] ∧ Sh K H v1 p c ∧ Sh K H v2 q qc ∧ 0 < p ∧ p ≤ 1000 ∧ 0 ≤ q ∧ q ≤ 1000 ∧ 0 ≤ u ∧ u ≤ 1000 ∧ Q (.int (aheadP p q u e)) H
theorem min_if (a b : Int) : min a b = if b < a then b else a := by
  show (if a ≤ b then a else b) = _
  split <;> split <;> omega
theorem ok_ahead_by_promise (T : Txt K mg) : Def P w K mg base 1 "ahead_by_promise" ["share", "other", "used", "earlier"] (spAheadP K) := by
  obtain ⟨f, fd, F⟩ := T.a_ahead_by_promise
  refine Def.mk F sc_ahead_by_promise (fun _ _ _ _ _ _ us hl => match us, hl with | [_, _, _, _], _ => rfl) (fun vs H Q E h => ?_) (fun cdv A outer s H vs Q E hr h => ?_)
  · obtain ⟨v1, v2, p, c, q, qc, u, e, rfl, _⟩ := h
    rfl
  · obtain ⟨_, _, p, c, q, qc, u, e, rfl, ⟨a1, rfl, h1⟩, ⟨a2, rfl, h2⟩, b1, b2, b3, b4, b5, b6, hq⟩ := h
    refine ⟨_, (pss_cons (ps_asg (pv 0) (kpg_tup K rfl (n := 2) rfl (pgs_cons (pg_name (i := 4) sc_ahead_by_promise.nd rfl (Or.inl rfl)) (pgs_cons (pg_name (i := 5) sc_ahead_by_promise.nd rfl (Or.inl rfl)) pgs_nil))))
      (pss_cons (ps_asg (pv 1) (kpg_tup K rfl (n := 2) rfl (pgs_cons (pg_name (i := 6) sc_ahead_by_promise.nd rfl (Or.inl rfl)) (pgs_cons (pg_name (i := 7) sc_ahead_by_promise.nd rfl (Or.inl rfl)) pgs_nil))))
      (pss_cons (ps_set (i := 8) sc_ahead_by_promise.nd rfl (Or.inl rfl) (pe_op op_mulW (pv 2) (pv 6)))
      (pss_cons (ps_set (i := 9) sc_ahead_by_promise.nd rfl (Or.inl rfl) (pe_ifExp (pt_val (pv 3)) (pe_op op_add (pe_op op_fdivW (pv 8) (pv 4)) pe_int) (pe_un un_neg (pe_op op_fdivW (pe_un un_neg (pv 8)) (pv 4)))))
      (pss_one (ps_ret (pe_callB (call_min2 rfl) (by rfl) T.b_min (by decide +kernel) (pa_cons (pv 6) (pa_cons (pv 9) pa_nil))))))))), ?_⟩
    have m := wmul (i := u) (j := q) (by omega) (by omega)
    have d1 : CDivW (u * q) p := wdiv b1 (by omega)
    have d2 : CDivW (-(u * q)) p := wdiv b1 (by omega)
    refine ⟨_, rfl, a1, _, rfl, h1, rfl, _, _, rfl, _, _, rfl, rfl, ?_⟩
    refine ⟨_, rfl, a2, _, rfl, h2, rfl, _, _, rfl, _, _, rfl, rfl, ?_⟩
    refine ⟨_, rfl, _, rfl, _, _, rfl, rfl, m, ?_⟩
    refine ⟨_, rfl, _, rfl, ?_⟩
    unfold aheadP at hq
    rw [min_if] at hq
    cases e with
    | true => exact ⟨_, rfl, _, rfl, _, _, rfl, rfl, d1, _, _, rfl, rfl, _, rfl, _, rfl, _, _, rfl, hq⟩
    | false => exact ⟨_, rfl, _, rfl, _, rfl, _, _, rfl, rfl, d2, _, rfl, _, rfl, _, rfl, _, _, rfl, hq⟩
/-! ### ahead -/
theorem sc_ahead : FnScope ["share", "other", "used", "earlier", "promise", "ceiling", "its_promise", "its_ceiling"] ["share", "other", "used", "earlier"] (defScope s_ahead) := ⟨rfl, rfl, rfl, by decide +kernel, rfl, by decide +kernel, by decide +kernel⟩
def spAhead (K : PySem.W.Frag) : Sp := fun vs H Q _ => ∃ (v1 v2 : V) (p c q qc u : Int) (e : Bool), vs = [v1, v2, .int u, .bl e] ∧ Sh K H v1 p c ∧ Sh K H v2 q qc ∧ 0 ≤ p ∧ p ≤ 1000 ∧ 0 ≤ q ∧ q ≤ 1000 ∧ 0 ≤ u ∧ u ≤ 1000 ∧ Q (.int (aheadF p q qc u e)) H
theorem ok_ahead (T : Txt K mg) (G_ahead_by_promise : Def P w K mg base 1 "ahead_by_promise" ["share", "other", "used", "earlier"] (spAheadP K)) : Def P w K mg base 2 "ahead" ["share", "other", "used", "earlier"] (spAhead K) := by
  obtain ⟨f, fd, F⟩ := T.a_ahead
  refine Def.mk F sc_ahead (fun _ _ _ _ _ _ us hl => match us, hl with | [_, _, _, _], _ => rfl) (fun vs H Q E h => ?_) (fun cdv A outer s H vs Q E hr h => ?_)
  · obtain ⟨v1, v2, p, c, q, qc, u, e, rfl, _⟩ := h
    rfl
  · obtain ⟨_, _, p, c, q, qc, u, e, rfl, ⟨a1, rfl, h1⟩, ⟨a2, rfl, h2⟩, b1, b2, b3, b4, b5, b6, hq⟩ := h
    refine ⟨_, (pss_cons (ps_asg (pv 0) (kpg_tup K rfl (n := 2) rfl (pgs_cons (pg_name (i := 4) sc_ahead.nd rfl (Or.inl rfl)) (pgs_cons (pg_name (i := 5) sc_ahead.nd rfl (Or.inl rfl)) pgs_nil))))
      (pss_cons (ps_asg (pv 1) (kpg_tup K rfl (n := 2) rfl (pgs_cons (pg_name (i := 6) sc_ahead.nd rfl (Or.inl rfl)) (pgs_cons (pg_name (i := 7) sc_ahead.nd rfl (Or.inl rfl)) pgs_nil))))
      (pss_cons (ps_if (pt_cmpR op_lt (pv 2) (pv 4) (nomark _)) (pss_one (ps_ret (pe_d G_ahead_by_promise (hr.mono (by decide)) (by rfl) (pa_cons (pv 0) (pa_cons (pv 1) (pa_cons (pv 2) (pa_cons (pv 3) pa_nil))))))) pss_nil)
      (pss_one (ps_ret (pe_callB (call_min2 rfl) (by rfl) T.b_min (by decide +kernel) (pa_cons (pv 7) (pa_cons (pe_callB (call_max2 rfl) (by rfl) T.b_max (by decide +kernel) (pa_cons (pv 6) (pa_cons (pe_op op_add (pv 2) (pe_callTy call_int1 (by rfl) T.b_int (by decide +kernel) (pa_cons (pv 3) pa_nil))) pa_nil))) pa_nil)))))))), ?_⟩
    refine ⟨_, rfl, a1, _, rfl, h1, rfl, _, _, rfl, _, _, rfl, rfl, ?_⟩
    refine ⟨_, rfl, a2, _, rfl, h2, rfl, _, _, rfl, _, _, rfl, rfl, ?_⟩
    refine ⟨_, rfl, _, rfl, _, _, rfl, rfl, _, rfl, ?_⟩
    show if decide (u < p) = true then _ else _
    unfold aheadF at hq
    refine ite_dec (fun c => ?_) (fun c => ?_)
    · have z := of_decide_eq_true c
      rw [if_pos z] at hq
      exact ⟨_, rfl, _, rfl, _, rfl, _, rfl, _, _, p, _, q, _, u, e, rfl, ⟨a1, rfl, h1⟩, ⟨a2, rfl, h2⟩, by omega, b2, b3, b4, b5, b6, hq⟩
    · have z := of_decide_eq_false c
      rw [if_neg z, min_if, max_if] at hq
      exact ⟨_, rfl, _, rfl, _, rfl, _, rfl, .inr ⟨e, rfl, _, _, rfl, rfl, _, _, rfl, _, _, rfl, hq⟩⟩
/-! ### turn_of -/
theorem sc_turn_of : FnScope ["length", "guests", "name", "many", "names", "others", "other", "total", "earlier"] ["length", "guests", "name", "many"] (defScope s_turn_of) := ⟨rfl, rfl, rfl, by decide +kernel, rfl, by decide +kernel, by decide +kernel⟩
def spTurn (K : PySem.W.Frag) : Sp := fun vs H Q _ => ∃ (R : Hp) (vg : V) (len many : Int) (gs : List G3) (j : Nat) (z : Str) (p c : Int), vs = [.int len, vg, .str z, .int many] ∧ Same R H ∧ Rep K R vg (gD gs) ∧ GsOk len gs ∧ gs[j]? = some (z, p, c) ∧
  1 ≤ many ∧ many ≤ len ∧ ∀ H', Same H H' → Q (optV (turnOf len gs j many)) H'
theorem ok_turn_of (T : Txt K mg) (G_ahead : Def P w K mg base 2 "ahead" ["share", "other", "used", "earlier"] (spAhead K)) : Def P w K mg base 3 "turn_of" ["length", "guests", "name", "many"] (spTurn K) := by
  obtain ⟨f, fd, F⟩ := T.a_turn_of
  refine Def.mk F sc_turn_of (fun _ _ _ _ _ _ us hl => match us, hl with | [_, _, _, _], _ => rfl) (fun vs H Q E h => ?_) (fun cdv A outer s H vs Q E hr h => ?_)
  · obtain ⟨R, vg, len, many, gs, j, z, p, c, rfl, _⟩ := h
    rfl
  · obtain ⟨R, vg, len, many, gs, j, z, p, c, rfl, sR, hg, ok, hj, b1, b2, hq⟩ := h
    cases hg with
    | @dct a kvs _ hk rk =>
    have look : ∀ {i : Nat} {y : Str} {q qc : Int} {H' : Hp}, Same H H' → gs[i]? = some (y, q, qc) → ∃ v, DGet H' a (.str y) (some v) ∧ Sh K H' v q qc := fun {i y q qc H'} s hi => by
      have r2 := rk.same (sR.trans s)
      obtain ⟨v, g1, g2⟩ := r2.get_of ((Lq.of (sR.trans s)) _ _ hk) (dlook_gs ok.nd hi)
      exact ⟨v, g1, sh_of g2⟩
    refine ⟨_, (pss_cons (ps_if (pt_cmpR op_gt (pv 3) (pe_ix (kix_tup K rfl) (pe_dget (hu_of hr) (pv 1) (pv 2) (fun _ _ => rfl)) pe_int (fun _ _ => rfl)) (nomark _)) (pss_one (ps_ret pe_non)) pss_nil)
      (pss_cons (ps_set (i := 4) sc_turn_of.nd rfl (Or.inl rfl) (pe_callTy (call_listD rfl) (by rfl) T.b_list (by decide +kernel) (pa_cons (pv 1) pa_nil)))
      (pss_cons (ps_setLc (i := 5) (own := [("other", 6)]) rfl sc_turn_of.nd rfl rfl (sw_true rfl rfl rfl (by decide +kernel)) (kpi_list K rfl (pv 4)) (blkOk_by (own := [("other", 6)]) (N := ["length", "guests", "name", "many", "names", "others", "other", "total", "earlier"]) (sc := defScope s_turn_of) (by decide +kernel)) (fun _ _ _ _ _ => (pg_name (i := 6) sc_turn_of.nd rfl (Or.inl rfl))) (fun _ _ _ _ _ => (pts_one (pt_cmpR op_ne (pv 6) (pv 2) (nomark _)))) (fun _ _ _ _ _ => (pv 6)))
      (pss_cons (ps_set (i := 7) sc_turn_of.nd rfl (Or.inl rfl) (pv 3))
      (pss_cons (ps_for (passes_of rfl) rfl (kpi_list K rfl (pv 5)) (pg_name (i := 6) sc_turn_of.nd rfl (Or.inl rfl))
        (pss_cons (ps_set (i := 8) sc_turn_of.nd rfl (Or.inl rfl) (pe_cmpR op_lt (kpe_bm K rfl (pe_bm PySem.F.plainAttrs_list PySem.F.slot_list_index PySem.F.type_list_index (kmt_indexB K rfl) (pv 4) (pa_cons (pv 6) pa_nil))) (kpe_bm K rfl (pe_bm PySem.F.plainAttrs_list PySem.F.slot_list_index PySem.F.type_list_index (kmt_indexB K rfl) (pv 4) (pa_cons (pv 2) pa_nil))) (nomark _)))
      (pss_one (ps_aug (i := 7) sc_turn_of.nd rfl (Or.inl rfl) (pe_d G_ahead (hr.mono (by decide)) (by rfl) (pa_cons (pe_dget (hu_of hr) (pv 1) (pv 2) (fun _ _ => rfl)) (pa_cons (pe_dget (hu_of hr) (pv 1) (pv 6) (fun _ _ => rfl)) (pa_cons (pe_op op_sub (pv 3) pe_int) (pa_cons (pv 8) pa_nil))))) ip_add))))
      (pss_one (ps_ret (pe_ifExp (pt_cmpR op_le (pv 7) (pv 0) (nomark _)) (pv 7) pe_non)))))))), ?_⟩
    obtain ⟨v, g1, a1, rfl, g2⟩ := look (Same.refl H) hj
    refine ⟨_, rfl, _, rfl, _, rfl, a, _, rfl, g1, a1, _, _, _, rfl, rfl, g2, rfl, _, _, rfl, rfl, _, rfl, ?_⟩
    show if decide (c < many) = true then _ else _
    have sj := shAt_of hj
    have nj := nmAt_of hj
    have hnd := ok.nd
    refine ite_dec (fun c1 => ?_) (fun c1 => ?_)
    · have z1 := of_decide_eq_true c1
      have e : turnOf len gs j many = none := by
        unfold turnOf
        rw [sj, if_pos z1]
      rw [e] at hq
      exact hq H (Same.refl H)
    · have z1 := of_decide_eq_false c1
      refine ⟨_, rfl, a, kvs, rfl, (Lq.of sR) _ _ hk, fun l hl => ?_⟩
      have en : (kvs.map fun kv => kV kv.1) = (gs.map (·.1)).map V.str := by
        rw [rk.keys, List.map_map, List.map_map]
        rfl
      rw [en]
      have s1 : Same H (upd H l (.lst ((gs.map (·.1)).map V.str))) := same_new hl
      generalize hH1 : upd H l (.lst ((gs.map (·.1)).map V.str)) = H1 at s1 ⊢
      have hn1 : H1 l = some (.lst ((gs.map (·.1)).map V.str)) := by rw [← hH1, upd_same]
      refine ⟨_, rfl, l, rfl, ⟨_, SqL.of hn1⟩, fun L hL => ?_⟩
      refine lc_vals (w := walk_list (xs := (gs.map (·.1)).map V.str)) (fun i => if i = j then none else some (.str (nmAt gs i))) hL (by rw [List.length_map, List.length_map]; have := ok.n6; omega) (fun H2 s2 => SqL.of (s2 _ _ hn1)) ?_ ?_
      · rintro i x H2 H3 Y2 N2 hi s2 hn ⟨rfl, hx⟩ k1 k2
        rw [List.getElem?_map] at hx
        obtain ⟨y, hy, rfl⟩ := Option.map_eq_some_iff.mp hx
        have ey : y = nmAt gs i := by
          rw [List.getElem?_map] at hy
          obtain ⟨e, he, rfl⟩ := Option.map_eq_some_iff.mp hy
          exact (nmAt_of (z := e.1) (p := e.2.1) (c := e.2.2) he).symm
        refine ⟨rfl, ⟨_, rfl, _, rfl, rfl, _, rfl, ?_⟩⟩
        show if (!decide (V.str y = V.str z)) = true then _ else _
        by_cases e : i = j
        · have e2 : y = z := by rw [ey, e, nj]
          rw [decide_eq_true (by rw [e2])]
          exact iteF (k2 _ (if_pos e) (Same.refl _))
        · have e2 : ¬ V.str y = V.str z := fun q => e (by
            have q2 : y = z := by injection q
            rw [q2] at hy
            exact nd_ix hnd hy (by rw [List.getElem?_map, hj]; rfl))
          rw [decide_eq_false e2]
          refine iteT ⟨_, rfl, k1 _ _ ?_ (Same.refl _)⟩
          rw [if_neg e, ey]
      · intro H2 s2 h2
        have hlen : ((gs.map (·.1)).map V.str).length = gs.length := by rw [List.length_map, List.length_map]
        rw [hlen] at h2
        have eo : ((List.range gs.length).filterMap fun i => if i = j then none else some (V.str (nmAt gs i))) = (others gs j).map fun i => V.str (nmAt gs i) := by
          exact fm_if (fun i => i = j) (fun i => V.str (nmAt gs i)) _
        rw [eo] at h2
        have hn2 := s2 _ _ hn1
        have s12 := s1.trans s2
        refine ⟨_, rfl, ?_⟩
        refine ⟨_, rfl, L, rfl, ⟨_, SqL.of h2⟩, ?_⟩
        refine for_it (w := walk_list (xs := (others gs j).map fun i => V.str (nmAt gs i))) (fun t σ H' => ∃ (o6 o8 : Option V), σ = [some (.int len), some (.ref a), some (.str z), some (.int many), some (.ref l), some (.ref L), o6, some (.int (many + aheadAll gs j (many - 1) ((others gs j).take t))), o8] ∧ Same H2 H')
          ⟨none, none, by simp [aheadAll]; rfl, Same.refl _⟩ (fun t σ H' _ ⟨_, _, _, s⟩ => SqL.of (s _ _ h2)) ?_ ?_
        · rintro t x σ H3 H4 ht ⟨o6, o8, rfl, s3⟩ ⟨rfl, hx⟩
          rw [List.getElem?_map] at hx
          obtain ⟨i, hi, rfl⟩ := Option.map_eq_some_iff.mp hx
          have hi2 : i ∈ others gs j := List.mem_of_getElem? hi
          have hilt : i < gs.length := List.mem_range.mp (List.mem_filter.mp hi2).1
          obtain ⟨⟨y, q, qc⟩, hgi⟩ : ∃ e, gs[i]? = some e := ⟨_, List.getElem?_eq_getElem hilt⟩
          have ni := nmAt_of hgi
          have si := shAt_of hgi
          have hn3 := s3 _ _ hn2
          refine ⟨_, rfl, .inl ⟨rfl, _, SqL.of hn3⟩, _, rfl, ?_⟩
          rw [ni]
          refine rd_index (SqL.of hn3) hnd (j := i) (by rw [List.getElem?_map, hgi]; rfl) ?_
          refine ⟨_, rfl, .inl ⟨rfl, _, SqL.of hn3⟩, _, rfl, ?_⟩
          refine rd_index (SqL.of hn3) hnd (j := j) (by rw [List.getElem?_map, hj]; rfl) ?_
          refine ⟨_, _, rfl, rfl, ?_⟩
          have s13 := s12.trans s3
          obtain ⟨v1, g1', c1'⟩ := look s13 hj
          obtain ⟨v2, g2', c2'⟩ := look s13 hgi
          have shj := ok.sh _ (List.mem_of_getElem? hj)
          have shi := ok.sh _ (List.mem_of_getElem? hgi)
          have hlen := ok.len
          have b3 : 0 ≤ p ∧ p ≤ 1000 ∧ 0 ≤ q ∧ q ≤ 1000 := by
            refine ⟨shj.1, ?_, shi.1, ?_⟩
            · have := shj.2.1
              show p ≤ 1000
              have : p ≤ len := this
              omega
            · have := shi.2.1
              have : q ≤ len := this
              omega
          refine ⟨_, rfl, ?_⟩
          refine ⟨_, rfl, _, rfl, a, v1, rfl, g1', _, rfl, _, rfl, a, v2, rfl, g2', _, rfl, _, _, rfl, rfl, _, rfl, v1, v2, p, c, q, qc, many - 1, _, rfl, c1', c2', b3.1, b3.2.1, b3.2.2.1, b3.2.2.2, by omega, by omega, ?_⟩
          refine ⟨_, _, rfl, rfl, ?_⟩
          refine ⟨some (.str y), some (.bl (decide ((i : Int) < (j : Int)))), ?_, s3⟩
          rw [take_next hi]
          have e : aheadAll gs j (many - 1) ((others gs j).take t ++ [i]) = aheadAll gs j (many - 1) ((others gs j).take t) + aheadF p q qc (many - 1) (decide ((i : Int) < (j : Int))) := by
            unfold aheadAll
            rw [List.map_append, List.sum_append, List.map_singleton, List.sum_singleton, sj, si]
            have ed : decide ((i : Int) < (j : Int)) = decide (i < j) := decide_eq_decide.mpr Int.ofNat_lt
            rw [ed]
          rw [e, ← Int.add_assoc]
          rfl
        · rintro σ H3 ⟨o6, o8, rfl, s3⟩
          rw [List.length_map, List.take_length]
          refine ⟨_, rfl, _, rfl, _, _, rfl, rfl, _, rfl, ?_⟩
          have e : turnOf len gs j many = if many + aheadAll gs j (many - 1) (others gs j) ≤ len then some (many + aheadAll gs j (many - 1) (others gs j)) else none := by
            unfold turnOf
            rw [sj, if_neg z1]
          rw [e] at hq
          refine ite_dec (fun c2 => ?_) (fun c2 => ?_)
          · rw [if_pos (of_decide_eq_true c2)] at hq
            exact ⟨_, rfl, hq H3 (s12.trans s3)⟩
          · rw [if_neg (of_decide_eq_false c2)] at hq
            exact hq H3 (s12.trans s3)
end
end K87

set_option Elab.async false
set_option linter.all false
set_option maxRecDepth 100000
set_option maxHeartbeats 1000000
namespace K87
open PySem PySem.Spec PyProof.Rows L2 RP
section
variable {P : Program} {w : World} {K : PySem.W.Frag} {mg : Str → Option Value} {base : Heap}
def _root_.RP.D.iv : D → Int
  | .int i => i
  | _ => 0
/-- what a case's errors wish -/
structure Cs (K : PySem.W.Frag) (R H : Hp) (vl vg vn : V) (dl dg dn : D) (E : XK) : Prop where
  s : Same R H
  p : Plain R
  l : Rep K R vl dl
  g : Rep K R vg dg
  n : Rep K R vn dn
  k0 : caseR dl dg dn = 0 → Errs K "NoNumber" "found" vl H E
  k1 : caseR dl dg dn = 1 → Errs K "NoShare" "found" vg H E
  k2 : caseR dl dg dn = 2 → Errs K "NoGuest" "found" vn H E
structure Good (dl dg dn : D) (len : Int) (gs : List G3) (j : Nat) (z : Str) (p c : Int) : Prop where
  l : dl = .int len
  g : dg = gD gs
  n : dn = .str z
  ok : GsOk len gs
  hj : gs[j]? = some (z, p, c)
theorem caseR_len {dl dg dn : D} (h : caseR dl dg dn = 3) : ∃ len, dl = .int len := by
  cases dl with
  | int len => exact ⟨len, rfl⟩
  | _ => cases h
theorem Good.case {dl dg dn : D} {len : Int} {gs : List G3} {j : Nat} {z : Str} {p c : Int} (g : Good dl dg dn len gs j z p c) : caseR dl dg dn = 3 := by
  rw [g.l, g.g, g.n]
  exact g.ok.case g.hj
/-! ### latest -/
theorem sc_latest : FnScope ["length", "guests", "name", "many"] ["length", "guests", "name", "many"] (defScope s_latest) := ⟨rfl, rfl, rfl, by decide +kernel, rfl, by decide +kernel, by decide +kernel⟩
def spLatest (K : PySem.W.Frag) : Sp := fun vs H Q E => ∃ (R : Hp) (vl vg vn vm : V) (dl dg dn dm : D), vs = [vl, vg, vn, vm] ∧ Cs K R H vl vg vn dl dg dn E ∧ Rep K R vm dm ∧
  (caseR dl dg dn = 3 → dm.whole 1 dl.iv = false → Errs K "NoNumber" "found" vm H E) ∧
  (caseR dl dg dn = 3 → dm.whole 1 dl.iv = true → ∃ len gs j z p c many, Good dl dg dn len gs j z p c ∧ dm = .int many ∧ ∀ H', Same H H' → Q (optV (turnOf len gs j many)) H')
theorem ok_latest (T : Txt K mg) (G_is_whole : Def P w K mg base 1 "is_whole" ["thing", "low", "high"] (spWhole K)) (G_need_case : Def P w K mg base 4 "need_case" ["length", "guests", "name"] (spNeedCase K)) (G_turn_of : Def P w K mg base 3 "turn_of" ["length", "guests", "name", "many"] (spTurn K)) :
    Def P w K mg base 5 "latest" ["length", "guests", "name", "many"] (spLatest K) := by
  obtain ⟨f, fd, F⟩ := T.a_latest
  refine Def.mk F sc_latest (fun _ _ _ _ _ _ us hl => match us, hl with | [_, _, _, _], _ => rfl) (fun vs H Q E h => ?_) (fun cdv A outer s H vs Q E hr h => ?_)
  · obtain ⟨R, vl, vg, vn, vm, dl, dg, dn, dm, rfl, _⟩ := h
    rfl
  · obtain ⟨R, vl, vg, vn, vm, dl, dg, dn, dm, rfl, C, hm, e1, e2⟩ := h
    refine ⟨_, (pss_cons (ps_expr (pe_dX G_need_case (hr.mono (by decide)) (by rfl) tkB (pa_cons (pv 0) (pa_cons (pv 1) (pa_cons (pv 2) pa_nil)))))
      (pss_cons (ps_if (pt_not (pt_val (pe_d G_is_whole (hr.mono (by decide)) (by rfl) (pa_cons (pv 3) (pa_cons pe_int (pa_cons (pv 0) pa_nil)))))) (pss_one (ps_raise rfl tkB (pmk_NoNumber hr T (pa_cons (pv 3) pa_nil)))) pss_nil)
      (pss_one (ps_ret (pe_d G_turn_of (hr.mono (by decide)) (by rfl) (pa_cons (pv 0) (pa_cons (pv 1) (pa_cons (pv 2) (pa_cons (pv 3) pa_nil))))))))), ?_⟩
    refine ⟨_, rfl, _, rfl, _, rfl, R, vl, vg, vn, dl, dg, dn, rfl, C.s, C.p, C.l, C.g, C.n, C.k0, C.k1, C.k2, fun c3 H1 s1 => ?_⟩
    obtain ⟨len, rfl⟩ := caseR_len c3
    have hl := C.l
    cases hl
    refine ⟨_, rfl, _, rfl, vm, dm, 1, len, rfl, hm.same (C.s.trans s1), _, rfl, ?_⟩
    show if (!dm.whole 1 len) = true then _ else _
    cases cw : dm.whole 1 len with
    | false => exact ⟨_, rfl, fun dd hd => (e1 c3 cw).same s1 _ dd (same_new hd) hd upd_same⟩
    | true =>
      obtain ⟨len', gs, j, z, p, c, many, g, rfl, hq⟩ := e2 c3 cw
      obtain ⟨gl, gg, gn, ok, at'⟩ := g
      cases gl
      subst gg gn
      cases hm
      have hn := C.n
      cases hn
      obtain ⟨i, ei, b1, b2⟩ := whole_int cw
      cases ei
      refine iteF ⟨_, rfl, _, rfl, _, rfl, _, rfl, R, vg, len, many, gs, j, z, p, c, rfl, C.s.trans s1, C.g, ok, at', b1, b2, fun H2 s2 => hq H2 (s1.trans s2)⟩
/-! ### at_least_in -/
theorem sc_at_least_in : FnScope ["length", "guests", "name", "turns", "found", "many", "turn"] ["length", "guests", "name", "turns"] (defScope s_at_least_in) := ⟨rfl, rfl, rfl, by decide +kernel, rfl, by decide +kernel, by decide +kernel⟩
def inL (len : Int) (gs : List G3) (j : Nat) (t : Int) : List V := (List.range len.toNat).filterMap fun i => match turnOf len gs j (1 + (i : Nat)) with
  | some x => if x ≤ t then some (.int x) else none
  | none => none
def inN (len : Int) (gs : List G3) (j : Nat) (t : Int) : Int := ((inL len gs j t).length : Nat)
def spIn (K : PySem.W.Frag) : Sp := fun vs H Q _ => ∃ (R : Hp) (vg : V) (len t : Int) (gs : List G3) (j : Nat) (z : Str) (p c : Int), vs = [.int len, vg, .str z, .int t] ∧ Same R H ∧ Rep K R vg (gD gs) ∧ GsOk len gs ∧ gs[j]? = some (z, p, c) ∧
  ∀ H', Same H H' → Q (.int (inN len gs j t)) H'
theorem fm_some {α β : Type} (f : α → β) : ∀ l : List α, (l.filterMap fun i => some (f i)) = l.map f
  | [] => rfl
  | a :: l => by
    rw [List.filterMap_cons, List.map_cons]
    exact congrArg _ (fm_some f l)
theorem fm_range_at {β : Type} (g : Nat → Option β) (n : Nat) : ∀ (ys : List V) (f : Nat → Option β), True := fun _ _ => True.intro
theorem ok_at_least_in (T : Txt K mg) (G_turn_of : Def P w K mg base 3 "turn_of" ["length", "guests", "name", "many"] (spTurn K)) : Def P w K mg base 4 "at_least_in" ["length", "guests", "name", "turns"] (spIn K) := by
  obtain ⟨f, fd, F⟩ := T.a_at_least_in
  refine Def.mk F sc_at_least_in (fun _ _ _ _ _ _ us hl => match us, hl with | [_, _, _, _], _ => rfl) (fun vs H Q E h => ?_) (fun cdv A outer s H vs Q E hr h => ?_)
  · obtain ⟨R, vg, len, t, gs, j, z, p, c, rfl, _⟩ := h
    rfl
  · obtain ⟨R, vg, len, t, gs, j, z, p, c, rfl, sR, hg, ok, hj, hq⟩ := h
    refine ⟨_, (pss_cons (ps_setLc (i := 4) (own := [("many", 5)]) rfl sc_at_least_in.nd rfl rfl (sw_true rfl rfl rfl (by decide +kernel)) (pi_range2 (by rfl) T.b_range (pa_cons pe_int (pa_cons (pe_op op_add (pv 0) pe_int) pa_nil))) (blkOk_by (own := [("many", 5)]) (N := ["length", "guests", "name", "turns", "found", "many", "turn"]) (sc := defScope s_at_least_in) (by decide +kernel)) (fun _ _ _ _ _ => (pg_name (i := 5) sc_at_least_in.nd rfl (Or.inl rfl))) (fun _ _ _ _ _ => pts_nil) (fun _ _ _ _ _ => (pe_d G_turn_of (hr.mono (by decide)) (by rfl) (pa_cons (pv 0) (pa_cons (pv 1) (pa_cons (pv 2) (pa_cons (pv 5) pa_nil)))))))
      (pss_one (ps_ret (pe_callB (kcall_len_seq K rfl) (by rfl) T.b_len (by decide +kernel) (pa_cons (pe_lc (own := [("turn", 6)]) rfl sc_at_least_in.nd (kpi_list K rfl (pv 4)) (blkOk_by (own := [("turn", 6)]) (N := ["length", "guests", "name", "turns", "found", "many", "turn"]) (sc := defScope s_at_least_in) (by decide +kernel)) (fun _ _ _ _ _ => (pg_name (i := 6) sc_at_least_in.nd rfl (Or.inl rfl))) (fun _ _ _ _ _ => (pts_one (PW.pt (pw_and (pt_cmpR op_notN (pv 6) pe_non (nomark _)) (pw_and1 (pt_cmpR op_le (pv 6) (pv 3) (nomark _))))))) (fun _ _ _ _ _ => (pv 6))) pa_nil))))), ?_⟩
    have hlen := ok.len
    refine ⟨_, rfl, _, _, rfl, rfl, _, _, rfl, ⟨by omega, by omega, by omega, by omega⟩, fun l hl => ?_⟩
    have en : (len + 1 - 1).toNat = len.toNat := by congr 1; omega
    rw [en]
    refine lc_vals (w := walk_range) (fun i => some (optV (turnOf len gs j (1 + (i : Nat))))) hl (by omega) (fun _ _ => True.intro) ?_ ?_
    · rintro i x H1 H2 Y2 N2 hi s1 hn ⟨rfl, rfl⟩ k1 k2
      refine ⟨rfl, ⟨_, rfl, _, rfl, _, rfl, _, rfl, R, vg, len, 1 + (i : Nat), gs, j, z, p, c, rfl, sR.trans s1, hg, ok, hj, by omega, by omega, fun H3 s3 => k1 _ _ rfl s3⟩⟩
    · intro H1 s1 h1
      rw [fm_some] at h1
      refine ⟨_, rfl, l, rfl, ⟨_, SqL.of h1⟩, fun L hL => ?_⟩
      refine lc_vals (w := walk_list (xs := (List.range len.toNat).map fun i => optV (turnOf len gs j (1 + (i : Nat))))) (fun i => match turnOf len gs j (1 + (i : Nat)) with
        | some x => if x ≤ t then some (.int x) else none
        | none => none) hL (by rw [List.length_map, List.length_range]; omega) (fun H2 s2 => SqL.of (s2 _ _ h1)) ?_ ?_
      · rintro i x H2 H3 Y2 N2 hi s2 hn ⟨rfl, hx⟩ k1 k2
        rw [List.getElem?_map] at hx
        obtain ⟨y, hy, rfl⟩ := Option.map_eq_some_iff.mp hx
        have ey : y = i := by
          rw [List.getElem?_range (by rw [List.length_map, List.length_range] at hi; exact hi)] at hy
          exact (Option.some.inj hy).symm
        subst ey
        refine ⟨rfl, ?_⟩
        cases ct : turnOf len gs j (1 + (y : Nat)) with
        | none =>
          rw [ct] at k2
          exact ⟨_, rfl, rfl, _, rfl, iteF (k2 _ rfl (Same.refl _))⟩
        | some x =>
          rw [ct] at k1 k2
          refine ⟨_, rfl, rfl, _, rfl, iteT ⟨_, rfl, _, rfl, _, _, rfl, rfl, _, rfl, ?_⟩⟩
          refine ite_dec (fun c => ?_) (fun c => ?_)
          · exact ⟨_, rfl, k1 _ _ (if_pos (of_decide_eq_true c)) (Same.refl _)⟩
          · exact k2 _ (if_neg (of_decide_eq_false c)) (Same.refl _)
      · intro H2 s2 h2
        rw [List.length_map, List.length_range] at h2
        exact ⟨L, inL len gs j t, rfl, .inl (SqL.of h2), hq H2 (s1.trans s2)⟩
/-! ### at_least -/
theorem sc_at_least : FnScope ["length", "guests", "name", "turns", "whole", "rest"] ["length", "guests", "name", "turns"] (defScope s_at_least) := ⟨rfl, rfl, rfl, by decide +kernel, rfl, by decide +kernel, by decide +kernel⟩
def sureN (len : Int) (gs : List G3) (j : Nat) (t : Int) : Int := t / len * inN len gs j len + inN len gs j (t % len)
def spAtLeast (K : PySem.W.Frag) : Sp := fun vs H Q E => ∃ (R : Hp) (vl vg vn vm : V) (dl dg dn dm : D), vs = [vl, vg, vn, vm] ∧ Cs K R H vl vg vn dl dg dn E ∧ Rep K R vm dm ∧
  (caseR dl dg dn = 3 → dm.whole 0 400 = false → Errs K "NoNumber" "found" vm H E) ∧
  (caseR dl dg dn = 3 → dm.whole 0 400 = true → ∃ len gs j z p c t, Good dl dg dn len gs j z p c ∧ dm = .int t ∧ ∀ H', Same H H' → Q (.int (sureN len gs j t)) H')
theorem inN_le (len : Int) (gs : List G3) (j : Nat) (t : Int) : 0 ≤ inN len gs j t ∧ inN len gs j t ≤ len.toNat := by
  have h := filterMap_range_length (fun i : Nat => match turnOf len gs j (1 + (i : Nat)) with
    | some x => if x ≤ t then some (V.int x) else none
    | none => none) len.toNat
  have h2 : (inL len gs j t).length ≤ len.toNat := h
  unfold inN
  omega
theorem ok_at_least (T : Txt K mg) (G_is_whole : Def P w K mg base 1 "is_whole" ["thing", "low", "high"] (spWhole K)) (G_need_case : Def P w K mg base 4 "need_case" ["length", "guests", "name"] (spNeedCase K)) (G_at_least_in : Def P w K mg base 4 "at_least_in" ["length", "guests", "name", "turns"] (spIn K)) :
    Def P w K mg base 5 "at_least" ["length", "guests", "name", "turns"] (spAtLeast K) := by
  obtain ⟨f, fd, F⟩ := T.a_at_least
  refine Def.mk F sc_at_least (fun _ _ _ _ _ _ us hl => match us, hl with | [_, _, _, _], _ => rfl) (fun vs H Q E h => ?_) (fun cdv A outer s H vs Q E hr h => ?_)
  · obtain ⟨R, vl, vg, vn, vm, dl, dg, dn, dm, rfl, _⟩ := h
    rfl
  · obtain ⟨R, vl, vg, vn, vm, dl, dg, dn, dm, rfl, C, hm, e1, e2⟩ := h
    refine ⟨_, (pss_cons (ps_expr (pe_dX G_need_case (hr.mono (by decide)) (by rfl) tkB (pa_cons (pv 0) (pa_cons (pv 1) (pa_cons (pv 2) pa_nil)))))
      (pss_cons (ps_if (pt_not (pt_val (pe_d G_is_whole (hr.mono (by decide)) (by rfl) (pa_cons (pv 3) (pa_cons pe_int (pa_cons (pe_gi (by rfl) T.c_MOST_TURNS) pa_nil)))))) (pss_one (ps_raise rfl tkB (pmk_NoNumber hr T (pa_cons (pv 3) pa_nil)))) pss_nil)
      (pss_cons (ps_asg (pe_callB call_divmodW (by rfl) T.b_divmod (by decide +kernel) (pa_cons (pv 3) (pa_cons (pv 0) pa_nil))) (kpg_tup K rfl (n := 2) rfl (pgs_cons (pg_name (i := 4) sc_at_least.nd rfl (Or.inl rfl)) (pgs_cons (pg_name (i := 5) sc_at_least.nd rfl (Or.inl rfl)) pgs_nil))))
      (pss_one (ps_ret (pe_op op_add (pe_op op_mulW (pv 4) (pe_d G_at_least_in (hr.mono (by decide)) (by rfl) (pa_cons (pv 0) (pa_cons (pv 1) (pa_cons (pv 2) (pa_cons (pv 0) pa_nil)))))) (pe_d G_at_least_in (hr.mono (by decide)) (by rfl) (pa_cons (pv 0) (pa_cons (pv 1) (pa_cons (pv 2) (pa_cons (pv 5) pa_nil))))))))))), ?_⟩
    refine ⟨_, rfl, _, rfl, _, rfl, R, vl, vg, vn, dl, dg, dn, rfl, C.s, C.p, C.l, C.g, C.n, C.k0, C.k1, C.k2, fun c3 H1 s1 => ?_⟩
    refine ⟨_, rfl, vm, dm, 0, 400, rfl, hm.same (C.s.trans s1), _, rfl, ?_⟩
    show if (!dm.whole 0 400) = true then _ else _
    cases cw : dm.whole 0 400 with
    | false => exact ⟨_, rfl, fun dd hd => (e1 c3 cw).same s1 _ dd (same_new hd) hd upd_same⟩
    | true =>
      obtain ⟨len, gs, j, z, p, c, t, g, rfl, hq⟩ := e2 c3 cw
      obtain ⟨gl, gg, gn, ok, at'⟩ := g
      subst gl gg gn
      cases hm
      have hl := C.l
      cases hl
      have hn := C.n
      cases hn
      obtain ⟨i, ei, b1, b2⟩ := whole_int cw
      cases ei
      have hlen := ok.len
      refine iteF ⟨_, rfl, _, rfl, t, len, rfl, ⟨by omega, PyProof.noPylong_small (by omega)⟩, fun q hq' => ?_⟩
      have s2 : Same H1 (upd H1 q (.tup [.int (t / len), .int (t % len)])) := same_new hq'
      refine ⟨q, [.int (t / len), .int (t % len)], rfl, SqT.of upd_same, rfl, _, _, rfl, _, _, rfl, rfl, ?_⟩
      generalize upd H1 q (.tup [.int (t / len), .int (t % len)]) = H2 at s2 ⊢
      have bd : 0 ≤ t / len ∧ t / len ≤ 400 := ⟨Int.ediv_nonneg b1 (by omega), Int.le_trans (Int.ediv_le_self _ b1) b2⟩
      refine ⟨_, rfl, _, rfl, _, rfl, _, rfl, _, rfl, R, vg, len, len, gs, j, z, p, c, rfl, C.s.trans (s1.trans s2), C.g, ok, at', fun H3 s3 => ?_⟩
      have hin := inN_le len gs j len
      refine ⟨_, _, rfl, rfl, wmul (by omega) (by omega), ?_⟩
      refine ⟨_, rfl, _, rfl, _, rfl, _, rfl, R, vg, len, t % len, gs, j, z, p, c, rfl, C.s.trans (s1.trans (s2.trans s3)), C.g, ok, at', fun H4 s4 => ?_⟩
      exact ⟨_, _, rfl, rfl, hq H4 (s1.trans (s2.trans (s3.trans s4)))⟩
/-! ### worst -/
theorem sc_worst : FnScope ["length", "guests", "used", "found", "name", "turn", "best"] ["length", "guests"] (defScope s_worst) := ⟨rfl, rfl, rfl, by decide +kernel, rfl, by decide +kernel, by decide +kernel⟩
def spWorst (K : PySem.W.Frag) : Sp := fun vs H Q E => ∃ (R : Hp) (vl vg : V) (dl dg : D), vs = [vl, vg] ∧ Same R H ∧ Plain R ∧ Rep K R vl dl ∧ Rep K R vg dg ∧ (dl.whole 4 60 = false → Errs K "NoNumber" "found" vl H E) ∧
  (dl.whole 4 60 = true → dg.shares dl.iv = false ∧ Errs K "NoShare" "found" vg H E)
theorem ok_worst (T : Txt K mg) (G_need_length : Def P w K mg base 3 "need_length" ["length"] (spNeedLen K)) (G_are_shares : Def P w K mg base 3 "are_shares" ["thing", "length"] (spShares K)) : Def P w K mg base 4 "worst" ["length", "guests"] (spWorst K) := by
  obtain ⟨f, fd, F⟩ := T.a_worst
  refine Def.mk F sc_worst (fun _ _ _ _ _ _ us hl => match us, hl with | [_, _], _ => rfl) (fun vs H Q E h => ?_) (fun cdv A outer s H vs Q E hr h => ?_)
  · obtain ⟨R, vl, vg, dl, dg, rfl, _⟩ := h
    rfl
  · obtain ⟨R, vl, vg, dl, dg, rfl, sR, pR, hl, hg, k0, k1⟩ := h
    refine ⟨_, (pss_cons (ps_expr (pe_dX G_need_length (hr.mono (by decide)) (by rfl) tkB (pa_cons (pv 0) pa_nil)))
      (pss_cons (ps_if (pt_not (pt_val (pe_d G_are_shares (hr.mono (by decide)) (by rfl) (pa_cons (pv 1) (pa_cons (pv 0) pa_nil))))) (pss_one (ps_raise rfl tkB (pmk_NoShare hr T (pa_cons (pv 1) pa_nil)))) pss_nil)
      (pss_cons ps_never
      (pss_cons ps_never
      (pss_one ps_never))))), ?_⟩
    refine ⟨_, rfl, vl, dl, rfl, hl.same sR, fun c0 => ?_, fun c0 => k0 c0⟩
    obtain ⟨len, rfl, _, _⟩ := whole_int c0
    obtain ⟨k2, k3⟩ := k1 c0
    have k2' : dg.shares len = false := k2
    cases hl
    refine ⟨_, rfl, _, rfl, R, vg, dg, len, rfl, sR, pR, hg, fun H1 s1 => ⟨_, rfl, ?_⟩⟩
    rw [k2']
    exact ⟨_, rfl, fun dd hd => k3.same s1 _ dd (same_new hd) hd upd_same⟩
end
end K87

set_option Elab.async false
set_option linter.all false
set_option maxRecDepth 100000
set_option maxHeartbeats 1000000
namespace K87
open PySem PySem.Spec PyProof.Rows L2 RP
section
variable {P : Program} {w : World} {K : PySem.W.Frag} {mg : Str → Option Value} {base : Heap}
/-! ### are_needs -/
theorem sc_are_needs : FnScope ["thing", "need", "part"] ["thing"] (defScope s_are_needs) := ⟨rfl, rfl, rfl, by decide +kernel, rfl, by decide +kernel, by decide +kernel⟩
def ndOk : D → Bool
  | .tup [p, c] => p.whole 0 400 && c.whole 0 400
  | _ => false
def _root_.RP.D.needs : D → Bool
  | .lst l => decide (l.length ≤ 60) && l.all ndOk
  | .tup l => decide (l.length ≤ 60) && l.all ndOk
  | _ => false
theorem seq_cases {H : Hp} {v : V} {d : D} (r : Rep K H v d) : (∃ a b ys l, v = .ref a ∧ Sq b K H a ys ∧ Reps K H ys l ∧ (d.isa "list" || d.isa "tuple") = true ∧ d.needs = (decide (l.length ≤ 60) && l.all ndOk)) ∨ ((d.isa "list" || d.isa "tuple") = false ∧ d.needs = false) := by
  cases r with
  | lst h r => exact .inl ⟨_, true, _, _, rfl, h, r, rfl, rfl⟩
  | tup h r => exact .inl ⟨_, false, _, _, rfl, h, r, rfl, rfl⟩
  | _ => exact .inr ⟨rfl, rfl⟩
theorem ndOk_tup {ds : List D} (h : ds.length ≠ 2) : ndOk (.tup ds) = false := by
  match ds, h with
  | [], _ => rfl
  | [_], _ => rfl
  | [_, _], h => exact absurd rfl h
  | _ :: _ :: _ :: _, _ => rfl
theorem all_bad {l : List D} {i : Nat} {d : D} (h : l[i]? = some d) (b : ndOk d = false) : l.all ndOk = false := by
  cases c : l.all ndOk with
  | false => rfl
  | true =>
    have := List.all_eq_true.mp c d (List.mem_of_getElem? h)
    rw [b] at this
    cases this
theorem all_at {l : List D} (h : ∀ (i : Nat) (d : D), l[i]? = some d → ndOk d = true) : l.all ndOk = true := by
  refine List.all_eq_true.mpr fun d hd => ?_
  obtain ⟨i, hi⟩ := List.mem_iff_getElem?.mp hd
  exact h i d hi
def spNeeds (K : PySem.W.Frag) : Sp := fun vs H Q _ => ∃ (v : V) (d : D), vs = [v] ∧ Rep K H v d ∧ ∀ H', Same H H' → Q (.bl d.needs) H'
theorem ok_are_needs (T : Txt K mg) (G_is_whole : Def P w K mg base 1 "is_whole" ["thing", "low", "high"] (spWhole K)) : Def P w K mg base 2 "are_needs" ["thing"] (spNeeds K) := by
  obtain ⟨f, fd, F⟩ := T.a_are_needs
  refine Def.mk F sc_are_needs (fun _ _ _ _ _ _ us hl => match us, hl with | [_], _ => rfl) (fun vs H Q E h => ?_) (fun cdv A outer s H vs Q E hr h => ?_)
  · obtain ⟨v, d, rfl, _⟩ := h
    rfl
  · obtain ⟨v, d, rfl, hv, hq⟩ := h
    refine ⟨_, (pss_cons (ps_if (PW.pt (pw_or (pt_not (pt_val (pe_callB (kcall_isLT K rfl) (by rfl) T.b_isinstance (by decide +kernel) (pa_cons (pv 0) (pa_cons (pe_tup (pa_cons (pe_bltn (v := .ty "list") (by rfl) T.b_list (by decide +kernel) rfl) (pa_cons (pe_bltn (v := .ty "tuple") (by rfl) T.b_tuple (by decide +kernel) rfl) pa_nil))) pa_nil))))) (pw_or1 (pt_cmpR op_gt (pe_callB (kcall_len_seq K rfl) (by rfl) T.b_len (by decide +kernel) (pa_cons (pv 0) pa_nil)) (pe_gi (by rfl) T.c_MOST_NEEDS) (nomark _))))) (pss_one (ps_ret pe_bl)) pss_nil)
      (pss_cons (ps_for (passes_of rfl) rfl (kpi_seq K rfl (pv 0)) (pg_name (i := 1) sc_are_needs.nd rfl (Or.inl rfl))
        (pss_one (ps_if (PW.pt (pw_or (pt_not (pt_val (pe_callB (kcall_is K rfl) (by rfl) T.b_isinstance (by decide +kernel) (pa_cons (pv 1) (pa_cons (pe_bltn (v := .ty "tuple") (by rfl) T.b_tuple (by decide +kernel) rfl) pa_nil))))) (pw_or (pt_cmpR op_ne (pe_callB (kcall_len_seq K rfl) (by rfl) T.b_len (by decide +kernel) (pa_cons (pv 1) pa_nil)) pe_int (nomark _)) (pw_or1 (pt_not (pt_val (pe_callB (kcr_all K rfl rfl) (by rfl) T.b_all (by decide +kernel) (pa_cons (pe_lc (own := [("part", 2)]) rfl sc_are_needs.nd (kpi_tup K rfl (pv 1)) (blkOk_by (own := [("part", 2)]) (N := ["thing", "need", "part"]) (sc := defScope s_are_needs) (by decide +kernel)) (fun _ _ _ _ _ => (pg_name (i := 2) sc_are_needs.nd rfl (Or.inl rfl))) (fun _ _ _ _ _ => pts_nil) (fun _ _ _ _ _ => (pe_d G_is_whole (hr.mono (by decide)) (by rfl) (pa_cons (pv 2) (pa_cons pe_int (pa_cons (pe_gi (by rfl) T.c_MOST_TURNS) pa_nil)))))) pa_nil)))))))) (pss_one (ps_ret pe_bl)) pss_nil)))
      (pss_one (ps_ret pe_bl)))), ?_⟩
    refine ⟨_, rfl, by decide, fun tp htp => rd_isiLT hv htp ⟨_, rfl, ?_⟩⟩
    have s1 : Same H (upd H tp (.tup [.ty "list", .ty "tuple"])) := same_new htp
    generalize upd H tp (.tup [.ty "list", .ty "tuple"]) = H1 at s1 ⊢
    rcases seq_cases hv with ⟨a, b, ys, l, rfl, hS, hr, e1, e2⟩ | ⟨e1, e2⟩
    · rw [e1]
      have hS1 := hS.mono (Lq.of s1)
      have hlen := hr.len
      refine iteF ⟨_, rfl, a, ys, rfl, hS1.or, _, _, rfl, rfl, _, rfl, ?_⟩
      show if decide ((60 : Int) < (ys.length : Int)) = true then _ else _
      rw [e2] at hq
      refine ite_dec (fun c1 => ?_) (fun c1 => ?_)
      · rw [decide_eq_false (show ¬ l.length ≤ 60 from by have := of_decide_eq_true c1; omega), Bool.false_and] at hq
        exact hq H1 s1
      · have hl60 : l.length ≤ 60 := by have := of_decide_eq_false c1; omega
        rw [decide_eq_true hl60, Bool.true_and] at hq
        have bad : ∀ {i : Nat} {d : D} {H' : Hp}, l[i]? = some d → ndOk d = false → Same H1 H' → Q (.bl false) H' := fun h1 h2 s => by
          have z := hq _ (s1.trans s)
          rw [all_bad h1 h2] at z
          exact z
        refine ⟨_, rfl, a, b, rfl, ⟨_, hS1⟩, ?_⟩
        refine for_it (w := walk_seq (xs := ys)) (fun i σ H' => ∃ (o1 o2 : Option V), σ = [some (.ref a), o1, o2] ∧ (∀ k d, k < i → l[k]? = some d → ndOk d = true) ∧ Same H1 H')
          ⟨none, none, rfl, fun _ _ h => absurd h (Nat.not_lt_zero _), Same.refl _⟩ (fun i σ H' _ ⟨_, _, _, _, s⟩ => hS1.mono (Lq.of s)) ?_ ?_
        · rintro i x σ H2 H3 hi ⟨o1, o2, rfl, hs, s2⟩ ⟨rfl, hx⟩
          obtain ⟨d, hd, rd⟩ := hr.get hx
          have rd2 := rd.same (s1.trans s2)
          refine ⟨_, rfl, rd_isi rd2 ⟨_, rfl, ?_⟩⟩
          cases d with
          | tup ds =>
            cases rd2 with
            | @tup b2 zs _ hT rT =>
            refine iteF ⟨_, rfl, b2, zs, rfl, .inr hT, rfl, _, rfl, ?_⟩
            rcases two_of rT with ⟨p, c, vp, vc, rfl, rfl, rp, rc⟩ | hne
            · refine iteF ⟨_, rfl, b2, rfl, ⟨_, hT⟩, fun L hL => ?_⟩
              refine lc_vals (w := walk_tup (xs := [vp, vc])) (fun k => some (.bl (([p, c].getD k .non).whole 0 400))) hL (by show 2 ≤ 1000000; decide) (fun H4 s4 => (Lq.of s4).tup hT) ?_ ?_
              · rintro k y H4 H5 Y2 N2 hk s4 hn ⟨rfl, hy⟩ k1 k2
                have ry : Rep K H3 y ([p, c].getD k .non) := by
                  match k, hy with
                  | 0, hy => cases hy; exact rp
                  | 1, hy => cases hy; exact rc
                  | k + 2, hy => cases hy
                exact ⟨rfl, ⟨_, rfl, y, _, 0, 400, rfl, ry.same s4, k1 _ _ rfl (Same.refl _)⟩⟩
              · intro H4 s4 h4
                refine ⟨L, [p.whole 0 400, c.whole 0 400], rfl, SqL.of h4, _, rfl, ?_⟩
                show if (!(p.whole 0 400 && (c.whole 0 400 && true))) = true then _ else _
                have e : ndOk (.tup [p, c]) = (p.whole 0 400 && (c.whole 0 400 && true)) := by rw [Bool.and_true]; rfl
                rw [← e]
                cases cn : ndOk (.tup [p, c]) with
                | false => exact bad hd cn (s2.trans s4)
                | true =>
                  refine iteF ⟨_, _, rfl, fun k d' hk hd' => ?_, s2.trans s4⟩
                  by_cases q : k = i
                  · subst q
                    rw [hd] at hd'
                    cases hd'
                    exact cn
                  · exact hs k d' (by omega) hd'
            · have hq2 : (!decide (V.int (zs.length : Int) = V.int 2)) = true := by
                simp
                omega
              show if (!decide (V.int (zs.length : Int) = V.int 2)) = true then _ else _
              rw [if_pos hq2]
              exact bad hd (ndOk_tup (by rw [← rT.len]; exact hne)) s2
          | _ => exact iteT (bad hd rfl s2)
        · rintro σ H2 ⟨o1, o2, rfl, hs, s2⟩
          rw [hlen] at hs
          have z := hq _ (s1.trans s2)
          rw [all_at (l := l) fun i d hd => hs i d (List.getElem?_eq_some_iff.mp hd).1 hd] at z
          exact z
    · rw [e1]
      rw [e2] at hq
      exact iteT (hq H1 s1)
end
end K87

set_option Elab.async false
set_option linter.all false
set_option maxRecDepth 100000
set_option maxHeartbeats 1000000
namespace RP
open PySem PySem.Spec PyProof.Rows L2
theorem range_get {α β : Type} (F : α → β) (l : List α) : ∀ t, t ≤ l.length → (List.range t).filterMap (fun i => l[i]?.map F) = (l.take t).map F
  | 0, _ => rfl
  | t + 1, h => by
    have hx : l[t]? = some l[t] := List.getElem?_eq_getElem (by omega)
    rw [range_succ_filterMap, range_get F l t (by omega), take_next hx, List.map_append, hx]
    rfl
theorem range_all {α β : Type} (F : α → β) (l : List α) : (List.range l.length).filterMap (fun i => l[i]?.map F) = l.map F := by
  rw [range_get F l _ (Nat.le_refl _), List.take_length]
/-- two known parts of one heap are known together -/
theorem join {R R1 H : Hp} (p : Plain R) (s : Same R H) (p1 : Plain R1) (s1 : Same R1 H) : ∃ U, Same R U ∧ Same R1 U ∧ Plain U ∧ Same U H := by
  have key : ∀ a o, ((R a).or (R1 a)) = some o → R a = some o ∨ R1 a = some o := fun a o h => by
    cases c : R a with
    | none =>
      rw [c] at h
      exact .inr h
    | some u =>
      rw [c] at h
      exact .inl (by rw [← h]; rfl)
  refine ⟨fun a => (R a).or (R1 a), fun a o h => ?_, fun a o h => ?_, fun a o u h => ?_, fun a o h => ?_⟩
  · show (R a).or (R1 a) = some o
    rw [h]
    rfl
  · show (R a).or (R1 a) = some o
    cases c : R a with
    | none => exact h
    | some u =>
      have e1 := s a _ c
      have e2 := s1 a _ h
      rw [e1] at e2
      exact e2
  · rcases key _ _ h with q | q
    · exact p _ _ _ q
    · exact p1 _ _ _ q
  · rcases key _ _ h with q | q
    · exact s _ _ q
    · exact s1 _ _ q
/-- a known part without what stands at d -/
def Off (d : Addr) (R : Hp) : Hp := fun a => if a = d then none else R a
theorem off_at {d : Addr} {R : Hp} : Off d R d = none := if_pos rfl
theorem off_ne {d a : Addr} {R : Hp} (h : a ≠ d) : Off d R a = R a := if_neg h
theorem Off.same {d : Addr} {R : Hp} : Same (Off d R) R := fun a o h => by
  by_cases e : a = d
  · rw [e, off_at] at h
    cases h
  · rw [off_ne e] at h
    exact h
theorem Off.plain {d : Addr} {R : Hp} (p : Plain R) : Plain (Off d R) := fun a o u h => p a o u (Off.same _ _ h)
theorem Off.put {d : Addr} {R H : Hp} {o : HO} (s : Same R H) : Same (Off d R) (upd H d o) := fun a u h => by
  by_cases e : a = d
  · rw [e, off_at] at h
    cases h
  · rw [off_ne e] at h
    rw [upd_ne e]
    exact s a u h
theorem Rep.pair_off {K : PySem.W.Frag} {R : Hp} {d : Addr} {kvs : List (Key × V)} {v : V} {p c : Int} (pl : Plain R) (hd : R d = some (.dK kvs)) (h : Rep K R v (.tup [.int p, .int c])) : Rep K (Off d R) v (.tup [.int p, .int c]) := by
  obtain ⟨a, rfl, hs⟩ := (show ∃ a, v = .ref a ∧ SqT K R a [.int p, .int c] from by
    cases h with
    | tup h r =>
      cases r with
      | cons h1 t =>
        cases h1
        cases t with
        | cons h2 t =>
          cases h2
          cases t
          exact ⟨_, rfl, h⟩)
  refine .tup ?_ (.cons (.int _) (.cons (.int _) .nil))
  rcases hs with hs | hs
  · refine .inl (.inl ?_)
    have q := pl.rd hs
    rw [off_ne]
    · exact q
    · intro e
      rw [e, hd] at q
      cases q
  · exact .inr hs
/-- a list of pairs, for dict() -/
theorem pairs_of {K : PySem.W.Frag} {R : Hp} : ∀ {es : List (Str × D)} {zs : List V}, Reps K R zs (es.map fun e => .tup [.str e.1, e.2]) →
    ∃ (ps : List Addr) (kvs : List (Key × V)), zs = ps.map V.ref ∧ Paired (fun p kv => SqT K R p [kV kv.1, kv.2]) ps kvs ∧ RepK K R kvs es
  | [], _, r => by
    cases r
    exact ⟨[], [], rfl, .nil, .nil⟩
  | e :: es, zs, r => by
    rw [List.map_cons] at r
    cases r with
    | cons h t =>
      obtain ⟨ps, kvs, e1, e2, e3⟩ := pairs_of t
      cases h with
      | @tup a vs _ h r =>
        cases r with
        | cons h1 t1 =>
          cases h1 with
          | str _ hx =>
          cases t1 with
          | @cons v _ _ _ h2 t2 =>
            cases t2
            exact ⟨a :: ps, (.inr e.1, v) :: kvs, by rw [e1]; rfl, .cons h e2, .cons hx h2 e3⟩
theorem merge_nodup : ∀ {kvs acc : List (Key × V)}, ((acc ++ kvs).map (·.1)).Nodup → mergeK acc kvs = acc ++ kvs
  | [], acc, _ => by rw [List.append_nil]; rfl
  | kv :: r, acc, h => by
    have hn : valV acc kv.1 = none := by
      cases c : valV acc kv.1 with
      | none => rfl
      | some v =>
        exfalso
        have hm : kv.1 ∈ acc.map (·.1) := by
          unfold valV at c
          obtain ⟨e, he, _⟩ := Option.map_eq_some_iff.mp c
          have h1 := List.find?_some he
          have h2 := List.mem_of_find?_eq_some he
          exact List.mem_map.mpr ⟨e, h2, of_decide_eq_true h1⟩
        rw [List.map_append, List.nodup_append] at h
        exact h.2.2 _ hm _ (by rw [List.map_cons]; exact List.mem_cons_self) rfl
    have e : mergeK acc (kv :: r) = mergeK (acc ++ [kv]) r := by
      show mergeK (putK acc kv.1 kv.2) r = _
      rw [putK_new _ hn]
    rw [e, merge_nodup (by rw [List.append_assoc]; exact h), List.append_assoc]
    rfl
theorem RepK.keysN {K : PySem.W.Frag} {H : Hp} : ∀ {kvs : List (Key × V)} {es : List (Str × D)}, RepK K H kvs es → kvs.map (·.1) = es.map fun e => (Sum.inr e.1 : Key)
  | _, _, .nil => rfl
  | _, _, .cons _ _ t => by
    rw [List.map_cons, List.map_cons, t.keysN]
theorem RepK.merge {K : PySem.W.Frag} {H : Hp} {kvs : List (Key × V)} {es : List (Str × D)} (r : RepK K H kvs es) (n : (es.map (·.1)).Nodup) : mergeK [] kvs = kvs := by
  refine merge_nodup ?_
  rw [List.nil_append, r.keysN]
  have e : (es.map fun e => (Sum.inr e.1 : Key)) = (es.map (·.1)).map Sum.inr := by
    rw [List.map_map]
    rfl
  rw [e]
  exact List.pairwise_map.mpr (n.imp fun h q => h (Sum.inr.inj q))
theorem paired_mono {α β : Type} {F G : α → β → Prop} (h : ∀ a b, F a b → G a b) : ∀ {l : List α} {m : List β}, Paired F l m → Paired G l m
  | _, _, .nil => .nil
  | _, _, .cons a b => .cons (h _ _ a) (paired_mono h b)
end RP
namespace K87
open PySem PySem.Spec PyProof.Rows L2 RP
section
variable {P : Program} {w : World} {K : PySem.W.Frag} {mg : Str → Option Value} {base : Heap}
/-! ### with_promise -/
theorem sc_with_promise : FnScope ["length", "guests", "name", "promise", "ceiling", "changed", "other", "share"] ["length", "guests", "name", "promise"] (defScope s_with_promise) := ⟨rfl, rfl, rfl, by decide +kernel, rfl, by decide +kernel, by decide +kernel⟩
def setP (gs : List G3) (j : Nat) (z : Str) (q c : Int) : List G3 := gs.set j (z, q, max c q)
def fits (len : Int) (gs : List G3) : Bool := decide ((gs.map (·.2.1)).sum ≤ len)
theorem setP_ok {len : Int} {gs : List G3} {j : Nat} {z : Str} {p c q : Int} (ok : GsOk len gs) (hj : gs[j]? = some (z, p, c)) (h0 : 0 ≤ q) (h1 : q ≤ len) : (setP gs j z q c).length ≤ 6 ∧ ((setP gs j z q c).map (·.1)) = gs.map (·.1) ∧ (∀ e ∈ setP gs j z q c, okName e.1 = true) ∧
    ∀ e ∈ setP gs j z q c, 0 ≤ e.2.1 ∧ e.2.1 ≤ len ∧ max 1 e.2.1 ≤ e.2.2 ∧ e.2.2 ≤ len := by
  obtain ⟨a1, a2, a3, a4⟩ := ok.sh _ (List.mem_of_getElem? hj)
  have b3 : max 1 p ≤ c := a3
  have b4 : c ≤ len := a4
  refine ⟨by unfold setP; rw [List.length_set]; exact ok.n6, ?_, fun e he => ?_, fun e he => ?_⟩
  · unfold setP
    rw [List.map_set]
    refine List.ext_getElem? fun i => ?_
    rw [List.getElem?_set]
    split
    · subst i
      rw [List.getElem?_map, hj]
      split
      · rfl
      · rename_i hlt
        exact absurd (by rw [List.length_map]; exact (List.getElem?_eq_some_iff.mp hj).1) hlt
    · rfl
  · rcases List.mem_or_eq_of_mem_set he with h | h
    · exact ok.nm e h
    · rw [h]
      exact ok.nm (z, p, c) (List.mem_of_getElem? hj)
  · rcases List.mem_or_eq_of_mem_set he with h | h
    · exact ok.sh e h
    · rw [h]
      exact ⟨h0, h1, by show max 1 q ≤ max c q; omega, by show max c q ≤ len; omega⟩
theorem setP_shares {len : Int} {gs : List G3} {j : Nat} {z : Str} {p c q : Int} (ok : GsOk len gs) (hj : gs[j]? = some (z, p, c)) (h0 : 0 ≤ q) (h1 : q ≤ len) : (gD (setP gs j z q c)).shares len = fits len (setP gs j z q c) := by
  obtain ⟨a1, a2, a3, a4⟩ := setP_ok ok hj h0 h1
  unfold gD
  rw [shares_dct, shSum_gs a3 a4, List.length_map, decide_eq_true a1, Bool.true_and]
  rfl
theorem setP_gs {len : Int} {gs : List G3} {j : Nat} {z : Str} {p c q : Int} (ok : GsOk len gs) (hj : gs[j]? = some (z, p, c)) (h0 : 0 ≤ q) (h1 : q ≤ len) (h : fits len (setP gs j z q c) = true) : GsOk len (setP gs j z q c) := by
  obtain ⟨a1, a2, a3, a4⟩ := setP_ok ok hj h0 h1
  exact ⟨a1, by rw [a2]; exact ok.nd, a3, a4, of_decide_eq_true h, ok.len⟩
theorem setP_at {gs : List G3} {j : Nat} {z : Str} {p c q : Int} (hj : gs[j]? = some (z, p, c)) : (setP gs j z q c)[j]? = some (z, q, max c q) := by
  unfold setP
  rw [List.getElem?_set, if_pos rfl, if_pos (List.getElem?_eq_some_iff.mp hj).1]
def spWithP (K : PySem.W.Frag) : Sp := fun vs H Q _ => ∃ (R : Hp) (vg : V) (len q : Int) (gs : List G3) (j : Nat) (z : Str) (p c : Int), vs = [.int len, vg, .str z, .int q] ∧ Same R H ∧ Plain R ∧ Rep K R vg (gD gs) ∧ GsOk len gs ∧ gs[j]? = some (z, p, c) ∧ 0 ≤ q ∧ q ≤ len ∧
  (fits len (setP gs j z q c) = true → ∀ H' R' v, Same H H' → Same R R' → Plain R' → Same R' H' → Rep K R' v (gD (setP gs j z q c)) → (∃ a, v = .ref a) → Q v H') ∧ (fits len (setP gs j z q c) = false → ∀ H', Same H H' → Q .non H')
theorem ok_with_promise (T : Txt K mg) (G_are_shares : Def P w K mg base 3 "are_shares" ["thing", "length"] (spShares K)) : Def P w K mg base 4 "with_promise" ["length", "guests", "name", "promise"] (spWithP K) := by
  obtain ⟨f, fd, F⟩ := T.a_with_promise
  refine Def.mk F sc_with_promise (fun _ _ _ _ _ _ us hl => match us, hl with | [_, _, _, _], _ => rfl) (fun vs H Q E h => ?_) (fun cdv A outer s H vs Q E hr h => ?_)
  · obtain ⟨R, vg, len, q, gs, j, z, p, c, rfl, _⟩ := h
    rfl
  · obtain ⟨R, vg, len, q, gs, j, z, p, c, rfl, sR, pR, hg, ok, hj, h0, h1, k1, k2⟩ := h
    cases hg with
    | @dct a kvs _ hk rk =>
    have hRa : R a = some (.dK kvs) := pR.rd hk
    have hHa := sR _ _ hRa
    have hl : kvs.length = gs.length := by rw [rk.len, List.length_map]
    refine ⟨_, (pss_cons (ps_set (i := 4) sc_with_promise.nd rfl (Or.inr rfl) (pe_callB (call_max2 rfl) (by rfl) T.b_max (by decide +kernel) (pa_cons (pe_ix (kix_tup K rfl) (pe_dget (hu_of hr) (pv 1) (pv 2) (fun _ _ => rfl)) pe_int (fun _ _ => rfl)) (pa_cons (pv 3) pa_nil))))
      (pss_cons (ps_set (i := 5) sc_with_promise.nd rfl (Or.inl rfl) (pe_callTy (kcall_dictP K rfl rfl) (by rfl) T.b_dict (by decide +kernel) (pa_cons (pe_lock (pe_lc (own := [("other", 6), ("share", 7)]) rfl sc_with_promise.nd (pi_items (pv 1)) (blkOk_by (own := [("other", 6), ("share", 7)]) (N := ["length", "guests", "name", "promise", "ceiling", "changed", "other", "share"]) (sc := defScope s_with_promise) (by decide +kernel)) (fun _ _ _ _ _ => (kpg_tup K rfl (n := 2) rfl (pgs_cons (pg_name (i := 6) sc_with_promise.nd rfl (Or.inl rfl)) (pgs_cons (pg_name (i := 7) sc_with_promise.nd rfl (Or.inl rfl)) pgs_nil)))) (fun _ _ _ _ _ => pts_nil) (fun _ _ _ _ _ => (pe_tup (pa_cons (pv 6) (pa_cons (pe_ifExp (pt_cmpR op_eq (pv 6) (pv 2) (nomark _)) (pe_tup (pa_cons (pv 3) (pa_cons (pv 4) pa_nil))) (pv 7)) pa_nil)))))) pa_nil)))
      (pss_one (ps_ret (pe_ifExp (pt_val (pe_d G_are_shares (hr.mono (by decide)) (by rfl) (pa_cons (pv 5) (pa_cons (pv 0) pa_nil)))) (pv 5) pe_non))))), ?_⟩
    obtain ⟨v, g1, g2⟩ := (rk.same sR).get_of (.inl hHa) (dlook_gs ok.nd hj)
    obtain ⟨a1, rfl, g3⟩ := sh_of g2
    refine ⟨_, rfl, _, rfl, a, _, rfl, g1, a1, _, _, _, rfl, rfl, g3, rfl, _, rfl, _, _, rfl, ?_⟩
    refine ⟨a, .dK kvs, hHa, True.intro, fun od => ⟨_, rfl, a, od, kvs, rfl, upd_same, fun L hL => ?_⟩⟩
    have hRo : Off a R a = none := off_at
    have hn : (setP gs j z q c).length = kvs.length := by unfold setP; rw [List.length_set, hl]
    refine lc_reps (K := K) (w := walk_items) (R := Off a R) (fun i => (setP gs j z q c)[i]?.map fun e => D.tup [.str e.1, .tup [.int e.2.1, .int e.2.2]]) hL (by have := ok.n6; omega) (Off.put sR) (Off.plain pR) (fun H1 s1 => s1 _ _ upd_same) ?_ ?_
    · rintro i x H1 H2 R1 Y2 N2 hi s1 hnL gr pl sr ⟨t, kx, vx, rfl, ht, eH, hkx, hvx⟩ k3 k4
      obtain ⟨ky, hky, rfl⟩ := Option.map_eq_some_iff.mp hkx
      obtain ⟨kz, hkz, rfl⟩ := Option.map_eq_some_iff.mp hvx
      rw [hky] at hkz
      cases hkz
      obtain ⟨k, v⟩ := ky
      obtain ⟨y0, d, hd, rfl, hy, rd⟩ := rk.get hky
      rw [List.getElem?_map] at hd
      obtain ⟨e, he, hd⟩ := Option.map_eq_some_iff.mp hd
      obtain ⟨y, pi, ci⟩ := e
      cases hd
      have ht2 : H2 t = some (.tup [.str y, v]) := by
        rw [eH, upd_same]
        rfl
      have s2 : Same H1 H2 := by
        rw [eH]
        exact same_new ht
      have sr2 : Same R1 H2 := sr.trans s2
      refine ⟨t, [.str y, v], rfl, SqT.of ht2, rfl, _, _, rfl, _, _, rfl, rfl, rfl, ?_⟩
      refine ⟨_, rfl, _, rfl, _, rfl, rfl, _, rfl, ?_⟩
      show if decide (V.str y = V.str z) = true then _ else _
      by_cases hij : i = j
      · subst hij
        rw [hj] at he
        cases he
        rw [decide_eq_true rfl]
        refine iteT ⟨_, rfl, _, rfl, (show 2 ≤ sizeLine by decide), fun T2 hT2 => ?_⟩
        have e1 : (if q > c then q else c) = max c q := (max_if c q).symm
        rw [e1]
        have n1 : R1 T2 = none := sr2.out hT2
        refine ⟨(show 2 ≤ sizeLine by decide), fun T3 hT3 => ?_⟩
        have s3 : Same H2 (upd H2 T2 (.tup [.int q, .int (max c q)])) := same_new hT2
        have n2 : upd R1 T2 (.tup [.int q, .int (max c q)]) T3 = none := (sr2.put (o := .tup [.int q, .int (max c q)])).out hT3
        refine k3 _ _ (upd (upd R1 T2 (.tup [.int q, .int (max c q)])) T3 (.tup [.str z, .ref T2])) (.tup [.str z, .tup [.int q, .int (max c q)]]) ?_ (s2.trans (s3.trans (same_new hT3)))
          (((Grow.refl _ _).put (s2.free hT2) n1).put (s2.free (s3.free hT3)) n2) (Plain.put (Plain.put pl (by exact fun _ _ z => nomatch z)) (by exact fun _ _ z => nomatch z)) sr2.put.put ?_
        · rw [setP_at hj]
          rfl
        · refine .tup (SqT.of upd_same) (.cons (.str _ hy) (.cons (.tup (SqT.of ?_) (.cons (.int _) (.cons (.int _) .nil))) .nil))
          have ne : T2 ≠ T3 := fun e => by
            rw [← e, upd_same] at n2
            cases n2
          rw [upd_ne ne, upd_same]
      · have e2 : ¬ V.str y = V.str z := fun e => hij (by
          have q2 : y = z := by injection e
          rw [q2] at he
          exact nd_ix ok.nd (by rw [List.getElem?_map, he]; rfl) (by rw [List.getElem?_map, hj]; rfl))
        rw [decide_eq_false e2]
        refine iteF ⟨_, rfl, (show 2 ≤ sizeLine by decide), fun T3 hT3 => ?_⟩
        have n1 : R1 T3 = none := sr2.out hT3
        refine k3 _ _ (upd R1 T3 (.tup [.str y, v])) (.tup [.str y, .tup [.int pi, .int ci]]) ?_ (s2.trans (same_new hT3)) ((Grow.refl _ _).put (s2.free hT3) n1) (pl.put (fun _ _ z => nomatch z)) sr2.put ?_
        · unfold setP
          rw [List.getElem?_set_ne (fun e => hij e.symm), he]
          rfl
        · exact .tup (SqT.of upd_same) (.cons (.str _ hy) (.cons ((Rep.pair_off pR hRa rd).same (gr.same.trans (same_new n1))) .nil))
    · intro H1 R1 zs s1 gr pl sr hRL hLz rz
      rw [← hn, range_all] at rz
      have rz' : Reps K R1 zs (((setP gs j z q c).map fun e => (e.1, D.tup [.int e.2.1, .int e.2.2])).map fun e => D.tup [.str e.1, e.2]) := by
        rw [List.map_map]
        exact rz
      obtain ⟨ps, kvs', rfl, pp, rk'⟩ := pairs_of rz'
      have hR1a : R1 a = none := gr.off upd_same hRo
      have hLa : L ≠ a := fun e => by
        rw [e, upd_same] at hL
        cases hL
      have su : Same H (upd H1 a (.dK kvs)) := Same.unlock hHa s1
      have sr1 : Same R1 (upd H1 a (.dK kvs)) := sr.skip hR1a
      refine ⟨s1 _ _ upd_same, L, ps, kvs', rfl, SqL.of (by rw [upd_ne hLa]; exact hLz), paired_mono (fun _ _ h => (Lq.of sr1).tup h) pp, fun p2 hp2 => ?_⟩
      generalize hHu : upd H1 a (.dK kvs) = Hu at su sr1 hp2 ⊢
      obtain ⟨a1, a2, a3, a4⟩ := setP_ok ok hj h0 h1
      have nd2 : ((((setP gs j z q c).map fun e => (e.1, D.tup [.int e.2.1, .int e.2.2]))).map (·.1)).Nodup := by
        rw [List.map_map]
        show ((setP gs j z q c).map (·.1)).Nodup
        rw [a2]
        exact ok.nd
      rw [rk'.merge nd2]
      have n2 : R1 p2 = none := sr1.out hp2
      have rep2 : Rep K (upd R1 p2 (.dK kvs')) (.ref p2) (gD (setP gs j z q c)) := .dct (.inl upd_same) (rk'.same (same_new n2))
      have pl2 : Plain (upd R1 p2 (.dK kvs')) := pl.put (fun _ _ z => nomatch z)
      have s2 : Same (upd R1 p2 (.dK kvs')) (upd Hu p2 (.dK kvs')) := sr1.put
      refine ⟨_, rfl, _, rfl, _, .ref p2, _, len, rfl, s2, pl2, rep2, fun H5 s5 => ?_⟩
      rw [setP_shares ok hj h0 h1]
      have s6 : Same H H5 := su.trans ((same_new hp2).trans s5)
      refine ⟨_, rfl, ?_⟩
      cases cf : fits len (setP gs j z q c) with
      | false => exact k2 cf H5 s6
      | true =>
        obtain ⟨U, u1, u2, u3, u4⟩ := join pR (sR.trans s6) pl2 (s2.trans s5)
        exact ⟨_, rfl, k1 cf H5 U _ s6 u1 u3 u4 (rep2.same u2) ⟨_, rfl⟩⟩
end
end K87

set_option Elab.async false
set_option linter.all false
set_option maxRecDepth 100000
set_option maxHeartbeats 1000000
/-! LY: expressions that lay plain data. -/
namespace RP
open PySem PySem.Spec PyProof.Rows L2
theorem pe_box {X : Cx} {e : Expr} {te : TE} (h : PE X e te) : PE X e (fun σ H Q => Box (te σ H Q)) := ⟨fun pins s σ H Q I b => h.run pins s σ H Q I b.out⟩
def Lays (K : PySem.W.Frag) (R0 : Hp) (σ : L2.St) (te : TE) (d : D) : Prop := ∀ (H R : Hp) (Q : VK), Same R0 R → Plain R → Same R H → (∀ R' H' v, Grow H R R' → Plain R' → Same R' H' → Same H H' → Rep K R' v d → Q v H') → te σ H Q
def LaysA (K : PySem.W.Frag) (R0 : Hp) (σ : L2.St) (ta : TA) (ds : List D) : Prop := ∀ (H R : Hp) (Q : List V → Hp → Prop), Same R0 R → Plain R → Same R H → (∀ R' H' vs, Grow H R R' → Plain R' → Same R' H' → Same H H' → Reps K R' vs ds → Q vs H') → ta σ H Q
def LaysP (K : PySem.W.Frag) (R0 : Hp) (σ : L2.St) (trs : List (TE × TE)) (es : List (Str × D)) : Prop := ∀ (H R : Hp) (Q : List (V × V) → Hp → Prop), Same R0 R → Plain R → Same R H →
  (∀ R' H' kvs, Grow H R R' → Plain R' → Same R' H' → Same H H' → RepK K R' kvs es → Q (kvs.map fun kv => (kV kv.1, kv.2)) H') → tPairs trs σ H Q
section
variable {K : PySem.W.Frag} {R0 : Hp} {σ : L2.St} {te : TE} {ta : TA} {d : D} {ds : List D} {v : V}
theorem same_live {H H' : Hp} (s : Same H H') : ∀ x, H x ≠ none → H' x ≠ none := fun x h q => by
  cases e : H x with
  | none => exact h e
  | some o =>
    rw [s _ _ e] at q
    cases q
theorem lays_pure (r : Rep K R0 v d) (h : ∀ (H : Hp) (Q : VK), Q v H → te σ H Q) : Lays K R0 σ te d := fun H R Q s0 pR sR k => h H Q (k R H v (Grow.refl _ _) pR sR (Same.refl H) (r.same s0))
theorem lays_nil : LaysA K R0 σ tNil [] := fun H R Q s0 pR sR k => k R H [] (Grow.refl _ _) pR sR (Same.refl H) .nil
theorem lays_cons (h : Lays K R0 σ te d) (t : LaysA K R0 σ ta ds) : LaysA K R0 σ (tCons te ta) (d :: ds) := fun H R Q s0 pR sR k =>
  h H R _ s0 pR sR fun R1 H1 v g1 p1 s1 u1 r1 => t H1 R1 _ (s0.trans g1.same) p1 s1 fun R2 H2 vs g2 p2 s2 u2 r2 =>
    k R2 H2 (v :: vs) (g1.trans g2 (same_live u1)) p2 s2 (u1.trans u2) (.cons (r1.same g2.same) r2)
theorem lays_lst (h : LaysA K R0 σ ta ds) (hl : ds.length ≤ 1000) : Lays K R0 σ (tLst ta) (.lst ds) := fun H R Q s0 pR sR k =>
  h H R _ s0 pR sR fun R1 H1 vs g1 p1 s1 u1 r1 => ⟨by have h1 := r1.len; have : 1000 ≤ sizeLine := by decide
                                                      omega, fun p hp =>
    k (upd R1 p (.lst vs)) _ (.ref p) (g1.put (u1.free hp) (s1.out hp)) (p1.put (fun _ _ z => nomatch z)) s1.put (u1.trans (same_new hp)) (.lst (SqL.of upd_same) (r1.same (same_new (s1.out hp))))⟩
theorem lays_tup (h : LaysA K R0 σ ta ds) (hl : ds.length ≤ 1000) : Lays K R0 σ (tTup ta) (.tup ds) := fun H R Q s0 pR sR k =>
  h H R _ s0 pR sR fun R1 H1 vs g1 p1 s1 u1 r1 => ⟨by have h1 := r1.len; have : 1000 ≤ sizeLine := by decide
                                                      omega, fun p hp =>
    k (upd R1 p (.tup vs)) _ (.ref p) (g1.put (u1.free hp) (s1.out hp)) (p1.put (fun _ _ z => nomatch z)) s1.put (u1.trans (same_new hp)) (.tup (SqT.of upd_same) (r1.same (same_new (s1.out hp))))⟩
theorem lays_dnew : Lays K R0 σ tDNewK (.dct []) := fun H R Q s0 pR sR k p hp =>
  k (upd R p (.dK [])) _ (.ref p) ((Grow.refl _ _).put hp (sR.out hp)) (pR.put (fun _ _ z => nomatch z)) sR.put (same_new hp) (.dct (.inl upd_same) .nil)
theorem laysP_nil : LaysP K R0 σ [] [] := fun H R Q s0 pR sR k => k R H [] (Grow.refl _ _) pR sR (Same.refl H) .nil
theorem laysP_cons {x : Str} {trs : List (TE × TE)} {es : List (Str × D)} (hx : x.length ≤ sizeLine) (h : Lays K R0 σ te d) (t : LaysP K R0 σ trs es) : LaysP K R0 σ ((tC (.str x), te) :: trs) ((x, d) :: es) := fun H R Q s0 pR sR k =>
  h H R _ s0 pR sR fun R1 H1 v g1 p1 s1 u1 r1 => t H1 R1 _ (s0.trans g1.same) p1 s1 fun R2 H2 kvs g2 p2 s2 u2 r2 =>
    k R2 H2 ((.inr x, v) :: kvs) (g1.trans g2 (same_live u1)) p2 s2 (u1.trans u2) (.cons hx (r1.same g2.same) r2)
theorem lays_dct {trs : List (TE × TE)} {es : List (Str × D)} (h : LaysP K R0 σ trs es) (nd : (es.map (·.1)).Nodup) (hl : es.length ≤ 15) : Lays K R0 σ (tDisp trs) (.dct es) := fun H R Q s0 pR sR k p hp => by
  have nR := sR.out hp
  refine h (upd H p (.dK [])) R _ s0 pR (sR.skip nR) fun R1 H1 kvs g1 p1 s1 u1 r1 => ?_
  have n1 : R1 p = none := g1.off upd_same nR
  refine ⟨u1 _ _ upd_same, kvs, rfl, by have := r1.len; omega, ?_⟩
  rw [r1.merge nd]
  refine k (upd R1 p (.dK kvs)) _ (.ref p) ?_ (p1.put (fun _ _ z => nomatch z)) s1.put (((same_new hp).trans u1).skip hp) (.dct (.inl upd_same) (r1.same (same_new n1)))
  refine ⟨g1.same.trans (same_new n1), fun x hx => ?_⟩
  have ne : x ≠ p := fun e => hx (by rw [e]; exact hp)
  rw [upd_ne ne]
  exact g1.old x (by rw [upd_ne ne]; exact hx)
theorem rep_flat2 {α : Type} (x : α) : ∀ n, (List.replicate n [x]).flatten = List.replicate n x
  | 0 => rfl
  | n + 1 => by
    rw [List.replicate_succ, List.flatten_cons, rep_flat2 x n, List.replicate_succ]
    rfl
theorem reps_rep {R : Hp} (r : Rep K R v d) : ∀ n, Reps K R (List.replicate n v) (List.replicate n d)
  | 0 => .nil
  | n + 1 => .cons r (reps_rep r n)
theorem lays_rep {k : Nat} (h : Lays K R0 σ te d) (hk : k ≤ 1000) : Lays K R0 σ (tOp rRep (tLst (tCons te tNil)) (tC (.int (k : Nat)))) (.lst (List.replicate k d)) := fun H R Q s0 pR sR q =>
  h H R _ s0 pR sR fun R1 H1 v g1 p1 s1 u1 r1 => ⟨(show 1 ≤ sizeLine by decide), fun p hp => by
    refine ⟨p, k, [v], rfl, rfl, upd_same, by omega, by omega, ?_, fun p2 hp2 => ?_⟩
    · have : 1000 ≤ sizeLine := by decide
      show 1 * ((k : Nat) : Int).toNat ≤ sizeLine
      omega
    · rw [rep_flat2, Int.toNat_natCast]
      have s2 : Same R1 (upd H1 p (.lst [v])) := s1.skip (s1.out hp)
      have u2 : Same H (upd H1 p (.lst [v])) := u1.trans (same_new hp)
      exact q (upd R1 p2 (.lst (List.replicate k v))) _ (.ref p2) (g1.put (u2.free hp2) (s2.out hp2)) (p1.put (fun _ _ z => nomatch z)) s2.put (u2.trans (same_new hp2)) (.lst (SqL.of upd_same) ((reps_rep r1 k).same (same_new (s2.out hp2))))⟩
end
end RP

set_option Elab.async false
set_option linter.all false
set_option maxRecDepth 100000
set_option maxHeartbeats 1000000
namespace K87
open PySem PySem.Spec PyProof.Rows L2 RP
section
variable {P : Program} {w : World} {K : PySem.W.Frag} {mg : Str → Option Value} {base : Heap}
/-! ### first_unmet -/
theorem sc_first_unmet : FnScope ["length", "guests", "name", "needs", "short", "at", "turns", "steps"] ["length", "guests", "name", "needs"] (defScope s_first_unmet) := ⟨rfl, rfl, rfl, by decide +kernel, rfl, by decide +kernel, by decide +kernel⟩
def ndD (e : Int × Int) : D := .tup [.int e.1, .int e.2]
/-- a list or a tuple of needs -/
def IsNd (d : D) (l : List (Int × Int)) : Prop := d = .lst (l.map ndD) ∨ d = .tup (l.map ndD)
theorem IsNd.rep {H : Hp} {v : V} {d : D} {l : List (Int × Int)} (n : IsNd d l) (r : Rep K H v d) : ∃ a b ys, v = .ref a ∧ Sq b K H a ys ∧ Reps K H ys (l.map ndD) := by
  rcases n with rfl | rfl
  · cases r with
    | lst h r => exact ⟨_, true, _, rfl, h, r⟩
  · cases r with
    | tup h r => exact ⟨_, false, _, rfl, h, r⟩
theorem IsNd.oks {d : D} {l : List (Int × Int)} (n : IsNd d l) (h : d.needs = true) : l.length ≤ 60 ∧ ∀ e ∈ l, (0 ≤ e.1 ∧ e.1 ≤ 400) ∧ 0 ≤ e.2 ∧ e.2 ≤ 400 := by
  have h2 : (decide ((l.map ndD).length ≤ 60) && (l.map ndD).all ndOk) = true := by
    rcases n with rfl | rfl <;> exact h
  rw [Bool.and_eq_true] at h2
  obtain ⟨h3, h4⟩ := h2
  refine ⟨by have := of_decide_eq_true h3; rw [List.length_map] at this; exact this, fun e he => ?_⟩
  have h5 := List.all_eq_true.mp h4 (ndD e) (List.mem_map.mpr ⟨e, he, rfl⟩)
  have h6 : ((decide (0 ≤ e.1) && decide (e.1 ≤ 400)) && (decide (0 ≤ e.2) && decide (e.2 ≤ 400))) = true := h5
  simp only [Bool.and_eq_true, decide_eq_true_eq] at h6
  exact h6
def unmetL (f : Int → Int) (l : List (Int × Int)) : List Int := (List.range l.length).filterMap fun i => if f (l.getD i (0, 0)).1 < (l.getD i (0, 0)).2 then some ((i : Nat) : Int) else none
def unmet (f : Int → Int) (l : List (Int × Int)) : Option Int := (unmetL f l).head?
def spUnmet (K : PySem.W.Frag) : Sp := fun vs H Q E => ∃ (R : Hp) (vl vg vn vm : V) (dl dg dn dm : D), vs = [vl, vg, vn, vm] ∧ Cs K R H vl vg vn dl dg dn E ∧ Rep K R vm dm ∧
  (caseR dl dg dn = 3 → dm.needs = false → Errs K "NoNeeds" "found" vm H E) ∧
  (caseR dl dg dn = 3 → dm.needs = true → ∃ len gs j z p c l, Good dl dg dn len gs j z p c ∧ IsNd dm l ∧ ∀ H', Same H H' → Q (optV (unmet (sureN len gs j) l)) H')
theorem Cs.of_good {R H : Hp} {vl vg vn : V} {dl dg dn : D} {E : XK} (c3 : caseR dl dg dn = 3) (s : Same R H) (p : Plain R) (l : Rep K R vl dl) (g : Rep K R vg dg) (n : Rep K R vn dn) : Cs K R H vl vg vn dl dg dn E :=
  ⟨s, p, l, g, n, fun h => absurd (c3.symm.trans h) (by decide), fun h => absurd (c3.symm.trans h) (by decide), fun h => absurd (c3.symm.trans h) (by decide)⟩
theorem ok_first_unmet (T : Txt K mg) (G_need_case : Def P w K mg base 4 "need_case" ["length", "guests", "name"] (spNeedCase K)) (G_are_needs : Def P w K mg base 2 "are_needs" ["thing"] (spNeeds K)) (G_at_least : Def P w K mg base 5 "at_least" ["length", "guests", "name", "turns"] (spAtLeast K)) :
    Def P w K mg base 6 "first_unmet" ["length", "guests", "name", "needs"] (spUnmet K) := by
  obtain ⟨f, fd, F⟩ := T.a_first_unmet
  refine Def.mk F sc_first_unmet (fun _ _ _ _ _ _ us hl => match us, hl with | [_, _, _, _], _ => rfl) (fun vs H Q E h => ?_) (fun cdv A outer s H vs Q E hr h => ?_)
  · obtain ⟨R, vl, vg, vn, vm, dl, dg, dn, dm, rfl, _⟩ := h
    rfl
  · obtain ⟨R, vl, vg, vn, vm, dl, dg, dn, dm, rfl, C, hm, e1, e2⟩ := h
    refine ⟨_, (pss_cons (ps_expr (pe_dX G_need_case (hr.mono (by decide)) (by rfl) tkB (pa_cons (pv 0) (pa_cons (pv 1) (pa_cons (pv 2) pa_nil)))))
      (pss_cons (ps_if (pt_not (pt_val (pe_d G_are_needs (hr.mono (by decide)) (by rfl) (pa_cons (pv 3) pa_nil)))) (pss_one (ps_raise rfl tkB (pmk_NoNeeds hr T (pa_cons (pv 3) pa_nil)))) pss_nil)
      (pss_cons (ps_setLc (i := 4) (own := [("at", 5), ("turns", 6), ("steps", 7)]) rfl sc_first_unmet.nd rfl rfl (sw_true rfl rfl rfl (by decide +kernel)) (kpi_enumS K rfl (by rfl) T.b_enumerate (pa_cons (pv 3) pa_nil)) (blkOk_by (own := [("at", 5), ("turns", 6), ("steps", 7)]) (N := ["length", "guests", "name", "needs", "short", "at", "turns", "steps"]) (sc := defScope s_first_unmet) (by decide +kernel)) (fun _ _ _ _ _ => (kpg_tup K rfl (n := 2) rfl (pgs_cons (pg_name (i := 5) sc_first_unmet.nd rfl (Or.inl rfl)) (pgs_cons (kpg_tup K rfl (n := 2) rfl (pgs_cons (pg_name (i := 6) sc_first_unmet.nd rfl (Or.inl rfl)) (pgs_cons (pg_name (i := 7) sc_first_unmet.nd rfl (Or.inl rfl)) pgs_nil))) pgs_nil)))) (fun _ _ _ _ _ => (pts_one (pt_cmpR op_lt (pe_d G_at_least (hr.mono (by decide)) (by rfl) (pa_cons (pv 0) (pa_cons (pv 1) (pa_cons (pv 2) (pa_cons (pv 6) pa_nil))))) (pv 7) (nomark _)))) (fun _ _ _ _ _ => (pv 5)))
      (pss_one (ps_ret (pe_ifExp (pt_cmpR (kop_neE K rfl hr.units) (pv 4) (pe_lst pa_nil) (nomark _)) (pe_ix (kix_list K rfl) (pv 4) pe_int (fun _ _ => rfl)) pe_non)))))), ?_⟩
    refine ⟨_, rfl, _, rfl, _, rfl, R, vl, vg, vn, dl, dg, dn, rfl, C.s, C.p, C.l, C.g, C.n, C.k0, C.k1, C.k2, fun c3 H1 s1 => ?_⟩
    refine ⟨_, rfl, vm, dm, rfl, hm.same (C.s.trans s1), fun H2 s2 => ⟨_, rfl, ?_⟩⟩
    show if (!dm.needs) = true then _ else _
    cases cw : dm.needs with
    | false => exact ⟨_, rfl, fun dd hd => (e1 c3 cw).same (s1.trans s2) _ dd (same_new hd) hd upd_same⟩
    | true =>
      obtain ⟨len, gs, j, z, p, c, l, g, hnd, hq⟩ := e2 c3 cw
      have sR2 : Same R H2 := C.s.trans (s1.trans s2)
      obtain ⟨a, b, ys, rfl, hS, hr⟩ := hnd.rep hm
      obtain ⟨l60, hoks⟩ := hnd.oks cw
      have hlen : ys.length = l.length := by rw [hr.len, List.length_map]
      refine iteF ⟨_, rfl, a, b, ys, rfl, hS.mono (Lq.of sR2), fun L hL => ?_⟩
      refine lc_vals (w := walk_enumS) (fun i => (if sureN len gs j (l.getD i (0, 0)).1 < (l.getD i (0, 0)).2 then some ((i : Nat) : Int) else none).map V.int) hL (by omega) (fun H3 s3 => (hS.mono (Lq.of sR2)).mono (Lq.of s3)) ?_ ?_
      · rintro i x H3 H4 Y2 N2 hi s3 hnL ⟨t, kx, vx, rfl, ht, eH, hkx, hvx⟩ k3 k4
        cases hkx
        obtain ⟨d, hd, rd⟩ := hr.get hvx
        rw [List.getElem?_map] at hd
        obtain ⟨e, he, rfl⟩ := Option.map_eq_some_iff.mp hd
        have ht2 : H4 t = some (.tup [.int (i : Nat), vx]) := by
          rw [eH, upd_same]
        have s4 : Same H3 H4 := by
          rw [eH]
          exact same_new ht
        have sR4 : Same R H4 := sR2.trans (s3.trans s4)
        have eg : l.getD i (0, 0) = e := by
          rw [List.getD_eq_getElem?_getD, he]
          rfl
        rw [eg] at k3 k4
        obtain ⟨a2, rfl, h2⟩ := sh_of (rd.same sR4)
        obtain ⟨b1, b2⟩ := hoks e (List.mem_of_getElem? he)
        refine ⟨t, [.int (i : Nat), .ref a2], rfl, SqT.of ht2, rfl, _, _, rfl, _, _, rfl, a2, _, rfl, h2, rfl, _, _, rfl, _, _, rfl, rfl, rfl, rfl, ?_⟩
        have wt : (D.int e.1).whole 0 400 = true := by
          show (decide (0 ≤ e.1) && decide (e.1 ≤ 400)) = true
          rw [decide_eq_true b1.1, decide_eq_true b1.2]
          rfl
        refine ⟨_, rfl, _, rfl, _, rfl, _, rfl, R, vl, vg, vn, .int e.1, dl, dg, dn, .int e.1, rfl, Cs.of_good c3 sR4 C.p C.l C.g C.n, .int _, fun _ q => ?_, fun _ _ => ⟨len, gs, j, z, p, c, e.1, g, rfl, fun H5 s5 => ?_⟩⟩
        · rw [wt] at q
          cases q
        · refine ⟨_, rfl, _, _, rfl, rfl, _, rfl, ?_⟩
          refine ite_dec (fun c => ?_) (fun c => ?_)
          · exact ⟨_, rfl, k3 _ _ (by rw [if_pos (of_decide_eq_true c)]; rfl) (s4.trans s5)⟩
          · exact k4 _ (by rw [if_neg (of_decide_eq_false c)]; rfl) (s4.trans s5)
      · intro H3 s3 h3
        have s4 : Same H H3 := s1.trans (s2.trans s3)
        have eu : (List.range ys.length).filterMap (fun i => (if sureN len gs j (l.getD i (0, 0)).1 < (l.getD i (0, 0)).2 then some ((i : Nat) : Int) else none).map V.int) = (unmetL (sureN len gs j) l).map V.int := by
          rw [hlen]
          unfold unmetL
          rw [List.map_filterMap]
        rw [eu] at h3
        refine ⟨_, rfl, Nat.zero_le _, fun q hq' => ?_⟩
        have s5 : Same H3 (upd H3 q (.lst [])) := same_new hq'
        refine ⟨L, q, unmetL (sureN len gs j) l, rfl, rfl, SqL.of (s5 _ _ h3), SqL.of upd_same, _, rfl, ?_⟩
        have hq2 := hq _ (s4.trans s5)
        unfold unmet at hq2
        have h5 := s5 _ _ h3
        generalize upd H3 q (.lst []) = H5 at hq2 h5 ⊢
        generalize unmetL (sureN len gs j) l = is at hq2 h5 ⊢
        cases is with
        | nil => exact hq2
        | cons i0 r => exact iteT ⟨_, rfl, L, _, 0, .int i0, rfl, rfl, SqL.of h5, atI_nat (j := 0) rfl, hq2⟩
/-! ### least_promise -/
theorem sc_least_promise : FnScope ["length", "guests", "name", "needs", "promise", "changed"] ["length", "guests", "name", "needs"] (defScope s_least_promise) := ⟨rfl, rfl, rfl, by decide +kernel, rfl, by decide +kernel, by decide +kernel⟩
def leastB (len : Int) (gs : List G3) (j : Nat) (z : Str) (c : Int) (l : List (Int × Int)) (q : Nat) : Bool := fits len (setP gs j z q c) && (unmet (sureN len (setP gs j z q c) j) l).isNone
def least (len : Int) (gs : List G3) (j : Nat) (z : Str) (c : Int) (l : List (Int × Int)) : Option Int := ((List.range (len + 1).toNat).find? (leastB len gs j z c l)).map fun q => (q : Int)
def spLeast (K : PySem.W.Frag) : Sp := fun vs H Q E => ∃ (R : Hp) (vl vg vn vm : V) (dl dg dn dm : D), vs = [vl, vg, vn, vm] ∧ Cs K R H vl vg vn dl dg dn E ∧ Rep K R vm dm ∧
  (caseR dl dg dn = 3 → dm.needs = false → Errs K "NoNeeds" "found" vm H E) ∧
  (caseR dl dg dn = 3 → dm.needs = true → ∃ len gs j z p c l, Good dl dg dn len gs j z p c ∧ IsNd dm l ∧ ∀ H', Same H H' → Q (optV (least len gs j z c l)) H')
theorem find_hit {f : Nat → Bool} {n i : Nat} (hi : i < n) (h : f i = true) (hb : ∀ k, k < i → f k = false) : (List.range n).find? f = some i := by
  rw [List.find?_eq_some_iff_append]
  refine ⟨h, List.range i, (List.range (n - i - 1)).map (fun k => k + i + 1), ?_, fun a ha => by rw [hb a (List.mem_range.mp ha)]; rfl⟩
  refine List.ext_getElem (by simp; omega) fun k h1 h2 => ?_
  rw [List.getElem_range, List.getElem_append]
  split
  · rw [List.getElem_range]
  · rename_i h3
    rw [List.length_range] at h3
    rw [List.getElem_cons]
    split
    · rename_i h4
      simp at h4
      omega
    · rw [List.getElem_map, List.getElem_range]
      simp
      simp at *
      omega
theorem find_none {f : Nat → Bool} {n : Nat} (h : ∀ k, k < n → f k = false) : (List.range n).find? f = none := by
  rw [List.find?_eq_none]
  intro k hk
  rw [h k (List.mem_range.mp hk)]
  simp
theorem ok_least_promise (T : Txt K mg) (G_need_case : Def P w K mg base 4 "need_case" ["length", "guests", "name"] (spNeedCase K)) (G_are_needs : Def P w K mg base 2 "are_needs" ["thing"] (spNeeds K)) (G_with_promise : Def P w K mg base 4 "with_promise" ["length", "guests", "name", "promise"] (spWithP K))
    (G_first_unmet : Def P w K mg base 6 "first_unmet" ["length", "guests", "name", "needs"] (spUnmet K)) : Def P w K mg base 7 "least_promise" ["length", "guests", "name", "needs"] (spLeast K) := by
  obtain ⟨f, fd, F⟩ := T.a_least_promise
  refine Def.mk F sc_least_promise (fun _ _ _ _ _ _ us hl => match us, hl with | [_, _, _, _], _ => rfl) (fun vs H Q E h => ?_) (fun cdv A outer s H vs Q E hr h => ?_)
  · obtain ⟨R, vl, vg, vn, vm, dl, dg, dn, dm, rfl, _⟩ := h
    rfl
  · obtain ⟨R, vl, vg, vn, vm, dl, dg, dn, dm, rfl, C, hm, e1, e2⟩ := h
    refine ⟨_, (pss_cons (ps_expr (pe_dX G_need_case (hr.mono (by decide)) (by rfl) tkB (pa_cons (pv 0) (pa_cons (pv 1) (pa_cons (pv 2) pa_nil)))))
      (pss_cons (ps_if (pt_not (pt_val (pe_d G_are_needs (hr.mono (by decide)) (by rfl) (pa_cons (pv 3) pa_nil)))) (pss_one (ps_raise rfl tkB (pmk_NoNeeds hr T (pa_cons (pv 3) pa_nil)))) pss_nil)
      (pss_cons (ps_for (passes_of rfl) rfl (pi_range1 (by rfl) T.b_range (pa_cons (pe_op op_add (pv 0) pe_int) pa_nil)) (pg_name (i := 4) sc_least_promise.nd rfl (Or.inl rfl))
        (pss_cons (ps_set (i := 5) sc_least_promise.nd rfl (Or.inl rfl) (pe_d G_with_promise (hr.mono (by decide)) (by rfl) (pa_cons (pv 0) (pa_cons (pv 1) (pa_cons (pv 2) (pa_cons (pv 4) pa_nil))))))
      (pss_one (ps_if (PW.pt (pw_and (pt_cmpR op_notN (pv 5) pe_non (nomark _)) (pw_and1 (pt_cmpR op_isN (pe_dX G_first_unmet (hr.mono (by decide)) (by rfl) tkB (pa_cons (pv 0) (pa_cons (pv 5) (pa_cons (pv 2) (pa_cons (pv 3) pa_nil))))) pe_non (nomark _))))) (pss_one (ps_ret (pv 4))) pss_nil))))
      (pss_one (ps_ret pe_non))))), ?_⟩
    refine ⟨_, rfl, _, rfl, _, rfl, R, vl, vg, vn, dl, dg, dn, rfl, C.s, C.p, C.l, C.g, C.n, C.k0, C.k1, C.k2, fun c3 H1 s1 => ?_⟩
    refine ⟨_, rfl, vm, dm, rfl, hm.same (C.s.trans s1), fun H2 s2 => ⟨_, rfl, ?_⟩⟩
    show if (!dm.needs) = true then _ else _
    cases cw : dm.needs with
    | false => exact ⟨_, rfl, fun dd hd => (e1 c3 cw).same (s1.trans s2) _ dd (same_new hd) hd upd_same⟩
    | true =>
      obtain ⟨len, gs, j, z, p, c, l, g, hnd, hq⟩ := e2 c3 cw
      have sR2 : Same R H2 := C.s.trans (s1.trans s2)
      have sH2 : Same H H2 := s1.trans s2
      obtain ⟨gl, gg, gn, ok, hj⟩ := g
      subst gl gg gn
      have hl := C.l
      cases hl
      have hn := C.n
      cases hn with
      | str _ hz =>
      have hlen := ok.len
      refine iteF ⟨_, rfl, _, _, rfl, rfl, len + 1, rfl, by omega, by omega, ?_⟩
      refine for_it (w := walk_range) (fun t σ H' => ∃ (o4 o5 : Option V), σ = [some (.int len), some vg, some (.str z), some vm, o4, o5] ∧ (∀ k, k < t → leastB len gs j z c l k = false) ∧ Same H2 H')
        ⟨none, none, rfl, fun _ h => absurd h (Nat.not_lt_zero _), Same.refl _⟩ (fun _ _ _ _ _ => True.intro) ?_ ?_
      · rintro t x σ H3 H4 ht ⟨o4, o5, rfl, hb, s3⟩ ⟨rfl, hx⟩
        have tl : (t : Int) ≤ len := by omega
        have hx2 : x = .int ((t : Nat) : Int) := by
          rw [hx]
          show V.int (0 + (t : Int)) = _
          rw [Int.zero_add]
        subst hx2
        refine ⟨_, rfl, _, rfl, _, rfl, _, rfl, R, vg, len, (t : Nat), gs, j, z, p, c, rfl, sR2.trans s3, C.p, C.g, ok, hj, by omega, tl, fun hf H5 R' v s5 r1 r2 r3 r4 r5 => ?_, fun hf H5 s5 => ?_⟩
        · obtain ⟨av, rfl⟩ := r5
          refine ⟨_, rfl, rfl, _, rfl, iteT ?_⟩
          have ok' := setP_gs ok hj (by omega) tl hf
          have g' : Good (.int len) (gD (setP gs j z (t : Nat) c)) (.str z) len (setP gs j z (t : Nat) c) j z (t : Nat) (max c (t : Nat)) := ⟨rfl, rfl, rfl, ok', setP_at hj⟩
          refine ⟨_, rfl, _, rfl, _, rfl, _, rfl, R', .int len, .ref av, .str z, vm, .int len, _, .str z, dm, rfl, Cs.of_good g'.case r3 r2 (.int _) r4 (.str _ hz), hm.same r1, fun _ q => ?_, fun _ _ => ⟨len, _, j, z, _, _, l, g', hnd, fun H6 s6 => ?_⟩⟩
          · rw [cw] at q
            cases q
          · refine ⟨rfl, _, rfl, ?_⟩
            have el : leastB len gs j z c l t = (unmet (sureN len (setP gs j z (t : Nat) c) j) l).isNone := by
              unfold leastB
              rw [hf, Bool.true_and]
            cases cu : unmet (sureN len (setP gs j z (t : Nat) c) j) l with
            | none =>
              rw [cu] at el
              have hr : least len gs j z c l = some (t : Int) := by
                unfold least
                rw [find_hit (i := t) (by omega) el hb]
                rfl
              rw [hr] at hq
              exact ⟨_, rfl, hq H6 (sH2.trans (s3.trans (s5.trans s6)))⟩
            | some y =>
              rw [cu] at el
              refine ⟨_, _, rfl, fun k hk => ?_, s3.trans (s5.trans s6)⟩
              by_cases q : k = t
              · rw [q]; exact el
              · exact hb k (by omega)
        · refine ⟨_, rfl, rfl, _, rfl, iteF ⟨_, _, rfl, fun k hk => ?_, s3.trans s5⟩⟩
          by_cases q : k = t
          · rw [q]
            unfold leastB
            rw [hf, Bool.false_and]
          · exact hb k (by omega)
      · rintro σ H3 ⟨o4, o5, rfl, hb, s3⟩
        have hr : least len gs j z c l = none := by
          unfold least
          rw [find_none hb]
          rfl
        rw [hr] at hq
        exact hq H3 (sH2.trans s3)
end
end K87

set_option Elab.async false
set_option linter.all false
set_option maxRecDepth 100000
set_option maxHeartbeats 1000000
namespace K87
open PySem PySem.Spec PyProof.Rows L2 RP
/-! ### the order of the turns, in plain numbers -/
theorem aP_le (p q u : Int) (e : Bool) : aheadP p q u e ≤ q := by
  unfold aheadP
  exact Int.min_le_left _ _
theorem aF_le {p q qc u : Int} {e : Bool} (h : q ≤ qc) : aheadF p q qc u e ≤ qc := by
  unfold aheadF
  split
  · exact Int.le_trans (aP_le _ _ _ _) h
  · exact Int.min_le_left _ _
theorem aF_nn {p q qc u : Int} {e : Bool} (h0 : 0 ≤ q) (h : q ≤ qc) (hu : 0 ≤ u) : 0 ≤ aheadF p q qc u e := by
  unfold aheadF
  split
  · rename_i hp
    have hx : 0 ≤ u * q := Int.mul_nonneg hu h0
    have p0 : 0 < p := by omega
    unfold aheadP
    cases e with
    | true =>
      have := Int.ediv_nonneg hx (by omega : 0 ≤ p)
      simp only [if_true]
      omega
    | false =>
      have := Int.ediv_le_ediv (c := p) p0 (show -(u * q) ≤ 0 by omega)
      rw [Int.zero_ediv] at this
      simp only [Bool.false_eq_true, if_false]
      omega
  · omega
theorem aF_mono {p q qc u : Int} {e : Bool} (h0 : 0 ≤ q) (h : q ≤ qc) (hu : 0 ≤ u) : aheadF p q qc u e ≤ aheadF p q qc (u + 1) e := by
  unfold aheadF
  by_cases h1 : u + 1 < p
  · rw [if_pos h1, if_pos (by omega)]
    have hx : u * q ≤ (u + 1) * q := by
      rw [Int.add_mul]
      omega
    have p0 : 0 < p := by omega
    unfold aheadP
    cases e with
    | true =>
      have := Int.ediv_le_ediv (c := p) p0 hx
      simp only [if_true]
      omega
    | false =>
      have := Int.ediv_le_ediv (c := p) p0 (show -((u + 1) * q) ≤ -(u * q) by omega)
      simp only [Bool.false_eq_true, if_false]
      omega
  · rw [if_neg h1]
    by_cases h2 : u < p
    · rw [if_pos h2]
      have := aP_le p q u e
      cases e <;> simp only [if_true, Bool.false_eq_true, if_false] <;> omega
    · rw [if_neg h2]
      cases e <;> simp only [if_true, Bool.false_eq_true, if_false] <;> omega
/-- two guests in the first phase -/
theorem first_fst {p q qc u v : Int} {e : Bool} (hu : u < p) (hp : 0 ≤ u) (hv : v < q → u * q ≤ v * p ∧ (e = true → u * q < v * p)) (hq : q ≤ v ∨ v < q) : aheadF p q qc u e ≤ v := by
  unfold aheadF
  rw [if_pos hu]
  rcases hq with h | h
  · exact Int.le_trans (aP_le _ _ _ _) h
  · obtain ⟨h1, h2⟩ := hv h
    have p0 : 0 < p := by omega
    unfold aheadP
    cases e with
    | true =>
      have := Int.ediv_lt_of_lt_mul p0 (h2 rfl)
      simp only [if_true]
      omega
    | false =>
      have h3 : -v ≤ -(u * q) / p := by
        rw [Int.le_ediv_iff_mul_le p0, Int.neg_mul]
        omega
      simp only [Bool.false_eq_true, if_false]
      omega
theorem first_snd {p q pc u v : Int} {e : Bool} (hu : u < p) (hc : p ≤ pc) (hp : 0 ≤ u) (hv0 : 0 ≤ v) (hv : v < q → u * q ≤ v * p ∧ (e = false → u * q < v * p)) : u < aheadF q p pc v e := by
  unfold aheadF
  split
  · rename_i h
    obtain ⟨h1, h2⟩ := hv h
    have q0 : 0 < q := by omega
    unfold aheadP
    cases e with
    | true =>
      have h3 : u ≤ v * p / q := by
        rw [Int.le_ediv_iff_mul_le q0]
        exact h1
      simp only [if_true]
      omega
    | false =>
      have h3 : -(v * p) / q < -u := by
        refine Int.ediv_lt_of_lt_mul q0 ?_
        rw [Int.neg_mul]
        have := h2 rfl
        omega
      simp only [Bool.false_eq_true, if_false]
      omega
  · omega
/-- the guests' numbers -/
def pA (gs : List G3) (i : Nat) : Int := (shAt gs i).1
def cA (gs : List G3) (i : Nat) : Int := (shAt gs i).2
def Aij (gs : List G3) (i k : Nat) (v : Int) : Int := aheadF (pA gs k) (pA gs i) (cA gs i) v (decide (i < k))
theorem GsOk.at_sh {len : Int} {gs : List G3} (g : GsOk len gs) {i : Nat} (h : i < gs.length) : 0 ≤ pA gs i ∧ pA gs i ≤ cA gs i ∧ 1 ≤ cA gs i ∧ cA gs i ≤ len := by
  have e : gs[i]? = some gs[i] := List.getElem?_eq_getElem h
  obtain ⟨a1, a2, a3, a4⟩ := g.sh _ (List.mem_of_getElem? e)
  have e2 : shAt gs i = (gs[i].2.1, gs[i].2.2) := shAt_of (z := gs[i].1) e
  unfold pA cA
  rw [e2]
  exact ⟨a1, by show gs[i].2.1 ≤ gs[i].2.2; omega, by show 1 ≤ gs[i].2.2; omega, a4⟩
/-- what a dealing answers -/
def DealOk (gs : List G3) (u : Nat → Int) : Option Nat → Prop
  | some b => b < gs.length ∧ ((u b < pA gs b ∧ ∀ i, i < gs.length → u i < pA gs i → u b * pA gs i ≤ u i * pA gs b ∧ (i < b → u b * pA gs i < u i * pA gs b)) ∨
      ((∀ i, i < gs.length → ¬ u i < pA gs i) ∧ u b < cA gs b ∧ ∀ i, i < gs.length → u i < cA gs i → u b ≤ u i ∧ (i < b → u b < u i)))
  | none => ∀ i, i < gs.length → ¬ u i < cA gs i
/-- how far the dealing has come -/
structure Inv1 (gs : List G3) (u : Nat → Int) : Prop where
  b : ∀ i, i < gs.length → 0 ≤ u i ∧ u i ≤ cA gs i
  a : ∀ i k, i < gs.length → k < gs.length → i ≠ k → u k < cA gs k → u i ≤ Aij gs i k (u k)
def addAt (u : Nat → Int) (b : Nat) : Nat → Int := fun i => if i = b then u i + 1 else u i
theorem deal_lt {len : Int} {gs : List G3} {u : Nat → Int} {b : Nat} (g : GsOk len gs) (d : DealOk gs u (some b)) : u b < cA gs b := by
  obtain ⟨h, h1 | h1⟩ := d
  · have := g.at_sh h
    omega
  · exact h1.2.1
theorem deal_le {len : Int} {gs : List G3} {u : Nat → Int} {b i : Nat} (g : GsOk len gs) (I : Inv1 gs u) (d : DealOk gs u (some b)) (hi : i < gs.length) (hn : i ≠ b) : Aij gs i b (u b) ≤ u i ∧ (u i < cA gs i → u b < Aij gs b i (u i)) := by
  obtain ⟨h, h1⟩ := d
  have gi := g.at_sh hi
  have gb := g.at_sh h
  have ib := I.b b h
  have ii := I.b i hi
  have hlt : decide (b < i) = !decide (i < b) := by
    by_cases q : i < b
    · rw [decide_eq_true q, decide_eq_false (by omega)]; rfl
    · rw [decide_eq_false q, decide_eq_true (by omega)]; rfl
  rcases h1 with ⟨h1, h2⟩ | ⟨h0, h1, h2⟩
  · refine ⟨first_fst h1 ib.1 (fun hv => ⟨(h2 i hi hv).1, fun e => (h2 i hi hv).2 (of_decide_eq_true e)⟩) (by omega), fun hc => ?_⟩
    refine first_snd h1 gb.2.1 ib.1 ii.1 (fun hv => ⟨(h2 i hi hv).1, fun e => (h2 i hi hv).2 ?_⟩)
    rw [hlt] at e
    exact of_decide_eq_true (by simpa using e)
  · have n1 := h0 b h
    have n2 := h0 i hi
    refine ⟨?_, fun hc => ?_⟩
    · unfold Aij aheadF
      rw [if_neg n1]
      by_cases hc : u i < cA gs i
      · obtain ⟨a1, a2⟩ := h2 i hi hc
        by_cases q : i < b
        · have := a2 q
          rw [decide_eq_true q]
          simp only [if_true]
          omega
        · rw [decide_eq_false q]
          simp only [Bool.false_eq_true, if_false]
          omega
      · omega
    · unfold Aij aheadF
      rw [if_neg n2]
      obtain ⟨a1, a2⟩ := h2 i hi hc
      by_cases q : b < i
      · rw [decide_eq_true q]
        simp only [if_true]
        omega
      · have := a2 (by omega)
        rw [decide_eq_false q]
        simp only [Bool.false_eq_true, if_false]
        omega
theorem Inv1.next {len : Int} {gs : List G3} {u : Nat → Int} {b : Nat} (g : GsOk len gs) (I : Inv1 gs u) (d : DealOk gs u (some b)) : Inv1 gs (addAt u b) := by
  have hlt := deal_lt g d
  have hb := d.1
  refine ⟨fun i hi => ?_, fun i k hi hk hn hc => ?_⟩
  · have := I.b i hi
    unfold addAt
    by_cases q : i = b
    · subst q
      rw [if_pos rfl]
      omega
    · rw [if_neg q]
      exact this
  · unfold addAt at hc ⊢
    by_cases q : k = b
    · subst q
      rw [if_pos rfl] at hc ⊢
      rw [if_neg hn]
      have gi := g.at_sh hi
      exact Int.le_trans (I.a i k hi hk hn (by omega)) (aF_mono gi.1 gi.2.1 (I.b k hk).1)
    · rw [if_neg q] at hc ⊢
      by_cases q2 : i = b
      · subst q2
        rw [if_pos rfl]
        have := (deal_le g I d hk (Ne.symm hn)).2 hc
        omega
      · rw [if_neg q2]
        exact I.a i k hi hk hn hc
theorem Inv1.zero {len : Int} {gs : List G3} (g : GsOk len gs) : Inv1 gs fun _ => 0 := by
  refine ⟨fun i hi => ?_, fun i k hi hk hn hc => ?_⟩
  · have := g.at_sh hi
    omega
  · have gi := g.at_sh hi
    exact aF_nn gi.1 gi.2.1 (Int.le_refl 0)
/-! ### sums -/
def sumR (u : Nat → Int) (n : Nat) : Int := ((List.range n).map u).sum
theorem sum_split (u : Nat → Int) (n j : Nat) (h : j < n) : sumR u n = u j + (((List.range n).filter fun i => decide (i ≠ j)).map u).sum := by
  unfold sumR
  induction n with
  | zero => omega
  | succ n ih =>
    rw [List.range_succ, List.map_append, List.sum_append, List.filter_append, List.map_append, List.sum_append]
    by_cases q : j = n
    · subst q
      have e1 : (List.range j).filter (fun i => decide (i ≠ j)) = List.range j := by
        refine List.filter_eq_self.mpr fun a ha => ?_
        have := List.mem_range.mp ha
        simp
        omega
      rw [e1]
      simp
      omega
    · rw [ih (by omega)]
      have e1 : [n].filter (fun i => decide (i ≠ j)) = [n] := by
        simp
        omega
      rw [e1]
      omega
theorem sum_le {u v : Nat → Int} : ∀ l : List Nat, (∀ i ∈ l, u i ≤ v i) → (l.map u).sum ≤ (l.map v).sum
  | [], _ => Int.le_refl _
  | a :: l, h => by
    have h1 := h a List.mem_cons_self
    have h2 := sum_le l fun i hi => h i (List.mem_cons_of_mem _ hi)
    rw [List.map_cons, List.map_cons, List.sum_cons, List.sum_cons]
    omega
theorem sum_eq {u v : Nat → Int} {l : List Nat} (h : ∀ i ∈ l, u i = v i) : (l.map u).sum = (l.map v).sum := by
  rw [List.map_congr_left h]
/-- the turn of guest j's turn with u behind it -/
def Tj (gs : List G3) (j : Nat) (v : Int) : Int := v + 1 + aheadAll gs j v (others gs j)
theorem aheadAll_eq (gs : List G3) (j : Nat) (v : Int) : aheadAll gs j v (others gs j) = ((others gs j).map fun i => Aij gs i j v).sum := rfl
theorem others_mem {gs : List G3} {j i : Nat} (h : i ∈ others gs j) : i < gs.length ∧ i ≠ j := by
  have h2 := List.mem_filter.mp h
  exact ⟨List.mem_range.mp h2.1, of_decide_eq_true h2.2⟩
theorem Tj_mono {len : Int} {gs : List G3} {j : Nat} {v : Int} (g : GsOk len gs) (hv : 0 ≤ v) : Tj gs j v < Tj gs j (v + 1) := by
  unfold Tj
  rw [aheadAll_eq, aheadAll_eq]
  have := sum_le (u := fun i => Aij gs i j v) (v := fun i => Aij gs i j (v + 1)) (others gs j) fun i hi => by
    have gi := g.at_sh (others_mem hi).1
    exact aF_mono gi.1 gi.2.1 hv
  omega
theorem Tj_monoN {len : Int} {gs : List G3} {j : Nat} (g : GsOk len gs) {v : Int} (hv : 0 ≤ v) : ∀ d : Nat, Tj gs j v + d ≤ Tj gs j (v + d)
  | 0 => by simp
  | d + 1 => by
    have h1 := Tj_monoN (j := j) g hv d
    have h2 := Tj_mono (j := j) g (v := v + d) (by omega)
    have e : v + ((d + 1 : Nat) : Int) = v + d + 1 := by omega
    rw [e]
    omega
/-- the dealing after t turns -/
structure InvT (len : Int) (gs : List G3) (j t : Nat) (u : Nat → Int) : Prop where
  i : Inv1 gs u
  s : (∃ i, i < gs.length ∧ u i < cA gs i) → sumR u gs.length = t
  t : ∀ v : Int, 0 ≤ v → v < u j → Tj gs j v ≤ t
theorem InvT.zero {len : Int} {gs : List G3} {j : Nat} (g : GsOk len gs) : InvT len gs j 0 fun _ => 0 := by
  refine ⟨Inv1.zero g, fun _ => ?_, fun v h0 h1 => absurd h1 (by omega)⟩
  unfold sumR
  induction gs.length with
  | zero => rfl
  | succ n ih => rw [List.range_succ, List.map_append, List.sum_append, ih]; rfl
theorem sum_add {u : Nat → Int} {n b : Nat} (h : b < n) : sumR (addAt u b) n = sumR u n + 1 := by
  rw [sum_split _ n b h, sum_split u n b h]
  have e : (((List.range n).filter fun i => decide (i ≠ b)).map (addAt u b)).sum = (((List.range n).filter fun i => decide (i ≠ b)).map u).sum := by
    refine sum_eq fun i hi => ?_
    have := of_decide_eq_true (List.mem_filter.mp hi).2
    exact if_neg this
  rw [e]
  have e2 : addAt u b b = u b + 1 := if_pos rfl
  rw [e2]
  omega
theorem deal_turn {len : Int} {gs : List G3} {j t : Nat} {u : Nat → Int} (g : GsOk len gs) (I : InvT len gs j t u) (d : DealOk gs u (some j)) : Tj gs j (u j) = (t : Int) + 1 := by
  have hj := d.1
  have hs := I.s ⟨j, hj, deal_lt g d⟩
  rw [sum_split u _ j hj] at hs
  unfold Tj
  rw [aheadAll_eq]
  have e : ((others gs j).map fun i => Aij gs i j (u j)).sum = (((List.range gs.length).filter fun i => decide (i ≠ j)).map u).sum := by
    refine sum_eq fun i hi => ?_
    obtain ⟨h1, h2⟩ := others_mem hi
    have a1 := (deal_le g I.i d h1 h2).1
    have a2 := I.i.a i j h1 hj h2 (deal_lt g d)
    exact Int.le_antisymm a1 a2
  rw [e]
  omega
theorem InvT.next {len : Int} {gs : List G3} {j t b : Nat} {u : Nat → Int} (g : GsOk len gs) (I : InvT len gs j t u) (d : DealOk gs u (some b)) : InvT len gs j (t + 1) (addAt u b) := by
  have hb := d.1
  have hs := I.s ⟨b, hb, deal_lt g d⟩
  refine ⟨I.i.next g d, fun _ => ?_, fun v h0 h1 => ?_⟩
  · rw [sum_add hb, hs]
    omega
  · by_cases q : j = b
    · subst q
      have e2 : addAt u j j = u j + 1 := if_pos rfl
      rw [e2] at h1
      by_cases q2 : v = u j
      · rw [q2, deal_turn g I d]
        omega
      · have := I.t v h0 (by omega)
        omega
    · have e2 : addAt u b j = u j := if_neg q
      rw [e2] at h1
      have := I.t v h0 h1
      omega
theorem InvT.idle {len : Int} {gs : List G3} {j t : Nat} {u : Nat → Int} (I : InvT len gs j t u) (d : DealOk gs u none) : InvT len gs j (t + 1) u :=
  ⟨I.i, fun ⟨i, hi, h⟩ => absurd h (d i hi), fun v h0 h1 => by have := I.t v h0 h1; omega⟩
/-- the turns that guest j has had -/
def hadL (gs : List G3) (j : Nat) (m : Nat) : List V := (List.range m).map fun i => V.int (Tj gs j (i : Nat))
theorem turnOf_lt {len : Int} {gs : List G3} {j : Nat} {u : Nat → Int} (g : GsOk len gs) (hj : j < gs.length) (I : InvT len gs j len.toNat u) {i : Nat} (h : (i : Int) < u j) : turnOf len gs j (1 + (i : Nat)) = some (Tj gs j (i : Nat)) := by
  have h1 := I.t (i : Nat) (by omega) h
  have hc := (I.i.b j hj).2
  have hlen := g.len
  unfold turnOf
  have e : (1 : Int) + (i : Nat) - 1 = (i : Nat) := by omega
  have e2 : (1 : Int) + (i : Nat) + aheadAll gs j (i : Nat) (others gs j) = Tj gs j (i : Nat) := by
    unfold Tj
    omega
  rw [if_neg (show ¬ (1 : Int) + (i : Nat) > (shAt gs j).2 from by unfold cA at hc; omega), e, e2, if_pos (by omega)]
theorem turnOf_ge {len : Int} {gs : List G3} {j : Nat} {u : Nat → Int} (g : GsOk len gs) (hj : j < gs.length) (I : InvT len gs j len.toNat u) {i : Nat} (h : u j ≤ (i : Int)) : turnOf len gs j (1 + (i : Nat)) = none := by
  have hlen := g.len
  have hb := I.i.b j hj
  unfold turnOf
  by_cases q : (1 : Int) + (i : Nat) > (shAt gs j).2
  · rw [if_pos q]
  · rw [if_neg q]
    have e : (1 : Int) + (i : Nat) - 1 = (i : Nat) := by omega
    have e2 : (1 : Int) + (i : Nat) + aheadAll gs j (i : Nat) (others gs j) = Tj gs j (i : Nat) := by
      unfold Tj
      omega
    have hlt : u j < cA gs j := by unfold cA; omega
    have hs := I.s ⟨j, hj, hlt⟩
    rw [sum_split u _ j hj] at hs
    have h1 : Tj gs j (u j) > len := by
      unfold Tj
      rw [aheadAll_eq]
      have := sum_le (u := u) (v := fun i => Aij gs i j (u j)) (others gs j) fun i hi => by
        obtain ⟨q1, q2⟩ := others_mem hi
        exact I.i.a i j q1 hj q2 hlt
      unfold others at this ⊢
      omega
    have h2 := Tj_monoN (j := j) g hb.1 ((i : Int) - u j).toNat
    have e3 : u j + (((i : Int) - u j).toNat : Int) = i := by omega
    rw [e3] at h2
    rw [e, e2, if_neg (by omega)]
theorem fm_split {α β : Type} {f : Nat → Option β} {F : Nat → β} {m : Nat} : ∀ n, (∀ i, i < n → i < m → f i = some (F i)) → (∀ i, i < n → m ≤ i → f i = none) → (List.range n).filterMap f = (List.range (min m n)).map F
  | 0, _, _ => by simp
  | n + 1, h1, h2 => by
    have ih := fm_split (α := α) n (fun i hi => h1 i (by omega)) (fun i hi => h2 i (by omega))
    rw [range_succ_filterMap, ih]
    by_cases q : n < m
    · rw [h1 n (by omega) q, show min m n = n by omega, show min m (n + 1) = n + 1 by omega, List.range_succ, List.map_append]
      rfl
    · rw [h2 n (by omega) (by omega), show min m n = m by omega, show min m (n + 1) = m by omega, List.append_nil]
/-- the end of the stretch -/
theorem inL_end {len : Int} {gs : List G3} {j : Nat} {u : Nat → Int} (g : GsOk len gs) (hj : j < gs.length) (I : InvT len gs j len.toNat u) : inL len gs j len = hadL gs j (u j).toNat := by
  have hb := I.i.b j hj
  have hlen := g.len
  have hc := (g.at_sh hj).2.2.2
  unfold inL hadL
  rw [fm_split (α := Nat) (F := fun i => V.int (Tj gs j (i : Nat))) (m := (u j).toNat)]
  · rw [show min (u j).toNat len.toNat = (u j).toNat by omega]
  · intro i hi hm
    rw [turnOf_lt g hj I (by omega)]
    have := I.t (i : Nat) (by omega) (by omega)
    show (if Tj gs j (i : Nat) ≤ len then _ else _) = _
    rw [if_pos (by omega)]
  · intro i hi hm
    rw [turnOf_ge g hj I (by omega)]
end K87

set_option Elab.async false
set_option linter.all false
set_option maxRecDepth 100000
set_option maxHeartbeats 1000000
namespace K87
open PySem PySem.Spec PyProof.Rows L2 RP
theorem valV_mem : ∀ {l : List (Key × V)} {k : Key} {v : V}, (l.map (·.1)).Nodup → (k, v) ∈ l → valV l k = some v
  | [], _, _, _, h => nomatch h
  | e :: l, k, v, n, h => by
    rw [List.map_cons, List.nodup_cons] at n
    rcases List.mem_cons.mp h with h | h
    · rw [← h]
      exact valV_pos rfl
    · have ne : ¬ e.1 = k := fun q => n.1 (by rw [q]; exact List.mem_map.mpr ⟨_, h, rfl⟩)
      rw [valV_neg ne]
      exact valV_mem n.2 h
theorem nm_some {gs : List G3} {i : Nat} (h : i < gs.length) : ∃ p c, gs[i]? = some (nmAt gs i, p, c) ∧ pA gs i = p ∧ cA gs i = c := by
  have e : gs[i]? = some gs[i] := List.getElem?_eq_getElem h
  refine ⟨gs[i].2.1, gs[i].2.2, ?_, ?_, ?_⟩
  · have := nmAt_of (z := gs[i].1) (p := gs[i].2.1) (c := gs[i].2.2) e
    rw [this]
    exact e
  · unfold pA
    rw [shAt_of (z := gs[i].1) (p := gs[i].2.1) (c := gs[i].2.2) e]
  · unfold cA
    rw [shAt_of (z := gs[i].1) (p := gs[i].2.1) (c := gs[i].2.2) e]
theorem names_eq (gs : List G3) : (List.range gs.length).map (nmAt gs) = gs.map (·.1) := by
  refine List.ext_getElem (by simp) fun i h1 h2 => ?_
  have h : i < gs.length := by simpa using h1
  obtain ⟨p, c, e, _⟩ := nm_some h
  have e2 : gs[i] = (nmAt gs i, p, c) := by
    rw [List.getElem?_eq_getElem h] at e
    exact Option.some.inj e
  simp [e2]
theorem nm_inj {len : Int} {gs : List G3} (g : GsOk len gs) {i k : Nat} (hi : i < gs.length) (hk : k < gs.length) (h : nmAt gs i = nmAt gs k) : i = k := by
  obtain ⟨p, c, e, _⟩ := nm_some hi
  obtain ⟨p', c', e', _⟩ := nm_some hk
  rw [h] at e
  exact nd_ix g.nd (by rw [List.getElem?_map, e]; rfl) (by rw [List.getElem?_map, e']; rfl)
theorem fm_ifT {α β : Type} (p : α → Bool) (f : α → β) : ∀ l : List α, (l.filterMap fun i => if p i = true then some (f i) else none) = (l.filter p).map f
  | [] => rfl
  | a :: l => by
    rw [List.filterMap_cons, List.filter_cons]
    cases h : p a with
    | true => simp only [if_true, List.map_cons]; exact congrArg _ (fm_ifT p f l)
    | false => simp only [Bool.false_eq_true, if_false]; exact fm_ifT p f l
/-- the dict of the turns used -/
def usedK (gs : List G3) (u : Nat → Int) : List (Key × V) := (List.range gs.length).map fun i => (.inr (nmAt gs i), .int (u i))
theorem used_nd {len : Int} {gs : List G3} {u : Nat → Int} (g : GsOk len gs) : ((usedK gs u).map (·.1)).Nodup := by
  have e : (usedK gs u).map (·.1) = (gs.map (·.1)).map fun z => (Sum.inr z : Key) := by
    unfold usedK
    rw [← names_eq, List.map_map, List.map_map]
    rfl
  rw [e]
  exact List.pairwise_map.mpr (g.nd.imp fun h q => h (Sum.inr.inj q))
theorem used_at {len : Int} {gs : List G3} {u : Nat → Int} (g : GsOk len gs) {i : Nat} (h : i < gs.length) : valV (usedK gs u) (.inr (nmAt gs i)) = some (.int (u i)) :=
  valV_mem (used_nd g) (List.mem_map.mpr ⟨i, List.mem_range.mpr h, rfl⟩)
theorem used_put {len : Int} {gs : List G3} {u : Nat → Int} (g : GsOk len gs) {b : Nat} (h : b < gs.length) : putK (usedK gs u) (.inr (nmAt gs b)) (.int (u b + 1)) = usedK gs (addAt u b) := by
  unfold putK
  rw [if_pos]
  · unfold usedK
    rw [List.map_map]
    refine List.map_congr_left fun i hi => ?_
    have hi2 := List.mem_range.mp hi
    show (if (Sum.inr (nmAt gs i) : Key) = Sum.inr (nmAt gs b) then ((Sum.inr (nmAt gs i) : Key), V.int (u b + 1)) else (Sum.inr (nmAt gs i), V.int (u i))) = _
    unfold addAt
    by_cases q : i = b
    · subst q
      rw [if_pos rfl, if_pos rfl]
    · have q2 : ¬ (Sum.inr (nmAt gs i) : Key) = Sum.inr (nmAt gs b) := fun e => q (nm_inj g hi2 h (Sum.inr.inj e))
      rw [if_neg q2, if_neg q]
  · refine List.any_eq_true.mpr ⟨_, List.mem_map.mpr ⟨b, List.mem_range.mpr h, rfl⟩, ?_⟩
    exact decide_eq_true rfl
def nameV (gs : List G3) : Option Nat → V
  | none => .non
  | some b => .str (nmAt gs b)
/-! ### the best of the first phase, of the second -/
def P1 (gs : List G3) (u : Nat → Int) (l : List Nat) : Option Nat → Prop
  | none => l = []
  | some b => b ∈ l ∧ ∀ k ∈ l, u b * pA gs k ≤ u k * pA gs b ∧ (k < b → u b * pA gs k < u k * pA gs b)
theorem P1.none_next {gs : List G3} {u : Nat → Int} {l : List Nat} {i : Nat} (h : P1 gs u l none) : P1 gs u (l ++ [i]) (some i) := by
  have h2 : l = [] := h
  subst h2
  exact ⟨List.mem_singleton.mpr rfl, fun k hk => by
    have := List.mem_singleton.mp hk
    subst this
    exact ⟨Int.le_refl _, fun q => absurd q (Nat.lt_irrefl _)⟩⟩
theorem P1.keep {gs : List G3} {u : Nat → Int} {l : List Nat} {i b : Nat} (h : P1 gs u l (some b)) (hs : ∀ k ∈ l, k < i) (hc : ¬ u i * pA gs b < u b * pA gs i) : P1 gs u (l ++ [i]) (some b) := by
  refine ⟨List.mem_append_left _ h.1, fun k hk => ?_⟩
  rcases List.mem_append.mp hk with q | q
  · exact h.2 k q
  · have := List.mem_singleton.mp q
    subst this
    exact ⟨by omega, fun q2 => absurd q2 (by have := hs b h.1; omega)⟩
theorem P1.new {gs : List G3} {u : Nat → Int} {l : List Nat} {i b : Nat} (h : P1 gs u l (some b)) (hp : ∀ k ∈ l ++ [i], 0 < pA gs k) (hc : u i * pA gs b < u b * pA gs i) : P1 gs u (l ++ [i]) (some i) := by
  refine ⟨List.mem_append_right _ (List.mem_singleton.mpr rfl), fun k hk => ?_⟩
  rcases List.mem_append.mp hk with q | q
  · have h1 := (h.2 k q).1
    have pb := hp b (List.mem_append_left _ h.1)
    have pi := hp i (List.mem_append_right _ (List.mem_singleton.mpr rfl))
    have pk := hp k hk
    have a1 : (u i * pA gs b) * pA gs k < (u b * pA gs i) * pA gs k := Int.mul_lt_mul_of_pos_right hc pk
    have a2 : (u b * pA gs k) * pA gs i ≤ (u k * pA gs b) * pA gs i := Int.mul_le_mul_of_nonneg_right h1 (by omega)
    have e1 : (u i * pA gs b) * pA gs k = (u i * pA gs k) * pA gs b := Int.mul_right_comm _ _ _
    have e2 : (u b * pA gs i) * pA gs k = (u b * pA gs k) * pA gs i := Int.mul_right_comm _ _ _
    have e3 : (u k * pA gs b) * pA gs i = (u k * pA gs i) * pA gs b := Int.mul_right_comm _ _ _
    rw [e1, e2] at a1
    rw [e3] at a2
    have a3 : (u i * pA gs k) * pA gs b < (u k * pA gs i) * pA gs b := by omega
    have a4 := Int.lt_of_mul_lt_mul_right a3 (by omega)
    exact ⟨by omega, fun _ => a4⟩
  · have := List.mem_singleton.mp q
    subst this
    exact ⟨Int.le_refl _, fun q => absurd q (Nat.lt_irrefl _)⟩
def P2 (gs : List G3) (u : Nat → Int) (t : Nat) : Option Nat → Prop
  | none => ∀ i, i < t → ¬ u i < cA gs i
  | some b => b < t ∧ u b < cA gs b ∧ ∀ i, i < t → u i < cA gs i → u b ≤ u i ∧ (i < b → u b < u i)
theorem P2.skip {gs : List G3} {u : Nat → Int} {t : Nat} {o : Option Nat} (h : P2 gs u t o) (hc : ¬ u t < cA gs t) : P2 gs u (t + 1) o := by
  cases o with
  | none =>
    intro i hi
    by_cases q : i = t
    · subst q; exact hc
    · exact h i (by omega)
  | some b =>
    refine ⟨by have := h.1; omega, h.2.1, fun i hi hi2 => ?_⟩
    by_cases q : i = t
    · subst q; exact absurd hi2 hc
    · exact h.2.2 i (by omega) hi2
theorem P2.none_next {gs : List G3} {u : Nat → Int} {t : Nat} (h : P2 gs u t none) (hc : u t < cA gs t) : P2 gs u (t + 1) (some t) := by
  refine ⟨by omega, hc, fun i hi hi2 => ?_⟩
  by_cases q : i = t
  · subst q; exact ⟨Int.le_refl _, fun q => absurd q (Nat.lt_irrefl _)⟩
  · exact absurd hi2 (h i (by omega))
theorem P2.keep {gs : List G3} {u : Nat → Int} {t b : Nat} (h : P2 gs u t (some b)) (hc : ¬ u t < u b) : P2 gs u (t + 1) (some b) := by
  refine ⟨by have := h.1; omega, h.2.1, fun i hi hi2 => ?_⟩
  by_cases q : i = t
  · subst q
    exact ⟨by omega, fun q2 => absurd q2 (by have := h.1; omega)⟩
  · exact h.2.2 i (by omega) hi2
theorem P2.new {gs : List G3} {u : Nat → Int} {t b : Nat} (h : P2 gs u t (some b)) (h0 : u t < cA gs t) (hc : u t < u b) : P2 gs u (t + 1) (some t) := by
  refine ⟨by omega, h0, fun i hi hi2 => ?_⟩
  by_cases q : i = t
  · subst q
    exact ⟨Int.le_refl _, fun q => absurd q (Nat.lt_irrefl _)⟩
  · have := (h.2.2 i (by omega) hi2).1
    exact ⟨by omega, fun _ => by omega⟩
def firsts (gs : List G3) (u : Nat → Int) : List Nat := (List.range gs.length).filter fun i => decide (u i < pA gs i)
theorem firsts_mem {gs : List G3} {u : Nat → Int} {i : Nat} : i ∈ firsts gs u ↔ i < gs.length ∧ u i < pA gs i := by
  unfold firsts
  rw [List.mem_filter, List.mem_range, decide_eq_true_eq]
theorem firsts_sorted {gs : List G3} {u : Nat → Int} {t i : Nat} (h : (firsts gs u)[t]? = some i) : ∀ k ∈ (firsts gs u).take t, k < i := by
  have hs : (firsts gs u).Pairwise (· < ·) := List.Pairwise.filter _ List.pairwise_lt_range
  intro k hk
  obtain ⟨m, hm⟩ := List.mem_iff_getElem?.mp hk
  have hm2 : m < t ∧ (firsts gs u)[m]? = some k := by
    rw [List.getElem?_take] at hm
    split at hm
    · exact ⟨by assumption, hm⟩
    · cases hm
  have hl := (List.getElem?_eq_some_iff.mp h).1
  have e1 : (firsts gs u)[m]'(by omega) = k := (List.getElem?_eq_some_iff.mp hm2.2).2
  have e2 : (firsts gs u)[t] = i := (List.getElem?_eq_some_iff.mp h).2
  have := List.pairwise_iff_getElem.mp hs m t (by omega) hl hm2.1
  omega
theorem deal_1 {gs : List G3} {u : Nat → Int} {b : Nat} (h : P1 gs u (firsts gs u) (some b)) : DealOk gs u (some b) := by
  have h1 := firsts_mem.mp h.1
  exact ⟨h1.1, .inl ⟨h1.2, fun i hi hi2 => h.2 i (firsts_mem.mpr ⟨hi, hi2⟩)⟩⟩
theorem deal_2 {len : Int} {gs : List G3} {u : Nat → Int} {o : Option Nat} (h0 : P1 gs u (firsts gs u) none) (h : P2 gs u gs.length o) : DealOk gs u o := by
  have h1 : ∀ i, i < gs.length → ¬ u i < pA gs i := fun i hi q => by
    have h2 : firsts gs u = [] := h0
    have := firsts_mem.mpr ⟨hi, q⟩
    rw [h2] at this
    cases this
  cases o with
  | none => exact h
  | some b => exact ⟨h.1, .inr ⟨h1, h.2.1, h.2.2⟩⟩
section
variable {P : Program} {w : World} {K : PySem.W.Frag} {mg : Str → Option Value} {base : Heap}
/-! ### _law_deal -/
theorem sc__law_deal : FnScope ["guests", "used", "ready", "names", "name", "first", "best"] ["guests", "used", "ready"] (defScope s__law_deal) := ⟨rfl, rfl, rfl, by decide +kernel, rfl, by decide +kernel, by decide +kernel⟩
def spDeal (K : PySem.W.Frag) : Sp := fun vs H Q _ => ∃ (R : Hp) (vg : V) (len : Int) (gs : List G3) (u : Nat → Int) (ud rl : Addr) (xs : List V), vs = [vg, .ref ud, .ref rl] ∧ Same R H ∧ Plain R ∧ Rep K R vg (gD gs) ∧ GsOk len gs ∧ H ud = some (.dK (usedK gs u)) ∧
  (∀ i, i < gs.length → 0 ≤ u i ∧ u i ≤ 60) ∧ SqL K H rl xs ∧ xs.all flatV = true ∧ (∀ i, i < gs.length → inV (.str (nmAt gs i)) xs = true) ∧ ∀ o H', DealOk gs u o → Same H H' → Q (nameV gs o) H'
theorem ok__law_deal (T : Txt K mg) : Def P w K mg base 1 "_law_deal" ["guests", "used", "ready"] (spDeal K) := by
  obtain ⟨f, fd, F⟩ := T.a__law_deal
  refine Def.mk F sc__law_deal (fun _ _ _ _ _ _ us hl => match us, hl with | [_, _, _], _ => rfl) (fun vs H Q E h => ?_) (fun cdv A outer s H vs Q E hr h => ?_)
  · obtain ⟨R, vg, len, gs, u, ud, rl, xs, rfl, _⟩ := h
    rfl
  · obtain ⟨R, vg, len, gs, u, ud, rl, xs, rfl, sR, pR, hg, ok, hud, hu, hrl, hfl, hin, hq⟩ := h
    cases hg with
    | @dct a kvs _ hk rk =>
    have hRa : R a = some (.dK kvs) := pR.rd hk
    have hHa := sR _ _ hRa
    have hl : kvs.length = gs.length := by rw [rk.len, List.length_map]
    have n6 := ok.n6
    have hlen := ok.len
    have lookU : ∀ {i : Nat} {H' : Hp}, Same H H' → i < gs.length → DGet H' ud (.str (nmAt gs i)) (some (.int (u i))) := fun s hi => .inl ⟨usedK gs u, .inr (nmAt gs _), .inl (s _ _ hud), rfl, (used_at ok hi).symm⟩
    have lookG : ∀ {i : Nat} {H' : Hp}, Same H H' → i < gs.length → ∃ a1, DGet H' a (.str (nmAt gs i)) (some (.ref a1)) ∧ SqT K H' a1 [.int (pA gs i), .int (cA gs i)] := fun {i H'} s hi => by
      obtain ⟨p, c, e, e1, e2⟩ := nm_some hi
      obtain ⟨v, g1, g2⟩ := (rk.same (sR.trans s)).get_of (.inl (s _ _ hHa)) (dlook_gs ok.nd e)
      obtain ⟨a1, rfl, g3⟩ := sh_of g2
      rw [e1, e2]
      exact ⟨a1, g1, g3⟩
    have bnd : ∀ {i : Nat}, i < gs.length → 0 ≤ pA gs i ∧ pA gs i ≤ 60 ∧ 0 ≤ u i ∧ u i ≤ 60 := fun {i} hi => by
      have h1 := ok.at_sh hi
      have h2 := hu i hi
      omega
    refine ⟨_, (pss_cons (ps_lock (ps_setLc (i := 3) (own := [("name", 4)]) rfl sc__law_deal.nd rfl rfl (sw_true rfl rfl rfl (by decide +kernel)) (pi_keys (pv 0)) (blkOk_by (own := [("name", 4)]) (N := ["guests", "used", "ready", "names", "name", "first", "best"]) (sc := defScope s__law_deal) (by decide +kernel)) (fun _ _ _ _ _ => (pg_name (i := 4) sc__law_deal.nd rfl (Or.inl rfl))) (fun _ _ _ _ _ => (pts_one (pt_cmpR (kop_in_seq K rfl) (pv 4) (pv 2) (by rfl)))) (fun _ _ _ _ _ => (pv 4))))
      (pss_cons (ps_setLc (i := 5) (own := [("name", 4)]) rfl sc__law_deal.nd rfl rfl (sw_true rfl rfl rfl (by decide +kernel)) (kpi_list K rfl (pv 3)) (blkOk_by (own := [("name", 4)]) (N := ["guests", "used", "ready", "names", "name", "first", "best"]) (sc := defScope s__law_deal) (by decide +kernel)) (fun _ _ _ _ _ => (pg_name (i := 4) sc__law_deal.nd rfl (Or.inl rfl))) (fun _ _ _ _ _ => (pts_one (pt_cmpR op_lt (pe_dget (hu_of hr) (pv 1) (pv 4) (fun _ _ => rfl)) (pe_ix (kix_tup K rfl) (pe_dget (hu_of hr) (pv 0) (pv 4) (fun _ _ => rfl)) pe_int (fun _ _ => rfl)) (nomark _)))) (fun _ _ _ _ _ => (pv 4)))
      (pss_cons (ps_set (i := 6) sc__law_deal.nd rfl (Or.inl rfl) pe_non)
      (pss_cons (ps_for (passes_of rfl) rfl (kpi_list K rfl (pv 5)) (pg_name (i := 4) sc__law_deal.nd rfl (Or.inl rfl))
        (pss_one (ps_if (PW.pt (pw_or (pt_cmpR op_isN (pv 6) pe_non (nomark _)) (pw_or1 (pt_cmpR op_lt (pe_op op_mulW (pe_dget (hu_of hr) (pv 1) (pv 4) (fun _ _ => rfl)) (pe_ix (kix_tup K rfl) (pe_dget (hu_of hr) (pv 0) (pv 6) (fun _ _ => rfl)) pe_int (fun _ _ => rfl))) (pe_op op_mulW (pe_dget (hu_of hr) (pv 1) (pv 6) (fun _ _ => rfl)) (pe_ix (kix_tup K rfl) (pe_dget (hu_of hr) (pv 0) (pv 4) (fun _ _ => rfl)) pe_int (fun _ _ => rfl))) (nomark _))))) (pss_one (ps_set (i := 6) sc__law_deal.nd rfl (Or.inl rfl) (pv 4))) pss_nil)))
      (pss_cons (ps_if (pt_cmpR op_notN (pv 6) pe_non (nomark _)) (pss_one (ps_ret (pv 6))) pss_nil)
      (pss_cons (ps_for (passes_of rfl) rfl (kpi_list K rfl (pv 3)) (pg_name (i := 4) sc__law_deal.nd rfl (Or.inl rfl))
        (pss_one (ps_if (PW.pt (pw_and (pt_cmpR op_lt (pe_dget (hu_of hr) (pv 1) (pv 4) (fun _ _ => rfl)) (pe_ix (kix_tup K rfl) (pe_dget (hu_of hr) (pv 0) (pv 4) (fun _ _ => rfl)) pe_int (fun _ _ => rfl)) (nomark _)) (pw_and1 (PW.pt (pw_or (pt_cmpR op_isN (pv 6) pe_non (nomark _)) (pw_or1 (pt_cmpR op_lt (pe_dget (hu_of hr) (pv 1) (pv 4) (fun _ _ => rfl)) (pe_dget (hu_of hr) (pv 1) (pv 6) (fun _ _ => rfl)) (nomark _)))))))) (pss_one (ps_set (i := 6) sc__law_deal.nd rfl (Or.inl rfl) (pv 4))) pss_nil)))
      (pss_one (ps_ret (pv 6))))))))), ?_⟩
    refine ⟨a, .dK kvs, hHa, True.intro, fun od => ⟨_, rfl, a, od, rfl, .inl ⟨kvs, upd_same, fun L hL => ?_⟩⟩⟩
    refine lc_vals (w := walk_keys) (fun i => some (.str (nmAt gs i))) hL (by omega) (fun H1 s1 => s1 _ _ upd_same) ?_ ?_
    · rintro i x H1 H2 Y2 N2 hi s1 hnL ⟨rfl, k, v, hkv, rfl⟩ k3 k4
      obtain ⟨y, d, hd, rfl, hy, rd⟩ := rk.get hkv
      have e1 : y = nmAt gs i := by
        rw [List.getElem?_map] at hd
        obtain ⟨e, he, hd⟩ := Option.map_eq_some_iff.mp hd
        cases hd
        exact (nmAt_of (z := e.1) (p := e.2.1) (c := e.2.2) he).symm
      subst e1
      have hr2 : SqL K H2 rl xs := (Lq.of s1).seq (((Lq.refl H).lock hHa True.intro).seq hrl)
      refine ⟨rfl, ⟨_, rfl, _, rfl, rl, xs, rfl, .inl hr2, rfl, hfl, _, rfl, ?_⟩⟩
      show if inV (V.str (nmAt gs i)) xs = true then _ else _
      rw [if_pos (hin i (by omega))]
      exact ⟨_, rfl, k3 _ _ rfl (Same.refl _)⟩
    · intro H1 s1 h1
      rw [fm_some, hl] at h1
      have hLa : L ≠ a := fun e => by
        rw [e, upd_same] at hL
        cases hL
      refine ⟨s1 _ _ upd_same, ?_⟩
      have su : Same H (upd H1 a (.dK kvs)) := Same.unlock hHa s1
      have hLu : upd H1 a (.dK kvs) L = some (.lst ((List.range gs.length).map fun i => V.str (nmAt gs i))) := by rw [upd_ne hLa]; exact h1
      generalize upd H1 a (.dK kvs) = Hu at su hLu ⊢
      have at_names : ∀ {i : Nat} {x : V}, ((List.range gs.length).map fun i => V.str (nmAt gs i))[i]? = some x → i < gs.length ∧ x = .str (nmAt gs i) := fun {i x} h => by
        rw [List.getElem?_map] at h
        obtain ⟨y, hy, rfl⟩ := Option.map_eq_some_iff.mp h
        have hi : i < gs.length := by
          have := (List.getElem?_eq_some_iff.mp hy).1
          simpa using this
        rw [List.getElem?_range hi] at hy
        cases hy
        exact ⟨hi, rfl⟩
      refine ⟨_, rfl, L, rfl, ⟨_, SqL.of hLu⟩, fun M hM => ?_⟩
      refine lc_vals (w := walk_list) (fun i => if decide (u i < pA gs i) = true then some (.str (nmAt gs i)) else none) hM (by rw [List.length_map, List.length_range]; omega) (fun H2 s2 => SqL.of (s2 _ _ hLu)) ?_ ?_
      · rintro i x H2 H3 Y2 N2 hi s2 hnL ⟨rfl, hx⟩ k3 k4
        obtain ⟨hi2, rfl⟩ := at_names hx
        obtain ⟨a1, g1, g3⟩ := lookG (su.trans s2) hi2
        refine ⟨rfl, ⟨_, rfl, _, rfl, ud, _, rfl, lookU (su.trans s2) hi2, _, rfl, _, rfl, a, _, rfl, g1, a1, _, _, _, rfl, rfl, g3, rfl, _, _, rfl, rfl, _, rfl, ?_⟩⟩
        refine ite_dec (fun c => ?_) (fun c => ?_)
        · exact ⟨_, rfl, k3 _ _ (if_pos c) (Same.refl _)⟩
        · exact k4 _ (if_neg (by rw [c]; exact fun z => nomatch z)) (Same.refl _)
      · intro H2 s2 h2
        have ef : (List.range ((List.range gs.length).map fun i => V.str (nmAt gs i)).length).filterMap (fun i => if decide (u i < pA gs i) = true then some (V.str (nmAt gs i)) else none) = (firsts gs u).map fun i => V.str (nmAt gs i) := by
          rw [List.length_map, List.length_range]
          unfold firsts
          exact fm_ifT (fun i => decide (u i < pA gs i)) (fun i => V.str (nmAt gs i)) _
        rw [ef] at h2
        have s12 := su.trans s2
        have hLm := s2 _ _ hLu
        refine ⟨_, rfl, M, rfl, ⟨_, SqL.of h2⟩, ?_⟩
        refine for_it (w := walk_list) (fun t σ H' => ∃ (o4 : Option V) (b : Option Nat), σ = [some (.ref a), some (.ref ud), some (.ref rl), some (.ref L), o4, some (.ref M), some (nameV gs b)] ∧ P1 gs u ((firsts gs u).take t) b ∧ Same H2 H')
          ⟨_, none, rfl, rfl, Same.refl _⟩ (fun t σ H' _ ⟨_, _, _, _, s⟩ => SqL.of (s _ _ h2)) ?_ ?_
        · rintro t x σ H3 H4 ht ⟨o4, b, rfl, hb, s3⟩ ⟨rfl, hx⟩
          rw [List.getElem?_map] at hx
          obtain ⟨i, hi, rfl⟩ := Option.map_eq_some_iff.mp hx
          have hif := firsts_mem.mp (List.mem_of_getElem? hi)
          have s13 := s12.trans s3
          cases b with
          | none =>
            refine ⟨_, rfl, rfl, _, rfl, iteT ⟨_, rfl, _, some i, rfl, ?_, s3⟩⟩
            rw [take_next hi]
            exact hb.none_next
          | some b =>
            have hbf := firsts_mem.mp (List.mem_of_mem_take hb.1)
            obtain ⟨a1, g1, g3⟩ := lookG s13 hbf.1
            obtain ⟨a2, g4, g5⟩ := lookG s13 hif.1
            have bi := bnd hif.1
            have bb := bnd hbf.1
            refine ⟨_, rfl, rfl, _, rfl, iteF ?_⟩
            refine ⟨_, rfl, _, rfl, ud, _, rfl, lookU s13 hif.1, _, rfl, _, rfl, a, _, rfl, g1, a1, _, _, _, rfl, rfl, g3, rfl, _, _, rfl, rfl, wmul (by omega) (by omega), ?_⟩
            refine ⟨_, rfl, _, rfl, ud, _, rfl, lookU s13 hbf.1, _, rfl, _, rfl, a, _, rfl, g4, a2, _, _, _, rfl, rfl, g5, rfl, _, _, rfl, rfl, wmul (by omega) (by omega), ?_⟩
            refine ⟨_, _, rfl, rfl, _, rfl, ?_⟩
            refine ite_dec (fun c => ?_) (fun c => ?_)
            · refine ⟨_, rfl, _, some i, rfl, ?_, s3⟩
              rw [take_next hi]
              refine hb.new (fun k hk => ?_) (of_decide_eq_true c)
              have hk2 : k ∈ firsts gs u := by
                rcases List.mem_append.mp hk with q | q
                · exact List.mem_of_mem_take q
                · rw [List.mem_singleton.mp q]
                  exact List.mem_of_getElem? hi
              have hk3 := firsts_mem.mp hk2
              have := (bnd hk3.1).2.2.1
              omega
            · refine ⟨_, some b, rfl, ?_, s3⟩
              rw [take_next hi]
              exact hb.keep (firsts_sorted hi) (of_decide_eq_false c)
        · rintro σ H3 ⟨o4, b, rfl, hb, s3⟩
          rw [List.length_map, List.take_length] at hb
          have s13 := s12.trans s3
          cases b with
          | some b => exact ⟨_, rfl, rfl, _, rfl, iteT ⟨_, rfl, hq (some b) H3 (deal_1 hb) s13⟩⟩
          | none =>
            refine ⟨_, rfl, rfl, _, rfl, iteF ?_⟩
            have hLn := s3 _ _ hLm
            refine ⟨_, rfl, L, rfl, ⟨_, SqL.of hLn⟩, ?_⟩
            refine for_it (w := walk_list) (fun t σ H' => ∃ (o4 : Option V) (b : Option Nat), σ = [some (.ref a), some (.ref ud), some (.ref rl), some (.ref L), o4, some (.ref M), some (nameV gs b)] ∧ P2 gs u t b ∧ Same H3 H')
              ⟨_, none, rfl, fun _ h => absurd h (Nat.not_lt_zero _), Same.refl _⟩ (fun t σ H' _ ⟨_, _, _, _, s⟩ => SqL.of (s _ _ hLn)) ?_ ?_
            · rintro t x σ H4 H5 ht ⟨o4, b, rfl, h2b, s4⟩ ⟨rfl, hx⟩
              obtain ⟨hi, rfl⟩ := at_names hx
              have s14 := s13.trans s4
              obtain ⟨a2, g4, g5⟩ := lookG s14 hi
              refine ⟨_, rfl, _, rfl, ud, _, rfl, lookU s14 hi, _, rfl, _, rfl, a, _, rfl, g4, a2, _, _, _, rfl, rfl, g5, rfl, _, _, rfl, rfl, _, rfl, ?_⟩
              refine ite_dec (fun c => ?_) (fun c => ?_)
              · have c1 := of_decide_eq_true c
                cases b with
                | none => exact ⟨_, rfl, rfl, _, rfl, iteT ⟨_, rfl, _, some t, rfl, h2b.none_next c1, s4⟩⟩
                | some b =>
                  refine ⟨_, rfl, rfl, _, rfl, iteF ⟨_, rfl, _, rfl, ud, _, rfl, lookU s14 hi, _, rfl, _, rfl, ud, _, rfl, lookU s14 (by have := h2b.1; omega), _, _, rfl, rfl, _, rfl, ?_⟩⟩
                  refine ite_dec (fun c => ?_) (fun c => ?_)
                  · exact ⟨_, rfl, _, some t, rfl, h2b.new c1 (of_decide_eq_true c), s4⟩
                  · exact ⟨_, some b, rfl, h2b.keep (of_decide_eq_false c), s4⟩
              · exact ⟨_, b, rfl, h2b.skip (of_decide_eq_false c), s4⟩
            · rintro σ H4 ⟨o4, b, rfl, h2b, s4⟩
              rw [List.length_map, List.length_range] at h2b
              exact ⟨_, rfl, hq b H4 (deal_2 (len := len) hb h2b) (s13.trans s4)⟩
end
end K87

set_option Elab.async false
set_option linter.all false
set_option maxRecDepth 100000
set_option maxHeartbeats 1000000
namespace K87
open PySem PySem.Spec PyProof.Rows L2 RP
theorem repK_ints {K : PySem.W.Frag} {H : Hp} : ∀ {es : List (Str × Int)} {kvs : List (Key × V)}, RepK K H kvs (es.map fun e => (e.1, D.int e.2)) → kvs = es.map fun e => (Sum.inr e.1, V.int e.2)
  | [], _, r => by cases r; rfl
  | e :: es, _, r => by
    rw [List.map_cons] at r
    cases r with
    | cons hx h t =>
      cases h
      rw [List.map_cons, repK_ints t]
theorem flat_strs (l : List Str) : (l.map V.str).all flatV = true := by
  rw [List.all_map]
  exact List.all_eq_true.mpr fun _ _ => rfl
theorem inV_strs {z : Str} {l : List Str} (h : z ∈ l) : inV (.str z) (l.map V.str) = true := by
  unfold inV
  rw [List.any_map]
  refine List.any_eq_true.mpr ⟨z, h, ?_⟩
  show eqV (.str z) (.str z) = true
  have e : eqV (.str z) (.str z) = decide (z = z) := rfl
  rw [e]
  simp
section
variable {P : Program} {w : World} {K : PySem.W.Frag} {mg : Str → Option Value} {base : Heap}
/-! ### _law_stretch -/
theorem sc__law_stretch : FnScope ["guests", "length", "name", "choose", "used", "found", "one", "turn", "got"] ["guests", "length", "name", "choose"] (defScope s__law_stretch) := ⟨rfl, rfl, rfl, by decide +kernel, rfl, by decide +kernel, by decide +kernel⟩
def spStretch (K : PySem.W.Frag) : Sp := fun vs H Q _ => ∃ (R : Hp) (vg : V) (len : Int) (gs : List G3) (j : Nat) (z : Str) (p c : Int) (cl ol : Addr), vs = [vg, .int len, .str z, .ref cl] ∧ Same R H ∧ Plain R ∧ Rep K R vg (gD gs) ∧ GsOk len gs ∧ gs[j]? = some (z, p, c) ∧
  H cl = some (.lst (List.replicate len.toNat (.ref ol))) ∧ H ol = some (.lst ((others gs j).map fun i => .str (nmAt gs i))) ∧ ∀ L H', Same H H' → H' L = some (.lst (inL len gs j len)) → Q (.ref L) H'
theorem ok__law_stretch (T : Txt K mg) (G__law_deal : Def P w K mg base 1 "_law_deal" ["guests", "used", "ready"] (spDeal K)) : Def P w K mg base 2 "_law_stretch" ["guests", "length", "name", "choose"] (spStretch K) := by
  obtain ⟨f, fd, F⟩ := T.a__law_stretch
  refine Def.mk F sc__law_stretch (fun _ _ _ _ _ _ us hl => match us, hl with | [_, _, _, _], _ => rfl) (fun vs H Q E h => ?_) (fun cdv A outer s H vs Q E hr h => ?_)
  · obtain ⟨R, vg, len, gs, j, z, p, c, cl, ol, rfl, _⟩ := h
    rfl
  · obtain ⟨R, vg, len, gs, j, z, p, c, cl, ol, rfl, sR, pR, hg, ok, hj, hcl, hol, hq⟩ := h
    have hg0 := hg
    cases hg with
    | @dct a kvs _ hk rk =>
    have hRa : R a = some (.dK kvs) := pR.rd hk
    have hHa := sR _ _ hRa
    have hl : kvs.length = gs.length := by rw [rk.len, List.length_map]
    have n6 := ok.n6
    have hlen := ok.len
    have hjl : j < gs.length := (List.getElem?_eq_some_iff.mp hj).1
    have nj := nmAt_of hj
    refine ⟨_, (pss_cons (ps_par (i := 4) (j := 5) rfl sc__law_stretch.nd rfl rfl (by decide) rfl rfl (pa_cons (pe_callTy (kcall_dictP K rfl rfl) (by rfl) T.b_dict (by decide +kernel) (pa_cons (pe_lock (pe_lc (own := [("one", 6)]) rfl sc__law_stretch.nd (pi_keys (pv 0)) (blkOk_by (own := [("one", 6)]) (N := ["guests", "length", "name", "choose", "used", "found", "one", "turn", "got"]) (sc := defScope s__law_stretch) (by decide +kernel)) (fun _ _ _ _ _ => (pg_name (i := 6) sc__law_stretch.nd rfl (Or.inl rfl))) (fun _ _ _ _ _ => pts_nil) (fun _ _ _ _ _ => (pe_tup (pa_cons (pv 6) (pa_cons pe_int pa_nil)))))) pa_nil)) (pa_cons (pe_lst pa_nil) pa_nil)) (by rfl))
      (pss_cons (ps_for (passes_of rfl) rfl (pi_range1 (by rfl) T.b_range (pa_cons (pv 1) pa_nil)) (pg_name (i := 7) sc__law_stretch.nd rfl (Or.inl rfl))
        (pss_cons (ps_set (i := 8) sc__law_stretch.nd rfl (Or.inl rfl) (pe_d G__law_deal (hr.mono (by decide)) (by rfl) (pa_cons (pv 0) (pa_cons (pv 4) (pa_cons (pe_op op_cat (pe_ix (kix_list K rfl) (pv 3) (pv 7) (fun _ _ => rfl)) (pe_lst (pa_cons (pv 2) pa_nil))) pa_nil)))))
      (pss_cons (ps_if (pt_cmpR op_notN (pv 8) pe_non (nomark _)) (pss_one (ps_dput (hu_of hr) (pv 4) (pv 8) (pe_op op_add (pe_dget (hu_of hr) (pv 4) (pv 8) (fun _ _ => rfl)) pe_int) rfl)) pss_nil)
      (pss_one (ps_if (pt_cmpR op_eq (pv 8) (pv 2) (nomark _)) (pss_one (ps_expr (kpe_bm K rfl (pe_bm PySem.F.plainAttrs_list PySem.F.slot_list_append PySem.F.type_list_append mt_append (pv 5) (pa_cons (pe_op op_add (pv 7) pe_int) pa_nil))))) pss_nil)))))
      (pss_one (ps_ret (pv 5))))), ?_⟩
    refine ⟨a, .dK kvs, hHa, True.intro, fun od => ⟨_, rfl, a, od, rfl, .inl ⟨kvs, upd_same, fun L hL => ?_⟩⟩⟩
    refine lc_reps (K := K) (w := walk_keys) (R := fun _ => none) (fun i => some (.tup [.str (nmAt gs i), .int 0])) hL (by omega) (fun _ _ h => nomatch h) Plain.none (fun H1 s1 => s1 _ _ upd_same) ?_ ?_
    · rintro i x H1 H2 R1 Y2 N2 hi s1 hnL gr pl sr ⟨rfl, k, v, hkv, rfl⟩ k3 k4
      obtain ⟨y, d, hd, rfl, hy, rd⟩ := rk.get hkv
      have e1 : y = nmAt gs i := by
        rw [List.getElem?_map] at hd
        obtain ⟨e, he, hd⟩ := Option.map_eq_some_iff.mp hd
        cases hd
        exact (nmAt_of (z := e.1) (p := e.2.1) (c := e.2.2) he).symm
      subst e1
      refine ⟨rfl, ⟨_, rfl, (show 2 ≤ sizeLine by decide), fun T3 hT3 => ?_⟩⟩
      exact k3 _ _ (upd R1 T3 (.tup [.str (nmAt gs i), .int 0])) (.tup [.str (nmAt gs i), .int 0]) rfl (same_new hT3) ((Grow.refl _ _).put hT3 (sr.out hT3)) (pl.put (fun _ _ z => nomatch z)) sr.put (.tup (SqT.of upd_same) (.cons (.str _ hy) (.cons (.int _) .nil)))
    · intro H1 R1 zs s1 gr pl sr hRL hLz rz
      have ez : (List.range kvs.length).filterMap (fun i => some (D.tup [.str (nmAt gs i), .int 0])) = (((List.range gs.length).map fun i => (nmAt gs i, (0 : Int))).map fun e => (e.1, D.int e.2)).map fun e => D.tup [.str e.1, e.2] := by
        rw [fm_some, hl, List.map_map, List.map_map]
        rfl
      rw [ez] at rz
      obtain ⟨ps, kvs', rfl, pp, rk'⟩ := pairs_of rz
      have ek : kvs' = usedK gs fun _ => 0 := by
        rw [repK_ints rk', List.map_map]
        rfl
      have em : mergeK [] kvs' = usedK gs fun _ => 0 := by
        have := merge_nodup (kvs := kvs') (acc := []) (by rw [List.nil_append, ek]; exact used_nd ok)
        rw [this, List.nil_append, ek]
      have hR1a : R1 a = none := gr.off upd_same rfl
      have hLa : L ≠ a := fun e => by
        rw [e, upd_same] at hL
        cases hL
      have su : Same H (upd H1 a (.dK kvs)) := Same.unlock hHa s1
      have sr1 : Same R1 (upd H1 a (.dK kvs)) := sr.skip hR1a
      refine ⟨s1 _ _ upd_same, L, ps, kvs', rfl, SqL.of (by rw [upd_ne hLa]; exact hLz), paired_mono (fun _ _ h => (Lq.of sr1).tup h) pp, fun ud hud => ?_⟩
      rw [em]
      generalize upd H1 a (.dK kvs) = Hu at su sr1 hud ⊢
      refine ⟨Nat.zero_le _, fun F hF => ?_⟩
      have nud : H ud = none := su.free hud
      have s2 : Same H (upd Hu ud (.dK (usedK gs fun _ => 0))) := su.trans (same_new hud)
      have nF : H F = none := s2.free hF
      have hFu : F ≠ ud := fun e => by
        rw [e, upd_same] at hF
        cases hF
      have h0ud : upd (upd Hu ud (.dK (usedK gs fun _ => 0))) F (.lst []) ud = some (.dK (usedK gs fun _ => 0)) := by rw [upd_ne (Ne.symm hFu), upd_same]
      have h0F : upd (upd Hu ud (.dK (usedK gs fun _ => 0))) F (.lst []) F = some (.lst []) := upd_same
      have s3 : Same H (upd (upd Hu ud (.dK (usedK gs fun _ => 0))) F (.lst [])) := s2.trans (same_new hF)
      generalize upd (upd Hu ud (.dK (usedK gs fun _ => 0))) F (.lst []) = H0 at h0ud h0F s3 ⊢
      refine ⟨_, _, rfl, _, rfl, len, rfl, by omega, by omega, ?_⟩
      refine for_it (w := walk_range) (fun t σ H' => ∃ (o6 o7 o8 : Option V) (u : Nat → Int), σ = [some (.ref a), some (.int len), some (.str z), some (.ref cl), some (.ref ud), some (.ref F), o6, o7, o8] ∧ InvT len gs j t u ∧ Same H H' ∧ H' ud = some (.dK (usedK gs u)) ∧ H' F = some (.lst (hadL gs j (u j).toNat)))
        ⟨none, none, none, fun _ => 0, rfl, InvT.zero ok, s3, h0ud, h0F⟩ (fun _ _ _ _ _ => True.intro) ?_ ?_
      · rintro t x σ H3 H4 ht ⟨o6, o7, o8, u, rfl, I, s4, hu4, hF4⟩ ⟨rfl, hx⟩
        have hx2 : x = .int ((t : Nat) : Int) := by
          rw [hx]
          show V.int (0 + (t : Int)) = _
          rw [Int.zero_add]
        subst hx2
        have tl : t < len.toNat := ht
        refine ⟨_, rfl, _, rfl, _, rfl, _, rfl, cl, _, (t : Nat), .ref ol, rfl, rfl, SqL.of (s4 _ _ hcl), atI_nat (by rw [List.getElem?_replicate, if_pos tl]), ?_⟩
        refine ⟨_, rfl, (show 1 ≤ sizeLine by decide), fun q hq' => ?_⟩
        have s5 : Same H4 (upd H4 q (.lst [.str z])) := same_new hq'
        have hq5 : upd H4 q (.lst [.str z]) q = some (.lst [.str z]) := upd_same
        generalize upd H4 q (.lst [.str z]) = H5 at s5 hq5 ⊢
        refine ⟨ol, q, _, _, rfl, rfl, s5 _ _ (s4 _ _ hol), hq5, ?_, fun rl hrl => ?_⟩
        · rw [List.length_map]
          have h1 : (others gs j).length ≤ gs.length := by
            have := List.length_filter_le (fun i => decide (i ≠ j)) (List.range gs.length)
            rw [List.length_range] at this
            exact this
          show (others gs j).length + 1 ≤ sizeLine
          have : 100 ≤ sizeLine := by decide
          omega
        have eo : ((others gs j).map fun i => V.str (nmAt gs i)) ++ [.str z] = (((others gs j).map (nmAt gs)) ++ [z]).map V.str := by
          rw [List.map_append, List.map_map]
          rfl
        rw [eo]
        have s6 : Same H5 (upd H5 rl (.lst ((((others gs j).map (nmAt gs)) ++ [z]).map V.str))) := same_new hrl
        have h6 : upd H5 rl (.lst ((((others gs j).map (nmAt gs)) ++ [z]).map V.str)) rl = some (.lst ((((others gs j).map (nmAt gs)) ++ [z]).map V.str)) := upd_same
        generalize upd H5 rl (.lst ((((others gs j).map (nmAt gs)) ++ [z]).map V.str)) = H6 at s6 h6 ⊢
        have s46 : Same H4 H6 := s5.trans s6
        refine ⟨R, .ref a, len, gs, u, ud, rl, _, rfl, sR.trans (s4.trans s46), pR, hg0, ok, s46 _ _ hu4, fun i hi => ?_, SqL.of h6, flat_strs _, fun i hi => inV_strs ?_, fun o H7 hd s7 => ?_⟩
        · have h1 := I.i.b i hi
          have h2 := ok.at_sh hi
          omega
        · by_cases e : i = j
          · rw [e, nj]
            exact List.mem_append_right _ (List.mem_singleton.mpr rfl)
          · exact List.mem_append_left _ (List.mem_map.mpr ⟨i, List.mem_filter.mpr ⟨List.mem_range.mpr hi, decide_eq_true e⟩, rfl⟩)
        have s47 : Same H4 H7 := s46.trans s7
        have hu7 := s47 _ _ hu4
        have hF7 := s47 _ _ hF4
        have s8 : Same H H7 := s4.trans s47
        cases o with
        | none =>
          refine ⟨_, rfl, rfl, _, rfl, iteF ?_⟩
          refine ⟨_, rfl, _, rfl, rfl, _, rfl, iteF ?_⟩
          exact ⟨_, _, _, u, rfl, I.idle hd, s8, hu7, hF7⟩
        | some b =>
          have hbl := hd.1
          refine ⟨_, rfl, rfl, _, rfl, iteT ?_⟩
          refine ⟨_, rfl, _, rfl, ud, _, rfl, .inl ⟨usedK gs u, .inr (nmAt gs b), .inl hu7, rfl, (used_at ok hbl).symm⟩, _, _, rfl, rfl, _, rfl, _, rfl, ud, _, rfl, DPut.k (k := .inr (nmAt gs b)) hu7 ?_, ?_⟩
          · unfold usedK
            rw [List.length_map, List.length_range]
            have : 100 < sizeLine := by decide
            omega
          rw [used_put ok hbl]
          have s9 : Same H (upd H7 ud (.dK (usedK gs (addAt u b)))) := s8.skip nud
          have hu9 : upd H7 ud (.dK (usedK gs (addAt u b))) ud = some (.dK (usedK gs (addAt u b))) := upd_same
          have hF9 : upd H7 ud (.dK (usedK gs (addAt u b))) F = some (.lst (hadL gs j (u j).toNat)) := by rw [upd_ne hFu]; exact hF7
          generalize upd H7 ud (.dK (usedK gs (addAt u b))) = H9 at s9 hu9 hF9 ⊢
          have ub := (I.i.b j hjl).1
          by_cases e : b = j
          · subst e
            refine ⟨_, rfl, _, rfl, rfl, _, rfl, ?_⟩
            rw [show decide (nameV gs (some b) = V.str z) = true from decide_eq_true (by show V.str (nmAt gs b) = _; rw [nj])]
            have hlt : (hadL gs b (u b).toNat).length < sizeLine := by
              unfold hadL
              rw [List.length_map, List.length_range]
              have h1 := I.i.b b hbl
              have h2 := ok.at_sh hbl
              have : 100 < sizeLine := by decide
              omega
            refine iteT ⟨_, rfl, .inl ⟨rfl, _, SqL.of hF9⟩, _, rfl, _, _, rfl, rfl, F, _, _, rfl, rfl, hF9, hlt, ?_⟩
            refine ⟨_, _, _, addAt u b, rfl, I.next ok hd, s9.skip nF, ?_, ?_⟩
            · rw [upd_ne (Ne.symm hFu)]
              exact hu9
            · rw [upd_same]
              have e2 : addAt u b b = u b + 1 := if_pos rfl
              rw [e2, show (u b + 1).toNat = (u b).toNat + 1 by omega]
              unfold hadL
              rw [List.range_succ, List.map_append, List.map_singleton, show (((u b).toNat : Nat) : Int) = u b by omega, deal_turn ok I hd]
          · refine ⟨_, rfl, _, rfl, rfl, _, rfl, ?_⟩
            rw [show decide (nameV gs (some b) = V.str z) = false from decide_eq_false (fun q => e (nm_inj ok hbl hjl (by
              have q2 : V.str (nmAt gs b) = V.str z := q
              injection q2 with q2
              rw [q2, nj])))]
            refine iteF ⟨_, _, _, addAt u b, rfl, I.next ok hd, s9, hu9, ?_⟩
            have e2 : addAt u b j = u j := if_neg (fun q => e q.symm)
            rw [e2]
            exact hF9
      · rintro σ H3 ⟨o6, o7, o8, u, rfl, I, s4, hu4, hF4⟩
        have I2 : InvT len gs j len.toNat u := I
        refine ⟨_, rfl, hq F H3 s4 ?_⟩
        rw [inL_end ok hjl I2]
        exact hF4
end
end K87

set_option Elab.async false
set_option linter.all false
set_option maxRecDepth 100000
set_option maxHeartbeats 1000000
namespace RP
open PySem PySem.Spec PyProof.Rows L2
theorem range_bindT {α β : Type} (g : α → Option β) (l : List α) : ∀ t, t ≤ l.length → (List.range t).filterMap (fun i => l[i]?.bind g) = (l.take t).filterMap g
  | 0, _ => rfl
  | t + 1, h => by
    have hx : l[t]? = some l[t] := List.getElem?_eq_getElem (by omega)
    rw [range_succ_filterMap, range_bindT g l t (by omega), take_next hx, List.filterMap_append, hx]
    show _ ++ (match g l[t] with
      | some y => [y]
      | none => []) = _ ++ List.filterMap g [l[t]]
    rw [List.filterMap_cons]
    cases g l[t] <;> rfl
theorem range_bind {α β : Type} (g : α → Option β) (l : List α) : (List.range l.length).filterMap (fun i => l[i]?.bind g) = l.filterMap g := by
  rw [range_bindT g l _ (Nat.le_refl _), List.take_length]
theorem rep_flat {α : Type} (x : α) : ∀ n, (List.replicate n [x]).flatten = List.replicate n x
  | 0 => rfl
  | n + 1 => by
    rw [List.replicate_succ, List.flatten_cons, rep_flat x n, List.replicate_succ]
    rfl
/-- a key's value put anew -/
theorem RepK.putM {K : PySem.W.Frag} {H : Hp} {z : Str} {v : V} {d : D} (hd : Rep K H v d) : ∀ {kvs : List (Key × V)} {es : List (Str × D)}, RepK K H kvs es → RepK K H (kvs.map fun kv => if kv.1 = .inr z then (kv.1, v) else kv) (es.map fun e => if e.1 = z then (e.1, d) else e)
  | _, _, .nil => .nil
  | _, _, .cons (x := x) (v := u) (d := d') (kvs := kvs) (ds := ds) hx h t => by
    rw [List.map_cons, List.map_cons]
    have ih := RepK.putM (z := z) hd t
    by_cases e : x = z
    · subst e
      rw [if_pos rfl, if_pos rfl]
      exact .cons hx hd ih
    · have e2 : ¬ (Sum.inr x : Key) = Sum.inr z := fun q => e (Sum.inr.inj q)
      rw [if_neg (show ¬ ((Sum.inr x : Key), u).1 = Sum.inr z from e2), if_neg (show ¬ (x, d').1 = z from e)]
      exact .cons hx h ih
theorem RepK.put {K : PySem.W.Frag} {H : Hp} {z : Str} {v : V} {d : D} {kvs : List (Key × V)} {es : List (Str × D)} (r : RepK K H kvs es) (hd : Rep K H v d) (hz : z ∈ es.map (·.1)) : RepK K H (putK kvs (.inr z) v) (es.map fun e => if e.1 = z then (e.1, d) else e) := by
  unfold putK
  rw [if_pos]
  · exact r.putM hd
  · have h1 : (Sum.inr z : Key) ∈ kvs.map (·.1) := by
      rw [r.keysN]
      obtain ⟨e, he, q⟩ := List.mem_map.mp hz
      exact List.mem_map.mpr ⟨e, he, by rw [q]⟩
    obtain ⟨kv, hkv, q⟩ := List.mem_map.mp h1
    exact List.any_eq_true.mpr ⟨kv, hkv, decide_eq_true q⟩
end RP
namespace K87
open PySem PySem.Spec PyProof.Rows L2 RP
def inLi (len : Int) (gs : List G3) (j : Nat) (t : Int) : List Int := (List.range len.toNat).filterMap fun i => match turnOf len gs j (1 + (i : Nat)) with
  | some x => if x ≤ t then some x else none
  | none => none
theorem inL_ints (len : Int) (gs : List G3) (j : Nat) (t : Int) : inL len gs j t = (inLi len gs j t).map V.int := by
  unfold inL inLi
  rw [List.map_filterMap]
  congr 1
  funext i
  cases turnOf len gs j (1 + (i : Nat)) with
  | none => rfl
  | some x =>
    show (if x ≤ t then some (V.int x) else none) = Option.map V.int (if x ≤ t then some x else none)
    split <;> rfl
theorem inLi_filter {len : Int} {gs : List G3} {j : Nat} {t : Int} (h : t ≤ len) : (inLi len gs j len).filterMap (fun y => if y ≤ t then some (V.int y) else none) = inL len gs j t := by
  unfold inL inLi
  rw [List.filterMap_filterMap]
  congr 1
  funext i
  cases turnOf len gs j (1 + (i : Nat)) with
  | none => rfl
  | some x =>
    show ((if x ≤ len then some x else none).bind fun y => if y ≤ t then some (V.int y) else none) = if x ≤ t then some (V.int x) else none
    by_cases q : x ≤ len
    · rw [if_pos q]
      rfl
    · rw [if_neg q, if_neg (by omega)]
      rfl
section
variable {P : Program} {w : World} {K : PySem.W.Frag} {mg : Str → Option Value} {base : Heap}
/-! ### _law_surely -/
theorem sc__law_surely : FnScope ["length", "guests", "name", "turns", "due", "one", "turn"] ["length", "guests", "name", "turns"] (defScope s__law_surely) := ⟨rfl, rfl, rfl, by decide +kernel, rfl, by decide +kernel, by decide +kernel⟩
def spSurely (K : PySem.W.Frag) : Sp := fun vs H Q _ => ∃ (R : Hp) (vg : V) (len t : Int) (gs : List G3) (j : Nat) (z : Str) (p c : Int), vs = [.int len, vg, .str z, .int t] ∧ Same R H ∧ Plain R ∧ Rep K R vg (gD gs) ∧ GsOk len gs ∧ gs[j]? = some (z, p, c) ∧ 0 ≤ t ∧ t ≤ 1000000 ∧
  ∀ H', Same H H' → Q (.int (sureN len gs j t)) H'
theorem ok__law_surely (T : Txt K mg) (G__law_stretch : Def P w K mg base 2 "_law_stretch" ["guests", "length", "name", "choose"] (spStretch K)) : Def P w K mg base 3 "_law_surely" ["length", "guests", "name", "turns"] (spSurely K) := by
  obtain ⟨f, fd, F⟩ := T.a__law_surely
  refine Def.mk F sc__law_surely (fun _ _ _ _ _ _ us hl => match us, hl with | [_, _, _, _], _ => rfl) (fun vs H Q E h => ?_) (fun cdv A outer s H vs Q E hr h => ?_)
  · obtain ⟨R, vg, len, t, gs, j, z, p, c, rfl, _⟩ := h
    rfl
  · obtain ⟨R, vg, len, t, gs, j, z, p, c, rfl, sR, pR, hg, ok, hj, t0, t1, hq⟩ := h
    have hg0 := hg
    cases hg with
    | @dct a kvs _ hk rk =>
    have hRa : R a = some (.dK kvs) := pR.rd hk
    have hHa := sR _ _ hRa
    have hl : kvs.length = gs.length := by rw [rk.len, List.length_map]
    have n6 := ok.n6
    have hlen := ok.len
    have nj := nmAt_of hj
    have hjl : j < gs.length := (List.getElem?_eq_some_iff.mp hj).1
    refine ⟨_, (pss_cons (ps_set (i := 4) sc__law_surely.nd rfl (Or.inl rfl) (pe_d G__law_stretch (hr.mono (by decide)) (by rfl) (pa_cons (pv 1) (pa_cons (pv 0) (pa_cons (pv 2) (pa_cons (pe_op op_rep (pe_lst (pa_cons (pe_lock (pe_lc (own := [("one", 5)]) rfl sc__law_surely.nd (pi_keys (pv 1)) (blkOk_by (own := [("one", 5)]) (N := ["length", "guests", "name", "turns", "due", "one", "turn"]) (sc := defScope s__law_surely) (by decide +kernel)) (fun _ _ _ _ _ => (pg_name (i := 5) sc__law_surely.nd rfl (Or.inl rfl))) (fun _ _ _ _ _ => (pts_one (pt_cmpR op_ne (pv 5) (pv 2) (nomark _)))) (fun _ _ _ _ _ => (pv 5)))) pa_nil)) (pv 0)) pa_nil))))))
      (pss_one (ps_ret (pe_op op_add (pe_op op_mulW (pe_op op_fdivW (pv 3) (pv 0)) (pe_callB (kcall_len_seq K rfl) (by rfl) T.b_len (by decide +kernel) (pa_cons (pv 4) pa_nil))) (pe_callB (kcall_len_seq K rfl) (by rfl) T.b_len (by decide +kernel) (pa_cons (pe_lc (own := [("turn", 6)]) rfl sc__law_surely.nd (kpi_list K rfl (pv 4)) (blkOk_by (own := [("turn", 6)]) (N := ["length", "guests", "name", "turns", "due", "one", "turn"]) (sc := defScope s__law_surely) (by decide +kernel)) (fun _ _ _ _ _ => (pg_name (i := 6) sc__law_surely.nd rfl (Or.inl rfl))) (fun _ _ _ _ _ => (pts_one (pt_cmpR op_le (pv 6) (pe_op op_mod (pe_callTy call_int1 (by rfl) T.b_int (by decide +kernel) (pa_cons (pv 3) pa_nil)) (pv 0)) (nomark _)))) (fun _ _ _ _ _ => (pv 6))) pa_nil)))))), ?_⟩
    refine ⟨_, rfl, _, rfl, _, rfl, a, .dK kvs, hHa, True.intro, fun od => ⟨_, rfl, a, od, rfl, .inl ⟨kvs, upd_same, fun L hL => ?_⟩⟩⟩
    refine lc_vals (w := walk_keys) (fun i => if i = j then none else some (.str (nmAt gs i))) hL (by omega) (fun H1 s1 => s1 _ _ upd_same) ?_ ?_
    · rintro i x H1 H2 Y2 N2 hi s1 hnL ⟨rfl, k, v, hkv, rfl⟩ k3 k4
      obtain ⟨y, d, hd, rfl, hy, rd⟩ := rk.get hkv
      have e1 : y = nmAt gs i := by
        rw [List.getElem?_map] at hd
        obtain ⟨e, he, hd⟩ := Option.map_eq_some_iff.mp hd
        cases hd
        exact (nmAt_of (z := e.1) (p := e.2.1) (c := e.2.2) he).symm
      subst e1
      refine ⟨rfl, ⟨_, rfl, _, rfl, rfl, _, rfl, ?_⟩⟩
      show if (!decide (V.str (nmAt gs i) = V.str z)) = true then _ else _
      by_cases e : i = j
      · rw [decide_eq_true (by rw [e, nj])]
        exact iteF (k4 _ (if_pos e) (Same.refl _))
      · rw [decide_eq_false (fun q => e (nm_inj ok (by omega) hjl (by
          injection q with q
          rw [q, nj])))]
        exact iteT ⟨_, rfl, k3 _ _ (if_neg e) (Same.refl _)⟩
    · intro H1 s1 h1
      rw [hl, fm_if] at h1
      have hLa : L ≠ a := fun e => by
        rw [e, upd_same] at hL
        cases hL
      have su : Same H (upd H1 a (.dK kvs)) := Same.unlock hHa s1
      have hLu : upd H1 a (.dK kvs) L = some (.lst ((others gs j).map fun i => V.str (nmAt gs i))) := by rw [upd_ne hLa]; exact h1
      refine ⟨s1 _ _ upd_same, (show 1 ≤ sizeLine by decide), fun q hq' => ?_⟩
      generalize upd H1 a (.dK kvs) = Hu at su hLu hq' ⊢
      have s2 : Same Hu (upd Hu q (.lst [.ref L])) := same_new hq'
      have h2 : upd Hu q (.lst [.ref L]) q = some (.lst [.ref L]) := upd_same
      generalize upd Hu q (.lst [.ref L]) = H2 at s2 h2 ⊢
      refine ⟨_, rfl, q, len, _, rfl, rfl, h2, by omega, by omega, ?_, fun cl hcl => ?_⟩
      · show 1 * len.toNat ≤ sizeLine
        have : 100 ≤ sizeLine := by decide
        omega
      rw [rep_flat]
      have s3 : Same H2 (upd H2 cl (.lst (List.replicate len.toNat (.ref L)))) := same_new hcl
      have s4 := su.trans (s2.trans s3)
      refine ⟨R, .ref a, len, gs, j, z, p, c, cl, L, rfl, sR.trans s4, pR, hg0, ok, hj, upd_same, s3 _ _ (s2 _ _ hLu), fun D H5 s5 hD => ?_⟩
      have s6 := s4.trans s5
      rw [inL_ints] at hD
      have lenD : ((inLi len gs j len).map V.int).length = (inL len gs j len).length := by rw [← inL_ints]
      have hN := inN_le len gs j len
      refine ⟨_, rfl, _, rfl, _, _, rfl, rfl, wdiv (by omega) (by omega), _, rfl, D, _, rfl, .inl (SqL.of hD), _, _, rfl, rfl, ?_, ?_⟩
      · rw [lenD]
        have b1 : 0 ≤ t / len := Int.ediv_nonneg t0 (by omega)
        have b2 : t / len ≤ t := Int.ediv_le_self _ t0
        refine wmul (by omega) ?_
        have : ((inL len gs j len).length : Int) = inN len gs j len := rfl
        omega
      refine ⟨_, rfl, D, rfl, ⟨_, SqL.of hD⟩, fun M hM => ?_⟩
      refine lc_vals (w := walk_list) (fun i => (inLi len gs j len)[i]?.bind fun y => if y ≤ t % len then some (V.int y) else none) hM ?_ (fun H6 s6 => SqL.of (s6 _ _ hD)) ?_ ?_
      · rw [lenD]
        have : ((inL len gs j len).length : Int) = inN len gs j len := rfl
        omega
      · rintro i x H6 H7 Y2 N2 hi s7 hnL ⟨rfl, hx⟩ k3 k4
        rw [List.getElem?_map] at hx
        obtain ⟨y, hy, rfl⟩ := Option.map_eq_some_iff.mp hx
        rw [hy] at k3 k4
        refine ⟨rfl, ⟨_, rfl, _, rfl, .inl ⟨t, rfl, _, rfl, _, _, rfl, rfl, by show (0 : Int) < len; omega, _, _, rfl, rfl, _, rfl, ?_⟩⟩⟩
        refine ite_dec (fun c => ?_) (fun c => ?_)
        · exact ⟨_, rfl, k3 _ _ (if_pos (of_decide_eq_true c)) (Same.refl _)⟩
        · exact k4 _ (if_neg (of_decide_eq_false c)) (Same.refl _)
      · intro H6 s7 h6
        have e1 : (List.range ((inLi len gs j len).map V.int).length).filterMap (fun i => (inLi len gs j len)[i]?.bind fun y => if y ≤ t % len then some (V.int y) else none) = inL len gs j (t % len) := by
          rw [List.length_map, range_bind]
          exact inLi_filter (by have := Int.emod_lt_of_pos t (show 0 < len by omega); omega)
        rw [e1] at h6
        refine ⟨M, _, rfl, .inl (SqL.of h6), _, _, rfl, rfl, ?_⟩
        rw [lenD]
        exact hq _ (s6.trans s7)
/-! ### _law_unmet -/
theorem sc__law_unmet : FnScope ["length", "guests", "name", "needs", "some", "k"] ["length", "guests", "name", "needs"] (defScope s__law_unmet) := ⟨rfl, rfl, rfl, by decide +kernel, rfl, by decide +kernel, by decide +kernel⟩
def spLUnmet (K : PySem.W.Frag) : Sp := fun vs H Q _ => ∃ (R : Hp) (vg vm : V) (len : Int) (gs : List G3) (j : Nat) (z : Str) (p c : Int) (l : List (Int × Int)), vs = [.int len, vg, .str z, vm] ∧ Same R H ∧ Plain R ∧ Rep K R vg (gD gs) ∧ GsOk len gs ∧ gs[j]? = some (z, p, c) ∧
  Rep K R vm (.lst (l.map ndD)) ∧ l.length ≤ 60 ∧ (∀ e ∈ l, 0 ≤ e.1 ∧ e.1 ≤ 400) ∧ ∀ H', Same H H' → Q (optV (unmet (sureN len gs j) l)) H'
theorem ok__law_unmet (T : Txt K mg) (G__law_surely : Def P w K mg base 3 "_law_surely" ["length", "guests", "name", "turns"] (spSurely K)) : Def P w K mg base 4 "_law_unmet" ["length", "guests", "name", "needs"] (spLUnmet K) := by
  obtain ⟨f, fd, F⟩ := T.a__law_unmet
  refine Def.mk F sc__law_unmet (fun _ _ _ _ _ _ us hl => match us, hl with | [_, _, _, _], _ => rfl) (fun vs H Q E h => ?_) (fun cdv A outer s H vs Q E hr h => ?_)
  · obtain ⟨R, vg, vm, len, gs, j, z, p, c, l, rfl, _⟩ := h
    rfl
  · obtain ⟨R, vg, vm, len, gs, j, z, p, c, l, rfl, sR, pR, hg, ok, hj, hm, l60, hb, hq⟩ := h
    cases hm with
    | @lst nl ys _ hS hrr =>
    have hlen : ys.length = l.length := by rw [hrr.len, List.length_map]
    refine ⟨_, (pss_cons (ps_setLc (i := 4) (own := [("k", 5)]) rfl sc__law_unmet.nd rfl rfl (sw_true rfl rfl rfl (by decide +kernel)) (pi_range1 (by rfl) T.b_range (pa_cons (pe_callB (kcall_len_seq K rfl) (by rfl) T.b_len (by decide +kernel) (pa_cons (pv 3) pa_nil)) pa_nil)) (blkOk_by (own := [("k", 5)]) (N := ["length", "guests", "name", "needs", "some", "k"]) (sc := defScope s__law_unmet) (by decide +kernel)) (fun _ _ _ _ _ => (pg_name (i := 5) sc__law_unmet.nd rfl (Or.inl rfl))) (fun _ _ _ _ _ => (pts_one (pt_cmpR op_lt (pe_d G__law_surely (hr.mono (by decide)) (by rfl) (pa_cons (pv 0) (pa_cons (pv 1) (pa_cons (pv 2) (pa_cons (pe_ix (kix_tup K rfl) (pe_ix (kix_list K rfl) (pv 3) (pv 5) (fun _ _ => rfl)) pe_int (fun _ _ => rfl)) pa_nil))))) (pe_ix (kix_tup K rfl) (pe_ix (kix_list K rfl) (pv 3) (pv 5) (fun _ _ => rfl)) pe_int (fun _ _ => rfl)) (nomark _)))) (fun _ _ _ _ _ => (pv 5)))
      (pss_one (ps_ret (pe_ifExp (pt_cmpR (kop_neE K rfl hr.units) (pv 4) (pe_lst pa_nil) (nomark _)) (pe_ix (kix_list K rfl) (pv 4) pe_int (fun _ _ => rfl)) pe_non)))), ?_⟩
    refine ⟨_, rfl, nl, ys, rfl, .inl ((Lq.of sR).seq hS), _, rfl, by omega, by omega, fun L hL => ?_⟩
    rw [Int.toNat_natCast, hlen]
    refine lc_vals (w := walk_range) (fun i => (if sureN len gs j (l.getD i (0, 0)).1 < (l.getD i (0, 0)).2 then some ((i : Nat) : Int) else none).map V.int) hL (by omega) (fun _ _ => True.intro) ?_ ?_
    · rintro i x H3 H4 Y2 N2 hi s3 hnL ⟨rfl, hx⟩ k3 k4
      have hx2 : x = .int ((i : Nat) : Int) := by
        rw [hx]
        show V.int (0 + (i : Int)) = _
        rw [Int.zero_add]
      subst hx2
      have sR4 : Same R H4 := sR.trans s3
      obtain ⟨e, he⟩ : ∃ e, l[i]? = some e := ⟨_, List.getElem?_eq_getElem hi⟩
      obtain ⟨vx, hvx, rd⟩ := hrr.at (i := i) (d := ndD e) (by rw [List.getElem?_map, he]; rfl)
      have eg : l.getD i (0, 0) = e := by
        rw [List.getD_eq_getElem?_getD, he]
        rfl
      rw [eg] at k3 k4
      obtain ⟨a2, rfl, h2⟩ := sh_of (rd.same sR4)
      have b1 := hb e (List.mem_of_getElem? he)
      refine ⟨rfl, ⟨_, rfl, _, rfl, _, rfl, _, rfl, _, rfl, nl, ys, _, _, rfl, rfl, (Lq.of sR4).seq hS, atI_nat hvx, a2, _, 0, _, rfl, rfl, h2, rfl, R, vg, len, e.1, gs, j, z, p, c, rfl, sR4, pR, hg, ok, hj, b1.1, by omega, fun H5 s5 => ?_⟩⟩
      refine ⟨_, rfl, _, rfl, nl, ys, _, _, rfl, rfl, (Lq.of (sR4.trans s5)).seq hS, atI_nat hvx, a2, _, 1, _, rfl, rfl, (Lq.of s5).tup h2, rfl, _, _, rfl, rfl, _, rfl, ?_⟩
      refine ite_dec (fun c => ?_) (fun c => ?_)
      · exact ⟨_, rfl, k3 _ _ (by rw [if_pos (of_decide_eq_true c)]; rfl) s5⟩
      · exact k4 _ (by rw [if_neg (of_decide_eq_false c)]; rfl) s5
    · intro H3 s3 h3
      have eu : (List.range l.length).filterMap (fun i => (if sureN len gs j (l.getD i (0, 0)).1 < (l.getD i (0, 0)).2 then some ((i : Nat) : Int) else none).map V.int) = (unmetL (sureN len gs j) l).map V.int := by
        unfold unmetL
        rw [List.map_filterMap]
      rw [eu] at h3
      refine ⟨_, rfl, Nat.zero_le _, fun q hq' => ?_⟩
      have s5 : Same H3 (upd H3 q (.lst [])) := same_new hq'
      refine ⟨L, q, unmetL (sureN len gs j) l, rfl, rfl, SqL.of (s5 _ _ h3), SqL.of upd_same, _, rfl, ?_⟩
      have hq2 := hq _ (s3.trans s5)
      unfold unmet at hq2
      have h5 := s5 _ _ h3
      generalize upd H3 q (.lst []) = H5 at hq2 h5 ⊢
      generalize unmetL (sureN len gs j) l = is at hq2 h5 ⊢
      cases is with
      | nil => exact hq2
      | cons i0 r => exact iteT ⟨_, rfl, L, _, 0, .int i0, rfl, rfl, SqL.of h5, atI_nat (j := 0) rfl, hq2⟩
end
end K87

set_option Elab.async false
set_option linter.all false
set_option maxRecDepth 100000
set_option maxHeartbeats 1000000
namespace K87
open PySem PySem.Spec PyProof.Rows L2 RP
/-- the promises of the others -/
def othSum (gs : List G3) (j : Nat) : Int := ((others gs j).map (pA gs)).sum
theorem proms_eq (gs : List G3) : (gs.map (·.2.1)).sum = sumR (pA gs) gs.length := by
  unfold sumR
  congr 1
  refine List.ext_getElem (by simp) fun i h1 h2 => ?_
  have h : i < gs.length := by simpa using h1
  obtain ⟨p, c, e, e1, e2⟩ := nm_some h
  have e3 : gs[i] = (nmAt gs i, p, c) := by
    rw [List.getElem?_eq_getElem h] at e
    exact Option.some.inj e
  simp [e3, e1]
theorem oth_sum {gs : List G3} {j : Nat} (h : j < gs.length) : (gs.map (·.2.1)).sum = pA gs j + othSum gs j := by
  rw [proms_eq, sum_split _ _ j h]
  rfl
theorem setP_len (gs : List G3) (j : Nat) (z : Str) (q c : Int) : (setP gs j z q c).length = gs.length := by
  unfold setP
  rw [List.length_set]
theorem setP_sum {gs : List G3} {j : Nat} {z : Str} {p c q : Int} (hj : gs[j]? = some (z, p, c)) : ((setP gs j z q c).map (·.2.1)).sum = q + othSum gs j := by
  have hjl : j < gs.length := (List.getElem?_eq_some_iff.mp hj).1
  rw [oth_sum (by rw [setP_len]; exact hjl)]
  have e1 : pA (setP gs j z q c) j = q := by
    unfold pA
    rw [shAt_of (setP_at hj)]
  have e2 : othSum (setP gs j z q c) j = othSum gs j := by
    unfold othSum others
    rw [setP_len]
    refine sum_eq fun i hi => ?_
    have hn := of_decide_eq_true (List.mem_filter.mp hi).2
    unfold pA shAt setP
    rw [List.getD_eq_getElem?_getD, List.getD_eq_getElem?_getD, List.getElem?_set_ne (fun e => hn e.symm)]
  rw [e1, e2]
theorem othSum_nn {len : Int} {gs : List G3} {j : Nat} (g : GsOk len gs) : 0 ≤ othSum gs j := by
  have := sum_le (u := fun _ => 0) (v := pA gs) (others gs j) fun i hi => (g.at_sh (others_mem hi).1).1
  have e : ∀ l : List Nat, (l.map fun _ => (0 : Int)).sum = 0 := fun l => by
    induction l with
    | nil => rfl
    | cons a l ih => rw [List.map_cons, List.sum_cons, ih]; rfl
  rw [e] at this
  exact this
theorem fits_iff {len : Int} {gs : List G3} {j : Nat} {z : Str} {p c q : Int} (hj : gs[j]? = some (z, p, c)) : fits len (setP gs j z q c) = decide (q ≤ len - othSum gs j) := by
  unfold fits
  rw [setP_sum hj]
  exact decide_eq_decide.mpr (by omega)
/-- the shares, one changed -/
theorem setP_rows {len : Int} {gs : List G3} {j : Nat} {z : Str} {p c q : Int} (g : GsOk len gs) (hj : gs[j]? = some (z, p, c)) : ((gs.map fun e => (e.1, D.tup [.int e.2.1, .int e.2.2])).map fun e => if e.1 = z then (e.1, D.tup [.int q, .int (max c q)]) else e) = (setP gs j z q c).map fun e => (e.1, D.tup [.int e.2.1, .int e.2.2]) := by
  rw [List.map_map]
  refine List.ext_getElem? fun i => ?_
  rw [List.getElem?_map, List.getElem?_map]
  unfold setP
  by_cases q2 : i = j
  · subst q2
    rw [hj, List.getElem?_set_self (List.getElem?_eq_some_iff.mp hj).1]
    show some (if z = z then _ else _) = _
    rw [if_pos rfl]
    rfl
  · rw [List.getElem?_set_ne (fun e => q2 e.symm)]
    cases h : gs[i]? with
    | none => rfl
    | some e =>
      have ne : ¬ e.1 = z := fun q3 => q2 (nd_ix g.nd (by rw [List.getElem?_map, h]; rfl) (by rw [List.getElem?_map, hj, ← q3]; rfl))
      show some (if e.1 = z then _ else _) = _
      rw [if_neg ne]
      rfl
section
variable {P : Program} {w : World} {K : PySem.W.Frag} {mg : Str → Option Value} {base : Heap}
/-! ### _law_least -/
theorem sc__law_least : FnScope ["length", "guests", "name", "needs", "others", "one", "share", "promise", "changed"] ["length", "guests", "name", "needs"] (defScope s__law_least) := ⟨rfl, rfl, rfl, by decide +kernel, rfl, by decide +kernel, by decide +kernel⟩
def spLLeast (K : PySem.W.Frag) : Sp := fun vs H Q _ => ∃ (R : Hp) (vg vm : V) (len : Int) (gs : List G3) (j : Nat) (z : Str) (p c : Int) (l : List (Int × Int)), vs = [.int len, vg, .str z, vm] ∧ Same R H ∧ Plain R ∧ Rep K R vg (gD gs) ∧ GsOk len gs ∧ gs[j]? = some (z, p, c) ∧
  Rep K R vm (.lst (l.map ndD)) ∧ l.length ≤ 60 ∧ (∀ e ∈ l, 0 ≤ e.1 ∧ e.1 ≤ 400) ∧ ∀ H', Same H H' → Q (optV (least len gs j z c l)) H'
theorem ok__law_least (T : Txt K mg) (G__law_unmet : Def P w K mg base 4 "_law_unmet" ["length", "guests", "name", "needs"] (spLUnmet K)) : Def P w K mg base 5 "_law_least" ["length", "guests", "name", "needs"] (spLLeast K) := by
  obtain ⟨f, fd, F⟩ := T.a__law_least
  refine Def.mk F sc__law_least (fun _ _ _ _ _ _ us hl => match us, hl with | [_, _, _, _], _ => rfl) (fun vs H Q E h => ?_) (fun cdv A outer s H vs Q E hr h => ?_)
  · obtain ⟨R, vg, vm, len, gs, j, z, p, c, l, rfl, _⟩ := h
    rfl
  · obtain ⟨R, vg, vm, len, gs, j, z, p, c, l, rfl, sR, pR, hg, ok, hj, hm, l60, hb, hq⟩ := h
    cases hg with
    | @dct a kvs _ hk rk =>
    have hRa : R a = some (.dK kvs) := pR.rd hk
    have hHa := sR _ _ hRa
    have hl : kvs.length = gs.length := by rw [rk.len, List.length_map]
    have n6 := ok.n6
    have hlen := ok.len
    have nj := nmAt_of hj
    have hjl : j < gs.length := (List.getElem?_eq_some_iff.mp hj).1
    have osn := othSum_nn (j := j) ok
    have osl : othSum gs j ≤ len := by
      have h1 := oth_sum hjl
      have h2 := ok.sum
      have h3 := (ok.at_sh hjl).1
      omega
    refine ⟨_, (pss_cons (ps_set (i := 4) sc__law_least.nd rfl (Or.inl rfl) (pe_callB (kcr_sum K rfl rfl) (by rfl) T.b_sum (by decide +kernel) (pa_cons (pe_lock (pe_lc (own := [("one", 5), ("share", 6)]) rfl sc__law_least.nd (pi_items (pv 1)) (blkOk_by (own := [("one", 5), ("share", 6)]) (N := ["length", "guests", "name", "needs", "others", "one", "share", "promise", "changed"]) (sc := defScope s__law_least) (by decide +kernel)) (fun _ _ _ _ _ => (kpg_tup K rfl (n := 2) rfl (pgs_cons (pg_name (i := 5) sc__law_least.nd rfl (Or.inl rfl)) (pgs_cons (pg_name (i := 6) sc__law_least.nd rfl (Or.inl rfl)) pgs_nil)))) (fun _ _ _ _ _ => (pts_one (pt_cmpR op_ne (pv 5) (pv 2) (nomark _)))) (fun _ _ _ _ _ => (pe_ix (kix_tup K rfl) (pv 6) pe_int (fun _ _ => rfl))))) pa_nil)))
      (pss_cons (ps_for (passes_of rfl) rfl (pi_range1 (by rfl) T.b_range (pa_cons (pe_op op_add (pe_op op_sub (pv 0) (pv 4)) pe_int) pa_nil)) (pg_name (i := 7) sc__law_least.nd rfl (Or.inl rfl))
        (pss_cons (ps_set (i := 8) sc__law_least.nd rfl (Or.inl rfl) (pe_callTy call_dictD (by rfl) T.b_dict (by decide +kernel) (pa_cons (pv 1) pa_nil)))
      (pss_cons (ps_dput (hu_of hr) (pv 8) (pv 2) (pe_tup (pa_cons (pv 7) (pa_cons (pe_callB (call_max2 rfl) (by rfl) T.b_max (by decide +kernel) (pa_cons (pe_ix (kix_tup K rfl) (pe_dget (hu_of hr) (pv 1) (pv 2) (fun _ _ => rfl)) pe_int (fun _ _ => rfl)) (pa_cons (pv 7) pa_nil))) pa_nil))) rfl)
      (pss_one (ps_if (pt_cmpR op_isN (pe_d G__law_unmet (hr.mono (by decide)) (by rfl) (pa_cons (pv 0) (pa_cons (pv 8) (pa_cons (pv 2) (pa_cons (pv 3) pa_nil))))) pe_non (nomark _)) (pss_one (ps_ret (pv 7))) pss_nil)))))
      (pss_one (ps_ret pe_non)))), ?_⟩
    refine ⟨a, .dK kvs, hHa, True.intro, fun od => ⟨_, rfl, a, od, kvs, rfl, upd_same, fun L hL => ?_⟩⟩
    refine lc_vals (w := walk_items) (fun i => if i = j then none else some (.int (pA gs i))) hL (by omega) (fun H1 s1 => s1 _ _ upd_same) ?_ ?_
    · rintro i x H1 H2 Y2 N2 hi s1 hnL ⟨t, kx, vx, rfl, ht, eH, hkx, hvx⟩ k3 k4
      obtain ⟨ky, hky, rfl⟩ := Option.map_eq_some_iff.mp hkx
      obtain ⟨kz, hkz, rfl⟩ := Option.map_eq_some_iff.mp hvx
      rw [hky] at hkz
      cases hkz
      obtain ⟨k, v⟩ := ky
      obtain ⟨y0, d, hd, rfl, hy, rd⟩ := rk.get hky
      rw [List.getElem?_map] at hd
      obtain ⟨e, he, hd⟩ := Option.map_eq_some_iff.mp hd
      obtain ⟨y, pi, ci⟩ := e
      cases hd
      have ht2 : H2 t = some (.tup [.str y, v]) := by
        rw [eH, upd_same]
        rfl
      have s2 : Same H1 H2 := by
        rw [eH]
        exact same_new ht
      obtain ⟨a2, rfl, h2⟩ := sh_of rd
      have h2' : SqT K H2 a2 [.int pi, .int ci] := ((Lq.of s2).tup ((Lq.of s1).tup (((Lq.of sR).lock hHa True.intro).tup h2)))
      refine ⟨t, [.str y, .ref a2], rfl, SqT.of ht2, rfl, _, _, rfl, _, _, rfl, rfl, rfl, ?_⟩
      refine ⟨_, rfl, _, rfl, rfl, _, rfl, ?_⟩
      show if (!decide (V.str y = V.str z)) = true then _ else _
      have ny : nmAt gs i = y := nmAt_of he
      by_cases e : i = j
      · rw [decide_eq_true (by rw [← ny, e, nj])]
        exact iteF (k4 _ (if_pos e) s2)
      · rw [decide_eq_false (fun q => e (nm_inj ok (by omega) hjl (by
          injection q with q
          rw [ny, q, nj])))]
        refine iteT ⟨_, rfl, a2, _, 0, _, rfl, rfl, h2', rfl, k3 _ _ ?_ s2⟩
        rw [if_neg e]
        unfold pA
        rw [shAt_of he]
    · intro H1 s1 h1
      rw [hl, fm_if] at h1
      have hLa : L ≠ a := fun e => by
        rw [e, upd_same] at hL
        cases hL
      have su : Same H (upd H1 a (.dK kvs)) := Same.unlock hHa s1
      have hLu : upd H1 a (.dK kvs) L = some (.lst (((others gs j).map (pA gs)).map V.int)) := by
        rw [upd_ne hLa, List.map_map]
        exact h1
      refine ⟨s1 _ _ upd_same, L, (others gs j).map (pA gs), rfl, SqL.of hLu, ?_⟩
      generalize upd H1 a (.dK kvs) = H2 at su hLu ⊢
      refine ⟨_, rfl, _, rfl, _, _, rfl, rfl, _, _, rfl, rfl, _, rfl, ?_, ?_, ?_⟩
      · have : (List.map (pA gs) (others gs j)).sum = othSum gs j := rfl
        omega
      · have : (List.map (pA gs) (others gs j)).sum = othSum gs j := rfl
        omega
      refine for_it (w := walk_range) (fun t σ H' => ∃ (o7 o8 : Option V), σ = [some (.int len), some (.ref a), some (.str z), some vm, some (.int (othSum gs j)), none, none, o7, o8] ∧ (∀ k, k < t → leastB len gs j z c l k = false) ∧ Same H2 H')
        ⟨none, none, rfl, fun _ h => absurd h (Nat.not_lt_zero _), Same.refl _⟩ (fun _ _ _ _ _ => True.intro) ?_ ?_
      · rintro t x σ H3 H4 ht ⟨o7, o8, rfl, hbe, s3⟩ ⟨rfl, hx⟩
        have ht2 : t < (len - othSum gs j + 1).toNat := ht
        have tl : (t : Int) ≤ len - othSum gs j := by omega
        have hx2 : x = .int ((t : Nat) : Int) := by
          rw [hx]
          show V.int (0 + (t : Int)) = _
          rw [Int.zero_add]
        subst hx2
        have s4 : Same H H4 := su.trans s3
        refine ⟨_, rfl, a, kvs, rfl, .inl (s4 _ _ hHa), fun D hD => ?_⟩
        have nD : H4 D = none := hD
        have nRD : R D = none := (sR.trans s4).out hD
        obtain ⟨v, g1, g2⟩ := ((rk.same (sR.trans s4)).same (same_new (o := .dK kvs) hD)).get_of (a := a) (.inl (same_new (o := .dK kvs) hD _ _ (s4 _ _ hHa))) (dlook_gs ok.nd hj)
        obtain ⟨a1, rfl, g3⟩ := sh_of g2
        have s5 : Same H4 (upd H4 D (.dK kvs)) := same_new hD
        have hD5 : upd H4 D (.dK kvs) D = some (.dK kvs) := upd_same
        generalize upd H4 D (.dK kvs) = H5 at s5 hD5 g1 g3 ⊢
        refine ⟨_, rfl, _, rfl, _, rfl, a, _, rfl, g1, a1, _, _, _, rfl, rfl, g3, rfl, _, rfl, _, _, rfl, (show 2 ≤ sizeLine by decide), fun T2 hT2 => ?_⟩
        have s6 : Same H5 (upd H5 T2 (.tup [.int (t : Nat), .int (if ((t : Nat) : Int) > c then ((t : Nat) : Int) else c)])) := same_new hT2
        have hT6 : upd H5 T2 (.tup [.int (t : Nat), .int (if ((t : Nat) : Int) > c then ((t : Nat) : Int) else c)]) T2 = some (.tup [.int (t : Nat), .int (if ((t : Nat) : Int) > c then ((t : Nat) : Int) else c)]) := upd_same
        rw [← max_if] at s6 hT6 ⊢
        generalize upd H5 T2 (.tup [.int (t : Nat), .int (max c ((t : Nat) : Int))]) = H6 at s6 hT6 ⊢
        refine ⟨_, rfl, _, rfl, D, _, rfl, DPut.k (k := .inr z) (s6 _ _ hD5) ?_, ?_⟩
        · have : 100 < sizeLine := by decide
          omega
        have nT : R T2 = none := (sR.trans (s4.trans s5)).out hT2
        have nDT : D ≠ T2 := fun e => by
          rw [← e] at hT2
          rw [hD5] at hT2
          cases hT2
        -- the part known now
        have sR6 : Same R H6 := sR.trans (s4.trans (s5.trans s6))
        have p2 : Plain (upd R T2 (.tup [.int (t : Nat), .int (max c ((t : Nat) : Int))])) := pR.put (fun _ _ z => nomatch z)
        have sR2 : Same R (upd R T2 (.tup [.int (t : Nat), .int (max c ((t : Nat) : Int))])) := same_new nT
        have s26 : Same (upd R T2 (.tup [.int (t : Nat), .int (max c ((t : Nat) : Int))])) H6 := fun b o h => by
          by_cases e : b = T2
          · rw [e] at h ⊢
            rw [upd_same] at h
            rw [hT6]
            exact h
          · rw [upd_ne e] at h
            exact sR6 _ _ h
        have n2D : upd R T2 (.tup [.int (t : Nat), .int (max c ((t : Nat) : Int))]) D = none := by rw [upd_ne nDT]; exact nRD
        have hz : z ∈ (gs.map fun e => (e.1, RP.D.tup [.int e.2.1, .int e.2.2])).map (·.1) := by
          rw [List.map_map]
          exact List.mem_map.mpr ⟨_, List.mem_of_getElem? hj, rfl⟩
        have rk2 := (rk.same sR2).put (z := z) (v := .ref T2) (d := .tup [.int (t : Nat), .int (max c ((t : Nat) : Int))]) (.tup (SqT.of upd_same) (.cons (.int _) (.cons (.int _) .nil))) hz
        rw [setP_rows ok hj] at rk2
        generalize upd R T2 (.tup [.int (t : Nat), .int (max c ((t : Nat) : Int))]) = R2 at p2 sR2 s26 n2D rk2
        have hfit : fits len (setP gs j z (t : Nat) c) = true := by
          rw [fits_iff hj]
          exact decide_eq_true tl
        have ok' := setP_gs ok hj (by omega) (by omega) hfit
        have sH7 : Same H2 (upd H6 D (.dK (putK kvs (.inr z) (.ref T2)))) := (s3.trans (s5.trans s6)).skip (s3.free nD)
        have rep7 : Rep K (upd R2 D (.dK (putK kvs (.inr z) (.ref T2)))) (.ref D) (gD (setP gs j z (t : Nat) c)) := .dct (.inl upd_same) (rk2.same (same_new n2D))
        have s7 : Same (upd R2 D (.dK (putK kvs (.inr z) (.ref T2)))) (upd H6 D (.dK (putK kvs (.inr z) (.ref T2)))) := s26.put
        refine ⟨_, rfl, _, rfl, _, rfl, _, rfl, _, .ref D, vm, len, _, j, z, _, _, l, rfl, s7, p2.put (fun _ _ z => nomatch z), rep7, ok', setP_at hj, hm.same (sR2.trans (same_new n2D)), l60, hb, fun H8 s8 => ?_⟩
        have el : leastB len gs j z c l t = (unmet (sureN len (setP gs j z (t : Nat) c) j) l).isNone := by
          unfold leastB
          rw [hfit, Bool.true_and]
        cases cu : unmet (sureN len (setP gs j z (t : Nat) c) j) l with
        | none =>
          rw [cu] at el
          have hr : least len gs j z c l = some (t : Int) := by
            unfold least
            rw [find_hit (i := t) (by omega) el hbe]
            rfl
          rw [hr] at hq
          exact ⟨rfl, _, rfl, iteT ⟨_, rfl, hq H8 (su.trans (sH7.trans s8))⟩⟩
        | some y =>
          rw [cu] at el
          refine ⟨rfl, _, rfl, iteF ⟨_, _, rfl, fun k hk => ?_, sH7.trans s8⟩⟩
          by_cases q : k = t
          · rw [q]; exact el
          · exact hbe k (by omega)
      · rintro σ H3 ⟨o7, o8, rfl, hbe, s3⟩
        have hbe2 : ∀ k, k < (len - othSum gs j + 1).toNat → leastB len gs j z c l k = false := hbe
        have hr : least len gs j z c l = none := by
          unfold least
          rw [find_none fun k hk => ?_]
          · rfl
          · by_cases q : k < (len - othSum gs j + 1).toNat
            · exact hbe2 k q
            · unfold leastB
              rw [fits_iff hj, decide_eq_false (by omega), Bool.false_and]
        rw [hr] at hq
        exact hq H3 (su.trans s3)
end
end K87

set_option Elab.async false
set_option linter.all false
set_option maxRecDepth 100000
set_option maxHeartbeats 1000000
namespace K87
open PySem PySem.Spec PyProof.Rows L2 RP
section
variable {P : Program} {w : World} {K : PySem.W.Frag} {mg : Str → Option Value} {base : Heap}
/-! ### _law_cell -/
theorem sc__law_cell : FnScope ["script", "k"] ["script", "k"] (defScope s__law_cell) := ⟨rfl, rfl, rfl, by decide +kernel, rfl, by decide +kernel, by decide +kernel⟩
def spCell (K : PySem.W.Frag) : Sp := fun vs H Q _ => ∃ (v : V) (a : Addr) (ns : List Int) (k : Nat), vs = [v, .int (k : Nat)] ∧ v = .ref a ∧ SqL K H a (ns.map V.int) ∧ k ≤ 1000 ∧ ∀ i H', Same H H' → Q (.int i) H'
theorem ok__law_cell (T : Txt K mg) : Def P w K mg base 1 "_law_cell" ["script", "k"] (spCell K) := by
  obtain ⟨f, fd, F⟩ := T.a__law_cell
  refine Def.mk F sc__law_cell (fun _ _ _ _ _ _ us hl => match us, hl with | [_, _], _ => rfl) (fun vs H Q E h => ?_) (fun cdv A outer s H vs Q E hr h => ?_)
  · obtain ⟨v, a, ns, k, rfl, _⟩ := h
    rfl
  · obtain ⟨_, a, ns, k, rfl, rfl, hS, hk, hq⟩ := h
    refine ⟨_, (pss_one (ps_ret (pe_ifExp (pt_cmpR op_lt (pv 1) (pe_callB (kcall_len_seq K rfl) (by rfl) T.b_len (by decide +kernel) (pa_cons (pv 0) pa_nil)) (nomark _)) (pe_ix (kix_list K rfl) (pv 0) (pv 1) (fun _ _ => rfl)) (pe_op op_add (pe_op op_add (pe_op op_mulW pe_int (pv 1)) pe_int) (pe_op op_mod (pe_callTy call_int1 (by rfl) T.b_int (by decide +kernel) (pa_cons (pe_callB (kcr_sum K rfl rfl) (by rfl) T.b_sum (by decide +kernel) (pa_cons (pe_slice (ksl_list K rfl) (pv 0) po_none (po_some pe_int)) pa_nil)) pa_nil)) pe_int))))), ?_⟩
    refine ⟨_, rfl, _, rfl, a, _, rfl, .inl hS, _, _, rfl, rfl, _, rfl, ?_⟩
    refine ite_dec (fun c => ?_) (fun c => ?_)
    · have c2 := of_decide_eq_true c
      have c3 : k < ns.length := by
        rw [List.length_map] at c2
        omega
      exact ⟨_, rfl, _, rfl, a, _, _, _, rfl, rfl, hS, atI_nat (by rw [List.getElem?_map, List.getElem?_eq_getElem c3]; rfl), hq _ H (Same.refl H)⟩
    · refine ⟨_, rfl, _, _, rfl, rfl, wmul (by decide) (by omega), _, _, rfl, rfl, _, rfl, _, rfl, a, _, rfl, hS, fun p hp => ?_⟩
      have e : ∃ ms : List Int, cutV (ns.map V.int) none (some 1) = ms.map V.int := by
        unfold cutV
        rw [← List.map_drop, ← List.map_take]
        exact ⟨_, rfl⟩
      obtain ⟨ms, e⟩ := e
      rw [e]
      exact ⟨p, ms, rfl, SqL.of upd_same, .inl ⟨_, rfl, _, _, rfl, rfl, (show (0 : Int) < 1000003 by decide), _, _, rfl, rfl, hq _ _ (same_new hp)⟩⟩
/-! ### _law_box -/
theorem sc__law_box : FnScope ["cell", "great"] ["cell"] (defScope s__law_box) := ⟨rfl, rfl, rfl, by decide +kernel, rfl, by decide +kernel, by decide +kernel⟩
/-- the box at a, n turns drawn at most -/
def BoxAt (H : Hp) (a : Addr) (n : Int) : Prop := ∃ b s c : Int, H a = some (.lst [.int b, .int s, .int c]) ∧ 0 ≤ b ∧ 0 ≤ s ∧ s < 2 ^ 31 ∧ 0 ≤ c ∧ c ≤ n
def spBox (K : PySem.W.Frag) : Sp := fun vs H Q _ => ∃ (i : Int), vs = [.int i] ∧ ∀ a H', Same H H' → H a = none → BoxAt H' a 0 → Q (.ref a) H'
theorem ok__law_box (T : Txt K mg) : Def P w K mg base 1 "_law_box" ["cell"] (spBox K) := by
  obtain ⟨f, fd, F⟩ := T.a__law_box
  refine Def.mk F sc__law_box (fun _ _ _ _ _ _ us hl => match us, hl with | [_], _ => rfl) (fun vs H Q E h => ?_) (fun cdv A outer s H vs Q E hr h => ?_)
  · obtain ⟨i, rfl, _⟩ := h
    rfl
  · obtain ⟨i, rfl, hq⟩ := h
    refine ⟨_, (pss_cons (ps_set (i := 1) sc__law_box.nd rfl (Or.inl rfl) (pe_callB call_abs (by rfl) T.b_abs (by decide +kernel) (pa_cons (pv 0) pa_nil)))
      (pss_one (ps_ret (pe_lst (pa_cons (pe_ifExp (pt_cmpR op_ge (pv 1) (pe_op op_pow pe_int pe_int) (nomark _)) (pv 1) pe_int) (pa_cons (pe_op op_mod (pe_callTy call_int1 (by rfl) T.b_int (by decide +kernel) (pa_cons (pv 1) pa_nil)) pe_int) (pa_cons pe_int pa_nil))))))), ?_⟩
    refine ⟨_, rfl, _, rfl, _, rfl, _, _, rfl, rfl, ⟨by decide, by decide, by decide⟩, _, _, rfl, rfl, _, rfl, ?_⟩
    generalize ha : (if i < 0 then -i else i) = g
    have hg : 0 ≤ g := by rw [← ha]; split <;> omega
    have fin : ∀ b : Int, 0 ≤ b → ∀ p, H p = none → Q (.ref p) (upd H p (.lst [.int b, .int (g % 2147483629), .int 0])) := fun b hb p hp =>
      hq p _ (same_new hp) hp ⟨b, g % 2147483629, 0, upd_same, hb, Int.emod_nonneg _ (by decide), by have := Int.emod_lt_of_pos g (show (0 : Int) < 2147483629 by decide); omega, Int.le_refl _, Int.le_refl _⟩
    refine ite_dec (fun c => ?_) (fun c => ?_)
    · refine ⟨_, rfl, _, rfl, .inl ⟨_, rfl, _, _, rfl, rfl, (show (0 : Int) < 2147483629 by decide), (show 3 ≤ sizeLine by decide), fun p hp => ?_⟩⟩
      exact fin g hg p hp
    · refine ⟨_, rfl, .inl ⟨_, rfl, _, _, rfl, rfl, (show (0 : Int) < 2147483629 by decide), (show 3 ≤ sizeLine by decide), fun p hp => ?_⟩⟩
      exact fin 0 (Int.le_refl _) p hp
/-! ### _law_take -/
theorem sc__law_take : FnScope ["box", "many", "digit", "one", "two"] ["box", "many"] (defScope s__law_take) := ⟨rfl, rfl, rfl, by decide +kernel, rfl, by decide +kernel, by decide +kernel⟩
def spTake (K : PySem.W.Frag) : Sp := fun vs H Q _ => ∃ (a : Addr) (n m : Int), vs = [.ref a, .int m] ∧ BoxAt H a n ∧ n < 1000000000 ∧ 0 < m ∧ m ≤ 1000000 ∧ ∀ r H', 0 ≤ r → r < m → BoxAt H' a (n + 1) → But a H H' → Q (.int r) H'
theorem ok__law_take (T : Txt K mg) : Def P w K mg base 1 "_law_take" ["box", "many"] (spTake K) := by
  obtain ⟨f, fd, F⟩ := T.a__law_take
  refine Def.mk F sc__law_take (fun _ _ _ _ _ _ us hl => match us, hl with | [_, _], _ => rfl) (fun vs H Q E h => ?_) (fun cdv A outer s H vs Q E hr h => ?_)
  · obtain ⟨a, n, m, rfl, _⟩ := h
    rfl
  · obtain ⟨a, n, m, rfl, ⟨b, s, c, hH, hb, hs, hs2, hc, hcn⟩, hn, m0, m1, hq⟩ := h
    have hS : SqL K H a [.int b, .int s, .int c] := SqL.of hH
    refine ⟨_, (pss_cons (ps_if (pt_cmpR op_gt (pe_ix (kix_list K rfl) (pv 0) pe_int (fun _ _ => rfl)) pe_int (nomark _)) (pss_cons (ps_set (i := 2) sc__law_take.nd rfl (Or.inl rfl) (pe_op op_mod (pe_callTy call_int1 (by rfl) T.b_int (by decide +kernel) (pa_cons (pe_ix (kix_list K rfl) (pv 0) pe_int (fun _ _ => rfl)) pa_nil)) (pv 1)))
      (pss_cons (ps_asg (pe_op op_fdivW (pe_ix (kix_list K rfl) (pv 0) pe_int (fun _ _ => rfl)) (pv 1)) (pg_sub (pv 0) pe_int set_list))
      (pss_one (ps_ret (pv 2))))) pss_nil)
      (pss_cons (ps_asg (pe_op op_add (pe_ix (kix_list K rfl) (pv 0) pe_int (fun _ _ => rfl)) pe_int) (pg_sub (pv 0) pe_int set_list))
      (pss_cons (ps_set (i := 3) sc__law_take.nd rfl (Or.inl rfl) (pe_op op_mod (pe_callTy call_int1 (by rfl) T.b_int (by decide +kernel) (pa_cons (pe_op op_pow (pe_op op_add (pe_op op_add (pe_ix (kix_list K rfl) (pv 0) pe_int (fun _ _ => rfl)) (pe_op op_mulW pe_int (pe_ix (kix_list K rfl) (pv 0) pe_int (fun _ _ => rfl)))) pe_int) pe_int) pa_nil)) pe_int))
      (pss_cons (ps_set (i := 4) sc__law_take.nd rfl (Or.inl rfl) (pe_op op_mod (pe_callTy call_int1 (by rfl) T.b_int (by decide +kernel) (pa_cons (pe_op op_pow (pe_op op_add (pe_op op_add (pe_op op_fdivW (pv 3) pe_int) (pe_op op_mulW pe_int (pe_ix (kix_list K rfl) (pv 0) pe_int (fun _ _ => rfl)))) pe_int) pe_int) pa_nil)) pe_int))
      (pss_one (ps_ret (pe_op op_mod (pe_callTy call_int1 (by rfl) T.b_int (by decide +kernel) (pa_cons (pe_op op_add (pe_op op_fdivW (pv 3) pe_int) (pe_op op_mulW pe_int (pe_op op_fdivW (pv 4) pe_int))) pa_nil)) (pv 1)))))))), ?_⟩
    refine ⟨_, rfl, a, _, 0, _, rfl, rfl, hS, rfl, _, _, rfl, rfl, _, rfl, ?_⟩
    refine ite_dec (fun k => ?_) (fun k => ?_)
    · have kb := of_decide_eq_true k
      refine ⟨_, rfl, a, _, 0, _, rfl, rfl, hS, rfl, .inl ⟨_, rfl, _, rfl, _, _, rfl, rfl, m0, ?_⟩⟩
      refine ⟨_, rfl, a, _, 0, _, rfl, rfl, hS, rfl, _, rfl, _, _, rfl, rfl, wdiv m0 (by omega), ?_⟩
      refine ⟨_, rfl, a, _, 0, 0, rfl, rfl, hH, rfl, _, rfl, hq (b % m) _ (Int.emod_nonneg _ (by omega)) (Int.emod_lt_of_pos _ m0) ?_ But.write⟩
      exact ⟨b / m, s, c, upd_same, Int.ediv_nonneg hb (by omega), hs, hs2, hc, by omega⟩
    · refine ⟨_, rfl, a, _, 2, _, rfl, rfl, hS, rfl, _, _, rfl, rfl, ?_⟩
      refine ⟨_, rfl, a, _, 2, 2, rfl, rfl, hH, rfl, ?_⟩
      have h2 : upd H a (.lst ([V.int b, V.int s, V.int c].set 2 (.int (c + 1)))) a = some (.lst [.int b, .int s, .int (c + 1)]) := upd_same
      have bt : But a H (upd H a (.lst ([V.int b, V.int s, V.int c].set 2 (.int (c + 1))))) := But.write
      generalize upd H a (.lst ([V.int b, V.int s, V.int c].set 2 (.int (c + 1)))) = H2 at h2 bt ⊢
      have hS2 : SqL K H2 a [.int b, .int s, .int (c + 1)] := SqL.of h2
      have box2 : BoxAt H2 a (n + 1) := ⟨b, s, c + 1, h2, hb, hs, hs2, by omega, by omega⟩
      refine ⟨_, rfl, a, _, 1, _, rfl, rfl, hS2, rfl, _, rfl, a, _, 2, _, rfl, rfl, hS2, rfl, _, _, rfl, rfl, wmul (by decide) (by omega), _, _, rfl, rfl, _, _, rfl, rfl, _, _, rfl, rfl, ⟨by decide, by decide, by omega⟩, .inl ⟨_, rfl, _, _, rfl, rfl, (show (0 : Int) < 2147483647 by decide), ?_⟩⟩
      generalize h1 : (s + 7919 * (c + 1) + 29) ^ (Int.toNat 5) % 2147483647 = one
      have b1 : 0 ≤ one ∧ one < 2147483647 := by
        rw [← h1]
        exact ⟨Int.emod_nonneg _ (by decide), Int.emod_lt_of_pos _ (by decide)⟩
      refine ⟨_, rfl, _, _, rfl, rfl, wdiv (by decide) (by decide), _, rfl, a, _, 2, _, rfl, rfl, hS2, rfl, _, _, rfl, rfl, wmul (by decide) (by omega), _, _, rfl, rfl, _, _, rfl, rfl, _, _, rfl, rfl, ⟨by decide, by decide, by omega⟩, .inl ⟨_, rfl, _, _, rfl, rfl, (show (0 : Int) < 2147483629 by decide), ?_⟩⟩
      generalize h3 : (one / 8 + 104729 * (c + 1) + 11) ^ (Int.toNat 3) % 2147483629 = two
      have b2 : 0 ≤ two ∧ two < 2147483629 := by
        rw [← h3]
        exact ⟨Int.emod_nonneg _ (by decide), Int.emod_lt_of_pos _ (by decide)⟩
      refine ⟨_, rfl, _, _, rfl, rfl, wdiv (by decide) (by decide), _, rfl, _, _, rfl, rfl, wdiv (by decide) (by decide), _, _, rfl, rfl, wmul (by decide) (by omega), _, _, rfl, rfl, .inl ⟨_, rfl, _, rfl, _, _, rfl, rfl, m0, ?_⟩⟩
      exact hq _ H2 (Int.emod_nonneg _ (by omega)) (Int.emod_lt_of_pos _ m0) box2 bt
end
end K87

set_option Elab.async false
set_option linter.all false
set_option maxRecDepth 100000
set_option maxHeartbeats 1000000
namespace K87
open PySem PySem.Spec PyProof.Rows L2 RP
def pairD (e : Str × D) : D := .tup [.str e.1, e.2]
/-- data of nesting below n, none of it long -/
def Fit : Nat → D → Prop
  | 0, _ => False
  | _ + 1, .non => True
  | _ + 1, .bl _ => True
  | _ + 1, .int _ => True
  | _ + 1, .str z => z.length ≤ 1000
  | n + 1, .lst l => l.length ≤ 1000 ∧ ∀ e ∈ l, Fit n e
  | n + 1, .tup l => l.length ≤ 1000 ∧ ∀ e ∈ l, Fit n e
  | n + 1, .dct l => Fit n (.lst (l.map pairD))
/-- what list(d.items()) gives stands for the pairs -/
theorem items_rep {K : PySem.W.Frag} {R H H' : Hp} {kvs : List (Key × V)} {es : List (Str × D)} {p : Addr} {ts : List Addr} (sR : Same R H) (pR : Plain R) (r : RepK K R kvs es) (keep : ∀ b o, H b = some o → H' b = some o) (hp : H p = none) (hts : ∀ t ∈ ts, H t = none) (hl : H' p = some (.lst (ts.map V.ref)))
    (pp : Paired (fun (t : Addr) (q : Key × V) => H' t = some (.tup [kV q.1, q.2])) ts kvs) : ∃ R', Same R R' ∧ Plain R' ∧ Same R' H' ∧ Rep K R' (.ref p) (.lst (es.map pairD)) := by
  have nR : ∀ t, t = p ∨ t ∈ ts → R t = none := fun t ht => by
    rcases ht with rfl | ht
    · exact sR.out hp
    · exact sR.out (hts t ht)
  have isT : ∀ {ts : List Addr} {kvs : List (Key × V)}, Paired (fun (t : Addr) (q : Key × V) => H' t = some (.tup [kV q.1, q.2])) ts kvs → ∀ t ∈ ts, ∃ xs, H' t = some (.tup xs) := by
    intro ts kvs pp
    induction pp with
    | nil => intro t h; cases h
    | cons h _ ih =>
      intro t ht
      rcases List.mem_cons.mp ht with rfl | ht
      · exact ⟨_, h⟩
      · exact ih t ht
  have sRR : Same R (fun b => if b = p ∨ b ∈ ts then H' b else R b) := fun a o e => by
    show (if a = p ∨ a ∈ ts then H' a else R a) = some o
    rw [if_neg (fun h => by rw [nR a h] at e; cases e)]
    exact e
  refine ⟨fun b => if b = p ∨ b ∈ ts then H' b else R b, sRR, fun a o u e => ?_, fun a o e => ?_, ?_⟩
  · have e2 : (if a = p ∨ a ∈ ts then H' a else R a) = some (.frz o u) := e
    by_cases q : a = p ∨ a ∈ ts
    · rw [if_pos q] at e2
      rcases q with rfl | q
      · rw [hl] at e2; cases e2
      · obtain ⟨xs, h⟩ := isT pp a q
        rw [h] at e2; cases e2
    · rw [if_neg q] at e2
      exact pR _ _ _ e2
  · have e2 : (if a = p ∨ a ∈ ts then H' a else R a) = some o := e
    by_cases q : a = p ∨ a ∈ ts
    · rw [if_pos q] at e2; exact e2
    · rw [if_neg q] at e2
      exact keep _ _ (sR _ _ e2)
  · have at' : ∀ t, t = p ∨ t ∈ ts → (fun b => if b = p ∨ b ∈ ts then H' b else R b) t = H' t := fun t h => if_pos h
    refine .lst (SqL.of ((at' p (.inl rfl)).trans hl)) ?_
    have key : ∀ {ts2 : List Addr} {kvs : List (Key × V)} {es : List (Str × D)}, (∀ t ∈ ts2, t ∈ ts) → RepK K R kvs es → Paired (fun (t : Addr) (q : Key × V) => H' t = some (.tup [kV q.1, q.2])) ts2 kvs → Reps K (fun b => if b = p ∨ b ∈ ts then H' b else R b) (ts2.map V.ref) (es.map pairD) := by
      intro ts2 kvs es hin r pp
      induction pp generalizing es with
      | nil =>
        cases r
        exact .nil
      | @cons t kv ts3 kvs3 h _ ih =>
        cases r with
        | @cons x v d _ _ hx hd tl =>
          refine .cons (.tup (SqT.of ((at' t (.inr (hin t List.mem_cons_self))).trans h)) (.cons (.str _ hx) (.cons (hd.same sRR) .nil))) (ih (fun t ht => hin t (List.mem_cons_of_mem _ ht)) tl)
    exact key (fun _ h => h) r pp
section
variable {P : Program} {w : World} {K : PySem.W.Frag} {mg : Str → Option Value} {base : Heap}
/-! ### _law_same: true of two that stand for the same -/
theorem sc__law_same : FnScope ["told", "due", "same", "k"] ["told", "due"] (defScope s__law_same) := ⟨rfl, rfl, rfl, by decide +kernel, rfl, by decide +kernel, by decide +kernel⟩
def spSame (n : Nat) (K : PySem.W.Frag) : Sp := fun vs H Q _ => ∃ (R : Hp) (v1 v2 : V) (d : D), vs = [v1, v2] ∧ Same R H ∧ Plain R ∧ Rep K R v1 d ∧ Rep K R v2 d ∧ Fit n d ∧ ∀ H', Same H H' → Q (.bl true) H'
theorem ok__law_same0 (T : Txt K mg) : Def P w K mg base 1 "_law_same" ["told", "due"] (spSame 0 K) := by
  obtain ⟨f, fd, F⟩ := T.a__law_same
  refine Def.mk F sc__law_same (fun _ _ _ _ _ _ us hl => match us, hl with | [_, _], _ => rfl) (fun vs H Q E h => ?_) (fun cdv A outer s H vs Q E hr h => ?_)
  · obtain ⟨R, v1, v2, d, rfl, _⟩ := h
    rfl
  · obtain ⟨R, v1, v2, d, rfl, _, _, _, _, hf, _⟩ := h
    exact hf.elim
theorem ok__law_sameS (T : Txt K mg) (n : Nat) (G__law_same : Def P w K mg base (n + 1) "_law_same" ["told", "due"] (spSame n K)) : Def P w K mg base (n + 2) "_law_same" ["told", "due"] (spSame (n + 1) K) := by
  obtain ⟨f, fd, F⟩ := T.a__law_same
  refine Def.mk F sc__law_same (fun _ _ _ _ _ _ us hl => match us, hl with | [_, _], _ => rfl) (fun vs H Q E h => ?_) (fun cdv A outer s H vs Q E hr h => ?_)
  · obtain ⟨R, v1, v2, d, rfl, _⟩ := h
    rfl
  · obtain ⟨R, v1, v2, d, rfl, sR, pR, r1, r2, hf, hq⟩ := h
    have h1 := r1.same sR
    have h2 := r2.same sR
    have hQ := hq H (Same.refl H)
    refine ⟨_, (pss_cons (ps_if (PW.pt (pw_or (pt_cmpR op_isN (pv 1) pe_non (nomark _)) (pw_or1 (pt_val (pe_callB (kcall_is K rfl) (by rfl) T.b_isinstance (by decide +kernel) (pa_cons (pv 1) (pa_cons (pe_bltn (v := .ty "bool") (by rfl) T.b_bool (by decide +kernel) rfl) pa_nil))))))) (pss_one (ps_ret (pe_ifExp (pt_cmpR op_isN (pv 1) pe_non (nomark _)) (pe_cmpR op_isN (pv 0) pe_non (nomark _)) (pe_and (pe_callB (kcall_is K rfl) (by rfl) T.b_isinstance (by decide +kernel) (pa_cons (pv 0) (pa_cons (pe_bltn (v := .ty "bool") (by rfl) T.b_bool (by decide +kernel) rfl) pa_nil))) (pe_one (pe_cmpR op_eq (pe_cmpR op_is_bl (pv 0) pe_bl (nomark _)) (pe_cmpR op_is_bl (pv 1) pe_bl (nomark _)) (nomark _))))))) pss_nil)
      (pss_cons (ps_if (pt_val (pe_callB (kcall_is K rfl) (by rfl) T.b_isinstance (by decide +kernel) (pa_cons (pv 1) (pa_cons (pe_bltn (v := .ty "int") (by rfl) T.b_int (by decide +kernel) rfl) pa_nil)))) (pss_one (ps_ret (pe_and (pe_callB (kcall_is K rfl) (by rfl) T.b_isinstance (by decide +kernel) (pa_cons (pv 0) (pa_cons (pe_bltn (v := .ty "int") (by rfl) T.b_int (by decide +kernel) rfl) pa_nil))) (pe_and (pe_not (pe_callB (kcall_is K rfl) (by rfl) T.b_isinstance (by decide +kernel) (pa_cons (pv 0) (pa_cons (pe_bltn (v := .ty "bool") (by rfl) T.b_bool (by decide +kernel) rfl) pa_nil)))) (pe_one (pe_cmpR op_eq (pe_op op_sub (pe_callTy call_int1 (by rfl) T.b_int (by decide +kernel) (pa_cons (pv 0) pa_nil)) (pv 1)) pe_int (nomark _))))))) pss_nil)
      (pss_cons (ps_if (pt_val (pe_callB (kcall_is K rfl) (by rfl) T.b_isinstance (by decide +kernel) (pa_cons (pv 1) (pa_cons (pe_bltn (v := .ty "str") (by rfl) T.b_str (by decide +kernel) rfl) pa_nil)))) (pss_cons (ps_set (i := 2) sc__law_same.nd rfl (Or.inl rfl) (pe_and (pe_callB (kcall_is K rfl) (by rfl) T.b_isinstance (by decide +kernel) (pa_cons (pv 0) (pa_cons (pe_bltn (v := .ty "str") (by rfl) T.b_str (by decide +kernel) rfl) pa_nil))) (pe_one (pe_cmpR op_eq (pe_callB (kcall_len K rfl) (by rfl) T.b_len (by decide +kernel) (pa_cons (pv 0) pa_nil)) (pe_callB (kcall_len K rfl) (by rfl) T.b_len (by decide +kernel) (pa_cons (pv 1) pa_nil)) (nomark _)))))
      (pss_one (ps_ret (pe_and (pv 2) (pe_one (pe_cmpR (kop_eqE K rfl hr.units) (pe_lc (own := [("k", 3)]) rfl sc__law_same.nd (pi_range1 (by rfl) T.b_range (pa_cons (pe_callB (kcall_len K rfl) (by rfl) T.b_len (by decide +kernel) (pa_cons (pv 1) pa_nil)) pa_nil)) (blkOk_by (own := [("k", 3)]) (N := ["told", "due", "same", "k"]) (sc := defScope s__law_same) (by decide +kernel)) (fun _ _ _ _ _ => (pg_name (i := 3) sc__law_same.nd rfl (Or.inl rfl))) (fun _ _ _ _ _ => (pts_one (pt_cmpR op_ne (pe_slice sl_str (pv 0) (po_some (pv 3)) (po_some (pe_op op_add (pv 3) pe_int))) (pe_ix (kix_any K rfl) (pv 1) (pv 3) (fun _ _ => rfl)) (nomark _)))) (fun _ _ _ _ _ => (pv 3))) (pe_lst pa_nil) (nomark _))))))) pss_nil)
      (pss_cons (ps_if (pt_val (pe_callB (kcall_is K rfl) (by rfl) T.b_isinstance (by decide +kernel) (pa_cons (pv 1) (pa_cons (pe_bltn (v := .ty "dict") (by rfl) T.b_dict (by decide +kernel) rfl) pa_nil)))) (pss_one (ps_ret (pe_and (pe_callB (kcall_is K rfl) (by rfl) T.b_isinstance (by decide +kernel) (pa_cons (pv 0) (pa_cons (pe_bltn (v := .ty "dict") (by rfl) T.b_dict (by decide +kernel) rfl) pa_nil))) (pe_one (pe_d G__law_same (hr.mono (by omega)) (by rfl) (pa_cons (LiI.pe_listItems rfl (pv 0) (by rfl) T.b_list (by decide +kernel)) (pa_cons (LiI.pe_listItems rfl (pv 1) (by rfl) T.b_list (by decide +kernel)) pa_nil))))))) pss_nil)
      (pss_cons (ps_if (PW.pt (pw_or (pt_cmpR op_ne (pe_callB (kcall_is K rfl) (by rfl) T.b_isinstance (by decide +kernel) (pa_cons (pv 0) (pa_cons (pe_bltn (v := .ty "list") (by rfl) T.b_list (by decide +kernel) rfl) pa_nil))) (pe_callB (kcall_is K rfl) (by rfl) T.b_isinstance (by decide +kernel) (pa_cons (pv 1) (pa_cons (pe_bltn (v := .ty "list") (by rfl) T.b_list (by decide +kernel) rfl) pa_nil))) (nomark _)) (pw_or1 (pt_cmpR op_ne (pe_callB (kcall_is K rfl) (by rfl) T.b_isinstance (by decide +kernel) (pa_cons (pv 0) (pa_cons (pe_bltn (v := .ty "tuple") (by rfl) T.b_tuple (by decide +kernel) rfl) pa_nil))) (pe_callB (kcall_is K rfl) (by rfl) T.b_isinstance (by decide +kernel) (pa_cons (pv 1) (pa_cons (pe_bltn (v := .ty "tuple") (by rfl) T.b_tuple (by decide +kernel) rfl) pa_nil))) (nomark _))))) (pss_one (ps_ret pe_bl)) pss_nil)
      (pss_cons (ps_if (PW.pt (pw_or (pt_not (pt_val (pe_callB (kcall_isLT K rfl) (by rfl) T.b_isinstance (by decide +kernel) (pa_cons (pv 0) (pa_cons (pe_tup (pa_cons (pe_bltn (v := .ty "list") (by rfl) T.b_list (by decide +kernel) rfl) (pa_cons (pe_bltn (v := .ty "tuple") (by rfl) T.b_tuple (by decide +kernel) rfl) pa_nil))) pa_nil))))) (pw_or1 (pt_cmpR op_ne (pe_callB (kcall_len K rfl) (by rfl) T.b_len (by decide +kernel) (pa_cons (pv 0) pa_nil)) (pe_callB (kcall_len K rfl) (by rfl) T.b_len (by decide +kernel) (pa_cons (pv 1) pa_nil)) (nomark _))))) (pss_one (ps_ret pe_bl)) pss_nil)
      (pss_one (ps_ret (pe_cmpR (kop_eqE K rfl hr.units) (pe_lc (own := [("k", 3)]) rfl sc__law_same.nd (pi_range1 (by rfl) T.b_range (pa_cons (pe_callB (kcall_len K rfl) (by rfl) T.b_len (by decide +kernel) (pa_cons (pv 1) pa_nil)) pa_nil)) (blkOk_by (own := [("k", 3)]) (N := ["told", "due", "same", "k"]) (sc := defScope s__law_same) (by decide +kernel)) (fun _ _ _ _ _ => (pg_name (i := 3) sc__law_same.nd rfl (Or.inl rfl))) (fun _ _ _ _ _ => (pts_one (pt_not (pt_val (pe_d G__law_same (hr.mono (by omega)) (by rfl) (pa_cons (pe_ix (kix_any K rfl) (pv 0) (pv 3) (fun _ _ => rfl)) (pa_cons (pe_ix (kix_any K rfl) (pv 1) (pv 3) (fun _ _ => rfl)) pa_nil))))))) (fun _ _ _ _ _ => (pv 3))) (pe_lst pa_nil) (nomark _)))))))))), ?_⟩
    cases d with
    | non =>
      cases h1
      cases h2
      exact ⟨_, rfl, rfl, _, rfl, iteT ⟨_, rfl, rfl, _, rfl, iteT ⟨_, rfl, rfl, hQ⟩⟩⟩
    | bl b =>
      cases h1
      cases h2
      refine ⟨_, rfl, rfl, _, rfl, iteF ⟨_, rfl, rd_isi (.bl b) ⟨_, rfl, iteT ?_⟩⟩⟩
      refine ⟨_, rfl, rfl, _, rfl, iteF ⟨_, rfl, rd_isi (.bl b) ⟨_, rfl, iteT ?_⟩⟩⟩
      refine ⟨_, rfl, _, _, rfl, rfl, _, rfl, _, _, rfl, rfl, rfl, ?_⟩
      rw [decide_eq_true rfl]
      exact hQ
    | int i =>
      cases h1
      cases h2
      refine ⟨_, rfl, rfl, _, rfl, iteF ⟨_, rfl, rd_isi (.int i) ⟨_, rfl, iteF ?_⟩⟩⟩
      refine ⟨_, rfl, rd_isi (.int i) ⟨_, rfl, iteT ?_⟩⟩
      refine ⟨_, rfl, rd_isi (.int i) ⟨_, rfl, iteT ⟨_, rfl, rd_isi (.int i) ⟨_, rfl, ⟨_, rfl, iteT ?_⟩⟩⟩⟩⟩
      refine ⟨_, rfl, .inl ⟨i, rfl, _, rfl, _, _, rfl, rfl, rfl, ?_⟩⟩
      show Q (.bl (decide (V.int (i - i) = V.int 0))) H
      rw [Int.sub_self, decide_eq_true rfl]
      exact hQ
    | str z =>
      have hz : z.length ≤ 1000 := hf
      cases h1 with
      | str _ hz1 =>
      cases h2
      have hs : Rep K H (.str z) (.str z) := .str z hz1
      refine ⟨_, rfl, rfl, _, rfl, iteF ⟨_, rfl, rd_isi hs ⟨_, rfl, iteF ?_⟩⟩⟩
      refine ⟨_, rfl, rd_isi hs ⟨_, rfl, iteF ?_⟩⟩
      refine ⟨_, rfl, rd_isi hs ⟨_, rfl, iteT ?_⟩⟩
      refine ⟨_, rfl, rd_isi hs ⟨_, rfl, iteT ?_⟩⟩
      refine ⟨_, rfl, _, z.length, rfl, ⟨hz1, rfl⟩, _, rfl, _, z.length, rfl, ⟨hz1, rfl⟩, rfl, ?_⟩
      rw [show decide (V.int (z.length : Nat) = V.int (z.length : Nat)) = true from decide_eq_true rfl]
      refine ⟨_, rfl, _, rfl, iteT ?_⟩
      refine ⟨_, rfl, _, z.length, rfl, ⟨hz1, rfl⟩, _, rfl, by omega, by omega, fun L hL => ?_⟩
      refine lc_vals (w := walk_range) (fun _ => none) hL (by omega) (fun _ _ => True.intro) ?_ ?_
      · rintro i x H1 H2 Y2 N2 hi s1 hnL ⟨rfl, hx⟩ k3 k4
        have hx2 : x = .int ((i : Nat) : Int) := by
          rw [hx]
          show V.int (0 + (i : Int)) = _
          rw [Int.zero_add]
        subst hx2
        have hi2 : i < z.length := by omega
        obtain ⟨c, hc⟩ : ∃ c, z.cps.toList[i]? = some c := ⟨_, List.getElem?_eq_getElem (by have : z.length = z.cps.size := rfl; simp; omega)⟩
        refine ⟨rfl, ⟨_, rfl, _, rfl, _, rfl, _, rfl, _, _, rfl, rfl, _, rfl, z, rfl, hz1, _, rfl, _, rfl, .inl ⟨z, _, c, rfl, rfl, hz1, atI_nat hc, rfl, _, rfl, ?_⟩⟩⟩
        rw [cut_one hc, decide_eq_true rfl]
        exact iteF (k4 _ rfl (Same.refl _))
      · intro H1 s1 h1
        rw [show (List.range ((z.length : Nat) : Int).toNat).filterMap (fun _ => (none : Option V)) = ([] : List Int).map V.int from by
          generalize List.range _ = l
          induction l with
          | nil => rfl
          | cons a l ih => rw [List.filterMap_cons]; exact ih] at h1
        refine ⟨Nat.zero_le _, fun q hq' => ⟨L, q, [], rfl, rfl, SqL.of (same_new hq' _ _ h1), SqL.of upd_same, ?_⟩⟩
        exact hq _ (s1.trans (same_new hq'))
    | dct l =>
      cases r1 with
      | @dct a1 kvs1 _ hk1 rk1 =>
      cases r2 with
      | @dct a2 kvs2 _ hk2 rk2 =>
      have hd1 := h1
      have hd2 := h2
      refine ⟨_, rfl, rfl, _, rfl, iteF ⟨_, rfl, rd_isi h2 ⟨_, rfl, iteF ?_⟩⟩⟩
      refine ⟨_, rfl, rd_isi h2 ⟨_, rfl, iteF ?_⟩⟩
      refine ⟨_, rfl, rd_isi h2 ⟨_, rfl, iteF ?_⟩⟩
      refine ⟨_, rfl, rd_isi h2 ⟨_, rfl, iteT ?_⟩⟩
      refine ⟨_, rfl, rd_isi h1 ⟨_, rfl, iteT ?_⟩⟩
      refine ⟨_, rfl, a1, kvs1, rfl, sR _ _ (pR.rd hk1), fun H1 p1 ts1 keep1 hp1 hts1 hpt1 hl1 pp1 => ?_⟩
      obtain ⟨R1, u1, u2, u3, u4⟩ := items_rep sR pR rk1 keep1 hp1 hts1 hl1 pp1
      refine ⟨_, rfl, a2, kvs2, rfl, u3 _ _ (u1 _ _ (pR.rd hk2)), fun H2 p2 ts2 keep2 hp2 hts2 hpt2 hl2 pp2 => ?_⟩
      obtain ⟨R2, w1, w2, w3, w4⟩ := items_rep u3 u2 (rk2.same u1) keep2 hp2 hts2 hl2 pp2
      exact ⟨R2, .ref p1, .ref p2, _, rfl, w3, w2, u4.same w1, w4, hf, fun H3 s3 => hq H3 (fun a o e => s3 a o (keep2 a o (keep1 a o e)))⟩
    | lst l =>
      cases r1 with
      | @lst a1 ys1 _ hS1 rs1 =>
      cases r2 with
      | @lst a2 ys2 _ hS2 rs2 =>
      have hl1 := rs1.len
      have hl2 := rs2.len
      obtain ⟨hl, hfe⟩ := hf
      refine ⟨_, rfl, rfl, _, rfl, iteF ⟨_, rfl, rd_isi h2 ⟨_, rfl, iteF ?_⟩⟩⟩
      refine ⟨_, rfl, rd_isi h2 ⟨_, rfl, iteF ?_⟩⟩
      refine ⟨_, rfl, rd_isi h2 ⟨_, rfl, iteF ?_⟩⟩
      refine ⟨_, rfl, rd_isi h2 ⟨_, rfl, iteF ?_⟩⟩
      refine ⟨_, rfl, rd_isi h1 ⟨_, rfl, rd_isi h2 ⟨rfl, _, rfl, iteF ?_⟩⟩⟩
      refine ⟨_, rfl, rd_isi h1 ⟨_, rfl, rd_isi h2 ⟨rfl, _, rfl, iteF ?_⟩⟩⟩
      refine ⟨_, rfl, (show 2 ≤ sizeLine by decide), fun tp htp => rd_isiLT h1 htp ⟨_, rfl, iteF ?_⟩⟩
      have s1 : Same H (upd H tp (.tup [.ty "list", .ty "tuple"])) := same_new htp
      generalize upd H tp (.tup [.ty "list", .ty "tuple"]) = H1 at s1 ⊢
      have sR1 := sR.trans s1
      have q1 : Sq true K H1 a1 ys1 := Sq.mono (b := true) (Lq.of sR1) hS1
      have q2 : Sq true K H1 a2 ys2 := Sq.mono (b := true) (Lq.of sR1) hS2
      refine ⟨_, rfl, _, ys1.length, rfl, q1.len, _, rfl, _, ys2.length, rfl, q2.len, rfl, _, rfl, ?_⟩
      rw [show decide (V.int (ys1.length : Nat) = V.int (ys2.length : Nat)) = true from decide_eq_true (by rw [hl1, hl2])]
      refine iteF ⟨_, rfl, _, ys2.length, rfl, q2.len, _, rfl, by omega, by omega, fun L hL => ?_⟩
      refine lc_vals (w := walk_range) (fun _ => none) hL (by omega) (fun _ _ => True.intro) ?_ ?_
      · rintro i x H2 H3 Y2 N2 hi s2 hnL ⟨rfl, hx⟩ k3 k4
        have hx2 : x = .int ((i : Nat) : Int) := by
          rw [hx]
          show V.int (0 + (i : Int)) = _
          rw [Int.zero_add]
        subst hx2
        obtain ⟨z1, hz1⟩ : ∃ z, ys1[i]? = some z := ⟨_, List.getElem?_eq_getElem (by omega)⟩
        obtain ⟨z2, hz2⟩ : ∃ z, ys2[i]? = some z := ⟨_, List.getElem?_eq_getElem (by omega)⟩
        obtain ⟨d1, hd1, e1⟩ := rs1.get hz1
        obtain ⟨d2, hd2, e2⟩ := rs2.get hz2
        rw [hd1] at hd2
        cases hd2
        refine ⟨rfl, ⟨_, rfl, _, rfl, .inr ⟨true, a1, ys1, _, _, rfl, rfl, Sq.mono (Lq.of s2) q1, atI_nat hz1, _, rfl, _, rfl, .inr ⟨true, a2, ys2, _, _, rfl, rfl, Sq.mono (Lq.of s2) q2, atI_nat hz2, ?_⟩⟩⟩⟩
        exact ⟨R, z1, z2, d1, rfl, sR1.trans s2, pR, e1, e2, hfe d1 (List.mem_of_getElem? hd1), fun H4 s4 => ⟨_, rfl, iteF (k4 _ rfl s4)⟩⟩
      · intro H2 s2 h2
        rw [show (List.range ((ys2.length : Nat) : Int).toNat).filterMap (fun _ => (none : Option V)) = ([] : List Int).map V.int from by
          generalize List.range _ = l
          induction l with
          | nil => rfl
          | cons a l ih => rw [List.filterMap_cons]; exact ih] at h2
        refine ⟨Nat.zero_le _, fun q hq' => ⟨L, q, [], rfl, rfl, SqL.of (same_new hq' _ _ h2), SqL.of upd_same, ?_⟩⟩
        exact hq _ (s1.trans (s2.trans (same_new hq')))
    | tup l =>
      cases r1 with
      | @tup a1 ys1 _ hS1 rs1 =>
      cases r2 with
      | @tup a2 ys2 _ hS2 rs2 =>
      have hl1 := rs1.len
      have hl2 := rs2.len
      obtain ⟨hl, hfe⟩ := hf
      refine ⟨_, rfl, rfl, _, rfl, iteF ⟨_, rfl, rd_isi h2 ⟨_, rfl, iteF ?_⟩⟩⟩
      refine ⟨_, rfl, rd_isi h2 ⟨_, rfl, iteF ?_⟩⟩
      refine ⟨_, rfl, rd_isi h2 ⟨_, rfl, iteF ?_⟩⟩
      refine ⟨_, rfl, rd_isi h2 ⟨_, rfl, iteF ?_⟩⟩
      refine ⟨_, rfl, rd_isi h1 ⟨_, rfl, rd_isi h2 ⟨rfl, _, rfl, iteF ?_⟩⟩⟩
      refine ⟨_, rfl, rd_isi h1 ⟨_, rfl, rd_isi h2 ⟨rfl, _, rfl, iteF ?_⟩⟩⟩
      refine ⟨_, rfl, (show 2 ≤ sizeLine by decide), fun tp htp => rd_isiLT h1 htp ⟨_, rfl, iteF ?_⟩⟩
      have s1 : Same H (upd H tp (.tup [.ty "list", .ty "tuple"])) := same_new htp
      generalize upd H tp (.tup [.ty "list", .ty "tuple"]) = H1 at s1 ⊢
      have sR1 := sR.trans s1
      have q1 : Sq false K H1 a1 ys1 := Sq.mono (b := false) (Lq.of sR1) hS1
      have q2 : Sq false K H1 a2 ys2 := Sq.mono (b := false) (Lq.of sR1) hS2
      refine ⟨_, rfl, _, ys1.length, rfl, q1.len, _, rfl, _, ys2.length, rfl, q2.len, rfl, _, rfl, ?_⟩
      rw [show decide (V.int (ys1.length : Nat) = V.int (ys2.length : Nat)) = true from decide_eq_true (by rw [hl1, hl2])]
      refine iteF ⟨_, rfl, _, ys2.length, rfl, q2.len, _, rfl, by omega, by omega, fun L hL => ?_⟩
      refine lc_vals (w := walk_range) (fun _ => none) hL (by omega) (fun _ _ => True.intro) ?_ ?_
      · rintro i x H2 H3 Y2 N2 hi s2 hnL ⟨rfl, hx⟩ k3 k4
        have hx2 : x = .int ((i : Nat) : Int) := by
          rw [hx]
          show V.int (0 + (i : Int)) = _
          rw [Int.zero_add]
        subst hx2
        obtain ⟨z1, hz1⟩ : ∃ z, ys1[i]? = some z := ⟨_, List.getElem?_eq_getElem (by omega)⟩
        obtain ⟨z2, hz2⟩ : ∃ z, ys2[i]? = some z := ⟨_, List.getElem?_eq_getElem (by omega)⟩
        obtain ⟨d1, hd1, e1⟩ := rs1.get hz1
        obtain ⟨d2, hd2, e2⟩ := rs2.get hz2
        rw [hd1] at hd2
        cases hd2
        refine ⟨rfl, ⟨_, rfl, _, rfl, .inr ⟨false, a1, ys1, _, _, rfl, rfl, Sq.mono (Lq.of s2) q1, atI_nat hz1, _, rfl, _, rfl, .inr ⟨false, a2, ys2, _, _, rfl, rfl, Sq.mono (Lq.of s2) q2, atI_nat hz2, ?_⟩⟩⟩⟩
        exact ⟨R, z1, z2, d1, rfl, sR1.trans s2, pR, e1, e2, hfe d1 (List.mem_of_getElem? hd1), fun H4 s4 => ⟨_, rfl, iteF (k4 _ rfl s4)⟩⟩
      · intro H2 s2 h2
        rw [show (List.range ((ys2.length : Nat) : Int).toNat).filterMap (fun _ => (none : Option V)) = ([] : List Int).map V.int from by
          generalize List.range _ = l
          induction l with
          | nil => rfl
          | cons a l ih => rw [List.filterMap_cons]; exact ih] at h2
        refine ⟨Nat.zero_le _, fun q hq' => ⟨L, q, [], rfl, rfl, SqL.of (same_new hq' _ _ h2), SqL.of upd_same, ?_⟩⟩
        exact hq _ (s1.trans (s2.trans (same_new hq')))
theorem ok__law_same (T : Txt K mg) : ∀ n, Def P w K mg base (n + 1) "_law_same" ["told", "due"] (spSame n K)
  | 0 => ok__law_same0 T
  | n + 1 => ok__law_sameS T n (ok__law_same T n)
end
end K87

set_option Elab.async false
set_option linter.all false
set_option maxRecDepth 100000
set_option maxHeartbeats 1000000
namespace RP
open PySem PySem.Spec PyProof.Rows L2
theorem atI_lt {xs : List V} {i : Int} (h0 : 0 ≤ i) (h1 : i < xs.length) : ∃ v, atI xs i = some v ∧ v ∈ xs := by
  have h2 : i.toNat < xs.length := by omega
  have e : ((i.toNat : Nat) : Int) = i := by omega
  have h3 : xs[i.toNat]? = some xs[i.toNat] := List.getElem?_eq_getElem h2
  have h4 := atI_nat h3
  rw [e] at h4
  exact ⟨_, h4, List.getElem_mem h2⟩
theorem But.frame {b : Addr} {H H' : Hp} (k : But b H H') {a : Addr} {o : HO} (n : a ≠ b) (h : H a = some o) : H' a = some o := k a o n h
theorem ne_at {H : Hp} {a p : Addr} {o : HO} (h : H a = some o) (hp : H p = none) : p ≠ a := fun e => by
  rw [e, h] at hp
  cases hp
theorem But.new {b : Addr} {H : Hp} {p : Addr} {o : HO} (h : H p = none) : But b H (upd H p o) := But.of (same_new h)
theorem RepK.snoc {K : PySem.W.Frag} {H : Hp} {x : Str} {v : V} {d : D} (hx : x.length ≤ sizeLine) (hd : Rep K H v d) : ∀ {kvs : List (Key × V)} {es : List (Str × D)}, RepK K H kvs es → RepK K H (kvs ++ [(.inr x, v)]) (es ++ [(x, d)])
  | _, _, .nil => .cons hx hd .nil
  | _, _, .cons h1 h2 t => .cons h1 h2 (RepK.snoc hx hd t)
theorem valV_none {l : List (Key × V)} {k : Key} (h : k ∉ l.map (·.1)) : valV l k = none := by
  cases c : valV l k with
  | none => rfl
  | some v =>
    exfalso
    unfold valV at c
    obtain ⟨e, he, _⟩ := Option.map_eq_some_iff.mp c
    have h1 := List.find?_some he
    have h2 := List.mem_of_find?_eq_some he
    exact h (List.mem_map.mpr ⟨e, h2, of_decide_eq_true h1⟩)
theorem erase_map {α β : Type} (f : α → β) : ∀ (l : List α) (k : Nat), (l.map f).eraseIdx k = (l.eraseIdx k).map f
  | [], _ => rfl
  | _ :: _, 0 => rfl
  | a :: l, k + 1 => by
    show f a :: (l.map f).eraseIdx k = f a :: (l.eraseIdx k).map f
    rw [erase_map f l k]
theorem erase_perm {α : Type} : ∀ {l : List α} {k : Nat} {y : α}, l[k]? = some y → (y :: l.eraseIdx k).Perm l
  | [], _, _, h => nomatch h
  | a :: l, 0, y, h => by
    cases h
    exact List.Perm.refl _
  | a :: l, k + 1, y, h => by
    have ih := erase_perm (l := l) (k := k) h
    show (y :: a :: l.eraseIdx k).Perm (a :: l)
    exact (List.Perm.swap a y _).trans (ih.cons a)
end RP
namespace K87
open PySem PySem.Spec PyProof.Rows L2 RP
def six : List Str := ["ann", "bo", "cy", "di", "ed", "flo"]
theorem six_nd : six.Nodup := by decide +kernel
theorem six_ok : ∀ z ∈ six, okName z = true := by decide +kernel
theorem six_len : ∀ z ∈ six, z.length ≤ 8 := by decide +kernel
theorem BoxAt.mono {H : Hp} {a : Addr} {n m : Int} (b : BoxAt H a n) (h : n ≤ m) : BoxAt H a m := by
  obtain ⟨x, s, c, e, h1, h2, h3, h4, h5⟩ := b
  exact ⟨x, s, c, e, h1, h2, h3, h4, by omega⟩
theorem BoxAt.off {H : Hp} {a p : Addr} {n : Int} {o : HO} (b : BoxAt H a n) (h : p ≠ a) : BoxAt (upd H p o) a n := by
  obtain ⟨x, s, c, e, q⟩ := b
  exact ⟨x, s, c, by rw [upd_ne (Ne.symm h)]; exact e, q⟩
theorem BoxAt.ne {H : Hp} {a p : Addr} {n : Int} (b : BoxAt H a n) (hp : H p = none) : p ≠ a := by
  obtain ⟨x, s, c, e, q⟩ := b
  exact ne_at e hp
theorem BoxAt.at' {H H' : Hp} {a : Addr} {n : Int} (b : BoxAt H a n) (h : H' a = H a) : BoxAt H' a n := by
  obtain ⟨x, s, c, e, q⟩ := b
  exact ⟨x, s, c, h.trans e, q⟩
theorem BoxAt.same {H H' : Hp} {a : Addr} {n : Int} (b : BoxAt H a n) (s : Same H H') : BoxAt H' a n := by
  obtain ⟨x, y, c, e, q⟩ := b
  exact ⟨x, y, c, s _ _ e, q⟩
/-- the guest of a name -/
def byName (gs : List G3) (z : Str) : G3 := (gs.find? fun e => decide (e.1 = z)).getD (z, 0, 0)
theorem byName_mem : ∀ {gs : List G3}, (gs.map (·.1)).Nodup → ∀ e ∈ gs, byName gs e.1 = e
  | [], _, _, h => nomatch h
  | a :: gs, n, e, h => by
    rw [List.map_cons, List.nodup_cons] at n
    unfold byName
    rw [List.find?_cons]
    rcases List.mem_cons.mp h with q | q
    · rw [← q]
      simp
    · have ne : ¬ a.1 = e.1 := fun q2 => n.1 (by rw [q2]; exact List.mem_map.mpr ⟨e, q, rfl⟩)
      rw [decide_eq_false ne]
      exact byName_mem n.2 e q
theorem byName_all {gs : List G3} (n : (gs.map (·.1)).Nodup) : (gs.map (·.1)).map (byName gs) = gs := by
  rw [List.map_map]
  exact (List.map_congr_left (g := id) fun e he => byName_mem n e he).trans (List.map_id _)
/-- the guests laid so far -/
structure CaseI (len left : Int) (nms : List Str) (t : Nat) (gs : List G3) : Prop where
  nm : gs.map (·.1) = nms.take t
  sh : ∀ e ∈ gs, 0 ≤ e.2.1 ∧ e.2.1 ≤ len ∧ max 1 e.2.1 ≤ e.2.2 ∧ e.2.2 ≤ len
  sum : (gs.map (·.2.1)).sum + left = len
  left : 0 ≤ left
theorem CaseI.next {len left : Int} {nms : List Str} {t : Nat} {gs : List G3} {z : Str} {p c : Int} (I : CaseI len left nms t gs) (hz : nms[t]? = some z) (p0 : 0 ≤ p) (p1 : p ≤ left) (c0 : max 1 p ≤ c) (c1 : c ≤ len) : CaseI len (left - p) nms (t + 1) (gs ++ [(z, p, c)]) := by
  have hs : 0 ≤ (gs.map (·.2.1)).sum := by
    have : ∀ l : List G3, (∀ e ∈ l, 0 ≤ e.2.1) → 0 ≤ (l.map (·.2.1)).sum := by
      intro l
      induction l with
      | nil => intro _; exact Int.le_refl _
      | cons a l ih =>
        intro h
        rw [List.map_cons, List.sum_cons]
        have h1 := h a List.mem_cons_self
        have h2 := ih fun e he => h e (List.mem_cons_of_mem _ he)
        omega
    exact this gs fun e he => (I.sh e he).1
  have hsum := I.sum
  refine ⟨?_, fun e he => ?_, ?_, by omega⟩
  · rw [List.map_append, I.nm, take_next hz]
    rfl
  · rcases List.mem_append.mp he with h | h
    · exact I.sh e h
    · rw [List.mem_singleton.mp h]
      exact ⟨p0, by show p ≤ len; omega, c0, c1⟩
  · rw [List.map_append, List.sum_append, List.map_singleton, List.sum_singleton]
    show (gs.map (·.2.1)).sum + p + (left - p) = len
    omega
theorem sum_perm {l m : List Int} (h : l.Perm m) : l.sum = m.sum := by
  induction h with
  | nil => rfl
  | cons a _ ih => rw [List.sum_cons, List.sum_cons, ih]
  | swap a b l => rw [List.sum_cons, List.sum_cons, List.sum_cons, List.sum_cons]; omega
  | trans _ _ h1 h2 => exact h1.trans h2
/-- the guests in their order -/
theorem case_ok {len left : Int} {k : Nat} {gs gs' : List G3} (hl : 4 ≤ len ∧ len ≤ 60) (I : CaseI len left (six.take k) k gs) (hk : 1 ≤ k ∧ k ≤ 6) (h : gs'.Perm gs) : GsOk len gs' ∧ 1 ≤ gs'.length ∧ ∀ e ∈ gs', e.1 ∈ six := by
  have hnm : gs.map (·.1) = six.take k := by
    rw [I.nm, List.take_take, Nat.min_self]
  have hlen : gs.length = k := by
    have := congrArg List.length hnm
    rw [List.length_map, List.length_take] at this
    have : six.length = 6 := rfl
    omega
  have hp := h.length_eq
  refine ⟨⟨by omega, ?_, fun e he => ?_, fun e he => I.sh e (h.mem_iff.mp he), ?_, hl⟩, by omega, fun e he => ?_⟩
  · refine (h.map (·.1)).nodup_iff.mpr ?_
    rw [hnm]
    exact six_nd.sublist (List.take_sublist _ _)
  · have h1 : e.1 ∈ six.take k := by
      rw [← hnm]
      exact List.mem_map.mpr ⟨e, h.mem_iff.mp he, rfl⟩
    exact six_ok _ (List.mem_of_mem_take h1)
  · rw [sum_perm (h.map (·.2.1))]
    have := I.sum
    have := I.left
    omega
  · have h1 : e.1 ∈ six.take k := by
      rw [← hnm]
      exact List.mem_map.mpr ⟨e, h.mem_iff.mp he, rfl⟩
    exact List.mem_of_mem_take h1
section
variable {P : Program} {w : World} {K : PySem.W.Frag} {mg : Str → Option Value} {base : Heap}
/-! ### _law_case -/
theorem sc__law_case : FnScope ["box", "length", "left", "guests", "name", "promise", "low", "ceiling", "names", "order", "k"] ["box"] (defScope s__law_case) := ⟨rfl, rfl, rfl, by decide +kernel, rfl, by decide +kernel, by decide +kernel⟩
def spCase (K : PySem.W.Frag) : Sp := fun vs H Q _ => ∃ (a : Addr) (n : Int), vs = [.ref a] ∧ BoxAt H a n ∧ n ≤ 1000 ∧ ∀ (len : Int) (gs : List G3) (R' H' : Hp) (v : V), GsOk len gs → 1 ≤ gs.length → (∀ e ∈ gs, e.1 ∈ six) → Plain R' → Same R' H' → R' a = none → Rep K R' v (.tup [.int len, gD gs]) → BoxAt H' a (n + 100) → But a H H' → Q v H'
theorem ok__law_case (T : Txt K mg) (G__law_take : Def P w K mg base 1 "_law_take" ["box", "many"] (spTake K)) : Def P w K mg base 2 "_law_case" ["box"] (spCase K) := by
  obtain ⟨f, fd, F⟩ := T.a__law_case
  refine Def.mk F sc__law_case (fun _ _ _ _ _ _ us hl => match us, hl with | [_], _ => rfl) (fun vs H Q E h => ?_) (fun cdv A outer s H vs Q E hr h => ?_)
  · obtain ⟨a, n, rfl, _⟩ := h
    rfl
  · obtain ⟨a, n, rfl, box, hn, hq⟩ := h
    refine ⟨_, (pss_cons (ps_asg (pe_tup (pa_cons (pe_op op_add pe_int (pe_d G__law_take (hr.mono (by decide)) (by rfl) (pa_cons (pv 0) (pa_cons (pe_ix (kix_list K rfl) (pe_lst (pa_cons pe_int (pa_cons pe_int (pa_cons pe_int pa_nil)))) (pe_d G__law_take (hr.mono (by decide)) (by rfl) (pa_cons (pv 0) (pa_cons pe_int pa_nil))) (fun _ _ => rfl)) pa_nil)))) (pa_cons pe_int (pa_cons pe_dnewK pa_nil)))) (kpg_tup K rfl (n := 3) rfl (pgs_cons (pg_name (i := 1) sc__law_case.nd rfl (Or.inl rfl)) (pgs_cons (pg_name (i := 2) sc__law_case.nd rfl (Or.inl rfl)) (pgs_cons (pg_name (i := 3) sc__law_case.nd rfl (Or.inr rfl)) pgs_nil)))))
      (pss_cons (ps_set (i := 2) sc__law_case.nd rfl (Or.inl rfl) (pv 1))
      (pss_cons (ps_for (passes_of rfl) rfl (kpi_list K rfl (pe_slice (ksl_list K rfl) (pe_lst (pa_cons pe_str (pa_cons pe_str (pa_cons pe_str (pa_cons pe_str (pa_cons pe_str (pa_cons pe_str pa_nil))))))) po_none (po_some (pe_op op_add pe_int (pe_d G__law_take (hr.mono (by decide)) (by rfl) (pa_cons (pv 0) (pa_cons pe_int pa_nil))))))) (pg_name (i := 4) sc__law_case.nd rfl (Or.inl rfl))
        (pss_cons (ps_set (i := 5) sc__law_case.nd rfl (Or.inl rfl) (pe_ix (kix_list K rfl) (pe_lst (pa_cons pe_int (pa_cons pe_int (pa_cons (pe_d G__law_take (hr.mono (by decide)) (by rfl) (pa_cons (pv 0) (pa_cons (pe_op op_add (pv 2) pe_int) pa_nil))) (pa_cons (pe_d G__law_take (hr.mono (by decide)) (by rfl) (pa_cons (pv 0) (pa_cons (pe_op op_add (pe_callB (call_min2 rfl) (by rfl) T.b_min (by decide +kernel) (pa_cons (pv 2) (pa_cons pe_int pa_nil))) pe_int) pa_nil))) pa_nil))))) (pe_d G__law_take (hr.mono (by decide)) (by rfl) (pa_cons (pv 0) (pa_cons pe_int pa_nil))) (fun _ _ => rfl)))
      (pss_cons (ps_set (i := 5) sc__law_case.nd rfl (Or.inl rfl) (pe_callB (call_min2 rfl) (by rfl) T.b_min (by decide +kernel) (pa_cons (pv 5) (pa_cons (pv 2) pa_nil))))
      (pss_cons (ps_set (i := 2) sc__law_case.nd rfl (Or.inl rfl) (pe_op op_sub (pv 2) (pv 5)))
      (pss_cons (ps_set (i := 6) sc__law_case.nd rfl (Or.inl rfl) (pe_callB (call_max2 rfl) (by rfl) T.b_max (by decide +kernel) (pa_cons pe_int (pa_cons (pv 5) pa_nil))))
      (pss_cons (ps_set (i := 7) sc__law_case.nd rfl (Or.inl rfl) (pe_ix (kix_list K rfl) (pe_lst (pa_cons (pv 1) (pa_cons (pv 6) (pa_cons (pe_op op_add (pv 6) (pe_d G__law_take (hr.mono (by decide)) (by rfl) (pa_cons (pv 0) (pa_cons (pe_op op_add (pe_op op_sub (pv 1) (pv 6)) pe_int) pa_nil)))) pa_nil)))) (pe_d G__law_take (hr.mono (by decide)) (by rfl) (pa_cons (pv 0) (pa_cons pe_int pa_nil))) (fun _ _ => rfl)))
      (pss_one (ps_dput (hu_of hr) (pv 3) (pv 4) (pe_tup (pa_cons (pv 5) (pa_cons (pv 7) pa_nil))) rfl))))))))
      (pss_cons (ps_set (i := 8) sc__law_case.nd rfl (Or.inr rfl) (pe_callTy (call_listD rfl) (by rfl) T.b_list (by decide +kernel) (pa_cons (pv 3) pa_nil)))
      (pss_cons (ps_setLc (i := 9) (own := [("k", 10)]) rfl sc__law_case.nd rfl rfl (sw_true rfl rfl rfl (by decide +kernel)) (pi_range1 (by rfl) T.b_range (pa_cons (pe_callB call_lenD (by rfl) T.b_len (by decide +kernel) (pa_cons (pv 3) pa_nil)) pa_nil)) (blkOk_by (own := [("k", 10)]) (N := ["box", "length", "left", "guests", "name", "promise", "low", "ceiling", "names", "order", "k"]) (sc := defScope s__law_case) (by decide +kernel)) (fun _ _ _ _ _ => (pg_name (i := 10) sc__law_case.nd rfl (Or.inl rfl))) (fun _ _ _ _ _ => pts_nil) (fun _ _ _ _ _ => (kpe_bm K rfl (pe_bm PySem.F.plainAttrs_list PySem.F.slot_list_pop PySem.F.type_list_pop mt_popAt (pv 8) (pa_cons (pe_d G__law_take (hr.mono (by decide)) (by rfl) (pa_cons (pv 0) (pa_cons (pe_callB (kcall_len_seq K rfl) (by rfl) T.b_len (by decide +kernel) (pa_cons (pv 8) pa_nil)) pa_nil))) pa_nil)))))
      (pss_one (ps_ret (pe_tup (pa_cons (pv 1) (pa_cons (pe_callTy (kcall_dictP K rfl rfl) (by rfl) T.b_dict (by decide +kernel) (pa_cons (pe_lc (own := [("name", 4)]) rfl sc__law_case.nd (kpi_list K rfl (pv 9)) (blkOk_by (own := [("name", 4)]) (N := ["box", "length", "left", "guests", "name", "promise", "low", "ceiling", "names", "order", "k"]) (sc := defScope s__law_case) (by decide +kernel)) (fun _ _ _ _ _ => (pg_name (i := 4) sc__law_case.nd rfl (Or.inl rfl))) (fun _ _ _ _ _ => pts_nil) (fun _ _ _ _ _ => (pe_tup (pa_cons (pv 4) (pa_cons (pe_dget (hu_of hr) (pv 3) (pv 4) (fun _ _ => rfl)) pa_nil))))) pa_nil)) pa_nil)))))))))), ?_⟩
    refine ⟨_, rfl, (show 3 ≤ sizeLine by decide), fun p1 hp1 => ⟨_, rfl, a, n, 3, rfl, box.off (box.ne hp1), by omega, by omega, by omega, fun r1 H1 r10 r11 box1 bt1 => ?_⟩⟩
    have hl1 : H1 p1 = some (.lst [.int 4, .int 12, .int 57]) := bt1 _ _ (box.ne hp1) upd_same
    have B1 : But a H H1 := (But.new hp1).trans bt1
    obtain ⟨v, hv1, hv2⟩ := atI_lt (xs := [.int 4, .int 12, .int 57]) r10 r11
    obtain ⟨m, rfl, m0, m1⟩ : ∃ m, v = .int m ∧ 4 ≤ m ∧ m ≤ 57 := by
      simp only [List.mem_cons, List.not_mem_nil, or_false] at hv2
      rcases hv2 with rfl | rfl | rfl
      · exact ⟨4, rfl, by decide, by decide⟩
      · exact ⟨12, rfl, by decide, by decide⟩
      · exact ⟨57, rfl, by decide, by decide⟩
    refine ⟨p1, _, r1, _, rfl, rfl, SqL.of hl1, hv1, a, n + 1, m, rfl, box1, by omega, by omega, by omega, fun r2 H2 r20 r21 box2 bt2 => ?_⟩
    have B2 := B1.trans bt2
    refine ⟨_, _, rfl, rfl, fun ga hga => ⟨(show 3 ≤ sizeLine by decide), fun T0 hT0 => ?_⟩⟩
    have nga := box2.ne hga
    have hT0g : T0 ≠ ga := ne_at upd_same hT0
    have nT0 : T0 ≠ a := (box2.off nga).ne hT0
    refine ⟨T0, _, rfl, SqT.of upd_same, rfl, _, _, rfl, _, _, rfl, _, _, rfl, rfl, ?_⟩
    have hlen : 4 ≤ 4 + r2 ∧ 4 + r2 ≤ 60 := by omega
    have h3g : upd (upd H2 ga (.dK [])) T0 (.tup [.int (4 + r2), .int 0, .ref ga]) ga = some (.dK []) := by rw [upd_ne (Ne.symm hT0g), upd_same]
    have B3 : But a H (upd (upd H2 ga (.dK [])) T0 (.tup [.int (4 + r2), .int 0, .ref ga])) := B2.trans ((But.new hga).trans (But.new hT0))
    have box3 : BoxAt (upd (upd H2 ga (.dK [])) T0 (.tup [.int (4 + r2), .int 0, .ref ga])) a (n + 1 + 1) := (box2.off nga).off nT0
    have n3g : H ga = none := B2.free nga hga
    generalize upd (upd H2 ga (.dK [])) T0 (.tup [.int (4 + r2), .int 0, .ref ga]) = H3 at h3g B3 box3 ⊢
    refine ⟨_, rfl, (show 6 ≤ sizeLine by decide), fun p4 hp4 => ⟨_, rfl, a, n + 2, 6, rfl, (box3.mono (by omega)).off (box3.ne hp4), by omega, by omega, by omega, fun r5 H5 r50 r51 box5 bt5 => ?_⟩⟩
    have hl5 : H5 p4 = some (.lst (six.map V.str)) := bt5 _ _ (box3.ne hp4) upd_same
    have B5 := B3.trans ((But.new hp4).trans bt5)
    have h5g : H5 ga = some (.dK []) := bt5 _ _ nga ((same_new hp4) _ _ h3g)
    refine ⟨_, _, rfl, rfl, _, rfl, p4, _, rfl, SqL.of hl5, fun L hL => ?_⟩
    obtain ⟨k, hk, ek⟩ : ∃ k, (1 ≤ k ∧ k ≤ 6) ∧ cutV (six.map V.str) none (some (1 + r5)) = (six.take k).map V.str := by
      refine ⟨(1 + r5).toNat, by omega, ?_⟩
      have e1 : (1 : Int) + r5 = (((1 + r5).toNat : Nat) : Int) := by omega
      unfold cutV
      rw [← List.map_drop, ← List.map_take, HT.sIx_none]
      have e2 : HT.sIx (six.map V.str).length (six.map V.str).length (some (1 + r5)) = (1 + r5).toNat := by
        rw [e1, HT.sIx_nat]
        have : (six.map V.str).length = 6 := rfl
        omega
      rw [e2]
      rfl
    rw [ek]
    have nL := box5.ne hL
    have hLg : L ≠ ga := ne_at h5g hL
    have B6 : But a H (upd H5 L (.lst ((six.take k).map V.str))) := B5.trans (But.new hL)
    have box6 : BoxAt (upd H5 L (.lst ((six.take k).map V.str))) a (n + 3) := (box5.mono (by omega)).off nL
    have h6g : upd H5 L (.lst ((six.take k).map V.str)) ga = some (.dK []) := by rw [upd_ne (Ne.symm hLg)]; exact h5g
    have h6L : upd H5 L (.lst ((six.take k).map V.str)) L = some (.lst ((six.take k).map V.str)) := upd_same
    generalize upd H5 L (.lst ((six.take k).map V.str)) = H6 at B6 box6 h6g h6L ⊢
    refine ⟨L, rfl, ⟨_, SqL.of h6L⟩, ?_⟩
    refine for_it (w := walk_list) (fun t σ H' => ∃ (left : Int) (gs : List G3) (R' : Hp) (kvs : List (Key × V)) (o4 o5 o6 o7 : Option V), σ = [some (.ref a), some (.int (4 + r2)), some (.int left), some (.ref ga), o4, o5, o6, o7, none, none, none] ∧ CaseI (4 + r2) left (six.take k) t gs ∧ Plain R' ∧ Same R' H' ∧ R' a = none ∧ R' ga = none ∧ RepK K R' kvs (gs.map fun e => (e.1, D.tup [.int e.2.1, .int e.2.2])) ∧
        H' ga = some (.dK kvs) ∧ H' L = some (.lst ((six.take k).map V.str)) ∧ BoxAt H' a (n + 3 + 5 * t) ∧ But a H H')
      ⟨(4 + r2), [], fun _ => none, [], none, none, none, none, rfl, ⟨rfl, (fun _ h => nomatch h), by simp, by omega⟩, Plain.none, (fun _ _ h => nomatch h), rfl, rfl, .nil, h6g, h6L, box6.mono (by omega), B6⟩ (fun t σ H' _ ⟨_, _, _, _, _, _, _, _, _, _, _, _, _, _, _, _, h, _⟩ => SqL.of h) ?_ ?_
    · rintro t x σ H7 H8 ht ⟨left, gs, R, kvs, o4, o5, o6, o7, rfl, I, pR, sR, nRa, nRg, rk, hg, hL7, bx, BB⟩ ⟨rfl, hx⟩
      rw [List.getElem?_map] at hx
      obtain ⟨z, hz, rfl⟩ := Option.map_eq_some_iff.mp hx
      have ht6 : t < 6 := by
        rw [List.length_map, List.length_take] at ht
        omega
      have hleft := I.left
      have hsum := I.sum
      have hs0 : 0 ≤ (gs.map (·.2.1)).sum := by
        have : ∀ l : List G3, (∀ e ∈ l, 0 ≤ e.2.1) → 0 ≤ (l.map (·.2.1)).sum := by
          intro l
          induction l with
          | nil => intro _; exact Int.le_refl _
          | cons a l ih =>
            intro h
            rw [List.map_cons, List.sum_cons]
            have h1 := h a List.mem_cons_self
            have h2 := ih fun e he => h e (List.mem_cons_of_mem _ he)
            omega
        exact this gs fun e he => (I.sh e he).1
      -- the promise
      refine ⟨_, rfl, _, rfl, _, _, rfl, rfl, a, n + 3 + 5 * t, left + 1, rfl, bx, by omega, by omega, by omega, fun q1 Ha q10 q11 bxa ba => ?_⟩
      refine ⟨_, rfl, _, rfl, _, _, rfl, _, _, rfl, rfl, a, _, _, rfl, bxa, by omega, ?_, ?_, fun q2 Hb q20 q21 bxb bb => ?_⟩
      · split <;> omega
      · split <;> omega
      refine ⟨(show 4 ≤ sizeLine by decide), fun p hp => ⟨_, rfl, a, _, 4, rfl, bxb.off (bxb.ne hp), by omega, by omega, by omega, fun q3 Hc q30 q31 bxc bc => ?_⟩⟩
      obtain ⟨v, hv1, hv2⟩ := atI_lt (xs := [.int 0, .int 1, .int q1, .int q2]) q30 q31
      obtain ⟨pr, rfl, pr0⟩ : ∃ m, v = .int m ∧ 0 ≤ m := by
        simp only [List.mem_cons, List.not_mem_nil, or_false] at hv2
        rcases hv2 with rfl | rfl | rfl | rfl
        · exact ⟨0, rfl, by decide⟩
        · exact ⟨1, rfl, by decide⟩
        · exact ⟨q1, rfl, q10⟩
        · exact ⟨q2, rfl, q20⟩
      have hpc : Hc p = some (.lst [.int 0, .int 1, .int q1, .int q2]) := bc _ _ (bxb.ne hp) upd_same
      refine ⟨p, _, q3, _, rfl, rfl, SqL.of hpc, hv1, ?_⟩
      have Bc : But a H8 Hc := (ba.trans bb).trans ((But.new hp).trans bc)
      refine ⟨_, rfl, _, rfl, _, _, rfl, ?_⟩
      have pm : ∃ m, (if left < pr then left else pr) = m ∧ 0 ≤ m ∧ m ≤ left := ⟨_, rfl, by split <;> omega, by split <;> omega⟩
      obtain ⟨pm, epm, pm0, pm1⟩ := pm
      rw [epm]
      refine ⟨_, rfl, _, rfl, _, _, rfl, rfl, ?_⟩
      refine ⟨_, rfl, _, _, rfl, ?_⟩
      have lw : ∃ m, (if pm > 1 then pm else 1) = m ∧ max 1 pm = m ∧ 1 ≤ m ∧ m ≤ (4 + r2) := ⟨_, rfl, by split <;> omega, by split <;> omega, by split <;> omega⟩
      obtain ⟨lw, elw, elw2, lw0, lw1⟩ := lw
      rw [elw]
      -- the ceiling
      refine ⟨_, rfl, _, rfl, _, rfl, _, rfl, _, rfl, _, rfl, _, _, rfl, rfl, _, _, rfl, rfl, a, _, _, rfl, bxc, by omega, by omega, by omega, fun q4 Hd q40 q41 bxd bd => ?_⟩
      refine ⟨_, _, rfl, rfl, (show 3 ≤ sizeLine by decide), fun p2 hp2 => ⟨_, rfl, a, _, 3, rfl, bxd.off (bxd.ne hp2), by omega, by omega, by omega, fun q5 He q50 q51 bxe be => ?_⟩⟩
      obtain ⟨v, hv3, hv4⟩ := atI_lt (xs := [.int (4 + r2), .int lw, .int (lw + q4)]) q50 q51
      obtain ⟨ce, rfl, ce0, ce1⟩ : ∃ m, v = .int m ∧ lw ≤ m ∧ m ≤ (4 + r2) := by
        simp only [List.mem_cons, List.not_mem_nil, or_false] at hv4
        rcases hv4 with rfl | rfl | rfl
        · exact ⟨(4 + r2), rfl, lw1, Int.le_refl _⟩
        · exact ⟨lw, rfl, Int.le_refl _, lw1⟩
        · exact ⟨lw + q4, rfl, by omega, by omega⟩
      have hp2e : He p2 = some (.lst [.int (4 + r2), .int lw, .int (lw + q4)]) := be _ _ (bxd.ne hp2) upd_same
      refine ⟨p2, _, q5, _, rfl, rfl, SqL.of hp2e, hv3, ?_⟩
      have Be : But a H8 He := Bc.trans (bd.trans ((But.new hp2).trans be))
      -- laid
      refine ⟨_, rfl, _, rfl, (show 2 ≤ sizeLine by decide), fun T hT => ?_⟩
      have nga : ga ≠ a := nga
      have hge : He ga = some (.dK kvs) := Be _ _ nga hg
      have hTg : T ≠ ga := ne_at hge hT
      have hTa : T ≠ a := bxe.ne hT
      have sRe : Same R He := Be.same nRa sR
      have nRT : R T = none := sRe.out hT
      have hgT : upd He T (.tup [.int pm, .int ce]) ga = some (.dK kvs) := by rw [upd_ne (Ne.symm hTg)]; exact hge
      refine ⟨_, rfl, _, rfl, ga, _, rfl, DPut.k (k := .inr z) hgT ?_, ?_⟩
      · have h1 : kvs.length = gs.length := by rw [rk.len, List.length_map]
        have h2 : gs.length = t := by
          have := congrArg List.length I.nm
          rw [List.length_map, List.length_take, List.length_take] at this
          have h3 : six.length = 6 := rfl
          rw [List.length_map, List.length_take] at ht
          omega
        have : 100 < sizeLine := by decide
        omega
      have hzn : z ∉ (six.take k).take t := fun hm => by
        obtain ⟨m, hm⟩ := List.mem_iff_getElem?.mp hm
        have hm2 : m < t ∧ (six.take k)[m]? = some z := by
          rw [List.getElem?_take] at hm
          split at hm
          · exact ⟨by assumption, hm⟩
          · cases hm
        have := nd_ix (six_nd.sublist (List.take_sublist k six)) hm2.2 hz
        omega
      have hnew : valV kvs (.inr z) = none := valV_none (by
        rw [rk.keysN, List.map_map]
        intro hm
        obtain ⟨e, he, q⟩ := List.mem_map.mp hm
        have q2 : e.1 = z := Sum.inr.inj q
        refine hzn ?_
        rw [← I.nm, ← q2]
        exact List.mem_map.mpr ⟨e, he, rfl⟩)
      rw [putK_new _ hnew]
      have sT : Same (upd R T (.tup [.int pm, .int ce])) (upd He T (.tup [.int pm, .int ce])) := sRe.put
      have nTg : upd R T (.tup [.int pm, .int ce]) ga = none := by rw [upd_ne (Ne.symm hTg)]; exact nRg
      refine ⟨left - pm, gs ++ [(z, pm, ce)], upd R T (.tup [.int pm, .int ce]), _, _, _, _, _, rfl, I.next hz pm0 pm1 (by omega) ce1, pR.put (fun _ _ z => nomatch z), sT.skip nTg, by rw [upd_ne (Ne.symm hTa)]; exact nRa, nTg, ?_, upd_same, ?_, ?_, ?_⟩
      · rw [List.map_append]
        refine RepK.snoc ?_ ?_ (rk.same (same_new nRT))
        · have := six_len z (List.mem_of_mem_take (List.mem_of_getElem? hz))
          have : 100 < sizeLine := by decide
          omega
        · exact .tup (SqT.of upd_same) (.cons (.int _) (.cons (.int _) .nil))
      · have hLe : He L = some (.lst ((six.take k).map V.str)) := Be _ _ nL hL7
        have hTL : T ≠ L := ne_at hLe hT
        rw [upd_ne hLg, upd_ne (Ne.symm hTL)]
        exact hLe
      · exact ((bxe.off hTa).off (Ne.symm (Ne.symm nga))).mono (by omega)
      · have BB' := BB.trans (Be.trans (But.new (o := .tup [.int pm, .int ce]) hT))
        exact fun b o hb e => by
          rw [upd_ne (fun q => by rw [q, n3g] at e; cases e)]
          exact BB' b o hb e
    · rintro σ H7 ⟨left, gs, R, kvs, o4, o5, o6, o7, rfl, I, pR, sR, nRa, nRg, rk, hg, hL7, bx, BB⟩
      have el : ((six.take k).map V.str).length = k := by
        rw [List.length_map, List.length_take]
        have : six.length = 6 := rfl
        omega
      rw [el] at I bx
      have hnm : gs.map (·.1) = six.take k := by
        rw [I.nm, List.take_take, Nat.min_self]
      have hnd : (gs.map (·.1)).Nodup := by
        rw [hnm]
        exact six_nd.sublist (List.take_sublist _ _)
      have hgl : gs.length = k := by
        have := congrArg List.length hnm
        rw [List.length_map, List.length_take] at this
        have : six.length = 6 := rfl
        omega
      have hkl : kvs.length = gs.length := by rw [rk.len, List.length_map]
      have ekeys : (kvs.map fun kv => kV kv.1) = (gs.map (·.1)).map V.str := by
        rw [rk.keys, List.map_map, List.map_map]
        rfl
      refine ⟨_, rfl, ga, kvs, rfl, .inl hg, fun nl hnl => ?_⟩
      rw [ekeys]
      have nnl := bx.ne hnl
      have hnlg : nl ≠ ga := ne_at hg hnl
      have nRnl : R nl = none := sR.out hnl
      have s8 : Same H7 (upd H7 nl (.lst ((gs.map (·.1)).map V.str))) := same_new hnl
      have h8 : upd H7 nl (.lst ((gs.map (·.1)).map V.str)) nl = some (.lst ((gs.map (·.1)).map V.str)) := upd_same
      generalize upd H7 nl (.lst ((gs.map (·.1)).map V.str)) = H8 at s8 h8 ⊢
      refine ⟨_, rfl, ga, kvs, rfl, s8 _ _ hg, _, rfl, by omega, by omega, fun L2 hL2 => ?_⟩
      have nL2 := (bx.same s8).ne hL2
      have hL2g : L2 ≠ ga := ne_at (s8 _ _ hg) hL2
      have hL2n : L2 ≠ nl := ne_at h8 hL2
      have nRL2 : R L2 = none := (sR.trans s8).out hL2
      rw [Int.toNat_natCast, hkl]
      refine lc_it (w := walk_range) (fun i H' => ∃ (ord rest : List Str), H' L2 = some (.lst (ord.map V.str)) ∧ H' nl = some (.lst (rest.map V.str)) ∧ (ord ++ rest).Perm (gs.map (·.1)) ∧ ord.length = i ∧ BoxAt H' a (n + 33 + i) ∧ ∀ b o, b ≠ a → b ≠ nl → b ≠ L2 → H8 b = some o → H' b = some o)
        ⟨[], gs.map (·.1), upd_same, by rw [upd_ne (Ne.symm hL2n)]; exact h8, List.Perm.refl _, rfl, ((bx.same s8).off nL2).mono (by omega), fun b o _ _ h3 e => by rw [upd_ne h3]; exact e⟩ (fun _ _ _ _ => True.intro) ?_ ?_
      · rintro i x H9 H10 hi ⟨ord, rest, g1, g2, g3, g4, g5, g6⟩ ⟨rfl, hx⟩
        have hrl : ord.length + rest.length = gs.length := by
          have := g3.length_eq
          rw [List.length_append, List.length_map] at this
          exact this
        refine ⟨rfl, ⟨_, rfl, .inl ⟨rfl, _, SqL.of g2⟩, _, rfl, _, rfl, nl, _, rfl, .inl (SqL.of g2), a, _, _, rfl, g5, by omega, ?_, ?_, fun r H11 r0 r1 b11 t11 => ?_⟩⟩
        · rw [List.length_map]; omega
        · rw [List.length_map]; omega
        · rw [List.length_map] at r1
          have hr : r.toNat < rest.length := by omega
          have hy : rest[r.toNat]? = some rest[r.toNat] := List.getElem?_eq_getElem hr
          have hn11 : H11 nl = some (.lst (rest.map V.str)) := t11 _ _ nnl g2
          refine ⟨nl, _, r, r.toNat, .str rest[r.toNat], rfl, rfl, hn11, by omega, by omega, ?_, by rw [List.getElem?_map, hy]; rfl, ord.map V.str, ?_, ?_, ord ++ [rest[r.toNat]], rest.eraseIdx r.toNat, ?_, ?_, ?_, ?_, ?_, ?_⟩
          · refine (ixN_seq (show ixN (rest.map V.str).length r = some r.toNat from ?_)).1
            unfold ixN
            rw [List.length_map, if_pos r0, if_pos (by omega)]
          · rw [upd_ne hL2n]
            exact t11 _ _ nL2 g1
          · rw [List.length_map]
            have : 100 < sizeLine := by decide
            omega
          · rw [upd_same, List.map_append]
            rfl
          · rw [upd_ne (Ne.symm hL2n), upd_same, erase_map]
          · rw [List.append_assoc]
            exact (List.Perm.append_left ord (erase_perm hy)).trans g3
          · rw [List.length_append, g4]
            rfl
          · exact ((b11.off nnl).off nL2).mono (by omega)
          · intro b o h1 h2 h3 e
            rw [upd_ne h3, upd_ne h2]
            exact t11 _ _ h1 (g6 b o h1 h2 h3 e)
      · rintro H9 ⟨ord, rest, g1, g2, g3, g4, g5, g6⟩
        have hrest : rest = [] := by
          have := g3.length_eq
          rw [List.length_append, List.length_map] at this
          exact List.length_eq_zero_iff.mp (by omega)
        subst hrest
        rw [List.append_nil] at g3
        have gsp : (ord.map (byName gs)).Perm gs := by
          have := g3.map (byName gs)
          rw [byName_all hnd] at this
          exact this
        obtain ⟨okG, okL, ok6⟩ := case_ok hlen I hk gsp
        have sR9 : Same R H9 := fun b o e => g6 b o (fun q => by rw [q, nRa] at e; cases e) (fun q => by rw [q, nRnl] at e; cases e) (fun q => by rw [q, nRL2] at e; cases e) (s8 _ _ (sR _ _ e))
        have hg9 : H9 ga = some (.dK kvs) := g6 _ _ nga (Ne.symm hnlg) (Ne.symm hL2g) (s8 _ _ hg)
        have BB9 : But a H H9 := fun b o hb e => by
          have e7 := BB b o hb e
          exact g6 b o hb (fun q => by rw [q, hnl] at e7; cases e7) (fun q => by rw [q] at e7; rw [s8 _ _ e7] at hL2; cases hL2) (s8 _ _ e7)
        refine ⟨_, rfl, _, rfl, L2, rfl, ⟨_, SqL.of g1⟩, fun M hM => ?_⟩
        have hol : ord.length ≤ 6 := by omega
        refine lc_reps (K := K) (w := walk_list) (R := R) (fun i => (ord.map (byName gs))[i]?.map fun e => D.tup [.str e.1, .tup [.int e.2.1, .int e.2.2]]) hM (by rw [List.length_map]; omega) sR9 pR (fun H' s' => SqL.of (s' _ _ g1)) ?_ ?_
        · rintro i x H10 H11 R1 Y2 N2 hi s10 hnM gr pl sr ⟨rfl, hx⟩ k3 k4
          rw [List.getElem?_map] at hx
          obtain ⟨z, hz, rfl⟩ := Option.map_eq_some_iff.mp hx
          obtain ⟨e, he, ez⟩ := List.mem_map.mp (g3.mem_iff.mp (List.mem_of_getElem? hz))
          have eb : byName gs z = e := by
            rw [← ez]
            exact byName_mem hnd e he
          obtain ⟨idx, hidx⟩ := List.mem_iff_getElem?.mp he
          have hidx2 : gs[idx]? = some (z, e.2.1, e.2.2) := by
            rw [hidx, ← ez]
          obtain ⟨v, g7, g8⟩ : ∃ v, valV kvs (.inr z) = some v ∧ Rep K R v (.tup [.int e.2.1, .int e.2.2]) := by
            have hd := dlook_gs hnd hidx2
            rcases rk.val z with ⟨v, d, e1, e2, q⟩ | ⟨_, e2⟩
            · rw [hd] at e2
              cases e2
              exact ⟨v, e1, q⟩
            · rw [hd] at e2
              cases e2
          have hzl : z.length ≤ sizeLine := by
            have h1 : z ∈ six.take k := by
              rw [← hnm]
              exact List.mem_map.mpr ⟨e, he, ez⟩
            have := six_len z (List.mem_of_mem_take h1)
            have : 100 < sizeLine := by decide
            omega
          refine ⟨rfl, ⟨_, rfl, _, rfl, _, rfl, ga, v, rfl, .inl ⟨kvs, .inr z, .inl (s10 _ _ hg9), rfl, g7.symm⟩, (show 2 ≤ sizeLine by decide), fun T3 hT3 => ?_⟩⟩
          refine k3 _ _ (upd R1 T3 (.tup [.str z, v])) (.tup [.str z, .tup [.int e.2.1, .int e.2.2]]) ?_ (same_new hT3) ((Grow.refl _ _).put hT3 (sr.out hT3)) (pl.put (fun _ _ z => nomatch z)) sr.put (.tup (SqT.of upd_same) (.cons (.str _ hzl) (.cons (g8.same (gr.same.trans (same_new (sr.out hT3)))) .nil)))
          rw [List.getElem?_map, hz]
          show some (D.tup [.str (byName gs z).1, .tup [.int (byName gs z).2.1, .int (byName gs z).2.2]]) = _
          rw [eb, ez]
        · intro H10 R1 zs s10 gr pl sr hRM hMz rz
          have ez : (List.range (ord.map V.str).length).filterMap (fun i => (ord.map (byName gs))[i]?.map fun e => D.tup [.str e.1, .tup [.int e.2.1, .int e.2.2]]) = ((ord.map (byName gs)).map fun e => (e.1, D.tup [.int e.2.1, .int e.2.2])).map fun e => D.tup [.str e.1, e.2] := by
            have : (ord.map V.str).length = (ord.map (byName gs)).length := by rw [List.length_map, List.length_map]
            rw [this, range_all]
            generalize ord.map (byName gs) = gg
            rw [List.map_map]
            rfl
          rw [ez] at rz
          obtain ⟨ps, kvs', rfl, pp, rk'⟩ := pairs_of rz
          refine ⟨M, ps, kvs', rfl, SqL.of hMz, paired_mono (fun _ _ h => (Lq.of sr).tup h) pp, fun p9 hp9 => ⟨(show 2 ≤ sizeLine by decide), fun TT hTT => ?_⟩⟩
          have nd2 : ((((ord.map (byName gs)).map fun e => (e.1, D.tup [.int e.2.1, .int e.2.2]))).map (·.1)).Nodup := by
            rw [List.map_map]
            exact okG.nd
          rw [rk'.merge nd2]
          have bx10 := g5.same s10
          have np9 := bx10.ne hp9
          have nTT := (bx10.off np9 (o := .dK (mergeK [] kvs'))).ne hTT
          have n1 : R1 p9 = none := sr.out hp9
          have sp : Same (upd R1 p9 (.dK kvs')) (upd H10 p9 (.dK kvs')) := sr.put
          have hTT2 : upd H10 p9 (.dK kvs') TT = none := by
            rw [rk'.merge nd2] at hTT
            exact hTT
          have n2 : upd R1 p9 (.dK kvs') TT = none := sp.out hTT2
          have nR1a : R1 a = none := by
            obtain ⟨x, y, c, e, _⟩ := g5
            rw [gr.old a (by rw [e]; exact fun z => nomatch z)]
            exact nRa
          refine hq _ (ord.map (byName gs)) (upd (upd R1 p9 (.dK kvs')) TT (.tup [.int (4 + r2), .ref p9])) _ _ okG okL ok6 (Plain.put (Plain.put pl (by exact fun _ _ z => nomatch z)) (by exact fun _ _ z => nomatch z)) sp.put ?_ ?_ ?_ ?_
          · rw [upd_ne (Ne.symm nTT), upd_ne (Ne.symm np9)]
            exact nR1a
          · refine .tup (SqT.of upd_same) (.cons (.int _) (.cons ?_ .nil))
            exact .dct (.inl (same_new n2 _ _ upd_same)) (rk'.same ((same_new n1).trans (same_new n2)))
          · exact ((bx10.off np9).off nTT).mono (by omega)
          · exact BB9.trans ((But.of s10).trans ((But.new hp9).trans (But.new hTT2)))
end
end K87

set_option Elab.async false
set_option linter.all false
set_option maxRecDepth 100000
set_option maxHeartbeats 1000000
namespace K87
open PySem PySem.Spec PyProof.Rows L2 RP
theorem reps_snoc {K : PySem.W.Frag} {R : Hp} {y : V} {d : D} (q : Rep K R y d) : ∀ {zs : List V} {ds : List D}, Reps K R zs ds → Reps K R (zs ++ [y]) (ds ++ [d])
  | _, _, .nil => .cons q .nil
  | _, _, .cons h t => .cons h (reps_snoc q t)
section
variable {P : Program} {w : World} {K : PySem.W.Frag} {mg : Str → Option Value} {base : Heap}
/-! ### _law_needs -/
theorem sc__law_needs : FnScope ["box", "length", "guests", "name", "found", "k", "turns", "steps"] ["box", "length", "guests", "name"] (defScope s__law_needs) := ⟨rfl, rfl, rfl, by decide +kernel, rfl, by decide +kernel, by decide +kernel⟩
def spLNeeds (K : PySem.W.Frag) : Sp := fun vs H Q _ => ∃ (R : Hp) (a : Addr) (n : Int) (vg : V) (len : Int) (gs : List G3) (j : Nat) (z : Str) (p c : Int), vs = [.ref a, .int len, vg, .str z] ∧ BoxAt H a n ∧ n ≤ 2000 ∧ Same R H ∧ Plain R ∧ R a = none ∧ Rep K R vg (gD gs) ∧ GsOk len gs ∧ gs[j]? = some (z, p, c) ∧
  ∀ (l : List (Int × Int)) (R' H' : Hp) (fl : Addr), l.length ≤ 60 → (∀ e ∈ l, (0 ≤ e.1 ∧ e.1 ≤ 400) ∧ 0 ≤ e.2 ∧ e.2 ≤ 400) → Same R R' → Plain R' → Same R' H' → R' a = none → Rep K R' (.ref fl) (.lst (l.map ndD)) → BoxAt H' a (n + 100) → But a H H' → Q (.ref fl) H'
theorem ok__law_needs (T : Txt K mg) (G__law_take : Def P w K mg base 1 "_law_take" ["box", "many"] (spTake K)) (G__law_surely : Def P w K mg base 3 "_law_surely" ["length", "guests", "name", "turns"] (spSurely K)) : Def P w K mg base 4 "_law_needs" ["box", "length", "guests", "name"] (spLNeeds K) := by
  obtain ⟨f, fd, F⟩ := T.a__law_needs
  refine Def.mk F sc__law_needs (fun _ _ _ _ _ _ us hl => match us, hl with | [_, _, _, _], _ => rfl) (fun vs H Q E h => ?_) (fun cdv A outer s H vs Q E hr h => ?_)
  · obtain ⟨R, a, n, vg, len, gs, j, z, p, c, rfl, _⟩ := h
    rfl
  · obtain ⟨R, a, n, vg, len, gs, j, z, p, c, rfl, box, hn, sR, pR, nRa, hg, ok, hj, hq⟩ := h
    have hlen := ok.len
    refine ⟨_, (pss_cons (ps_set (i := 4) sc__law_needs.nd rfl (Or.inl rfl) (pe_lst pa_nil))
      (pss_cons (ps_for (passes_of rfl) rfl (pi_range1 (by rfl) T.b_range (pa_cons (pe_d G__law_take (hr.mono (by decide)) (by rfl) (pa_cons (pv 0) (pa_cons pe_int pa_nil))) pa_nil)) (pg_name (i := 5) sc__law_needs.nd rfl (Or.inl rfl))
        (pss_cons (ps_set (i := 6) sc__law_needs.nd rfl (Or.inl rfl) (pe_ix (kix_list K rfl) (pe_lst (pa_cons (pe_d G__law_take (hr.mono (by decide)) (by rfl) (pa_cons (pv 0) (pa_cons (pe_op op_add (pv 1) pe_int) pa_nil))) (pa_cons (pe_d G__law_take (hr.mono (by decide)) (by rfl) (pa_cons (pv 0) (pa_cons (pe_op op_mulW pe_int (pv 1)) pa_nil))) (pa_cons (pe_d G__law_take (hr.mono (by decide)) (by rfl) (pa_cons (pv 0) (pa_cons pe_int pa_nil))) pa_nil)))) (pe_d G__law_take (hr.mono (by decide)) (by rfl) (pa_cons (pv 0) (pa_cons pe_int pa_nil))) (fun _ _ => rfl)))
      (pss_cons (ps_set (i := 7) sc__law_needs.nd rfl (Or.inl rfl) (pe_op op_add (pe_d G__law_surely (hr.mono (by decide)) (by rfl) (pa_cons (pv 1) (pa_cons (pv 2) (pa_cons (pv 3) (pa_cons (pv 6) pa_nil))))) (pe_ix (kix_list K rfl) (pe_lst (pa_cons pe_int (pa_cons pe_int (pa_cons pe_int (pa_cons pe_int (pa_cons (pe_un un_neg pe_int) pa_nil)))))) (pe_d G__law_take (hr.mono (by decide)) (by rfl) (pa_cons (pv 0) (pa_cons pe_int pa_nil))) (fun _ _ => rfl))))
      (pss_one (ps_expr (kpe_bm K rfl (pe_bm PySem.F.plainAttrs_list PySem.F.slot_list_append PySem.F.type_list_append mt_append (pv 4) (pa_cons (pe_tup (pa_cons (pv 6) (pa_cons (pe_callB (call_max2 rfl) (by rfl) T.b_max (by decide +kernel) (pa_cons pe_int (pa_cons (pe_callB (call_min2 rfl) (by rfl) T.b_min (by decide +kernel) (pa_cons pe_int (pa_cons (pv 7) pa_nil))) pa_nil))) pa_nil))) pa_nil))))))))
      (pss_one (ps_ret (pv 4))))), ?_⟩
    refine ⟨Nat.zero_le _, fun fl hfl => ?_⟩
    have nfl := box.ne hfl
    have nRfl := sR.out hfl
    have h1 : upd H fl (.lst []) fl = some (.lst []) := upd_same
    have B1 : But a H (upd H fl (.lst [])) := But.new hfl
    have box1 := box.off (o := .lst []) nfl
    have sR1 : Same R (upd H fl (.lst [])) := sR.skip nRfl
    generalize upd H fl (.lst []) = H1 at h1 B1 box1 sR1 ⊢
    refine ⟨_, rfl, a, n, 7, rfl, box1, by omega, by omega, by omega, fun r H2 r0 r1 box2 bt2 => ⟨_, rfl, by omega, by omega, ?_⟩⟩
    refine for_it (w := walk_range) (fun t σ H' => ∃ (l : List (Int × Int)) (R' : Hp) (zs : List V) (o5 o6 o7 : Option V), σ = [some (.ref a), some (.int len), some vg, some (.str z), some (.ref fl), o5, o6, o7] ∧ l.length = t ∧ (∀ e ∈ l, (0 ≤ e.1 ∧ e.1 ≤ 400) ∧ 0 ≤ e.2 ∧ e.2 ≤ 400) ∧ Same R R' ∧ Plain R' ∧ Same R' H' ∧ R' a = none ∧ R' fl = none ∧
        H' fl = some (.lst zs) ∧ Reps K R' zs (l.map ndD) ∧ BoxAt H' a (n + 1 + 5 * t) ∧ But a H H')
      ⟨[], R, [], none, none, none, rfl, rfl, (fun _ h => nomatch h), Same.refl R, pR, bt2.same nRa sR1, nRa, nRfl, bt2 _ _ nfl h1, .nil, box2.mono (by omega), B1.trans bt2⟩ (fun _ _ _ _ _ => True.intro) ?_ ?_
    · rintro t x σ H7 H8 ht ⟨l, R1, zs, o5, o6, o7, rfl, hl, hle, s1, p1, sH, n1a, n1f, hf, hrz, bx, BB⟩ ⟨rfl, hx⟩
      have ht6 : t < 7 := by
        have : t < r.toNat := ht
        omega
      refine ⟨_, rfl, _, rfl, _, _, rfl, rfl, a, _, _, rfl, bx, by omega, by omega, by omega, fun q1 Ha q10 q11 bxa ba => ?_⟩
      refine ⟨_, rfl, _, rfl, _, _, rfl, rfl, wmul (by decide) (by omega), a, _, _, rfl, bxa, by omega, by omega, by omega, fun q2 Hb q20 q21 bxb bb => ?_⟩
      refine ⟨_, rfl, a, _, _, rfl, bxb, by omega, by omega, by omega, fun q3 Hc q30 q31 bxc bc => ?_⟩
      refine ⟨(show 3 ≤ sizeLine by decide), fun p hp => ⟨_, rfl, a, _, 3, rfl, bxc.off (bxc.ne hp), by omega, by omega, by omega, fun q4 Hd q40 q41 bxd bd => ?_⟩⟩
      obtain ⟨v, hv1, hv2⟩ := atI_lt (xs := [.int q1, .int q2, .int q3]) q40 q41
      obtain ⟨tu, rfl, tu0, tu1⟩ : ∃ m, v = .int m ∧ 0 ≤ m ∧ m ≤ 400 := by
        simp only [List.mem_cons, List.not_mem_nil, or_false] at hv2
        rcases hv2 with rfl | rfl | rfl
        · exact ⟨q1, rfl, q10, by omega⟩
        · exact ⟨q2, rfl, q20, by omega⟩
        · exact ⟨q3, rfl, q30, by omega⟩
      have hpd : Hd p = some (.lst [.int q1, .int q2, .int q3]) := bd _ _ (bxc.ne hp) upd_same
      have Bd : But a H8 Hd := ba.trans (bb.trans (bc.trans ((But.new hp).trans bd)))
      refine ⟨p, _, q4, _, rfl, rfl, SqL.of hpd, hv1, ?_⟩
      have sRd : Same R1 Hd := Bd.same n1a sH
      refine ⟨_, rfl, _, rfl, _, rfl, _, rfl, R1, vg, len, tu, gs, j, z, _, _, rfl, sRd, p1, hg.same s1, ok, hj, tu0, by omega, fun He se => ?_⟩
      have bxe := bxd.same se
      refine ⟨_, rfl, (show 5 ≤ sizeLine by decide), fun p2 hp2 => ⟨_, rfl, a, _, 5, rfl, bxe.off (bxe.ne hp2), by omega, by omega, by omega, fun q5 Hf q50 q51 bxf bf => ?_⟩⟩
      obtain ⟨v, hv3, hv4⟩ := atI_lt (xs := [.int 0, .int 0, .int 1, .int 2, .int (-1)]) q50 q51
      obtain ⟨dv, rfl⟩ : ∃ m, v = .int m := by
        simp only [List.mem_cons, List.not_mem_nil, or_false] at hv4
        rcases hv4 with rfl | rfl | rfl | rfl | rfl
        · exact ⟨0, rfl⟩
        · exact ⟨0, rfl⟩
        · exact ⟨1, rfl⟩
        · exact ⟨2, rfl⟩
        · exact ⟨-1, rfl⟩
      have hpf : Hf p2 = some (.lst [.int 0, .int 0, .int 1, .int 2, .int (-1)]) := bf _ _ (bxe.ne hp2) upd_same
      have Bf : But a H8 Hf := Bd.trans ((But.of se).trans ((But.new hp2).trans bf))
      refine ⟨p2, _, q5, _, rfl, rfl, SqL.of hpf, hv3, _, _, rfl, rfl, ?_⟩
      have hff : Hf fl = some (.lst zs) := Bf _ _ nfl hf
      refine ⟨_, rfl, .inl ⟨rfl, _, SqL.of hff⟩, _, rfl, _, rfl, _, _, rfl, _, _, rfl, (show 2 ≤ sizeLine by decide), fun T hT => ?_⟩
      obtain ⟨sv, esv, sv0, sv1⟩ : ∃ m, (if (if sureN len gs j tu + dv < 400 then sureN len gs j tu + dv else 400) > 0 then (if sureN len gs j tu + dv < 400 then sureN len gs j tu + dv else 400) else 0) = m ∧ 0 ≤ m ∧ m ≤ 400 := ⟨_, rfl, by split <;> split <;> omega, by split <;> split <;> omega⟩
      have esv' : upd Hf T (.tup [.int tu, .int (if (if sureN len gs j tu + dv < 400 then sureN len gs j tu + dv else 400) > 0 then (if sureN len gs j tu + dv < 400 then sureN len gs j tu + dv else 400) else 0)]) = upd Hf T (.tup [.int tu, .int sv]) := by rw [esv]
      have hTf : T ≠ fl := ne_at hff hT
      have hTa : T ≠ a := bxf.ne hT
      have sRf : Same R1 Hf := Bf.same n1a sH
      have nT := sRf.out hT
      have zl : zs.length = l.length := by rw [hrz.len, List.length_map]
      refine ⟨fl, zs, .ref T, rfl, rfl, ?_, ?_, ?_⟩
      · rw [upd_ne (Ne.symm hTf)]
        exact hff
      · have : 100 < sizeLine := by decide
        omega
      · refine ⟨l ++ [(tu, sv)], upd R1 T (.tup [.int tu, .int sv]), zs ++ [.ref T], _, _, _, rfl, ?_, ?_, s1.trans (same_new nT), p1.put (fun _ _ z => nomatch z), ?_, ?_, ?_, upd_same, ?_, ?_, ?_⟩
        · rw [List.length_append, hl]; rfl
        · intro e he
          rcases List.mem_append.mp he with h | h
          · exact hle e h
          · rw [List.mem_singleton.mp h]
            exact ⟨⟨tu0, tu1⟩, sv0, sv1⟩
        · refine Same.skip ?_ ?_
          · show Same _ (upd Hf T (.tup [.int tu, .int (if (if sureN len gs j tu + dv < 400 then sureN len gs j tu + dv else 400) > 0 then (if sureN len gs j tu + dv < 400 then sureN len gs j tu + dv else 400) else 0)]))
            rw [esv']
            exact sRf.put
          · rw [upd_ne (Ne.symm hTf)]; exact n1f
        · rw [upd_ne (Ne.symm hTa)]; exact n1a
        · rw [upd_ne (Ne.symm hTf)]; exact n1f
        · rw [List.map_append]
          exact reps_snoc (.tup (SqT.of upd_same) (.cons (.int _) (.cons (.int _) .nil))) (hrz.same (same_new nT))
        · exact ((bxf.off hTa).off (Ne.symm (Ne.symm nfl))).mono (by omega)
        · have BB' := BB.trans (Bf.trans (But.new (o := .tup [.int tu, .int (if (if sureN len gs j tu + dv < 400 then sureN len gs j tu + dv else 400) > 0 then (if sureN len gs j tu + dv < 400 then sureN len gs j tu + dv else 400) else 0)]) hT))
          exact fun b o hb e => by
            rw [upd_ne (fun q => by rw [q, hfl] at e; cases e)]
            exact BB' b o hb e
    · rintro σ H7 ⟨l, R1, zs, o5, o6, o7, rfl, hl, hle, s1, p1, sH, n1a, n1f, hf, hrz, bx, BB⟩
      have hl2 : l.length = r.toNat := hl
      refine ⟨_, rfl, hq l (upd R1 fl (.lst zs)) H7 fl (by omega) hle (s1.trans (same_new n1f)) (p1.put (fun _ _ z => nomatch z)) ?_ ?_ ?_ (bx.mono (by omega)) BB⟩
      · intro b o e
        by_cases q : b = fl
        · rw [q, upd_same] at e
          rw [q, hf]
          exact e
        · rw [upd_ne q] at e
          exact sH _ _ e
      · rw [upd_ne (Ne.symm nfl)]; exact n1a
      · exact .lst (SqL.of upd_same) (hrz.same (same_new n1f))
end
end K87

set_option Elab.async false
set_option linter.all false
set_option maxRecDepth 100000
set_option maxHeartbeats 1000000
namespace K87
open PySem PySem.Spec PyProof.Rows L2 RP
/-- which class is which -/
structure Exm (K : PySem.W.Frag) : Prop where
  n_n : PySem.W.exmOne K (.ref (He.ga K "NoNumber")) (.ref (He.ga K "NoNumber")) = some true
  s_n : PySem.W.exmOne K (.ref (He.ga K "NoShare")) (.ref (He.ga K "NoNumber")) = some false
  s_s : PySem.W.exmOne K (.ref (He.ga K "NoShare")) (.ref (He.ga K "NoShare")) = some true
  g_n : PySem.W.exmOne K (.ref (He.ga K "NoGuest")) (.ref (He.ga K "NoNumber")) = some false
  g_s : PySem.W.exmOne K (.ref (He.ga K "NoGuest")) (.ref (He.ga K "NoShare")) = some false
  g_g : PySem.W.exmOne K (.ref (He.ga K "NoGuest")) (.ref (He.ga K "NoGuest")) = some true
  d_n : PySem.W.exmOne K (.ref (He.ga K "NoNeeds")) (.ref (He.ga K "NoNumber")) = some false
  d_s : PySem.W.exmOne K (.ref (He.ga K "NoNeeds")) (.ref (He.ga K "NoShare")) = some false
  d_g : PySem.W.exmOne K (.ref (He.ga K "NoNeeds")) (.ref (He.ga K "NoGuest")) = some false
  d_d : PySem.W.exmOne K (.ref (He.ga K "NoNeeds")) (.ref (He.ga K "NoNeeds")) = some true
section
variable {K : PySem.W.Frag} {mg : Str → Option Value}
theorem xc_NoNumber (T : Txt K mg) : GX.XC K GX.bVE (He.ga K "NoNumber") "found" := by obtain ⟨_, _, F⟩ := T.x_NoNumber; exact F.xc
theorem xc_NoShare (T : Txt K mg) : GX.XC K GX.bVE (He.ga K "NoShare") "found" := by obtain ⟨_, _, F⟩ := T.x_NoShare; exact F.xc
theorem xc_NoGuest (T : Txt K mg) : GX.XC K GX.bKE (He.ga K "NoGuest") "found" := by obtain ⟨_, _, F⟩ := T.x_NoGuest; exact F.xc
theorem xc_NoNeeds (T : Txt K mg) : GX.XC K GX.bVE (He.ga K "NoNeeds") "found" := by obtain ⟨_, _, F⟩ := T.x_NoNeeds; exact F.xc
theorem mg_NoNumber (T : Txt K mg) : mg "NoNumber" = some (.ref (He.ga K "NoNumber")) := by obtain ⟨_, _, F⟩ := T.x_NoNumber; exact F.g
theorem mg_NoShare (T : Txt K mg) : mg "NoShare" = some (.ref (He.ga K "NoShare")) := by obtain ⟨_, _, F⟩ := T.x_NoShare; exact F.g
theorem mg_NoGuest (T : Txt K mg) : mg "NoGuest" = some (.ref (He.ga K "NoGuest")) := by obtain ⟨_, _, F⟩ := T.x_NoGuest; exact F.g
theorem mg_NoNeeds (T : Txt K mg) : mg "NoNeeds" = some (.ref (He.ga K "NoNeeds")) := by obtain ⟨_, _, F⟩ := T.x_NoNeeds; exact F.g
end
def tsW (C : Addr) (word : Str) : Addr → Value → Option Addr → TS := fun a cls d => tRet (tLst (tCons (tC (.str word)) (tCons (GX.tXfld C "found" a cls d (tVar 5)) tNil)))
def tsO : Addr → Value → Option Addr → TS := fun _ _ _ => tRet (tLst (tCons (tC (.str "other")) (tCons (tC .non) tNil)))
def clW (K : PySem.W.Frag) : List GX.Cl := [(.ref (He.ga K "NoNumber"), some 5, tsW (He.ga K "NoNumber") "number"), (.ref (He.ga K "NoShare"), some 5, tsW (He.ga K "NoShare") "share"), (.ref (He.ga K "NoGuest"), some 5, tsW (He.ga K "NoGuest") "guest"),
  (.ref (He.ga K "NoNeeds"), some 5, tsW (He.ga K "NoNeeds") "needs"), (.ref (He.ga K "GuestError"), none, tsO), (.ref (He.ga K "Missing"), none, tsO)]
section
variable {K : PySem.W.Frag} {H : Hp} {Wout : WX} {D : Ends} {σ : L2.St} {v : V}
theorem suite_ok {x word : Str} (hl : σ.length = 6) (hq : ∀ q H', Same H H' → H' q = some (.lst [.str word, v]) → D.rt (.ref q) H') {H' : Hp} {d a : Addr} (s : Same H H') (e : H' d = some (.xd [("found", v)])) :
    GX.enter D (some 5) (tsW (He.ga K x) word a (.ref (He.ga K x)) (some d)) a σ H' := by
  have h5 : (σ.set 5 (some (.ref a)))[5]? = some (some (.ref a)) := by
    rw [List.getElem?_set_self (by omega)]
  refine ⟨_, h5, rfl, rfl, d, v, rfl, e, (show 2 ≤ sizeLine by decide), fun q hq' => ?_⟩
  exact hq q _ (s.trans (same_new hq')) upd_same
theorem err_num (X : Exm K) (hl : σ.length = 6) (hq : ∀ q H', Same H H' → H' q = some (.lst [.str "number", v]) → D.rt (.ref q) H') : Errs K "NoNumber" "found" v H (fun cls d H' => GX.wMA K Wout D (clW K) cls d σ H') :=
  fun H' d s hd e => ⟨true, X.n_n, fun _ a ha => suite_ok hl hq s e, fun h => nomatch h⟩
theorem err_share (X : Exm K) (hl : σ.length = 6) (hq : ∀ q H', Same H H' → H' q = some (.lst [.str "share", v]) → D.rt (.ref q) H') : Errs K "NoShare" "found" v H (fun cls d H' => GX.wMA K Wout D (clW K) cls d σ H') :=
  fun H' d s hd e => ⟨false, X.s_n, (fun h => nomatch h), fun _ => ⟨true, X.s_s, fun _ a ha => suite_ok hl hq s e, fun h => nomatch h⟩⟩
theorem err_guest (X : Exm K) (hl : σ.length = 6) (hq : ∀ q H', Same H H' → H' q = some (.lst [.str "guest", v]) → D.rt (.ref q) H') : Errs K "NoGuest" "found" v H (fun cls d H' => GX.wMA K Wout D (clW K) cls d σ H') :=
  fun H' d s hd e => ⟨false, X.g_n, (fun h => nomatch h), fun _ => ⟨false, X.g_s, (fun h => nomatch h), fun _ => ⟨true, X.g_g, fun _ a ha => suite_ok hl hq s e, fun h => nomatch h⟩⟩⟩
theorem err_needs (X : Exm K) (hl : σ.length = 6) (hq : ∀ q H', Same H H' → H' q = some (.lst [.str "needs", v]) → D.rt (.ref q) H') : Errs K "NoNeeds" "found" v H (fun cls d H' => GX.wMA K Wout D (clW K) cls d σ H') :=
  fun H' d s hd e => ⟨false, X.d_n, (fun h => nomatch h), fun _ => ⟨false, X.d_s, (fun h => nomatch h), fun _ => ⟨false, X.d_g, (fun h => nomatch h), fun _ => ⟨true, X.d_d, fun _ a ha => suite_ok hl hq s e, fun h => nomatch h⟩⟩⟩⟩
end
/-- what is asked, what is answered -/
def AnsOk (way : Int) (dl dg dn dm : D) (vl vg vn vm : V) (word : Str) (rv : V) : Prop :=
  (caseR dl dg dn = 0 ∧ word = "number" ∧ rv = vl) ∨ (caseR dl dg dn = 1 ∧ word = "share" ∧ rv = vg) ∨ (caseR dl dg dn = 2 ∧ way < 4 ∧ word = "guest" ∧ rv = vn) ∨
  (caseR dl dg dn = 3 ∧ ((way = 0 ∧ dm.whole 1 dl.iv = false) ∨ (way = 1 ∧ dm.whole 0 400 = false)) ∧ word = "number" ∧ rv = vm) ∨ (caseR dl dg dn = 3 ∧ (way = 2 ∨ way = 3) ∧ dm.needs = false ∧ word = "needs" ∧ rv = vm) ∨
  (caseR dl dg dn = 3 ∧ way = 0 ∧ dm.whole 1 dl.iv = true ∧ (∃ len gs j z p c many, Good dl dg dn len gs j z p c ∧ dm = .int many) ∧ word = "told" ∧ rv = .non)
section
variable {way : Int} {dl dg dn dm : D} {vl vg vn vm : V} {word : Str} {rv : V}
theorem AnsOk.a0 (h : AnsOk way dl dg dn dm vl vg vn vm word rv) (c : caseR dl dg dn = 0) : word = "number" ∧ rv = vl := by
  rcases h with h | h | h | h | h | h
  · exact h.2
  all_goals exact absurd (c.symm.trans h.1) (by decide)
theorem AnsOk.a1 (h : AnsOk way dl dg dn dm vl vg vn vm word rv) (c : caseR dl dg dn = 1) : word = "share" ∧ rv = vg := by
  rcases h with h | h | h | h | h | h
  · exact absurd (c.symm.trans h.1) (by decide)
  · exact h.2
  all_goals exact absurd (c.symm.trans h.1) (by decide)
theorem AnsOk.a2 (h : AnsOk way dl dg dn dm vl vg vn vm word rv) (c : caseR dl dg dn = 2) : word = "guest" ∧ rv = vn := by
  rcases h with h | h | h | h | h | h
  · exact absurd (c.symm.trans h.1) (by decide)
  · exact absurd (c.symm.trans h.1) (by decide)
  · exact h.2.2
  all_goals exact absurd (c.symm.trans h.1) (by decide)
theorem AnsOk.a3 (h : AnsOk way dl dg dn dm vl vg vn vm word rv) (c : caseR dl dg dn = 3) : (((way = 0 ∧ dm.whole 1 dl.iv = false) ∨ (way = 1 ∧ dm.whole 0 400 = false)) ∧ word = "number" ∧ rv = vm) ∨ ((way = 2 ∨ way = 3) ∧ dm.needs = false ∧ word = "needs" ∧ rv = vm) ∨
    (way = 0 ∧ dm.whole 1 dl.iv = true ∧ (∃ len gs j z p c many, Good dl dg dn len gs j z p c ∧ dm = .int many) ∧ word = "told" ∧ rv = .non) := by
  rcases h with h | h | h | h | h | h
  · exact absurd (c.symm.trans h.1) (by decide)
  · exact absurd (c.symm.trans h.1) (by decide)
  · exact absurd (c.symm.trans h.1) (by decide)
  · exact .inl h.2
  · exact .inr (.inl h.2)
  · exact .inr (.inr h.2)
end
theorem caseR_0 {dl dg dn : D} (h : dl.whole 4 60 = false) : caseR dl dg dn = 0 := by
  cases dl with
  | int len =>
    show (if (D.int len).whole 4 60 = true then _ else 0) = 0
    rw [h]
    rfl
  | _ => rfl
theorem caseR_1 {dl dg dn : D} (h : dl.whole 4 60 = true) (h2 : dg.shares dl.iv = false) : caseR dl dg dn = 1 := by
  obtain ⟨len, rfl, _⟩ := whole_int h
  show (if (D.int len).whole 4 60 = true then if dg.shares len = true then _ else 1 else 0) = 1
  have h3 : dg.shares len = false := h2
  rw [if_pos h, h3]
  rfl
theorem caseR_ge {dl dg dn : D} (h : dl.whole 4 60 = true) (h2 : dg.shares dl.iv = true) : caseR dl dg dn = 2 ∨ caseR dl dg dn = 3 := by
  obtain ⟨len, rfl, _⟩ := whole_int h
  have h3 : dg.shares len = true := h2
  have e : caseR (.int len) dg dn = if dn.keyOf dg = true then 3 else 2 := by
    show (if (D.int len).whole 4 60 = true then if dg.shares len = true then _ else 1 else 0) = _
    rw [if_pos h, if_pos h3]
  rw [e]
  split
  · exact .inr rfl
  · exact .inl rfl
section
variable {P : Program} {w : World} {K : PySem.W.Frag} {mg : Str → Option Value} {base : Heap}
/-! ### _law_asked -/
theorem sc__law_asked : FnScope ["way", "length", "guests", "name", "last", "e"] ["way", "length", "guests", "name", "last"] (defScope s__law_asked) := ⟨rfl, rfl, rfl, by decide +kernel, rfl, by decide +kernel, by decide +kernel⟩
def spAsked (K : PySem.W.Frag) : Sp := fun vs H Q _ => ∃ (R : Hp) (way : Int) (vl vg vn vm : V) (dl dg dn dm : D) (word : Str) (rv : V), vs = [.int way, vl, vg, vn, vm] ∧ Same R H ∧ Plain R ∧ Rep K R vl dl ∧ Rep K R vg dg ∧ Rep K R vn dn ∧ Rep K R vm dm ∧ 0 ≤ way ∧ way ≤ 4 ∧
  (way = 4 → caseR dl dg dn < 2) ∧ AnsOk way dl dg dn dm vl vg vn vm word rv ∧ ∀ q H', Same H H' → H' q = some (.lst [.str word, rv]) → Q (.ref q) H'
theorem ok__law_asked (T : Txt K mg) (X : Exm K) (G_latest : Def P w K mg base 5 "latest" ["length", "guests", "name", "many"] (spLatest K)) (G_at_least : Def P w K mg base 5 "at_least" ["length", "guests", "name", "turns"] (spAtLeast K)) (G_first_unmet : Def P w K mg base 6 "first_unmet" ["length", "guests", "name", "needs"] (spUnmet K))
    (G_least_promise : Def P w K mg base 7 "least_promise" ["length", "guests", "name", "needs"] (spLeast K)) (G_worst : Def P w K mg base 4 "worst" ["length", "guests"] (spWorst K)) : Def P w K mg base 8 "_law_asked" ["way", "length", "guests", "name", "last"] (spAsked K) := by
  obtain ⟨f, fd, F⟩ := T.a__law_asked
  refine Def.mk F sc__law_asked (fun _ _ _ _ _ _ us hl => match us, hl with | [_, _, _, _, _], _ => rfl) (fun vs H Q E h => ?_) (fun cdv A outer s H vs Q E hr h => ?_)
  · obtain ⟨R, way, vl, vg, vn, vm, dl, dg, dn, dm, word, rv, rfl, _⟩ := h
    rfl
  · obtain ⟨R, way, vl, vg, vn, vm, dl, dg, dn, dm, word, rv, rfl, sR, pR, rl, rg, rn, rm, w0, w4, w5, ans, hq⟩ := h
    refine ⟨_, (pss_cons (GX.ps_try_ma rfl rfl sc__law_asked.nd tkB (fun W pn xe tk po => (pss_one (ps_if (pt_cmpR op_eq (pv 0) pe_int (nomark _)) (pss_one (ps_expr (pe_dX G_latest (hr.mono (by decide)) (by rfl) tk (pa_cons (pv 1) (pa_cons (pv 2) (pa_cons (pv 3) (pa_cons (pv 4) pa_nil))))))) (pss_one (ps_if (pt_cmpR op_eq (pv 0) pe_int (nomark _)) (pss_one (ps_expr (pe_dX G_at_least (hr.mono (by decide)) (by rfl) tk (pa_cons (pv 1) (pa_cons (pv 2) (pa_cons (pv 3) (pa_cons (pv 4) pa_nil))))))) (pss_one (ps_if (pt_cmpR op_eq (pv 0) pe_int (nomark _)) (pss_one (ps_expr (pe_dX G_first_unmet (hr.mono (by decide)) (by rfl) tk (pa_cons (pv 1) (pa_cons (pv 2) (pa_cons (pv 3) (pa_cons (pv 4) pa_nil))))))) (pss_one (ps_if (pt_cmpR op_eq (pv 0) pe_int (nomark _)) (pss_one (ps_expr (pe_dX G_least_promise (hr.mono (by decide)) (by rfl) tk (pa_cons (pv 1) (pa_cons (pv 2) (pa_cons (pv 3) (pa_cons (pv 4) pa_nil))))))) (pss_one (ps_expr (pe_dX G_worst (hr.mono (by decide)) (by rfl) tk (pa_cons (pv 1) (pa_cons (pv 2) pa_nil)))))))))))))) (GX.HdA.named (i := 5) rfl rfl ⟨by rfl, by decide, .inl (mg_NoNumber T)⟩ (fun a oe cls d pn hz hf => (pss_one (ps_ret (pe_lst (pa_cons pe_str (pa_cons (GX.pe_xfld (xc_NoNumber T) hz hf (pv 5)) pa_nil)))))) (GX.HdA.named (i := 5) rfl rfl ⟨by rfl, by decide, .inl (mg_NoShare T)⟩ (fun a oe cls d pn hz hf => (pss_one (ps_ret (pe_lst (pa_cons pe_str (pa_cons (GX.pe_xfld (xc_NoShare T) hz hf (pv 5)) pa_nil)))))) (GX.HdA.named (i := 5) rfl rfl ⟨by rfl, by decide, .inl (mg_NoGuest T)⟩ (fun a oe cls d pn hz hf => (pss_one (ps_ret (pe_lst (pa_cons pe_str (pa_cons (GX.pe_xfld (xc_NoGuest T) hz hf (pv 5)) pa_nil)))))) (GX.HdA.named (i := 5) rfl rfl ⟨by rfl, by decide, .inl (mg_NoNeeds T)⟩ (fun a oe cls d pn hz hf => (pss_one (ps_ret (pe_lst (pa_cons pe_str (pa_cons (GX.pe_xfld (xc_NoNeeds T) hz hf (pv 5)) pa_nil)))))) (GX.HdA.bare ⟨by rfl, by decide, .inl T.g_GuestError.g⟩ (fun a oe cls d pn hz hf => (pss_one (ps_ret (pe_lst (pa_cons pe_str (pa_cons pe_non pa_nil)))))) (GX.HdA.bare ⟨by rfl, by decide, .inl T.g_Missing.g⟩ (fun a oe cls d pn hz hf => (pss_one (ps_ret (pe_lst (pa_cons pe_str (pa_cons pe_non pa_nil)))))) GX.HdA.nil)))))))
      (pss_one (ps_ret (pe_lst (pa_cons pe_str (pa_cons pe_non pa_nil)))))), ?_⟩
    have q0 : ∀ {u : V}, word = "number" ∧ rv = u → ∀ q H', Same H H' → H' q = some (.lst [.str "number", u]) → Q (.ref q) H' := fun {u} e q H' s h => by
      obtain ⟨rfl, rfl⟩ := e
      exact hq q H' s h
    have q1 : ∀ {u : V}, word = "share" ∧ rv = u → ∀ q H', Same H H' → H' q = some (.lst [.str "share", u]) → Q (.ref q) H' := fun {u} e q H' s h => by
      obtain ⟨rfl, rfl⟩ := e
      exact hq q H' s h
    have q2 : ∀ {u : V}, word = "guest" ∧ rv = u → ∀ q H', Same H H' → H' q = some (.lst [.str "guest", u]) → Q (.ref q) H' := fun {u} e q H' s h => by
      obtain ⟨rfl, rfl⟩ := e
      exact hq q H' s h
    have q3 : ∀ {u : V}, word = "needs" ∧ rv = u → ∀ q H', Same H H' → H' q = some (.lst [.str "needs", u]) → Q (.ref q) H' := fun {u} e q H' s h => by
      obtain ⟨rfl, rfl⟩ := e
      exact hq q H' s h
    have hw : way = 0 ∨ way = 1 ∨ way = 2 ∨ way = 3 ∨ way = 4 := by omega
    rcases hw with rfl | rfl | rfl | rfl | rfl
    · refine ⟨_, rfl, rfl, _, rfl, iteT ?_⟩
      refine ⟨_, rfl, _, rfl, _, rfl, _, rfl, R, vl, vg, vn, vm, dl, dg, dn, dm, rfl, ⟨sR, pR, rl, rg, rn, fun c => err_num X rfl (q0 (ans.a0 c)), fun c => err_share X rfl (q1 (ans.a1 c)), fun c => err_guest X rfl (q2 (ans.a2 c))⟩, rm, fun c3 cw => err_num X rfl (q0 ?_), fun c3 cw => ?_⟩
      · rcases ans.a3 c3 with h | h | h
        · exact h.2
        · exact absurd h.1 (by omega)
        · rw [cw] at h
          exact absurd h.2.1 (by decide)
      · rcases ans.a3 c3 with h | h | h
        · rcases h.1 with h | h
          · rw [cw] at h
            exact absurd h.2 (by decide)
          · exact absurd h.1 (by decide)
        · exact absurd h.1 (by omega)
        · obtain ⟨_, _, ⟨len, gs, j, z, p, c, many, g, em⟩, rfl, rfl⟩ := h
          exact ⟨len, gs, j, z, p, c, many, g, em, fun H' s => ⟨(show 2 ≤ sizeLine by decide), fun q hq' => hq q _ (s.trans (same_new hq')) upd_same⟩⟩
    · refine ⟨_, rfl, rfl, _, rfl, iteF ⟨_, rfl, rfl, _, rfl, iteT ?_⟩⟩
      refine ⟨_, rfl, _, rfl, _, rfl, _, rfl, R, vl, vg, vn, vm, dl, dg, dn, dm, rfl, ⟨sR, pR, rl, rg, rn, fun c => err_num X rfl (q0 (ans.a0 c)), fun c => err_share X rfl (q1 (ans.a1 c)), fun c => err_guest X rfl (q2 (ans.a2 c))⟩, rm, fun c3 cw => err_num X rfl (q0 ?_), fun c3 cw => ?_⟩
      · rcases ans.a3 c3 with h | h | h
        · exact h.2
        · exact absurd h.1 (by omega)
        · exact absurd h.1 (by decide)
      · rcases ans.a3 c3 with h | h | h
        · rcases h.1 with h | h
          · exact absurd h.1 (by decide)
          · rw [cw] at h
            exact absurd h.2 (by decide)
        · exact absurd h.1 (by omega)
        · exact absurd h.1 (by decide)
    · refine ⟨_, rfl, rfl, _, rfl, iteF ⟨_, rfl, rfl, _, rfl, iteF ⟨_, rfl, rfl, _, rfl, iteT ?_⟩⟩⟩
      refine ⟨_, rfl, _, rfl, _, rfl, _, rfl, R, vl, vg, vn, vm, dl, dg, dn, dm, rfl, ⟨sR, pR, rl, rg, rn, fun c => err_num X rfl (q0 (ans.a0 c)), fun c => err_share X rfl (q1 (ans.a1 c)), fun c => err_guest X rfl (q2 (ans.a2 c))⟩, rm, fun c3 cw => err_needs X rfl (q3 ?_), fun c3 cw => ?_⟩
      · rcases ans.a3 c3 with h | h | h
        · exact absurd h.1 (by omega)
        · exact h.2.2
        · exact absurd h.1 (by decide)
      · rcases ans.a3 c3 with h | h | h
        · exact absurd h.1 (by omega)
        · rw [cw] at h
          exact absurd h.2.1 (by decide)
        · exact absurd h.1 (by decide)
    · refine ⟨_, rfl, rfl, _, rfl, iteF ⟨_, rfl, rfl, _, rfl, iteF ⟨_, rfl, rfl, _, rfl, iteF ⟨_, rfl, rfl, _, rfl, iteT ?_⟩⟩⟩⟩
      refine ⟨_, rfl, _, rfl, _, rfl, _, rfl, R, vl, vg, vn, vm, dl, dg, dn, dm, rfl, ⟨sR, pR, rl, rg, rn, fun c => err_num X rfl (q0 (ans.a0 c)), fun c => err_share X rfl (q1 (ans.a1 c)), fun c => err_guest X rfl (q2 (ans.a2 c))⟩, rm, fun c3 cw => err_needs X rfl (q3 ?_), fun c3 cw => ?_⟩
      · rcases ans.a3 c3 with h | h | h
        · exact absurd h.1 (by omega)
        · exact h.2.2
        · exact absurd h.1 (by decide)
      · rcases ans.a3 c3 with h | h | h
        · exact absurd h.1 (by omega)
        · rw [cw] at h
          exact absurd h.2.1 (by decide)
        · exact absurd h.1 (by decide)
    · refine ⟨_, rfl, rfl, _, rfl, iteF ⟨_, rfl, rfl, _, rfl, iteF ⟨_, rfl, rfl, _, rfl, iteF ⟨_, rfl, rfl, _, rfl, iteF ?_⟩⟩⟩⟩
      refine ⟨_, rfl, _, rfl, R, vl, vg, dl, dg, rfl, sR, pR, rl, rg, fun c => err_num X rfl (q0 (ans.a0 (caseR_0 c))), fun c => ?_⟩
      cases cs : dg.shares dl.iv with
      | false => exact ⟨rfl, err_share X rfl (q1 (ans.a1 (caseR_1 c cs)))⟩
      | true =>
        have := w5 rfl
        rcases caseR_ge (dn := dn) c cs with h | h <;> omega
end
end K87

set_option Elab.async false
set_option linter.all false
set_option maxRecDepth 100000
set_option maxHeartbeats 1000000
namespace K87
open PySem PySem.Spec PyProof.Rows L2 RP
def dW : List D := [.int 3, .int 61, .int (-1), .non, .bl true, .str "4", .lst [.int 4]]
def dS (len : Int) : List D := [.non, .lst [], .dct [("a", .tup [.int 1])], .dct [("A", .tup [.int 1, .int 2])], .dct [("a", .tup [.int 0, .int 0])], .dct [("a", .tup [.int len, .int len]), ("b", .tup [.int 1, .int 1])], .dct [("a", .lst [.int 1, .int 2])]]
def dB (z : Str) : List D := [.str "nobody", .str "", .non, .int 3, .lst [.str z]]
def dN0 (len : Int) : List D := [.int 0, .int (len + 1), .non, .bl true, .str "1"]
def dN1 : List D := [.int 401, .int (-1), .non, .bl true, .str "1"]
def dD : List D := [.non, .int 3, .dct [], .lst [.tup [.int 1]], .lst [.lst [.int 1, .int 1]], .lst [.tup [.int 1, .int 401]], .lst [.tup [.int (-1), .int 1]], .lst [.tup [.int 1, .bl true]], .lst (List.replicate 61 (.tup [.int 1, .int 1]))]
theorem fit_int {n : Nat} (i : Int) : Fit (n + 1) (.int i) := True.intro
theorem pW : ∀ d ∈ dW, d.whole 4 60 = false ∧ Fit 8 d := by
  intro d hd
  simp only [dW, List.mem_cons, List.not_mem_nil, or_false] at hd
  rcases hd with rfl | rfl | rfl | rfl | rfl | rfl | rfl
  · exact ⟨rfl, True.intro⟩
  · exact ⟨rfl, True.intro⟩
  · exact ⟨rfl, True.intro⟩
  · exact ⟨rfl, True.intro⟩
  · exact ⟨rfl, True.intro⟩
  · exact ⟨rfl, by show Str.length "4" ≤ 1000; decide +kernel⟩
  · exact ⟨rfl, by show 1 ≤ 1000; decide, fun e he => by rw [List.mem_singleton.mp he]; exact True.intro⟩
theorem pN0 (len : Int) : ∀ d ∈ dN0 len, d.whole 1 len = false ∧ Fit 8 d := by
  intro d hd
  simp only [dN0, List.mem_cons, List.not_mem_nil, or_false] at hd
  rcases hd with rfl | rfl | rfl | rfl | rfl
  · exact ⟨rfl, True.intro⟩
  · refine ⟨?_, True.intro⟩
    show (decide (1 ≤ len + 1) && decide (len + 1 ≤ len)) = false
    rw [decide_eq_false (show ¬ len + 1 ≤ len by omega), Bool.and_false]
  · exact ⟨rfl, True.intro⟩
  · exact ⟨rfl, True.intro⟩
  · exact ⟨rfl, by show Str.length "1" ≤ 1000; decide +kernel⟩
theorem pN1 : ∀ d ∈ dN1, d.whole 0 400 = false ∧ Fit 8 d := by
  intro d hd
  simp only [dN1, List.mem_cons, List.not_mem_nil, or_false] at hd
  rcases hd with rfl | rfl | rfl | rfl | rfl
  · exact ⟨rfl, True.intro⟩
  · exact ⟨rfl, True.intro⟩
  · exact ⟨rfl, True.intro⟩
  · exact ⟨rfl, True.intro⟩
  · exact ⟨rfl, by show Str.length "1" ≤ 1000; decide +kernel⟩
theorem fit_two {n : Nat} {a b : D} (ha : Fit n a) (hb : Fit n b) : ∀ e ∈ [a, b], Fit n e := fun e he => by
  rcases List.mem_cons.mp he with rfl | he
  · exact ha
  · rw [List.mem_singleton.mp he]; exact hb
theorem fit_one {n : Nat} {a : D} (ha : Fit n a) : ∀ e ∈ [a], Fit n e := fun e he => by
  rw [List.mem_singleton.mp he]; exact ha
theorem pD : ∀ d ∈ dD, d.needs = false ∧ Fit 8 d := by
  intro d hd
  simp only [dD, List.mem_cons, List.not_mem_nil, or_false] at hd
  rcases hd with rfl | rfl | rfl | rfl | rfl | rfl | rfl | rfl | rfl
  · exact ⟨rfl, True.intro⟩
  · exact ⟨rfl, True.intro⟩
  · exact ⟨rfl, by show 0 ≤ 1000; decide, fun e he => nomatch he⟩
  · exact ⟨rfl, by show 1 ≤ 1000; decide, fit_one ⟨by show 1 ≤ 1000; decide, fit_one True.intro⟩⟩
  · exact ⟨rfl, by show 1 ≤ 1000; decide, fit_one ⟨by show 2 ≤ 1000; decide, fit_two True.intro True.intro⟩⟩
  · exact ⟨rfl, by show 1 ≤ 1000; decide, fit_one ⟨by show 2 ≤ 1000; decide, fit_two True.intro True.intro⟩⟩
  · exact ⟨rfl, by show 1 ≤ 1000; decide, fit_one ⟨by show 2 ≤ 1000; decide, fit_two True.intro True.intro⟩⟩
  · exact ⟨rfl, by show 1 ≤ 1000; decide, fit_one ⟨by show 2 ≤ 1000; decide, fit_two True.intro True.intro⟩⟩
  · refine ⟨rfl, by rw [List.length_replicate]; decide, fun e he => ?_⟩
    rw [List.eq_of_mem_replicate he]
    exact ⟨by show 2 ≤ 1000; decide, fit_two True.intro True.intro⟩
theorem fit_str {n : Nat} {z : Str} (h : z.length ≤ 1000) : Fit (n + 1) (.str z) := h
theorem ok_a : okName "a" = true := by decide +kernel
theorem ok_b : okName "b" = true := by decide +kernel
theorem ok_A : okName "A" = false := by decide +kernel
theorem len_a : Str.length "a" ≤ 1000 := by decide +kernel
theorem pS {len : Int} (hl : 4 ≤ len ∧ len ≤ 60) : ∀ d ∈ dS len, d.shares len = false ∧ Fit 8 d := by
  intro d hd
  simp only [dS, List.mem_cons, List.not_mem_nil, or_false] at hd
  rcases hd with rfl | rfl | rfl | rfl | rfl | rfl | rfl
  · exact ⟨rfl, True.intro⟩
  · exact ⟨rfl, by show 0 ≤ 1000; decide, fun e he => nomatch he⟩
  · exact ⟨rfl, by show 1 ≤ 1000; decide, fit_one ⟨by show 2 ≤ 1000; decide, fit_two (fit_str len_a) ⟨by show 1 ≤ 1000; decide, fit_one True.intro⟩⟩⟩
  · refine ⟨?_, by show 1 ≤ 1000; decide, fit_one ⟨by show 2 ≤ 1000; decide, fit_two (fit_str (by decide +kernel)) ⟨by show 2 ≤ 1000; decide, fit_two True.intro True.intro⟩⟩⟩
    rw [shares_dct, shSum_bad (i := 0) rfl, Bool.and_false]
    show (if okName "A" = true ∧ (D.int 1).whole 0 len = true ∧ (D.int 2).whole (max 1 1) len = true then some (1 : Int) else none) = none
    rw [ok_A, if_neg (fun h => nomatch h.1)]
  · refine ⟨?_, by show 1 ≤ 1000; decide, fit_one ⟨by show 2 ≤ 1000; decide, fit_two (fit_str len_a) ⟨by show 2 ≤ 1000; decide, fit_two True.intro True.intro⟩⟩⟩
    rw [shares_dct, shSum_bad (i := 0) rfl, Bool.and_false]
    show (if okName "a" = true ∧ (D.int 0).whole 0 len = true ∧ (D.int 0).whole 1 len = true then _ else none) = none
    rw [if_neg (fun h => nomatch h.2.2)]
  · refine ⟨?_, by show 2 ≤ 1000; decide, fit_two ⟨by show 2 ≤ 1000; decide, fit_two (fit_str len_a) ⟨by show 2 ≤ 1000; decide, fit_two True.intro True.intro⟩⟩ ⟨by show 2 ≤ 1000; decide, fit_two (fit_str (by decide +kernel)) ⟨by show 2 ≤ 1000; decide, fit_two True.intro True.intro⟩⟩⟩
    have e1 : shEnt len ("a", .tup [.int len, .int len]) = some len := by
      show (if okName "a" = true ∧ (D.int len).whole 0 len = true ∧ (D.int len).whole (max 1 len) len = true then some len else none) = some len
      rw [if_pos]
      refine ⟨ok_a, ?_, ?_⟩
      · show (decide (0 ≤ len) && decide (len ≤ len)) = true
        rw [decide_eq_true (by omega), decide_eq_true (Int.le_refl _)]
        rfl
      · show (decide (max 1 len ≤ len) && decide (len ≤ len)) = true
        rw [decide_eq_true (by omega), decide_eq_true (Int.le_refl _)]
        rfl
    have e2 : shEnt len ("b", .tup [.int 1, .int 1]) = some 1 := by
      show (if okName "b" = true ∧ (D.int 1).whole 0 len = true ∧ (D.int 1).whole (max 1 1) len = true then some 1 else none) = some 1
      rw [if_pos]
      refine ⟨ok_b, ?_, ?_⟩
      · show (decide ((0 : Int) ≤ 1) && decide (1 ≤ len)) = true
        rw [decide_eq_true (by omega), decide_eq_true (by omega)]
        rfl
      · show (decide ((max 1 1 : Int) ≤ 1) && decide (1 ≤ len)) = true
        rw [decide_eq_true (by omega), decide_eq_true (by omega)]
        rfl
    have e3 : shSum len [("a", .tup [.int len, .int len]), ("b", .tup [.int 1, .int 1])] = some (len + (1 + 0)) := by
      unfold shSum
      rw [e1]
      unfold shSum
      rw [e2]
      unfold shSum
      rfl
    rw [shares_dct, e3]
    show (true && decide (len + (1 + 0) ≤ len)) = false
    rw [decide_eq_false (by omega)]
    rfl
  · exact ⟨rfl, by show 1 ≤ 1000; decide, fit_one ⟨by show 2 ≤ 1000; decide, fit_two (fit_str len_a) ⟨by show 2 ≤ 1000; decide, fit_two True.intro True.intro⟩⟩⟩
theorem six_not : ("nobody" : Str) ∉ six ∧ ("" : Str) ∉ six := by decide +kernel
theorem dlook_not {gs : List G3} {y : Str} (h6 : ∀ e ∈ gs, e.1 ∈ six) (hy : y ∉ six) : (dlook (gs.map fun e => (e.1, D.tup [.int e.2.1, .int e.2.2])) y).isSome = false := by
  rw [dlook_any, List.any_map]
  refine Bool.eq_false_iff.mpr fun h => ?_
  obtain ⟨e, he, q⟩ := List.any_eq_true.mp h
  have q2 : e.1 = y := of_decide_eq_true q
  exact hy (by rw [← q2]; exact h6 e he)
theorem pB {gs : List G3} {z : Str} (h6 : ∀ e ∈ gs, e.1 ∈ six) (hz : z.length ≤ 1000) : ∀ d ∈ dB z, d.keyOf (gD gs) = false ∧ Fit 8 d := by
  intro d hd
  simp only [dB, List.mem_cons, List.not_mem_nil, or_false] at hd
  rcases hd with rfl | rfl | rfl | rfl | rfl
  · exact ⟨dlook_not h6 six_not.1, by show Str.length "nobody" ≤ 1000; decide +kernel⟩
  · exact ⟨dlook_not h6 six_not.2, by show Str.length "" ≤ 1000; decide +kernel⟩
  · exact ⟨rfl, True.intro⟩
  · exact ⟨rfl, True.intro⟩
  · exact ⟨rfl, by show 1 ≤ 1000; decide, fit_one (fit_str hz)⟩
end K87

set_option Elab.async false
set_option linter.all false
set_option maxRecDepth 100000
set_option maxHeartbeats 1000000
namespace K87
open PySem PySem.Spec PyProof.Rows L2 RP
theorem nd_one {a : Str} {d : D} : (([(a, d)] : List (Str × D)).map (·.1)).Nodup := by
  simp
theorem nd_two {a b : Str} {d e : D} (h : a ≠ b) : (([(a, d), (b, e)] : List (Str × D)).map (·.1)).Nodup := by
  simp [h]
theorem rep_pick {K : PySem.W.Frag} {R : Hp} {v : V} {ds : List D} {q : Int} (r : Rep K R v (.lst ds)) (h0 : 0 ≤ q) (h1 : q < ds.length) : ∃ (p : Addr) (xs : List V) (w : V) (d : D), v = .ref p ∧ SqL K R p xs ∧ atI xs q = some w ∧ ds[q.toNat]? = some d ∧ Rep K R w d := by
  cases r with
  | @lst p xs _ h r =>
    obtain ⟨d, hd⟩ : ∃ d, ds[q.toNat]? = some d := ⟨_, List.getElem?_eq_getElem (by omega)⟩
    obtain ⟨w, hw, rw'⟩ := r.at hd
    have e := atI_nat hw
    have e2 : ((q.toNat : Nat) : Int) = q := by omega
    rw [e2] at e
    exact ⟨p, xs, w, d, rfl, h, e, hd, rw'⟩
/-- a row: what was found, the word, the value -/
def RowOk (K : PySem.W.Frag) (R H : Hp) (rows : Addr) (x : V) : Prop := ∃ (t q : Addr) (word : Str) (v : V) (d : D), x = .ref t ∧ t ≠ rows ∧ q ≠ rows ∧ H t = some (.tup [.ref q, .str word, v]) ∧ H q = some (.lst [.str word, v]) ∧ Rep K R v d ∧ Fit 8 d ∧ word.length ≤ 100
structure RS (K : PySem.W.Frag) (R Hb H : Hp) (rows : Addr) (xs : List V) : Prop where
  s : Same Hb H
  n : Hb rows = none
  r : H rows = some (.lst xs)
  ok : ∀ x ∈ xs, RowOk K R H rows x
section
variable {K : PySem.W.Frag} {R Hb H H2 : Hp} {rows q t : Addr} {xs : List V} {word : Str} {v : V} {d : D}
theorem RS.init (s : Same Hb H) (hq : H q = some (.lst [.str word, v])) (ht : H t = none) (hr : upd H t (.tup [.ref q, .str word, v]) rows = none) (r : Rep K R v d) (f : Fit 8 d) (hw : word.length ≤ 100) :
    RS K R Hb (upd (upd H t (.tup [.ref q, .str word, v])) rows (.lst [.ref t])) rows [.ref t] := by
  have s1 : Same H (upd H t (.tup [.ref q, .str word, v])) := same_new ht
  have s2 : Same (upd H t (.tup [.ref q, .str word, v])) (upd (upd H t (.tup [.ref q, .str word, v])) rows (.lst [.ref t])) := same_new hr
  refine ⟨s.trans (s1.trans s2), (s.trans s1).free hr, upd_same, fun x hx => ?_⟩
  rw [List.mem_singleton.mp hx]
  exact ⟨t, q, word, v, d, rfl, Ne.symm (ne_at upd_same hr), Ne.symm (ne_at (s1 _ _ hq) hr), s2 _ _ upd_same, s2 _ _ (s1 _ _ hq), r, f, hw⟩
theorem RS.add (S : RS K R Hb H rows xs) (s : Same H H2) (hq : H2 q = some (.lst [.str word, v])) (ht : H2 t = none) (r : Rep K R v d) (f : Fit 8 d) (hw : word.length ≤ 100) :
    RS K R Hb (upd (upd H2 t (.tup [.ref q, .str word, v])) rows (.lst (xs ++ [.ref t]))) rows (xs ++ [.ref t]) := by
  have hr2 : H2 rows = some (.lst xs) := s _ _ S.r
  have s1 : Same H2 (upd H2 t (.tup [.ref q, .str word, v])) := same_new ht
  have tn : t ≠ rows := ne_at hr2 ht
  have qn : q ≠ rows := fun e => by
    rw [e, hr2] at hq
    have e2 : xs = [.str word, v] := by
      injection hq with e3
      injection e3
    obtain ⟨_, _, _, _, _, e3, _⟩ := S.ok (.str word) (by rw [e2]; exact List.mem_cons_self)
    cases e3
  refine ⟨((S.s.trans s).trans s1).skip S.n, S.n, upd_same, fun x hx => ?_⟩
  rcases List.mem_append.mp hx with h | h
  · obtain ⟨t', q', w', v', d', e1, e2, e3, e4, e5, e6⟩ := S.ok x h
    exact ⟨t', q', w', v', d', e1, e2, e3, by rw [upd_ne e2]; exact s1 _ _ (s _ _ e4), by rw [upd_ne e3]; exact s1 _ _ (s _ _ e5), e6⟩
  · rw [List.mem_singleton.mp h]
    exact ⟨t, q, word, v, d, rfl, tn, qn, by rw [upd_ne tn, upd_same], by rw [upd_ne qn]; exact s1 _ _ hq, r, f, hw⟩
/-- a known part, and one thing more that stands -/
theorem know {o : HO} (p : Plain R) (s : Same R H) (h : H q = some o) (ho : ∀ ob u, o ≠ .frz ob u) : Same R (upd R q o) ∧ Plain (upd R q o) ∧ Same (upd R q o) H := by
  refine ⟨fun b u e => ?_, p.put ho, fun b u e => ?_⟩
  · by_cases c : b = q
    · rw [c] at e ⊢
      have e2 := s _ _ e
      rw [h] at e2
      rw [upd_same]
      exact e2
    · rw [upd_ne c]; exact e
  · by_cases c : b = q
    · rw [c, upd_same] at e
      rw [c, h]; exact e
    · rw [upd_ne c] at e
      exact s _ _ e
end
theorem fit_up : ∀ {n : Nat} {d : D}, Fit n d → Fit (n + 1) d
  | 0, _, h => h.elim
  | _ + 1, .non, _ => True.intro
  | _ + 1, .bl _, _ => True.intro
  | _ + 1, .int _, _ => True.intro
  | _ + 1, .str _, h => h
  | n + 1, .lst l, h => ⟨h.1, fun e he => fit_up (n := n) (h.2 e he)⟩
  | n + 1, .tup l, h => ⟨h.1, fun e he => fit_up (n := n) (h.2 e he)⟩
  | n + 1, .dct l, h => fit_up (n := n) (d := .lst (l.map pairD)) h
section
variable {P : Program} {w : World} {K : PySem.W.Frag} {mg : Str → Option Value} {base : Heap}
/-! ### _law_refusals_right -/
theorem sc__law_refusals_right : FnScope ["box", "length", "guests", "name", "wrong", "share", "odd", "nobody", "number", "needs", "way", "late", "rows", "found", "word", "value"] ["box", "length", "guests", "name"] (defScope s__law_refusals_right) := ⟨rfl, rfl, rfl, by decide +kernel, rfl, by decide +kernel, by decide +kernel⟩
def spRefus (K : PySem.W.Frag) : Sp := fun vs H Q _ => ∃ (R : Hp) (a : Addr) (n : Int) (vg : V) (len : Int) (gs : List G3) (j : Nat) (z : Str) (p c : Int), vs = [.ref a, .int len, vg, .str z] ∧ BoxAt H a n ∧ n ≤ 3000 ∧ Same R H ∧ Plain R ∧ R a = none ∧ Rep K R vg (gD gs) ∧ GsOk len gs ∧ gs[j]? = some (z, p, c) ∧
  (∀ e ∈ gs, e.1 ∈ six) ∧ ∀ H', BoxAt H' a (n + 100) → But a H H' → Q (.bl true) H'
theorem ok__law_refusals_right (T : Txt K mg) (G__law_take : Def P w K mg base 1 "_law_take" ["box", "many"] (spTake K)) (G__law_asked : Def P w K mg base 8 "_law_asked" ["way", "length", "guests", "name", "last"] (spAsked K)) (G__law_same : Def P w K mg base 11 "_law_same" ["told", "due"] (spSame 10 K)) :
    Def P w K mg base 12 "_law_refusals_right" ["box", "length", "guests", "name"] (spRefus K) := by
  obtain ⟨f, fd, F⟩ := T.a__law_refusals_right
  refine Def.mk F sc__law_refusals_right (fun _ _ _ _ _ _ us hl => match us, hl with | [_, _, _, _], _ => rfl) (fun vs H Q E h => ?_) (fun cdv A outer s H vs Q E hr h => ?_)
  · obtain ⟨R, a, n, vg, len, gs, j, z, p, c, rfl, _⟩ := h
    rfl
  · obtain ⟨R, a, n, vg, len, gs, j, z, p, c, rfl, box, hn, sR, pR, nRa, hg, ok, hj, h6, hq⟩ := h
    have hlen := ok.len
    have hzs : z.length ≤ 8 := six_len z (h6 _ (List.mem_of_getElem? hj))
    have hzl : z.length ≤ sizeLine := by
      have : 100 < sizeLine := by decide
      omega
    have live : H a ≠ none := by
      obtain ⟨x, y, k, e, _⟩ := box
      rw [e]
      exact fun h => nomatch h
    refine ⟨_, (pss_cons (ps_set (i := 4) sc__law_refusals_right.nd rfl (Or.inl rfl) (pe_ix (kix_list K rfl) (pe_box (pe_lst (pa_cons pe_int (pa_cons pe_int (pa_cons (pe_un un_neg pe_int) (pa_cons pe_non (pa_cons pe_bl (pa_cons pe_str (pa_cons (pe_lst (pa_cons pe_int pa_nil)) pa_nil))))))))) (pe_d G__law_take (hr.mono (by decide)) (by rfl) (pa_cons (pv 0) (pa_cons pe_int pa_nil))) (fun _ _ => rfl)))
      (pss_cons (ps_set (i := 5) sc__law_refusals_right.nd rfl (Or.inl rfl) (pe_box (pe_lst (pa_cons pe_non (pa_cons (pe_lst pa_nil) (pa_cons (pe_disp (pps_cons pe_str (pe_tup (pa_cons pe_int pa_nil)) pps_nil) (by rfl) (by rfl) (fun z => by cases z) (by decide)) (pa_cons (pe_disp (pps_cons pe_str (pe_tup (pa_cons pe_int (pa_cons pe_int pa_nil))) pps_nil) (by rfl) (by rfl) (fun z => by cases z) (by decide)) (pa_cons (pe_disp (pps_cons pe_str (pe_tup (pa_cons pe_int (pa_cons pe_int pa_nil))) pps_nil) (by rfl) (by rfl) (fun z => by cases z) (by decide)) (pa_cons (pe_disp (pps_cons pe_str (pe_tup (pa_cons (pv 1) (pa_cons (pv 1) pa_nil))) (pps_cons pe_str (pe_tup (pa_cons pe_int (pa_cons pe_int pa_nil))) pps_nil)) (by rfl) (by rfl) (fun z => by cases z) (by decide)) (pa_cons (pe_disp (pps_cons pe_str (pe_lst (pa_cons pe_int (pa_cons pe_int pa_nil))) pps_nil) (by rfl) (by rfl) (fun z => by cases z) (by decide)) pa_nil))))))))))
      (pss_cons (ps_par (i := 6) (j := 7) rfl sc__law_refusals_right.nd rfl rfl (by decide) rfl rfl (pa_cons (pe_ix (kix_list K rfl) (pv 5) (pe_d G__law_take (hr.mono (by decide)) (by rfl) (pa_cons (pv 0) (pa_cons pe_int pa_nil))) (fun _ _ => rfl)) (pa_cons (pe_ix (kix_list K rfl) (pe_box (pe_lst (pa_cons pe_str (pa_cons pe_str (pa_cons pe_non (pa_cons pe_int (pa_cons (pe_lst (pa_cons (pv 3) pa_nil)) pa_nil))))))) (pe_d G__law_take (hr.mono (by decide)) (by rfl) (pa_cons (pv 0) (pa_cons pe_int pa_nil))) (fun _ _ => rfl)) pa_nil)) (by rfl))
      (pss_cons (ps_set (i := 8) sc__law_refusals_right.nd rfl (Or.inl rfl) (pe_box (pe_lst (pa_cons (pe_lst (pa_cons pe_int (pa_cons (pe_op op_add (pv 1) pe_int) (pa_cons pe_non (pa_cons pe_bl (pa_cons pe_str pa_nil)))))) (pa_cons (pe_lst (pa_cons pe_int (pa_cons (pe_un un_neg pe_int) (pa_cons pe_non (pa_cons pe_bl (pa_cons pe_str pa_nil)))))) pa_nil)))))
      (pss_cons (ps_set (i := 9) sc__law_refusals_right.nd rfl (Or.inl rfl) (pe_ix (kix_list K rfl) (pe_box (pe_lst (pa_cons pe_non (pa_cons pe_int (pa_cons pe_dnewK (pa_cons (pe_lst (pa_cons (pe_tup (pa_cons pe_int pa_nil)) pa_nil)) (pa_cons (pe_lst (pa_cons (pe_lst (pa_cons pe_int (pa_cons pe_int pa_nil))) pa_nil)) (pa_cons (pe_lst (pa_cons (pe_tup (pa_cons pe_int (pa_cons pe_int pa_nil))) pa_nil)) (pa_cons (pe_lst (pa_cons (pe_tup (pa_cons (pe_un un_neg pe_int) (pa_cons pe_int pa_nil))) pa_nil)) (pa_cons (pe_lst (pa_cons (pe_tup (pa_cons pe_int (pa_cons pe_bl pa_nil))) pa_nil)) (pa_cons (pe_op op_rep (pe_lst (pa_cons (pe_tup (pa_cons pe_int (pa_cons pe_int pa_nil))) pa_nil)) pe_int) pa_nil))))))))))) (pe_d G__law_take (hr.mono (by decide)) (by rfl) (pa_cons (pv 0) (pa_cons pe_int pa_nil))) (fun _ _ => rfl)))
      (pss_cons (ps_for (passes_of rfl) rfl (pi_range1 (by rfl) T.b_range (pa_cons pe_int pa_nil)) (pg_name (i := 10) sc__law_refusals_right.nd rfl (Or.inl rfl))
        (pss_cons (ps_set (i := 11) sc__law_refusals_right.nd rfl (Or.inl rfl) (pe_ifExp (pt_cmpR op_lt (pv 10) pe_int (nomark _)) (pe_ix (kix_list K rfl) (pe_ix (kix_list K rfl) (pv 8) (pv 10) (fun _ _ => rfl)) (pe_d G__law_take (hr.mono (by decide)) (by rfl) (pa_cons (pv 0) (pa_cons pe_int pa_nil))) (fun _ _ => rfl)) (pv 9)))
      (pss_cons (ps_set (i := 12) sc__law_refusals_right.nd rfl (Or.inl rfl) (pe_lst (pa_cons (pe_tup (pa_cons (pe_d G__law_asked (hr.mono (by decide)) (by rfl) (pa_cons (pv 10) (pa_cons (pv 4) (pa_cons (pv 6) (pa_cons (pv 7) (pa_cons (pv 11) pa_nil)))))) (pa_cons pe_str (pa_cons (pv 4) pa_nil)))) pa_nil)))
      (pss_cons (ps_expr (kpe_bm K rfl (pe_bm PySem.F.plainAttrs_list PySem.F.slot_list_append PySem.F.type_list_append mt_append (pv 12) (pa_cons (pe_tup (pa_cons (pe_d G__law_asked (hr.mono (by decide)) (by rfl) (pa_cons (pv 10) (pa_cons (pv 1) (pa_cons (pv 6) (pa_cons (pv 7) (pa_cons (pv 11) pa_nil)))))) (pa_cons pe_str (pa_cons (pv 6) pa_nil)))) pa_nil))))
      (pss_cons (ps_if (pt_cmpR op_lt (pv 10) pe_int (nomark _)) (pss_cons (ps_expr (kpe_bm K rfl (pe_bm PySem.F.plainAttrs_list PySem.F.slot_list_append PySem.F.type_list_append mt_append (pv 12) (pa_cons (pe_tup (pa_cons (pe_d G__law_asked (hr.mono (by decide)) (by rfl) (pa_cons (pv 10) (pa_cons (pv 1) (pa_cons (pv 2) (pa_cons (pv 7) (pa_cons (pv 11) pa_nil)))))) (pa_cons pe_str (pa_cons (pv 7) pa_nil)))) pa_nil))))
      (pss_one (ps_expr (kpe_bm K rfl (pe_bm PySem.F.plainAttrs_list PySem.F.slot_list_append PySem.F.type_list_append mt_append (pv 12) (pa_cons (pe_tup (pa_cons (pe_d G__law_asked (hr.mono (by decide)) (by rfl) (pa_cons (pv 10) (pa_cons (pv 1) (pa_cons (pv 2) (pa_cons (pv 3) (pa_cons (pv 11) pa_nil)))))) (pa_cons (pe_ifExp (pt_cmpR op_lt (pv 10) pe_int (nomark _)) pe_str pe_str) (pa_cons (pv 11) pa_nil)))) pa_nil)))))) pss_nil)
      (pss_one (ps_for (passes_of rfl) rfl (kpi_list K rfl (pv 12)) (kpg_tup K rfl (n := 3) rfl (pgs_cons (pg_name (i := 13) sc__law_refusals_right.nd rfl (Or.inl rfl)) (pgs_cons (pg_name (i := 14) sc__law_refusals_right.nd rfl (Or.inl rfl)) (pgs_cons (pg_name (i := 15) sc__law_refusals_right.nd rfl (Or.inl rfl)) pgs_nil))))
        (pss_one (ps_if (pt_not (pt_val (pe_d G__law_same (hr.mono (by decide)) (by rfl) (pa_cons (pv 13) (pa_cons (pe_lst (pa_cons (pv 14) (pa_cons (pv 15) pa_nil))) pa_nil))))) (pss_one (ps_ret pe_bl)) pss_nil)))))))))
      (pss_one (ps_ret (pe_cmpR (kop_eqD K rfl hr.units) (pe_d G__law_asked (hr.mono (by decide)) (by rfl) (pa_cons pe_int (pa_cons (pv 1) (pa_cons (pv 2) (pa_cons (pv 3) (pa_cons (pv 1) pa_nil)))))) (pe_lst (pa_cons pe_str (pa_cons pe_non pa_nil))) (nomark _)))))))))), ?_⟩
    -- wrong
    refine ⟨((lays_lst (lays_cons (lays_pure (v := .int 3) (.int _) (fun _ _ h => h)) (lays_cons (lays_pure (v := .int 61) (.int _) (fun _ _ h => h)) (lays_cons (lays_pure (v := .int (-1)) (.int _) (fun _ _ h => ⟨_, rfl, h⟩)) (lays_cons (lays_pure .non (fun _ _ h => h)) (lays_cons (lays_pure (.bl true) (fun _ _ h => h)) (lays_cons (lays_pure (v := .str "4") (.str _ (by decide +kernel)) (fun _ _ h => h)) (lays_cons (lays_lst (lays_cons (lays_pure (v := .int 4) (.int _) (fun _ _ h => h)) lays_nil) (Nat.le_of_ble_eq_true rfl)) lays_nil))))))) (Nat.le_of_ble_eq_true rfl)) : Lays K R _ _ _) H R _ (Same.refl _) pR sR fun R1 H1 v1 g1 p1 s1 u1 r1 => ?_⟩
    have n1 : R1 a = none := (g1.old a live).trans nRa
    refine ⟨_, rfl, a, n, 7, rfl, box.same u1, by omega, by omega, by omega, fun q2 H2 q20 q21 bx2 b2 => ?_⟩
    have s2 : Same R1 H2 := b2.same n1 s1
    obtain ⟨pw, xw, vw, dw, rfl, w1, w2, w3, rw1⟩ := rep_pick (r1 : Rep K R1 v1 (.lst dW)) q20 q21
    refine ⟨pw, xw, q2, vw, rfl, rfl, (Lq.of s2).seq w1, w2, ?_⟩
    have B2 : But a H H2 := (But.of u1).trans b2
    have live2 : H2 a ≠ none := by
      obtain ⟨x, y, k, e, _⟩ := bx2
      rw [e]
      exact fun h => nomatch h
    -- shares
    refine ⟨((lays_lst (lays_cons (lays_pure .non (fun _ _ h => h)) (lays_cons (lays_lst lays_nil (Nat.le_of_ble_eq_true rfl)) (lays_cons (lays_dct (laysP_cons (by decide +kernel) (lays_tup (lays_cons (lays_pure (v := .int 1) (.int _) (fun _ _ h => h)) lays_nil) (Nat.le_of_ble_eq_true rfl)) laysP_nil) nd_one (Nat.le_of_ble_eq_true rfl)) (lays_cons (lays_dct (laysP_cons (by decide +kernel) (lays_tup (lays_cons (lays_pure (v := .int 1) (.int _) (fun _ _ h => h)) (lays_cons (lays_pure (v := .int 2) (.int _) (fun _ _ h => h)) lays_nil)) (Nat.le_of_ble_eq_true rfl)) laysP_nil) nd_one (Nat.le_of_ble_eq_true rfl)) (lays_cons (lays_dct (laysP_cons (by decide +kernel) (lays_tup (lays_cons (lays_pure (v := .int 0) (.int _) (fun _ _ h => h)) (lays_cons (lays_pure (v := .int 0) (.int _) (fun _ _ h => h)) lays_nil)) (Nat.le_of_ble_eq_true rfl)) laysP_nil) nd_one (Nat.le_of_ble_eq_true rfl)) (lays_cons (lays_dct (laysP_cons (by decide +kernel) (lays_tup (lays_cons (lays_pure (v := .int len) (.int _) (fun _ _ h => ⟨_, rfl, h⟩)) (lays_cons (lays_pure (v := .int len) (.int _) (fun _ _ h => ⟨_, rfl, h⟩)) lays_nil)) (Nat.le_of_ble_eq_true rfl)) (laysP_cons (by decide +kernel) (lays_tup (lays_cons (lays_pure (v := .int 1) (.int _) (fun _ _ h => h)) (lays_cons (lays_pure (v := .int 1) (.int _) (fun _ _ h => h)) lays_nil)) (Nat.le_of_ble_eq_true rfl)) laysP_nil)) (nd_two (by decide +kernel)) (Nat.le_of_ble_eq_true rfl)) (lays_cons (lays_dct (laysP_cons (by decide +kernel) (lays_lst (lays_cons (lays_pure (v := .int 1) (.int _) (fun _ _ h => h)) (lays_cons (lays_pure (v := .int 2) (.int _) (fun _ _ h => h)) lays_nil)) (Nat.le_of_ble_eq_true rfl)) laysP_nil) nd_one (Nat.le_of_ble_eq_true rfl)) lays_nil))))))) (Nat.le_of_ble_eq_true rfl)) : Lays K R1 _ _ _) H2 R1 _ (Same.refl _) p1 s2 fun R3 H3 v3 g3 p3 s3 u3 r3 => ?_⟩
    have n3 : R3 a = none := (g3.old a live2).trans n1
    refine ⟨_, rfl, _, rfl, a, _, 7, rfl, bx2.same u3, by omega, by omega, by omega, fun q4 H4 q40 q41 bx4 b4 => ?_⟩
    have s4 : Same R3 H4 := b4.same n3 s3
    obtain ⟨po, xo, vo, do_, rfl, o1, o2, o3, rw3⟩ := rep_pick (r3 : Rep K R3 v3 (.lst (dS len))) q40 q41
    refine ⟨po, xo, q4, vo, rfl, rfl, (Lq.of s4).seq o1, o2, ?_⟩
    have B4 : But a H H4 := B2.trans ((But.of u3).trans b4)
    have live4 : H4 a ≠ none := by
      obtain ⟨x, y, k, e, _⟩ := bx4
      rw [e]
      exact fun h => nomatch h
    refine ⟨((lays_lst (lays_cons (lays_pure (v := .str "nobody") (.str _ (by decide +kernel)) (fun _ _ h => h)) (lays_cons (lays_pure (v := .str "") (.str _ (by decide +kernel)) (fun _ _ h => h)) (lays_cons (lays_pure .non (fun _ _ h => h)) (lays_cons (lays_pure (v := .int 3) (.int _) (fun _ _ h => h)) (lays_cons (lays_lst (lays_cons (lays_pure (v := .str z) (.str _ hzl) (fun _ _ h => ⟨_, rfl, h⟩)) lays_nil) (Nat.le_of_ble_eq_true rfl)) lays_nil))))) (Nat.le_of_ble_eq_true rfl)) : Lays K R3 _ _ _) H4 R3 _ (Same.refl _) p3 s4 fun R5 H5 v5 g5 p5 s5 u5 r5 => ?_⟩
    have n5 : R5 a = none := (g5.old a live4).trans n3
    refine ⟨_, rfl, a, _, 5, rfl, bx4.same u5, by omega, by omega, by omega, fun q6 H6 q60 q61 bx6 b6 => ?_⟩
    have s6 : Same R5 H6 := b6.same n5 s5
    obtain ⟨pb, xb, vb, db, rfl, e1, e2, e3, rw5⟩ := rep_pick (r5 : Rep K R5 v5 (.lst (dB z))) q60 q61
    refine ⟨pb, xb, q6, vb, rfl, rfl, (Lq.of s6).seq e1, e2, _, _, rfl, ?_⟩
    have B6 : But a H H6 := B4.trans ((But.of u5).trans b6)
    have live6 : H6 a ≠ none := by
      obtain ⟨x, y, k, e, _⟩ := bx6
      rw [e]
      exact fun h => nomatch h
    -- numbers, needs
    refine ⟨((lays_lst (lays_cons (lays_lst (lays_cons (lays_pure (v := .int 0) (.int _) (fun _ _ h => h)) (lays_cons (lays_pure (v := .int (len + 1)) (.int _) (fun _ _ h => ⟨_, rfl, _, _, rfl, rfl, h⟩)) (lays_cons (lays_pure .non (fun _ _ h => h)) (lays_cons (lays_pure (.bl true) (fun _ _ h => h)) (lays_cons (lays_pure (v := .str "1") (.str _ (by decide +kernel)) (fun _ _ h => h)) lays_nil))))) (Nat.le_of_ble_eq_true rfl)) (lays_cons (lays_lst (lays_cons (lays_pure (v := .int 401) (.int _) (fun _ _ h => h)) (lays_cons (lays_pure (v := .int (-1)) (.int _) (fun _ _ h => ⟨_, rfl, h⟩)) (lays_cons (lays_pure .non (fun _ _ h => h)) (lays_cons (lays_pure (.bl true) (fun _ _ h => h)) (lays_cons (lays_pure (v := .str "1") (.str _ (by decide +kernel)) (fun _ _ h => h)) lays_nil))))) (Nat.le_of_ble_eq_true rfl)) lays_nil)) (Nat.le_of_ble_eq_true rfl)) : Lays K R5 _ _ _) H6 R5 _ (Same.refl _) p5 s6 fun R7 H7 v7 g7 p7 s7 u7 r7 => ?_⟩
    have n7 : R7 a = none := (g7.old a live6).trans n5
    have live7 : H7 a ≠ none := same_live u7 a live6
    refine ⟨((lays_lst (lays_cons (lays_pure .non (fun _ _ h => h)) (lays_cons (lays_pure (v := .int 3) (.int _) (fun _ _ h => h)) (lays_cons lays_dnew (lays_cons (lays_lst (lays_cons (lays_tup (lays_cons (lays_pure (v := .int 1) (.int _) (fun _ _ h => h)) lays_nil) (Nat.le_of_ble_eq_true rfl)) lays_nil) (Nat.le_of_ble_eq_true rfl)) (lays_cons (lays_lst (lays_cons (lays_lst (lays_cons (lays_pure (v := .int 1) (.int _) (fun _ _ h => h)) (lays_cons (lays_pure (v := .int 1) (.int _) (fun _ _ h => h)) lays_nil)) (Nat.le_of_ble_eq_true rfl)) lays_nil) (Nat.le_of_ble_eq_true rfl)) (lays_cons (lays_lst (lays_cons (lays_tup (lays_cons (lays_pure (v := .int 1) (.int _) (fun _ _ h => h)) (lays_cons (lays_pure (v := .int 401) (.int _) (fun _ _ h => h)) lays_nil)) (Nat.le_of_ble_eq_true rfl)) lays_nil) (Nat.le_of_ble_eq_true rfl)) (lays_cons (lays_lst (lays_cons (lays_tup (lays_cons (lays_pure (v := .int (-1)) (.int _) (fun _ _ h => ⟨_, rfl, h⟩)) (lays_cons (lays_pure (v := .int 1) (.int _) (fun _ _ h => h)) lays_nil)) (Nat.le_of_ble_eq_true rfl)) lays_nil) (Nat.le_of_ble_eq_true rfl)) (lays_cons (lays_lst (lays_cons (lays_tup (lays_cons (lays_pure (v := .int 1) (.int _) (fun _ _ h => h)) (lays_cons (lays_pure (.bl true) (fun _ _ h => h)) lays_nil)) (Nat.le_of_ble_eq_true rfl)) lays_nil) (Nat.le_of_ble_eq_true rfl)) (lays_cons (lays_rep (k := 61) (lays_tup (lays_cons (lays_pure (v := .int 1) (.int _) (fun _ _ h => h)) (lays_cons (lays_pure (v := .int 1) (.int _) (fun _ _ h => h)) lays_nil)) (Nat.le_of_ble_eq_true rfl)) (by decide)) lays_nil))))))))) (Nat.le_of_ble_eq_true rfl)) : Lays K R7 _ _ _) H7 R7 _ (Same.refl _) p7 s7 fun R8 H8 v8 g8 p8 s8 u8 r8 => ?_⟩
    have n8 : R8 a = none := (g8.old a live7).trans n7
    refine ⟨_, rfl, a, _, 9, rfl, (bx6.same u7).same u8, by omega, by omega, by omega, fun q9 H9 q90 q91 bx9 b9 => ?_⟩
    have s9 : Same R8 H9 := b9.same n8 s8
    obtain ⟨pd, xd, vd, dd, rfl, f1, f2, f3, rw8⟩ := rep_pick (r8 : Rep K R8 v8 (.lst dD)) q90 q91
    refine ⟨pd, xd, q9, vd, rfl, rfl, (Lq.of s9).seq f1, f2, ?_⟩
    have B9 : But a H H9 := B6.trans ((But.of u7).trans ((But.of u8).trans b9))
    -- all that is known
    have k18 : Same R1 R8 := g3.same.trans (g5.same.trans (g7.same.trans g8.same))
    have hW : Rep K R8 vw dw := rw1.same k18
    have hS : Rep K R8 vo do_ := rw3.same (g5.same.trans (g7.same.trans g8.same))
    have hB : Rep K R8 vb db := rw5.same (g7.same.trans g8.same)
    have hG : Rep K R8 vg (gD gs) := hg.same (g1.same.trans k18)
    have hN : Rep K R8 v7 (.lst [.lst (dN0 len), .lst dN1]) := (r7 : Rep K R7 v7 (.lst [.lst (dN0 len), .lst dN1])).same g8.same
    have fW := pW dw (List.mem_of_getElem? w3)
    have fS := pS hlen do_ (List.mem_of_getElem? o3)
    have fB := pB h6 (show z.length ≤ 1000 by omega) db (List.mem_of_getElem? e3)
    have fD := pD dd (List.mem_of_getElem? f3)
    have hwl : (D.int len).whole 4 60 = true := ok.whole
    have c1 : caseR (.int len) do_ db = 1 := caseR_1 hwl fS.1
    have c2 : caseR (.int len) (gD gs) db = 2 := by
      show (if (D.int len).whole 4 60 = true then if (gD gs).shares len = true then if db.keyOf (gD gs) = true then 3 else 2 else 1 else 0) = 2
      rw [if_pos hwl, if_pos ok.shares, fB.1]
      rfl
    have c3 : caseR (.int len) (gD gs) (.str z) = 3 := ok.case hj
    have hZ : Rep K R8 (.str z) (.str z) := .str z hzl
    have fZ : Fit 8 (.str z) := fit_str (by omega)
    have wd1 : ("number" : Str).length ≤ 100 := by decide +kernel
    have wd2 : ("share" : Str).length ≤ 100 := by decide +kernel
    have wd3 : ("guest" : Str).length ≤ 100 := by decide +kernel
    have wd4 : ("needs" : Str).length ≤ 100 := by decide +kernel
    refine ⟨_, rfl, by decide, by decide, ?_⟩
    refine for_it (w := walk_range) (fun t σ H' => ∃ (x10 x11 x12 x13 x14 x15 : Option V), σ = [some (.ref a), some (.int len), some vg, some (.str z), some vw, some (.ref po), some vo, some vb, some v7, some vd, x10, x11, x12, x13, x14, x15] ∧ Same R8 H' ∧ BoxAt H' a (n + 10 + t) ∧ But a H H')
      ⟨_, _, _, _, _, _, rfl, s9, bx9.mono (by omega), B9⟩ (fun _ _ _ _ _ => True.intro) ?_ ?_
    · rintro t x σ Ha Hb ht ⟨x10, x11, x12, x13, x14, x15, rfl, sa, bxa, Ba⟩ ⟨rfl, hx⟩
      have ht5 : t < 5 := ht
      have inner : True := True.intro
      have ht6 : t = 0 ∨ t = 1 ∨ t = 2 ∨ t = 3 ∨ t = 4 := by omega
      rcases ht6 with rfl | rfl | rfl | rfl | rfl
      · have hx2 : x = .int 0 := by
          rw [hx]
          rfl
        subst hx2
        obtain ⟨pn, xn, vn, dn, e7, i1, i2, i3, i4⟩ := rep_pick (q := 0) hN (by decide) (by show (0 : Int) < 2; decide)
        cases i3
        refine ⟨_, rfl, _, _, rfl, rfl, _, rfl, iteT ⟨_, rfl, _, rfl, pn, xn, _, vn, e7, rfl, (Lq.of sa).seq i1, i2, _, rfl, a, _, 5, rfl, bxa, by omega, by omega, by omega, fun qc Hc qc0 qc1 bxc bc => ?_⟩⟩
        have sc : Same R8 Hc := bc.same n8 sa
        obtain ⟨pm, xm, vm, dm, e8, m1, m2, m3, hM⟩ := rep_pick i4 qc0 qc1
        refine ⟨pm, xm, qc, vm, e8, rfl, (Lq.of sc).seq m1, m2, ?_⟩
        have fM := pN0 len dm (List.mem_of_getElem? m3)
        have Bc := Ba.trans bc
        refine ⟨_, rfl, _, rfl, _, rfl, _, rfl, _, rfl, R8, 0, vw, vo, vb, vm, dw, do_, db, dm, "number", vw, rfl, sc, p8, hW, hS, hB, hM, by decide, by decide, (fun _ => by rw [caseR_0 fW.1]; decide), .inl ⟨caseR_0 fW.1, rfl, rfl⟩, fun qd Hd sd hd => ?_⟩
        refine ⟨_, rfl, (show 3 ≤ sizeLine by decide), fun t1 ht1 => ⟨(show 1 ≤ sizeLine by decide), fun rows hrows => ?_⟩⟩
        have S1 := RS.init (K := K) (R := R8) sd hd ht1 hrows hW fW.2 wd1
        generalize upd (upd Hd t1 (.tup [.ref qd, .str "number", vw])) rows (.lst [.ref t1]) = He at S1 ⊢
        refine ⟨_, rfl, .inl ⟨rfl, _, SqL.of S1.r⟩, _, rfl, _, rfl, _, rfl, _, rfl, _, rfl, R8, 0, .int len, vo, vb, vm, .int len, do_, db, dm, "share", vo, rfl, sc.trans S1.s, p8, .int _, hS, hB, hM, by decide, by decide, (fun _ => by rw [c1]; decide), .inr (.inl ⟨c1, rfl, rfl⟩), fun qe Hf1 se1 he1 => ?_⟩
        refine ⟨_, rfl, (show 3 ≤ sizeLine by decide), fun te1 hte1 => ⟨rows, ([V.ref t1]), .ref te1, rfl, rfl, ?_, ?_, ?_⟩⟩
        · rw [upd_ne (Ne.symm (ne_at (se1 _ _ S1.r) hte1))]
          exact se1 _ _ S1.r
        · show 1 < sizeLine
          decide
        have S2 := S1.add se1 he1 hte1 hS fS.2 wd2
        have B1x := (But.of se1).trans (But.new (b := a) (o := .tup [.ref qe, .str "share", vo]) hte1)
        generalize upd (upd Hf1 te1 (.tup [.ref qe, .str "share", vo])) rows _ = Hg1 at S2 ⊢
        refine ⟨_, rfl, _, _, rfl, rfl, _, rfl, iteT ?_⟩
        refine ⟨_, rfl, .inl ⟨rfl, _, SqL.of S2.r⟩, _, rfl, _, rfl, _, rfl, _, rfl, _, rfl, R8, 0, .int len, vg, vb, vm, .int len, gD gs, db, dm, "guest", vb, rfl, sc.trans S2.s, p8, .int _, hG, hB, hM, by decide, by decide, (fun h => absurd h (by decide)), .inr (.inr (.inl ⟨c2, by decide, rfl, rfl⟩)), fun qe Hf2 se2 he2 => ?_⟩
        refine ⟨_, rfl, (show 3 ≤ sizeLine by decide), fun te2 hte2 => ⟨rows, ([V.ref t1] ++ [V.ref te1]), .ref te2, rfl, rfl, ?_, ?_, ?_⟩⟩
        · rw [upd_ne (Ne.symm (ne_at (se2 _ _ S2.r) hte2))]
          exact se2 _ _ S2.r
        · show 2 < sizeLine
          decide
        have S3 := S2.add se2 he2 hte2 hB fB.2 wd3
        have B2x := (But.of se2).trans (But.new (b := a) (o := .tup [.ref qe, .str "guest", vb]) hte2)
        generalize upd (upd Hf2 te2 (.tup [.ref qe, .str "guest", vb])) rows _ = Hg2 at S3 ⊢
        refine ⟨_, rfl, .inl ⟨rfl, _, SqL.of S3.r⟩, _, rfl, _, rfl, _, rfl, _, rfl, _, rfl, R8, 0, .int len, vg, .str z, vm, .int len, gD gs, .str z, dm, "number", vm, rfl, sc.trans S3.s, p8, .int _, hG, hZ, hM, by decide, by decide, (fun h => absurd h (by decide)), .inr (.inr (.inr (.inl ⟨c3, .inl ⟨rfl, fM.1⟩, rfl, rfl⟩))), fun qe Hf3 se3 he3 => ?_⟩
        refine ⟨_, rfl, _, _, rfl, rfl, _, rfl, iteT ⟨_, rfl, (show 3 ≤ sizeLine by decide), fun te3 hte3 => ⟨rows, ([V.ref t1] ++ [V.ref te1] ++ [V.ref te2]), .ref te3, rfl, rfl, ?_, ?_, ?_⟩⟩⟩
        · rw [upd_ne (Ne.symm (ne_at (se3 _ _ S3.r) hte3))]
          exact se3 _ _ S3.r
        · show 3 < sizeLine
          decide
        have S4 := S3.add se3 he3 hte3 hM fM.2 wd1
        have B3x := (But.of se3).trans (But.new (b := a) (o := .tup [.ref qe, .str "number", vm]) hte3)
        generalize upd (upd Hf3 te3 (.tup [.ref qe, .str "number", vm])) rows _ = Hg3 at S4 ⊢
        refine ⟨_, rfl, rows, rfl, ⟨_, SqL.of S4.r⟩, ?_⟩
        refine for_it (w := walk_list) (fun _ σ H' => ∃ (y13 y14 y15 : Option V), σ = [some (.ref a), some (.int len), some vg, some (.str z), some vw, some (.ref po), some vo, some vb, some v7, some vd, some (.int 0), some vm, some (.ref rows), y13, y14, y15] ∧ Same Hg3 H')
          ⟨_, _, _, rfl, Same.refl _⟩ (fun _ σ H' _ ⟨_, _, _, _, s⟩ => SqL.of (s _ _ S4.r)) ?_ ?_
        · rintro i x σ Hi Hj hi ⟨y13, y14, y15, rfl, si⟩ ⟨rfl, hxi⟩
          obtain ⟨tt, qq, word, v, d, rfl, _, _, h1, h2, h3, h4, h5⟩ := S4.ok x (List.mem_of_getElem? hxi)
          refine ⟨tt, _, rfl, SqT.of (si _ _ h1), rfl, _, _, rfl, _, _, rfl, _, _, rfl, rfl, ?_⟩
          refine ⟨_, rfl, _, rfl, _, rfl, (show 2 ≤ sizeLine by decide), fun q2 hq2 => ?_⟩
          have sj : Same R8 Hj := sc.trans (S4.s.trans si)
          obtain ⟨a1, a2, a3⟩ := know p8 sj (si _ _ h2) (fun _ _ z => nomatch z)
          have nq2 := a3.out hq2
          have wl : word.length ≤ sizeLine := by
            have : 100 < sizeLine := by decide
            omega
          have hv : Rep K (upd (upd R8 qq (.lst [.str word, v])) q2 (.lst [.str word, v])) v d := h3.same (a1.trans (same_new nq2))
          refine ⟨upd (upd R8 qq (.lst [.str word, v])) q2 (.lst [.str word, v]), .ref qq, .ref q2, .lst [.str word, d], rfl, a3.put, a2.put (fun _ _ z => nomatch z), ?_, ?_, ?_, fun Hk sk => ⟨_, rfl, iteF ⟨_, _, _, rfl, si.trans ((same_new hq2).trans sk)⟩⟩⟩
          · exact .lst (SqL.of (same_new nq2 _ _ upd_same)) (.cons (.str _ wl) (.cons hv .nil))
          · exact .lst (SqL.of upd_same) (.cons (.str _ wl) (.cons hv .nil))
          · exact ⟨by show 2 ≤ 1000; decide, fit_two (fit_str (by omega)) (fit_up h4)⟩
        · rintro σ Hi ⟨y13, y14, y15, rfl, si⟩
          exact ⟨_, _, _, _, _, _, rfl, sc.trans (S4.s.trans si), ((bxc.same (S4.s.trans si))).mono (by omega), Bc.trans (But.of (S4.s.trans si))⟩
      · have hx2 : x = .int 1 := by
          rw [hx]
          rfl
        subst hx2
        obtain ⟨pn, xn, vn, dn, e7, i1, i2, i3, i4⟩ := rep_pick (q := 1) hN (by decide) (by show (1 : Int) < 2; decide)
        cases i3
        refine ⟨_, rfl, _, _, rfl, rfl, _, rfl, iteT ⟨_, rfl, _, rfl, pn, xn, _, vn, e7, rfl, (Lq.of sa).seq i1, i2, _, rfl, a, _, 5, rfl, bxa, by omega, by omega, by omega, fun qc Hc qc0 qc1 bxc bc => ?_⟩⟩
        have sc : Same R8 Hc := bc.same n8 sa
        obtain ⟨pm, xm, vm, dm, e8, m1, m2, m3, hM⟩ := rep_pick i4 qc0 qc1
        refine ⟨pm, xm, qc, vm, e8, rfl, (Lq.of sc).seq m1, m2, ?_⟩
        have fM := pN1 dm (List.mem_of_getElem? m3)
        have Bc := Ba.trans bc
        refine ⟨_, rfl, _, rfl, _, rfl, _, rfl, _, rfl, R8, 1, vw, vo, vb, vm, dw, do_, db, dm, "number", vw, rfl, sc, p8, hW, hS, hB, hM, by decide, by decide, (fun _ => by rw [caseR_0 fW.1]; decide), .inl ⟨caseR_0 fW.1, rfl, rfl⟩, fun qd Hd sd hd => ?_⟩
        refine ⟨_, rfl, (show 3 ≤ sizeLine by decide), fun t1 ht1 => ⟨(show 1 ≤ sizeLine by decide), fun rows hrows => ?_⟩⟩
        have S1 := RS.init (K := K) (R := R8) sd hd ht1 hrows hW fW.2 wd1
        generalize upd (upd Hd t1 (.tup [.ref qd, .str "number", vw])) rows (.lst [.ref t1]) = He at S1 ⊢
        refine ⟨_, rfl, .inl ⟨rfl, _, SqL.of S1.r⟩, _, rfl, _, rfl, _, rfl, _, rfl, _, rfl, R8, 1, .int len, vo, vb, vm, .int len, do_, db, dm, "share", vo, rfl, sc.trans S1.s, p8, .int _, hS, hB, hM, by decide, by decide, (fun _ => by rw [c1]; decide), .inr (.inl ⟨c1, rfl, rfl⟩), fun qe Hf1 se1 he1 => ?_⟩
        refine ⟨_, rfl, (show 3 ≤ sizeLine by decide), fun te1 hte1 => ⟨rows, ([V.ref t1]), .ref te1, rfl, rfl, ?_, ?_, ?_⟩⟩
        · rw [upd_ne (Ne.symm (ne_at (se1 _ _ S1.r) hte1))]
          exact se1 _ _ S1.r
        · show 1 < sizeLine
          decide
        have S2 := S1.add se1 he1 hte1 hS fS.2 wd2
        have B1x := (But.of se1).trans (But.new (b := a) (o := .tup [.ref qe, .str "share", vo]) hte1)
        generalize upd (upd Hf1 te1 (.tup [.ref qe, .str "share", vo])) rows _ = Hg1 at S2 ⊢
        refine ⟨_, rfl, _, _, rfl, rfl, _, rfl, iteT ?_⟩
        refine ⟨_, rfl, .inl ⟨rfl, _, SqL.of S2.r⟩, _, rfl, _, rfl, _, rfl, _, rfl, _, rfl, R8, 1, .int len, vg, vb, vm, .int len, gD gs, db, dm, "guest", vb, rfl, sc.trans S2.s, p8, .int _, hG, hB, hM, by decide, by decide, (fun h => absurd h (by decide)), .inr (.inr (.inl ⟨c2, by decide, rfl, rfl⟩)), fun qe Hf2 se2 he2 => ?_⟩
        refine ⟨_, rfl, (show 3 ≤ sizeLine by decide), fun te2 hte2 => ⟨rows, ([V.ref t1] ++ [V.ref te1]), .ref te2, rfl, rfl, ?_, ?_, ?_⟩⟩
        · rw [upd_ne (Ne.symm (ne_at (se2 _ _ S2.r) hte2))]
          exact se2 _ _ S2.r
        · show 2 < sizeLine
          decide
        have S3 := S2.add se2 he2 hte2 hB fB.2 wd3
        have B2x := (But.of se2).trans (But.new (b := a) (o := .tup [.ref qe, .str "guest", vb]) hte2)
        generalize upd (upd Hf2 te2 (.tup [.ref qe, .str "guest", vb])) rows _ = Hg2 at S3 ⊢
        refine ⟨_, rfl, .inl ⟨rfl, _, SqL.of S3.r⟩, _, rfl, _, rfl, _, rfl, _, rfl, _, rfl, R8, 1, .int len, vg, .str z, vm, .int len, gD gs, .str z, dm, "number", vm, rfl, sc.trans S3.s, p8, .int _, hG, hZ, hM, by decide, by decide, (fun h => absurd h (by decide)), .inr (.inr (.inr (.inl ⟨c3, .inr ⟨rfl, fM.1⟩, rfl, rfl⟩))), fun qe Hf3 se3 he3 => ?_⟩
        refine ⟨_, rfl, _, _, rfl, rfl, _, rfl, iteT ⟨_, rfl, (show 3 ≤ sizeLine by decide), fun te3 hte3 => ⟨rows, ([V.ref t1] ++ [V.ref te1] ++ [V.ref te2]), .ref te3, rfl, rfl, ?_, ?_, ?_⟩⟩⟩
        · rw [upd_ne (Ne.symm (ne_at (se3 _ _ S3.r) hte3))]
          exact se3 _ _ S3.r
        · show 3 < sizeLine
          decide
        have S4 := S3.add se3 he3 hte3 hM fM.2 wd1
        have B3x := (But.of se3).trans (But.new (b := a) (o := .tup [.ref qe, .str "number", vm]) hte3)
        generalize upd (upd Hf3 te3 (.tup [.ref qe, .str "number", vm])) rows _ = Hg3 at S4 ⊢
        refine ⟨_, rfl, rows, rfl, ⟨_, SqL.of S4.r⟩, ?_⟩
        refine for_it (w := walk_list) (fun _ σ H' => ∃ (y13 y14 y15 : Option V), σ = [some (.ref a), some (.int len), some vg, some (.str z), some vw, some (.ref po), some vo, some vb, some v7, some vd, some (.int 1), some vm, some (.ref rows), y13, y14, y15] ∧ Same Hg3 H')
          ⟨_, _, _, rfl, Same.refl _⟩ (fun _ σ H' _ ⟨_, _, _, _, s⟩ => SqL.of (s _ _ S4.r)) ?_ ?_
        · rintro i x σ Hi Hj hi ⟨y13, y14, y15, rfl, si⟩ ⟨rfl, hxi⟩
          obtain ⟨tt, qq, word, v, d, rfl, _, _, h1, h2, h3, h4, h5⟩ := S4.ok x (List.mem_of_getElem? hxi)
          refine ⟨tt, _, rfl, SqT.of (si _ _ h1), rfl, _, _, rfl, _, _, rfl, _, _, rfl, rfl, ?_⟩
          refine ⟨_, rfl, _, rfl, _, rfl, (show 2 ≤ sizeLine by decide), fun q2 hq2 => ?_⟩
          have sj : Same R8 Hj := sc.trans (S4.s.trans si)
          obtain ⟨a1, a2, a3⟩ := know p8 sj (si _ _ h2) (fun _ _ z => nomatch z)
          have nq2 := a3.out hq2
          have wl : word.length ≤ sizeLine := by
            have : 100 < sizeLine := by decide
            omega
          have hv : Rep K (upd (upd R8 qq (.lst [.str word, v])) q2 (.lst [.str word, v])) v d := h3.same (a1.trans (same_new nq2))
          refine ⟨upd (upd R8 qq (.lst [.str word, v])) q2 (.lst [.str word, v]), .ref qq, .ref q2, .lst [.str word, d], rfl, a3.put, a2.put (fun _ _ z => nomatch z), ?_, ?_, ?_, fun Hk sk => ⟨_, rfl, iteF ⟨_, _, _, rfl, si.trans ((same_new hq2).trans sk)⟩⟩⟩
          · exact .lst (SqL.of (same_new nq2 _ _ upd_same)) (.cons (.str _ wl) (.cons hv .nil))
          · exact .lst (SqL.of upd_same) (.cons (.str _ wl) (.cons hv .nil))
          · exact ⟨by show 2 ≤ 1000; decide, fit_two (fit_str (by omega)) (fit_up h4)⟩
        · rintro σ Hi ⟨y13, y14, y15, rfl, si⟩
          exact ⟨_, _, _, _, _, _, rfl, sc.trans (S4.s.trans si), ((bxc.same (S4.s.trans si))).mono (by omega), Bc.trans (But.of (S4.s.trans si))⟩
      · have hx2 : x = .int 2 := by
          rw [hx]
          rfl
        subst hx2
        refine ⟨_, rfl, _, _, rfl, rfl, _, rfl, iteF ⟨_, rfl, ?_⟩⟩
        have sc : Same R8 Hb := sa
        refine ⟨_, rfl, _, rfl, _, rfl, _, rfl, _, rfl, R8, 2, vw, vo, vb, vd, dw, do_, db, dd, "number", vw, rfl, sc, p8, hW, hS, hB, (rw8), by decide, by decide, (fun _ => by rw [caseR_0 fW.1]; decide), .inl ⟨caseR_0 fW.1, rfl, rfl⟩, fun qd Hd sd hd => ?_⟩
        refine ⟨_, rfl, (show 3 ≤ sizeLine by decide), fun t1 ht1 => ⟨(show 1 ≤ sizeLine by decide), fun rows hrows => ?_⟩⟩
        have S1 := RS.init (K := K) (R := R8) sd hd ht1 hrows hW fW.2 wd1
        generalize upd (upd Hd t1 (.tup [.ref qd, .str "number", vw])) rows (.lst [.ref t1]) = He at S1 ⊢
        refine ⟨_, rfl, .inl ⟨rfl, _, SqL.of S1.r⟩, _, rfl, _, rfl, _, rfl, _, rfl, _, rfl, R8, 2, .int len, vo, vb, vd, .int len, do_, db, dd, "share", vo, rfl, sc.trans S1.s, p8, .int _, hS, hB, (rw8), by decide, by decide, (fun _ => by rw [c1]; decide), .inr (.inl ⟨c1, rfl, rfl⟩), fun qe Hf1 se1 he1 => ?_⟩
        refine ⟨_, rfl, (show 3 ≤ sizeLine by decide), fun te1 hte1 => ⟨rows, ([V.ref t1]), .ref te1, rfl, rfl, ?_, ?_, ?_⟩⟩
        · rw [upd_ne (Ne.symm (ne_at (se1 _ _ S1.r) hte1))]
          exact se1 _ _ S1.r
        · show 1 < sizeLine
          decide
        have S2 := S1.add se1 he1 hte1 hS fS.2 wd2
        have B1x := (But.of se1).trans (But.new (b := a) (o := .tup [.ref qe, .str "share", vo]) hte1)
        generalize upd (upd Hf1 te1 (.tup [.ref qe, .str "share", vo])) rows _ = Hg1 at S2 ⊢
        refine ⟨_, rfl, _, _, rfl, rfl, _, rfl, iteT ?_⟩
        refine ⟨_, rfl, .inl ⟨rfl, _, SqL.of S2.r⟩, _, rfl, _, rfl, _, rfl, _, rfl, _, rfl, R8, 2, .int len, vg, vb, vd, .int len, gD gs, db, dd, "guest", vb, rfl, sc.trans S2.s, p8, .int _, hG, hB, (rw8), by decide, by decide, (fun h => absurd h (by decide)), .inr (.inr (.inl ⟨c2, by decide, rfl, rfl⟩)), fun qe Hf2 se2 he2 => ?_⟩
        refine ⟨_, rfl, (show 3 ≤ sizeLine by decide), fun te2 hte2 => ⟨rows, ([V.ref t1] ++ [V.ref te1]), .ref te2, rfl, rfl, ?_, ?_, ?_⟩⟩
        · rw [upd_ne (Ne.symm (ne_at (se2 _ _ S2.r) hte2))]
          exact se2 _ _ S2.r
        · show 2 < sizeLine
          decide
        have S3 := S2.add se2 he2 hte2 hB fB.2 wd3
        have B2x := (But.of se2).trans (But.new (b := a) (o := .tup [.ref qe, .str "guest", vb]) hte2)
        generalize upd (upd Hf2 te2 (.tup [.ref qe, .str "guest", vb])) rows _ = Hg2 at S3 ⊢
        refine ⟨_, rfl, .inl ⟨rfl, _, SqL.of S3.r⟩, _, rfl, _, rfl, _, rfl, _, rfl, _, rfl, R8, 2, .int len, vg, .str z, vd, .int len, gD gs, .str z, dd, "needs", vd, rfl, sc.trans S3.s, p8, .int _, hG, hZ, (rw8), by decide, by decide, (fun h => absurd h (by decide)), .inr (.inr (.inr (.inr (.inl ⟨c3, .inl rfl, fD.1, rfl, rfl⟩)))), fun qe Hf3 se3 he3 => ?_⟩
        refine ⟨_, rfl, _, _, rfl, rfl, _, rfl, iteF ⟨_, rfl, (show 3 ≤ sizeLine by decide), fun te3 hte3 => ⟨rows, ([V.ref t1] ++ [V.ref te1] ++ [V.ref te2]), .ref te3, rfl, rfl, ?_, ?_, ?_⟩⟩⟩
        · rw [upd_ne (Ne.symm (ne_at (se3 _ _ S3.r) hte3))]
          exact se3 _ _ S3.r
        · show 3 < sizeLine
          decide
        have S4 := S3.add se3 he3 hte3 (rw8) fD.2 wd4
        have B3x := (But.of se3).trans (But.new (b := a) (o := .tup [.ref qe, .str "needs", vd]) hte3)
        generalize upd (upd Hf3 te3 (.tup [.ref qe, .str "needs", vd])) rows _ = Hg3 at S4 ⊢
        refine ⟨_, rfl, rows, rfl, ⟨_, SqL.of S4.r⟩, ?_⟩
        refine for_it (w := walk_list) (fun _ σ H' => ∃ (y13 y14 y15 : Option V), σ = [some (.ref a), some (.int len), some vg, some (.str z), some vw, some (.ref po), some vo, some vb, some v7, some vd, some (.int 2), some vd, some (.ref rows), y13, y14, y15] ∧ Same Hg3 H')
          ⟨_, _, _, rfl, Same.refl _⟩ (fun _ σ H' _ ⟨_, _, _, _, s⟩ => SqL.of (s _ _ S4.r)) ?_ ?_
        · rintro i x σ Hi Hj hi ⟨y13, y14, y15, rfl, si⟩ ⟨rfl, hxi⟩
          obtain ⟨tt, qq, word, v, d, rfl, _, _, h1, h2, h3, h4, h5⟩ := S4.ok x (List.mem_of_getElem? hxi)
          refine ⟨tt, _, rfl, SqT.of (si _ _ h1), rfl, _, _, rfl, _, _, rfl, _, _, rfl, rfl, ?_⟩
          refine ⟨_, rfl, _, rfl, _, rfl, (show 2 ≤ sizeLine by decide), fun q2 hq2 => ?_⟩
          have sj : Same R8 Hj := sc.trans (S4.s.trans si)
          obtain ⟨a1, a2, a3⟩ := know p8 sj (si _ _ h2) (fun _ _ z => nomatch z)
          have nq2 := a3.out hq2
          have wl : word.length ≤ sizeLine := by
            have : 100 < sizeLine := by decide
            omega
          have hv : Rep K (upd (upd R8 qq (.lst [.str word, v])) q2 (.lst [.str word, v])) v d := h3.same (a1.trans (same_new nq2))
          refine ⟨upd (upd R8 qq (.lst [.str word, v])) q2 (.lst [.str word, v]), .ref qq, .ref q2, .lst [.str word, d], rfl, a3.put, a2.put (fun _ _ z => nomatch z), ?_, ?_, ?_, fun Hk sk => ⟨_, rfl, iteF ⟨_, _, _, rfl, si.trans ((same_new hq2).trans sk)⟩⟩⟩
          · exact .lst (SqL.of (same_new nq2 _ _ upd_same)) (.cons (.str _ wl) (.cons hv .nil))
          · exact .lst (SqL.of upd_same) (.cons (.str _ wl) (.cons hv .nil))
          · exact ⟨by show 2 ≤ 1000; decide, fit_two (fit_str (by omega)) (fit_up h4)⟩
        · rintro σ Hi ⟨y13, y14, y15, rfl, si⟩
          exact ⟨_, _, _, _, _, _, rfl, sc.trans (S4.s.trans si), ((bxa.same (S4.s.trans si))).mono (by omega), Ba.trans (But.of (S4.s.trans si))⟩
      · have hx2 : x = .int 3 := by
          rw [hx]
          rfl
        subst hx2
        refine ⟨_, rfl, _, _, rfl, rfl, _, rfl, iteF ⟨_, rfl, ?_⟩⟩
        have sc : Same R8 Hb := sa
        refine ⟨_, rfl, _, rfl, _, rfl, _, rfl, _, rfl, R8, 3, vw, vo, vb, vd, dw, do_, db, dd, "number", vw, rfl, sc, p8, hW, hS, hB, (rw8), by decide, by decide, (fun _ => by rw [caseR_0 fW.1]; decide), .inl ⟨caseR_0 fW.1, rfl, rfl⟩, fun qd Hd sd hd => ?_⟩
        refine ⟨_, rfl, (show 3 ≤ sizeLine by decide), fun t1 ht1 => ⟨(show 1 ≤ sizeLine by decide), fun rows hrows => ?_⟩⟩
        have S1 := RS.init (K := K) (R := R8) sd hd ht1 hrows hW fW.2 wd1
        generalize upd (upd Hd t1 (.tup [.ref qd, .str "number", vw])) rows (.lst [.ref t1]) = He at S1 ⊢
        refine ⟨_, rfl, .inl ⟨rfl, _, SqL.of S1.r⟩, _, rfl, _, rfl, _, rfl, _, rfl, _, rfl, R8, 3, .int len, vo, vb, vd, .int len, do_, db, dd, "share", vo, rfl, sc.trans S1.s, p8, .int _, hS, hB, (rw8), by decide, by decide, (fun _ => by rw [c1]; decide), .inr (.inl ⟨c1, rfl, rfl⟩), fun qe Hf1 se1 he1 => ?_⟩
        refine ⟨_, rfl, (show 3 ≤ sizeLine by decide), fun te1 hte1 => ⟨rows, ([V.ref t1]), .ref te1, rfl, rfl, ?_, ?_, ?_⟩⟩
        · rw [upd_ne (Ne.symm (ne_at (se1 _ _ S1.r) hte1))]
          exact se1 _ _ S1.r
        · show 1 < sizeLine
          decide
        have S2 := S1.add se1 he1 hte1 hS fS.2 wd2
        have B1x := (But.of se1).trans (But.new (b := a) (o := .tup [.ref qe, .str "share", vo]) hte1)
        generalize upd (upd Hf1 te1 (.tup [.ref qe, .str "share", vo])) rows _ = Hg1 at S2 ⊢
        refine ⟨_, rfl, _, _, rfl, rfl, _, rfl, iteT ?_⟩
        refine ⟨_, rfl, .inl ⟨rfl, _, SqL.of S2.r⟩, _, rfl, _, rfl, _, rfl, _, rfl, _, rfl, R8, 3, .int len, vg, vb, vd, .int len, gD gs, db, dd, "guest", vb, rfl, sc.trans S2.s, p8, .int _, hG, hB, (rw8), by decide, by decide, (fun h => absurd h (by decide)), .inr (.inr (.inl ⟨c2, by decide, rfl, rfl⟩)), fun qe Hf2 se2 he2 => ?_⟩
        refine ⟨_, rfl, (show 3 ≤ sizeLine by decide), fun te2 hte2 => ⟨rows, ([V.ref t1] ++ [V.ref te1]), .ref te2, rfl, rfl, ?_, ?_, ?_⟩⟩
        · rw [upd_ne (Ne.symm (ne_at (se2 _ _ S2.r) hte2))]
          exact se2 _ _ S2.r
        · show 2 < sizeLine
          decide
        have S3 := S2.add se2 he2 hte2 hB fB.2 wd3
        have B2x := (But.of se2).trans (But.new (b := a) (o := .tup [.ref qe, .str "guest", vb]) hte2)
        generalize upd (upd Hf2 te2 (.tup [.ref qe, .str "guest", vb])) rows _ = Hg2 at S3 ⊢
        refine ⟨_, rfl, .inl ⟨rfl, _, SqL.of S3.r⟩, _, rfl, _, rfl, _, rfl, _, rfl, _, rfl, R8, 3, .int len, vg, .str z, vd, .int len, gD gs, .str z, dd, "needs", vd, rfl, sc.trans S3.s, p8, .int _, hG, hZ, (rw8), by decide, by decide, (fun h => absurd h (by decide)), .inr (.inr (.inr (.inr (.inl ⟨c3, .inr rfl, fD.1, rfl, rfl⟩)))), fun qe Hf3 se3 he3 => ?_⟩
        refine ⟨_, rfl, _, _, rfl, rfl, _, rfl, iteF ⟨_, rfl, (show 3 ≤ sizeLine by decide), fun te3 hte3 => ⟨rows, ([V.ref t1] ++ [V.ref te1] ++ [V.ref te2]), .ref te3, rfl, rfl, ?_, ?_, ?_⟩⟩⟩
        · rw [upd_ne (Ne.symm (ne_at (se3 _ _ S3.r) hte3))]
          exact se3 _ _ S3.r
        · show 3 < sizeLine
          decide
        have S4 := S3.add se3 he3 hte3 (rw8) fD.2 wd4
        have B3x := (But.of se3).trans (But.new (b := a) (o := .tup [.ref qe, .str "needs", vd]) hte3)
        generalize upd (upd Hf3 te3 (.tup [.ref qe, .str "needs", vd])) rows _ = Hg3 at S4 ⊢
        refine ⟨_, rfl, rows, rfl, ⟨_, SqL.of S4.r⟩, ?_⟩
        refine for_it (w := walk_list) (fun _ σ H' => ∃ (y13 y14 y15 : Option V), σ = [some (.ref a), some (.int len), some vg, some (.str z), some vw, some (.ref po), some vo, some vb, some v7, some vd, some (.int 3), some vd, some (.ref rows), y13, y14, y15] ∧ Same Hg3 H')
          ⟨_, _, _, rfl, Same.refl _⟩ (fun _ σ H' _ ⟨_, _, _, _, s⟩ => SqL.of (s _ _ S4.r)) ?_ ?_
        · rintro i x σ Hi Hj hi ⟨y13, y14, y15, rfl, si⟩ ⟨rfl, hxi⟩
          obtain ⟨tt, qq, word, v, d, rfl, _, _, h1, h2, h3, h4, h5⟩ := S4.ok x (List.mem_of_getElem? hxi)
          refine ⟨tt, _, rfl, SqT.of (si _ _ h1), rfl, _, _, rfl, _, _, rfl, _, _, rfl, rfl, ?_⟩
          refine ⟨_, rfl, _, rfl, _, rfl, (show 2 ≤ sizeLine by decide), fun q2 hq2 => ?_⟩
          have sj : Same R8 Hj := sc.trans (S4.s.trans si)
          obtain ⟨a1, a2, a3⟩ := know p8 sj (si _ _ h2) (fun _ _ z => nomatch z)
          have nq2 := a3.out hq2
          have wl : word.length ≤ sizeLine := by
            have : 100 < sizeLine := by decide
            omega
          have hv : Rep K (upd (upd R8 qq (.lst [.str word, v])) q2 (.lst [.str word, v])) v d := h3.same (a1.trans (same_new nq2))
          refine ⟨upd (upd R8 qq (.lst [.str word, v])) q2 (.lst [.str word, v]), .ref qq, .ref q2, .lst [.str word, d], rfl, a3.put, a2.put (fun _ _ z => nomatch z), ?_, ?_, ?_, fun Hk sk => ⟨_, rfl, iteF ⟨_, _, _, rfl, si.trans ((same_new hq2).trans sk)⟩⟩⟩
          · exact .lst (SqL.of (same_new nq2 _ _ upd_same)) (.cons (.str _ wl) (.cons hv .nil))
          · exact .lst (SqL.of upd_same) (.cons (.str _ wl) (.cons hv .nil))
          · exact ⟨by show 2 ≤ 1000; decide, fit_two (fit_str (by omega)) (fit_up h4)⟩
        · rintro σ Hi ⟨y13, y14, y15, rfl, si⟩
          exact ⟨_, _, _, _, _, _, rfl, sc.trans (S4.s.trans si), ((bxa.same (S4.s.trans si))).mono (by omega), Ba.trans (But.of (S4.s.trans si))⟩
      · have hx2 : x = .int 4 := by
          rw [hx]
          rfl
        subst hx2
        refine ⟨_, rfl, _, _, rfl, rfl, _, rfl, iteF ⟨_, rfl, ?_⟩⟩
        have sc : Same R8 Hb := sa
        refine ⟨_, rfl, _, rfl, _, rfl, _, rfl, _, rfl, R8, 4, vw, vo, vb, vd, dw, do_, db, dd, "number", vw, rfl, sc, p8, hW, hS, hB, (rw8), by decide, by decide, (fun _ => by rw [caseR_0 fW.1]; decide), .inl ⟨caseR_0 fW.1, rfl, rfl⟩, fun qd Hd sd hd => ?_⟩
        refine ⟨_, rfl, (show 3 ≤ sizeLine by decide), fun t1 ht1 => ⟨(show 1 ≤ sizeLine by decide), fun rows hrows => ?_⟩⟩
        have S1 := RS.init (K := K) (R := R8) sd hd ht1 hrows hW fW.2 wd1
        generalize upd (upd Hd t1 (.tup [.ref qd, .str "number", vw])) rows (.lst [.ref t1]) = He at S1 ⊢
        refine ⟨_, rfl, .inl ⟨rfl, _, SqL.of S1.r⟩, _, rfl, _, rfl, _, rfl, _, rfl, _, rfl, R8, 4, .int len, vo, vb, vd, .int len, do_, db, dd, "share", vo, rfl, sc.trans S1.s, p8, .int _, hS, hB, (rw8), by decide, by decide, (fun _ => by rw [c1]; decide), .inr (.inl ⟨c1, rfl, rfl⟩), fun qe Hf1 se1 he1 => ?_⟩
        refine ⟨_, rfl, (show 3 ≤ sizeLine by decide), fun te1 hte1 => ⟨rows, ([V.ref t1]), .ref te1, rfl, rfl, ?_, ?_, ?_⟩⟩
        · rw [upd_ne (Ne.symm (ne_at (se1 _ _ S1.r) hte1))]
          exact se1 _ _ S1.r
        · show 1 < sizeLine
          decide
        have S2 := S1.add se1 he1 hte1 hS fS.2 wd2
        have B1x := (But.of se1).trans (But.new (b := a) (o := .tup [.ref qe, .str "share", vo]) hte1)
        generalize upd (upd Hf1 te1 (.tup [.ref qe, .str "share", vo])) rows _ = Hg1 at S2 ⊢
        refine ⟨_, rfl, _, _, rfl, rfl, _, rfl, iteF ?_⟩
        refine ⟨_, rfl, rows, rfl, ⟨_, SqL.of S2.r⟩, ?_⟩
        refine for_it (w := walk_list) (fun _ σ H' => ∃ (y13 y14 y15 : Option V), σ = [some (.ref a), some (.int len), some vg, some (.str z), some vw, some (.ref po), some vo, some vb, some v7, some vd, some (.int 4), some vd, some (.ref rows), y13, y14, y15] ∧ Same Hg1 H')
          ⟨_, _, _, rfl, Same.refl _⟩ (fun _ σ H' _ ⟨_, _, _, _, s⟩ => SqL.of (s _ _ S2.r)) ?_ ?_
        · rintro i x σ Hi Hj hi ⟨y13, y14, y15, rfl, si⟩ ⟨rfl, hxi⟩
          obtain ⟨tt, qq, word, v, d, rfl, _, _, h1, h2, h3, h4, h5⟩ := S2.ok x (List.mem_of_getElem? hxi)
          refine ⟨tt, _, rfl, SqT.of (si _ _ h1), rfl, _, _, rfl, _, _, rfl, _, _, rfl, rfl, ?_⟩
          refine ⟨_, rfl, _, rfl, _, rfl, (show 2 ≤ sizeLine by decide), fun q2 hq2 => ?_⟩
          have sj : Same R8 Hj := sc.trans (S2.s.trans si)
          obtain ⟨a1, a2, a3⟩ := know p8 sj (si _ _ h2) (fun _ _ z => nomatch z)
          have nq2 := a3.out hq2
          have wl : word.length ≤ sizeLine := by
            have : 100 < sizeLine := by decide
            omega
          have hv : Rep K (upd (upd R8 qq (.lst [.str word, v])) q2 (.lst [.str word, v])) v d := h3.same (a1.trans (same_new nq2))
          refine ⟨upd (upd R8 qq (.lst [.str word, v])) q2 (.lst [.str word, v]), .ref qq, .ref q2, .lst [.str word, d], rfl, a3.put, a2.put (fun _ _ z => nomatch z), ?_, ?_, ?_, fun Hk sk => ⟨_, rfl, iteF ⟨_, _, _, rfl, si.trans ((same_new hq2).trans sk)⟩⟩⟩
          · exact .lst (SqL.of (same_new nq2 _ _ upd_same)) (.cons (.str _ wl) (.cons hv .nil))
          · exact .lst (SqL.of upd_same) (.cons (.str _ wl) (.cons hv .nil))
          · exact ⟨by show 2 ≤ 1000; decide, fit_two (fit_str (by omega)) (fit_up h4)⟩
        · rintro σ Hi ⟨y13, y14, y15, rfl, si⟩
          exact ⟨_, _, _, _, _, _, rfl, sc.trans (S2.s.trans si), ((bxa.same (S2.s.trans si))).mono (by omega), Ba.trans (But.of (S2.s.trans si))⟩
    · rintro σ Ha ⟨x10, x11, x12, x13, x14, x15, rfl, sa, bxa, Ba⟩
      have cw : (D.int len).whole 1 len = true := by
        show (decide (1 ≤ len) && decide (len ≤ len)) = true
        rw [decide_eq_true (by omega), decide_eq_true (Int.le_refl _)]
        rfl
      refine ⟨_, rfl, _, rfl, _, rfl, _, rfl, R8, 0, .int len, vg, .str z, .int len, .int len, gD gs, .str z, .int len, "told", .non, rfl, sa, p8, .int _, hG, hZ, .int _, by decide, by decide, (fun h => absurd h (by decide)), .inr (.inr (.inr (.inr (.inr ⟨c3, rfl, cw, ⟨len, gs, j, z, p, c, len, ⟨rfl, rfl, rfl, ok, hj⟩, rfl⟩, rfl, rfl⟩)))), fun q Hc sc hc => ?_⟩
      refine ⟨(show 2 ≤ sizeLine by decide), fun q2 hq2 => ?_⟩
      refine ⟨.list [.str "told", .none], .list [.str "told", .none], .lst (SqL.of (same_new hq2 _ _ hc)) (.cons (.str _) (.cons .non .nil)), .lst (SqL.of upd_same) (.cons (.str _) (.cons .non .nil)), by decide +kernel, by decide +kernel, ?_⟩
      have e : PyData.eqv (.list [.str "told", .none]) (.list [.str "told", .none]) = true := by decide +kernel
      rw [e]
      exact hq _ (((bxa.same sc).same (same_new hq2)).mono (by show n + 10 + ((5 : Nat) : Int) ≤ n + 100; omega)) (Ba.trans ((But.of sc).trans (But.new hq2)))
end
end K87

set_option Elab.async false
set_option linter.all false
set_option maxRecDepth 100000
set_option maxHeartbeats 1000000
namespace K87
open PySem PySem.Spec PyProof.Rows L2 RP
def optD : Option Int → D
  | none => .non
  | some i => .int i
theorem rep_opt {K : PySem.W.Frag} {R : Hp} : ∀ o : Option Int, Rep K R (optV o) (optD o)
  | none => .non
  | some i => .int i
theorem fit_opt {n : Nat} : ∀ o : Option Int, Fit (n + 1) (optD o)
  | none => True.intro
  | some _ => True.intro
theorem IsNd.needs {d : D} {l : List (Int × Int)} (n : IsNd d l) (h1 : l.length ≤ 60) (h2 : ∀ e ∈ l, (0 ≤ e.1 ∧ e.1 ≤ 400) ∧ 0 ≤ e.2 ∧ e.2 ≤ 400) : d.needs = true := by
  have h3 : (decide ((l.map ndD).length ≤ 60) && (l.map ndD).all ndOk) = true := by
    rw [decide_eq_true (by rw [List.length_map]; exact h1), Bool.true_and]
    refine List.all_eq_true.mpr fun x hx => ?_
    obtain ⟨e, he, rfl⟩ := List.mem_map.mp hx
    obtain ⟨⟨a1, a2⟩, a3, a4⟩ := h2 e he
    show ((decide (0 ≤ e.1) && decide (e.1 ≤ 400)) && (decide (0 ≤ e.2) && decide (e.2 ≤ 400))) = true
    rw [decide_eq_true a1, decide_eq_true a2, decide_eq_true a3, decide_eq_true a4]
    rfl
  rcases n with rfl | rfl <;> exact h3
theorem least_nil {len : Int} {gs : List G3} {j : Nat} {z : Str} {p c : Int} (g : GsOk len gs) (hj : gs[j]? = some (z, p, c)) : least len gs j z c [] = some 0 := by
  have hjl : j < gs.length := (List.getElem?_eq_some_iff.mp hj).1
  have hlen := g.len
  have h1 := oth_sum hjl
  have h2 := g.sum
  have h3 := (g.at_sh hjl).1
  have e : leastB len gs j z c [] 0 = true := by
    unfold leastB
    have hf : fits len (setP gs j z ((0 : Nat) : Int) c) = true := by
      rw [fits_iff (q := ((0 : Nat) : Int)) hj]
      exact decide_eq_true (by omega)
    rw [hf]
    rfl
  unfold least
  rw [find_hit (i := 0) (by omega) e fun k hk => absurd hk (Nat.not_lt_zero _)]
  rfl
section
variable {P : Program} {w : World} {K : PySem.W.Frag} {mg : Str → Option Value} {base : Heap}
/-! ### law -/
theorem sc_law : FnScope ["script", "k", "box", "length", "guests", "name", "needs", "handed", "told"] ["script"] (defScope s_law) := ⟨rfl, rfl, rfl, by decide +kernel, rfl, by decide +kernel, by decide +kernel⟩
def spLaw (K : PySem.W.Frag) : Sp := fun vs H Q _ => ∃ (a : Addr) (ns : List Int), vs = [.ref a] ∧ SqL K H a (ns.map V.int) ∧ ∀ H', Q (.bl true) H'
theorem ok_law (T : Txt K mg) (G__law_cell : Def P w K mg base 1 "_law_cell" ["script", "k"] (spCell K)) (G__law_box : Def P w K mg base 1 "_law_box" ["cell"] (spBox K)) (G__law_case : Def P w K mg base 2 "_law_case" ["box"] (spCase K))
    (G__law_take : Def P w K mg base 1 "_law_take" ["box", "many"] (spTake K)) (G__law_needs : Def P w K mg base 4 "_law_needs" ["box", "length", "guests", "name"] (spLNeeds K)) (G_first_unmet : Def P w K mg base 6 "first_unmet" ["length", "guests", "name", "needs"] (spUnmet K))
    (G_least_promise : Def P w K mg base 7 "least_promise" ["length", "guests", "name", "needs"] (spLeast K)) (G__law_same : Def P w K mg base 11 "_law_same" ["told", "due"] (spSame 10 K)) (G__law_unmet : Def P w K mg base 4 "_law_unmet" ["length", "guests", "name", "needs"] (spLUnmet K))
    (G__law_least : Def P w K mg base 5 "_law_least" ["length", "guests", "name", "needs"] (spLLeast K)) (G__law_refusals_right : Def P w K mg base 12 "_law_refusals_right" ["box", "length", "guests", "name"] (spRefus K)) {f : Addr} {fd : FuncData} (F : At K mg "law" s_law f fd) : FnOk P w K mg base (L2.CX P w) 13 f fd ["script"] (spLaw K) := by
  refine F.fn.ok sc_law (fun vs H Q E h => ?_) (fun cdv A outer s H vs Q E hr h => ?_)
  · obtain ⟨a, ns, rfl, _⟩ := h
    rfl
  · obtain ⟨a, ns, rfl, hS, hq⟩ := h
    refine ⟨_, (pss_cons (ps_for (passes_of rfl) rfl (pi_range1 (by rfl) T.b_range (pa_cons (pe_callB (call_max2 rfl) (by rfl) T.b_max (by decide +kernel) (pa_cons pe_int (pa_cons (pe_callB (call_min2 rfl) (by rfl) T.b_min (by decide +kernel) (pa_cons pe_int (pa_cons (pe_callB (kcall_len_seq K rfl) (by rfl) T.b_len (by decide +kernel) (pa_cons (pv 0) pa_nil)) pa_nil))) pa_nil))) pa_nil)) (pg_name (i := 1) sc_law.nd rfl (Or.inl rfl))
        (pss_cons (ps_set (i := 2) sc_law.nd rfl (Or.inl rfl) (pe_d G__law_box (hr.mono (by decide)) (by rfl) (pa_cons (pe_d G__law_cell (hr.mono (by decide)) (by rfl) (pa_cons (pv 0) (pa_cons (pv 1) pa_nil))) pa_nil)))
      (pss_cons (ps_asg (pe_d G__law_case (hr.mono (by decide)) (by rfl) (pa_cons (pv 2) pa_nil)) (kpg_tup K rfl (n := 2) rfl (pgs_cons (pg_name (i := 3) sc_law.nd rfl (Or.inl rfl)) (pgs_cons (pg_name (i := 4) sc_law.nd rfl (Or.inl rfl)) pgs_nil))))
      (pss_cons (ps_set (i := 5) sc_law.nd rfl (Or.inl rfl) (pe_ix (kix_list K rfl) (pe_callTy (call_listD rfl) (by rfl) T.b_list (by decide +kernel) (pa_cons (pv 4) pa_nil)) (pe_d G__law_take (hr.mono (by decide)) (by rfl) (pa_cons (pv 2) (pa_cons (pe_callB call_lenD (by rfl) T.b_len (by decide +kernel) (pa_cons (pv 4) pa_nil)) pa_nil))) (fun _ _ => rfl)))
      (pss_cons (ps_set (i := 6) sc_law.nd rfl (Or.inl rfl) (pe_d G__law_needs (hr.mono (by decide)) (by rfl) (pa_cons (pv 2) (pa_cons (pv 3) (pa_cons (pv 4) (pa_cons (pv 5) pa_nil))))))
      (pss_cons (ps_set (i := 7) sc_law.nd rfl (Or.inl rfl) (pe_ix (kix_list K rfl) (pe_lst (pa_cons (pe_callTy (kcall_list_of K rfl) (by rfl) T.b_list (by decide +kernel) (pa_cons (pv 6) pa_nil)) (pa_cons (pe_callTy (kcall_tuple_of K rfl) (by rfl) T.b_tuple (by decide +kernel) (pa_cons (pv 6) pa_nil)) pa_nil))) (pe_d G__law_take (hr.mono (by decide)) (by rfl) (pa_cons (pv 2) (pa_cons pe_int pa_nil))) (fun _ _ => rfl)))
      (pss_cons (ps_set (i := 8) sc_law.nd rfl (Or.inl rfl) (pe_lst (pa_cons (pe_d G_first_unmet (hr.mono (by decide)) (by rfl) (pa_cons (pv 3) (pa_cons (pv 4) (pa_cons (pv 5) (pa_cons (pv 7) pa_nil))))) (pa_cons (pe_d G_least_promise (hr.mono (by decide)) (by rfl) (pa_cons (pv 3) (pa_cons (pv 4) (pa_cons (pv 5) (pa_cons (pv 7) pa_nil))))) pa_nil))))
      (pss_cons (ps_if (pt_not (pt_val (pe_d G__law_same (hr.mono (by decide)) (by rfl) (pa_cons (pv 8) (pa_cons (pe_lst (pa_cons (pe_d G__law_unmet (hr.mono (by decide)) (by rfl) (pa_cons (pv 3) (pa_cons (pv 4) (pa_cons (pv 5) (pa_cons (pv 6) pa_nil))))) (pa_cons (pe_d G__law_least (hr.mono (by decide)) (by rfl) (pa_cons (pv 3) (pa_cons (pv 4) (pa_cons (pv 5) (pa_cons (pv 6) pa_nil))))) pa_nil))) pa_nil))))) (pss_one (ps_ret pe_bl)) pss_nil)
      (pss_cons (ps_if (pt_not (pt_val (pe_d G__law_same (hr.mono (by decide)) (by rfl) (pa_cons (pe_d G_least_promise (hr.mono (by decide)) (by rfl) (pa_cons (pv 3) (pa_cons (pv 4) (pa_cons (pv 5) (pa_cons (pe_lst pa_nil) pa_nil))))) (pa_cons pe_int pa_nil))))) (pss_one (ps_ret pe_bl)) pss_nil)
      (pss_one (ps_if (pt_not (pt_val (pe_d G__law_refusals_right (hr.mono (by decide)) (by rfl) (pa_cons (pv 2) (pa_cons (pv 3) (pa_cons (pv 4) (pa_cons (pv 5) pa_nil))))))) (pss_one (ps_ret pe_bl)) pss_nil)))))))))))
      (pss_one (ps_ret pe_bl))), ?_⟩
    refine ⟨_, rfl, a, _, rfl, .inl hS, _, _, rfl, _, _, rfl, _, rfl, ?_, ?_, ?_⟩
    · split <;> split <;> omega
    · split <;> split <;> omega
    have hm : ∃ m : Int, (if (if ((List.map V.int ns).length : Int) < 6 then ((List.map V.int ns).length : Int) else 6) > 3 then (if ((List.map V.int ns).length : Int) < 6 then ((List.map V.int ns).length : Int) else 6) else 3) = m ∧ m ≤ 6 := ⟨_, rfl, by split <;> split <;> omega⟩
    obtain ⟨m, em, m6⟩ := hm
    rw [em]
    refine for_it (w := walk_range) (fun t σ H' => ∃ (o1 o2 o3 o4 o5 o6 o7 o8 : Option V), σ = [some (.ref a), o1, o2, o3, o4, o5, o6, o7, o8] ∧ Same H H') ⟨_, _, _, _, _, _, _, _, rfl, Same.refl H⟩ (fun _ _ _ _ _ => True.intro) ?_ ?_
    · rintro t x σ Ha Hb ht ⟨o1, o2, o3, o4, o5, o6, o7, o8, rfl, s0⟩ ⟨rfl, hx⟩
      have ht2 : t < m.toNat := ht
      have hx2 : x = .int ((t : Nat) : Int) := by
        rw [hx]
        show V.int (0 + (t : Int)) = _
        rw [Int.zero_add]
      subst hx2
      refine ⟨_, rfl, _, rfl, .ref a, a, ns, t, rfl, rfl, (Lq.of s0).seq hS, by omega, fun i H1 s1 => ⟨i, rfl, fun b H2 s2 nb bx => ?_⟩⟩
      have nHb : H b = none := (s0.trans s1).free nb
      have B2 : But b H H2 := But.of (s0.trans (s1.trans s2))
      refine ⟨_, rfl, b, 0, rfl, bx, by omega, fun len gs R H3 v ok hl1 h6 pR sR nRb rv bx3 b3 => ?_⟩
      obtain ⟨tt, vg, rfl, htt, hg⟩ : ∃ tt vg, v = .ref tt ∧ SqT K R tt [.int len, vg] ∧ Rep K R vg (gD gs) := by
        cases rv with
        | tup h r =>
          cases r with
          | cons r1 t =>
            cases r1
            cases t with
            | cons r2 t =>
              cases t
              exact ⟨_, _, rfl, h, r2⟩
      refine ⟨tt, _, rfl, (Lq.of sR).tup htt, rfl, _, _, rfl, _, _, rfl, rfl, ?_⟩
      have B3 := B2.trans b3
      have hg0 := hg
      cases hg with
      | @dct ga kvs _ hk rk =>
      have hRa : R ga = some (.dK kvs) := pR.rd hk
      have hl : kvs.length = gs.length := by rw [rk.len, List.length_map]
      have ekeys : (kvs.map fun kv => kV kv.1) = (gs.map (·.1)).map V.str := by
        rw [rk.keys, List.map_map, List.map_map]
        rfl
      have n6 := ok.n6
      have hlen := ok.len
      refine ⟨_, rfl, ga, kvs, rfl, .inl (sR _ _ hRa), fun nl hnl => ?_⟩
      rw [ekeys]
      have s4 : Same H3 (upd H3 nl (.lst ((gs.map (·.1)).map V.str))) := same_new hnl
      have h4 : upd H3 nl (.lst ((gs.map (·.1)).map V.str)) nl = some (.lst ((gs.map (·.1)).map V.str)) := upd_same
      have nnl := bx3.ne hnl
      generalize upd H3 nl (.lst ((gs.map (·.1)).map V.str)) = H4 at s4 h4 ⊢
      refine ⟨_, rfl, _, rfl, ga, kvs, rfl, s4 _ _ (sR _ _ hRa), b, _, _, rfl, bx3.same s4, by omega, by omega, by omega, fun q H5 q0 q1 bx5 b5 => ?_⟩
      have hqj : q.toNat < gs.length := by omega
      obtain ⟨⟨z, p, c⟩, hj⟩ : ∃ e, gs[q.toNat]? = some e := ⟨_, List.getElem?_eq_getElem hqj⟩
      have hat : atI ((gs.map (·.1)).map V.str) q = some (.str z) := by
        have e := atI_nat (xs := (gs.map (·.1)).map V.str) (j := q.toNat) (v := .str z) (by rw [List.getElem?_map, List.getElem?_map, hj]; rfl)
        rw [show ((q.toNat : Nat) : Int) = q by omega] at e
        exact e
      refine ⟨nl, _, q, .str z, rfl, rfl, SqL.of (b5 _ _ nnl h4), hat, ?_⟩
      have B5 := B3.trans ((But.of s4).trans b5)
      have sR5 : Same R H5 := b5.same nRb (sR.trans s4)
      generalize hjj : q.toNat = j at hj
      have hzs : z.length ≤ 8 := six_len z (h6 _ (List.mem_of_getElem? hj))
      have hzl : z.length ≤ sizeLine := by
        have : 100 < sizeLine := by decide
        omega
      refine ⟨_, rfl, _, rfl, _, rfl, _, rfl, R, b, _, .ref ga, len, gs, j, z, p, c, rfl, bx5, by omega, sR5, pR, nRb, hg0, ok, hj, fun l R6 H6 fl l60 hle sRR pR6 sR6 nR6b rl bx6 b6 => ?_⟩
      have B6 := B5.trans b6
      have rl0 := rl
      cases rl with
      | @lst _ ys _ hfl rfl' =>
      refine ⟨_, rfl, fl, ys, rfl, .inl ((Lq.of sR6).seq hfl), fun l1 hl1' => ⟨_, rfl, fl, ys, rfl, .inl ⟨(Lq.of (sR6.trans (same_new hl1'))).seq hfl, fun l2 hl2' => ⟨(show 2 ≤ sizeLine by decide), fun pp hpp => ?_⟩⟩⟩⟩
      have n61 := sR6.out hl1'
      have s61 : Same (upd R6 l1 (.lst ys)) (upd H6 l1 (.lst ys)) := sR6.put
      have n62 := s61.out hl2'
      have s62 : Same (upd (upd R6 l1 (.lst ys)) l2 (.tup ys)) (upd (upd H6 l1 (.lst ys)) l2 (.tup ys)) := s61.put
      have u61 : Same R6 (upd R6 l1 (.lst ys)) := same_new n61
      have u62 : Same (upd R6 l1 (.lst ys)) (upd (upd R6 l1 (.lst ys)) l2 (.tup ys)) := same_new n62
      have p62 : Plain (upd (upd R6 l1 (.lst ys)) l2 (.tup ys)) := Plain.put (Plain.put pR6 (by exact fun _ _ z => nomatch z)) (by exact fun _ _ z => nomatch z)
      have rA : Rep K (upd (upd R6 l1 (.lst ys)) l2 (.tup ys)) (.ref l1) (.lst (l.map ndD)) := .lst (SqL.of (u62 _ _ upd_same)) (rfl'.same (u61.trans u62))
      have rB : Rep K (upd (upd R6 l1 (.lst ys)) l2 (.tup ys)) (.ref l2) (.tup (l.map ndD)) := .tup (SqT.of upd_same) (rfl'.same (u61.trans u62))
      have t61 : Same H6 (upd H6 l1 (.lst ys)) := same_new hl1'
      have t62 : Same (upd H6 l1 (.lst ys)) (upd (upd H6 l1 (.lst ys)) l2 (.tup ys)) := same_new hl2'
      have nl1 := bx6.ne hl1'
      have bx61 := bx6.same t61
      have nl2 := bx61.ne hl2'
      have bx62 := bx61.same t62
      have nb62 : upd (upd R6 l1 (.lst ys)) l2 (.tup ys) b = none := by
        rw [upd_ne (Ne.symm nl2), upd_ne (Ne.symm nl1)]
        exact nR6b
      have B62 := B6.trans (But.of (t61.trans t62))
      have uR : Same R6 (upd (upd R6 l1 (.lst ys)) l2 (.tup ys)) := u61.trans u62
      generalize upd (upd R6 l1 (.lst ys)) l2 (.tup ys) = R7 at s62 p62 rA rB nb62 uR
      generalize upd (upd H6 l1 (.lst ys)) l2 (.tup ys) = H7 at s62 bx62 B62 hpp ⊢
      have npp := bx62.ne hpp
      have t7 : Same H7 (upd H7 pp (.lst [.ref l1, .ref l2])) := same_new hpp
      have h7 : upd H7 pp (.lst [.ref l1, .ref l2]) pp = some (.lst [.ref l1, .ref l2]) := upd_same
      generalize upd H7 pp (.lst [.ref l1, .ref l2]) = H8 at t7 h7 ⊢
      refine ⟨_, rfl, b, _, 2, rfl, bx62.same t7, by omega, by omega, by omega, fun q9 H9 q90 q91 bx9 b9 => ?_⟩
      obtain ⟨vh, hv1, hv2⟩ := atI_lt (xs := [.ref l1, .ref l2]) q90 q91
      obtain ⟨dh, hnd, rh⟩ : ∃ dh, IsNd dh l ∧ Rep K R7 vh dh := by
        simp only [List.mem_cons, List.not_mem_nil, or_false] at hv2
        rcases hv2 with rfl | rfl
        · exact ⟨_, .inl rfl, rA⟩
        · exact ⟨_, .inr rfl, rB⟩
      refine ⟨pp, _, q9, vh, rfl, rfl, SqL.of (b9 _ _ npp h7), hv1, ?_⟩
      have B9 := B62.trans ((But.of t7).trans b9)
      have s9 : Same R7 H9 := b9.same nb62 (s62.trans t7)
      have hG : Rep K R7 (.ref ga) (gD gs) := hg0.same (sRR.trans uR)
      have hF : Rep K R7 (.ref fl) (.lst (l.map ndD)) := rl0.same uR
      have good : Good (.int len) (gD gs) (.str z) len gs j z p c := ⟨rfl, rfl, rfl, ok, hj⟩
      have hZ : Rep K R7 (.str z) (.str z) := .str z hzl
      have hnt := hnd.needs l60 hle
      -- told
      refine ⟨_, rfl, _, rfl, _, rfl, _, rfl, R7, .int len, .ref ga, .str z, vh, .int len, gD gs, .str z, dh, rfl, Cs.of_good good.case s9 p62 (.int _) hG hZ, rh, (fun _ q => by rw [hnt] at q; cases q), fun _ _ => ⟨len, gs, j, z, p, c, l, good, hnd, fun H10 s10 => ?_⟩⟩
      refine ⟨_, rfl, _, rfl, _, rfl, _, rfl, R7, .int len, .ref ga, .str z, vh, .int len, gD gs, .str z, dh, rfl, Cs.of_good good.case (s9.trans s10) p62 (.int _) hG hZ, rh, (fun _ q => by rw [hnt] at q; cases q), fun _ _ => ⟨len, gs, j, z, p, c, l, good, hnd, fun H11 s11 => ?_⟩⟩
      refine ⟨(show 2 ≤ sizeLine by decide), fun tl htl => ?_⟩
      have t12 : Same H11 (upd H11 tl (.lst [optV (unmet (sureN len gs j) l), optV (least len gs j z c l)])) := same_new htl
      have h12 : upd H11 tl (.lst [optV (unmet (sureN len gs j) l), optV (least len gs j z c l)]) tl = some (.lst [optV (unmet (sureN len gs j) l), optV (least len gs j z c l)]) := upd_same
      generalize upd H11 tl (.lst [optV (unmet (sureN len gs j) l), optV (least len gs j z c l)]) = H12 at t12 h12 ⊢
      have s12 : Same H9 H12 := s10.trans (s11.trans t12)
      have hle2 : ∀ e ∈ l, 0 ≤ e.1 ∧ e.1 ≤ 400 := fun e he => (hle e he).1
      refine ⟨_, rfl, _, rfl, _, rfl, _, rfl, _, rfl, R7, .ref ga, .ref fl, len, gs, j, z, p, c, l, rfl, s9.trans s12, p62, hG, ok, hj, hF, l60, hle2, fun H13 s13 => ?_⟩
      refine ⟨_, rfl, _, rfl, _, rfl, _, rfl, R7, .ref ga, .ref fl, len, gs, j, z, p, c, l, rfl, s9.trans (s12.trans s13), p62, hG, ok, hj, hF, l60, hle2, fun H14 s14 => ⟨(show 2 ≤ sizeLine by decide), fun dl hdl => ?_⟩⟩
      have s914 : Same H9 H14 := s12.trans (s13.trans s14)
      obtain ⟨a1, a2, a3⟩ := know p62 (s9.trans s914) (s14 _ _ (s13 _ _ h12)) (fun _ _ z => nomatch z)
      have ndl := a3.out hdl
      refine ⟨upd (upd R7 tl (.lst [optV (unmet (sureN len gs j) l), optV (least len gs j z c l)])) dl (.lst [optV (unmet (sureN len gs j) l), optV (least len gs j z c l)]), .ref tl, .ref dl, .lst [optD (unmet (sureN len gs j) l), optD (least len gs j z c l)], rfl, a3.put, a2.put (fun _ _ z => nomatch z), ?_, ?_, ?_, fun H15 s15 => ⟨_, rfl, iteF ?_⟩⟩
      · exact .lst (SqL.of (same_new ndl _ _ upd_same)) (.cons (rep_opt _) (.cons (rep_opt _) .nil))
      · exact .lst (SqL.of upd_same) (.cons (rep_opt _) (.cons (rep_opt _) .nil))
      · exact ⟨by show 2 ≤ 1000; decide, fit_two (fit_opt _) (fit_opt _)⟩
      have s915 : Same H9 H15 := s914.trans ((same_new hdl).trans s15)
      -- nothing asked
      refine ⟨_, rfl, _, rfl, _, rfl, Nat.zero_le _, fun el hel => ?_⟩
      have t16 : Same H15 (upd H15 el (.lst [])) := same_new hel
      have n7e : R7 el = none := (s9.trans s915).out hel
      have sE : Same (upd R7 el (.lst [])) (upd H15 el (.lst [])) := (s9.trans s915).put
      have uE : Same R7 (upd R7 el (.lst [])) := same_new n7e
      refine ⟨upd R7 el (.lst []), .int len, .ref ga, .str z, .ref el, .int len, gD gs, .str z, .lst [], rfl, Cs.of_good good.case sE (p62.put (fun _ _ z => nomatch z)) (.int _) (hG.same uE) (.str z hzl), .lst (SqL.of upd_same) .nil, (fun _ q => by cases q), fun _ _ => ⟨len, gs, j, z, p, c, [], good, .inl rfl, fun H17 s17 => ?_⟩⟩
      rw [least_nil ok hj]
      have s917 : Same H9 H17 := s915.trans (t16.trans s17)
      refine ⟨R7, .int 0, .int 0, .int 0, rfl, s9.trans s917, p62, .int _, .int _, True.intro, fun H18 s18 => ⟨_, rfl, iteF ?_⟩⟩
      have s918 : Same H9 H18 := s917.trans s18
      refine ⟨_, rfl, _, rfl, _, rfl, _, rfl, R7, b, _, .ref ga, len, gs, j, z, p, c, rfl, bx9.same s918, by omega, s9.trans s918, p62, nb62, hG, ok, hj, h6, fun H19 bx19 b19 => ⟨_, rfl, iteF ⟨_, _, _, _, _, _, _, _, rfl, ?_⟩⟩⟩
      have BF := B9.trans ((But.of s918).trans b19)
      exact fun o u e => BF o u (fun q => by rw [q, nHb] at e; cases e) e
    · rintro σ Ha ⟨o1, o2, o3, o4, o5, o6, o7, o8, rfl, s0⟩
      exact hq Ha
end
end K87

set_option Elab.async false
set_option linter.all false
set_option maxRecDepth 100000
set_option maxHeartbeats 0
namespace K87
open PySem PySem.Spec PyProof.Rows L2 RP
def d_NoNumber_init : He.DefD := ⟨("NoNumber", some "__init__"), "__init__", "NoNumber.__init__", defArgs s_NoNumber_init, defBody s_NoNumber_init, defScope s_NoNumber_init, [], []⟩
def d_NoShare_init : He.DefD := ⟨("NoShare", some "__init__"), "__init__", "NoShare.__init__", defArgs s_NoShare_init, defBody s_NoShare_init, defScope s_NoShare_init, [], []⟩
def d_NoGuest_init : He.DefD := ⟨("NoGuest", some "__init__"), "__init__", "NoGuest.__init__", defArgs s_NoGuest_init, defBody s_NoGuest_init, defScope s_NoGuest_init, [], []⟩
def d_NoNeeds_init : He.DefD := ⟨("NoNeeds", some "__init__"), "__init__", "NoNeeds.__init__", defArgs s_NoNeeds_init, defBody s_NoNeeds_init, defScope s_NoNeeds_init, [], []⟩
def d_is_whole : He.DefD := ⟨("is_whole", none), "is_whole", "is_whole", defArgs s_is_whole, defBody s_is_whole, defScope s_is_whole, [], []⟩
def d_is_name : He.DefD := ⟨("is_name", none), "is_name", "is_name", defArgs s_is_name, defBody s_is_name, defScope s_is_name, [], []⟩
def d_need_length : He.DefD := ⟨("need_length", none), "need_length", "need_length", defArgs s_need_length, defBody s_need_length, defScope s_need_length, [], []⟩
def d_are_shares : He.DefD := ⟨("are_shares", none), "are_shares", "are_shares", defArgs s_are_shares, defBody s_are_shares, defScope s_are_shares, [], []⟩
def d_need_case : He.DefD := ⟨("need_case", none), "need_case", "need_case", defArgs s_need_case, defBody s_need_case, defScope s_need_case, [], []⟩
def d_ahead_by_promise : He.DefD := ⟨("ahead_by_promise", none), "ahead_by_promise", "ahead_by_promise", defArgs s_ahead_by_promise, defBody s_ahead_by_promise, defScope s_ahead_by_promise, [], []⟩
def d_ahead : He.DefD := ⟨("ahead", none), "ahead", "ahead", defArgs s_ahead, defBody s_ahead, defScope s_ahead, [], []⟩
def d_turn_of : He.DefD := ⟨("turn_of", none), "turn_of", "turn_of", defArgs s_turn_of, defBody s_turn_of, defScope s_turn_of, [], []⟩
def d_latest : He.DefD := ⟨("latest", none), "latest", "latest", defArgs s_latest, defBody s_latest, defScope s_latest, [], []⟩
def d_at_least_in : He.DefD := ⟨("at_least_in", none), "at_least_in", "at_least_in", defArgs s_at_least_in, defBody s_at_least_in, defScope s_at_least_in, [], []⟩
def d_at_least : He.DefD := ⟨("at_least", none), "at_least", "at_least", defArgs s_at_least, defBody s_at_least, defScope s_at_least, [], []⟩
def d_worst : He.DefD := ⟨("worst", none), "worst", "worst", defArgs s_worst, defBody s_worst, defScope s_worst, [], []⟩
def d_next_of : He.DefD := ⟨("next_of", none), "next_of", "next_of", defArgs s_next_of, defBody s_next_of, defScope s_next_of, [], []⟩
def d_are_needs : He.DefD := ⟨("are_needs", none), "are_needs", "are_needs", defArgs s_are_needs, defBody s_are_needs, defScope s_are_needs, [], []⟩
def d_first_unmet : He.DefD := ⟨("first_unmet", none), "first_unmet", "first_unmet", defArgs s_first_unmet, defBody s_first_unmet, defScope s_first_unmet, [], []⟩
def d_with_promise : He.DefD := ⟨("with_promise", none), "with_promise", "with_promise", defArgs s_with_promise, defBody s_with_promise, defScope s_with_promise, [], []⟩
def d_least_promise : He.DefD := ⟨("least_promise", none), "least_promise", "least_promise", defArgs s_least_promise, defBody s_least_promise, defScope s_least_promise, [], []⟩
def d__law_cell : He.DefD := ⟨("_law_cell", none), "_law_cell", "_law_cell", defArgs s__law_cell, defBody s__law_cell, defScope s__law_cell, [], []⟩
def d__law_box : He.DefD := ⟨("_law_box", none), "_law_box", "_law_box", defArgs s__law_box, defBody s__law_box, defScope s__law_box, [], []⟩
def d__law_take : He.DefD := ⟨("_law_take", none), "_law_take", "_law_take", defArgs s__law_take, defBody s__law_take, defScope s__law_take, [], []⟩
def d__law_same : He.DefD := ⟨("_law_same", none), "_law_same", "_law_same", defArgs s__law_same, defBody s__law_same, defScope s__law_same, [], []⟩
def d__law_deal : He.DefD := ⟨("_law_deal", none), "_law_deal", "_law_deal", defArgs s__law_deal, defBody s__law_deal, defScope s__law_deal, [], []⟩
def d__law_stretch : He.DefD := ⟨("_law_stretch", none), "_law_stretch", "_law_stretch", defArgs s__law_stretch, defBody s__law_stretch, defScope s__law_stretch, [], []⟩
def d__law_case : He.DefD := ⟨("_law_case", none), "_law_case", "_law_case", defArgs s__law_case, defBody s__law_case, defScope s__law_case, [], []⟩
def d__law_surely : He.DefD := ⟨("_law_surely", none), "_law_surely", "_law_surely", defArgs s__law_surely, defBody s__law_surely, defScope s__law_surely, [], []⟩
def d__law_unmet : He.DefD := ⟨("_law_unmet", none), "_law_unmet", "_law_unmet", defArgs s__law_unmet, defBody s__law_unmet, defScope s__law_unmet, [], []⟩
def d__law_least : He.DefD := ⟨("_law_least", none), "_law_least", "_law_least", defArgs s__law_least, defBody s__law_least, defScope s__law_least, [], []⟩
def d__law_needs : He.DefD := ⟨("_law_needs", none), "_law_needs", "_law_needs", defArgs s__law_needs, defBody s__law_needs, defScope s__law_needs, [], []⟩
def d__law_asked : He.DefD := ⟨("_law_asked", none), "_law_asked", "_law_asked", defArgs s__law_asked, defBody s__law_asked, defScope s__law_asked, [], []⟩
def d__law_refusals_right : He.DefD := ⟨("_law_refusals_right", none), "_law_refusals_right", "_law_refusals_right", defArgs s__law_refusals_right, defBody s__law_refusals_right, defScope s__law_refusals_right, [], []⟩
def d_law : He.DefD := ⟨("law", none), "law", "law", defArgs s_law, defBody s_law, defScope s_law, [], []⟩
def fnl : List He.DefD := [d_NoNumber_init, d_NoShare_init, d_NoGuest_init, d_NoNeeds_init, d_is_whole, d_is_name, d_need_length, d_are_shares, d_need_case, d_ahead_by_promise, d_ahead, d_turn_of, d_latest, d_at_least_in, d_at_least, d_worst, d_next_of, d_are_needs, d_first_unmet, d_with_promise, d_least_promise, d__law_cell, d__law_box, d__law_take, d__law_same, d__law_deal, d__law_stretch, d__law_case, d__law_surely, d__law_unmet, d__law_least, d__law_needs, d__law_asked, d__law_refusals_right, d_law]
def fal : List He.Fa := [.glo "is_whole", .glo "is_name", .glo "need_length", .glo "are_shares", .glo "need_case", .glo "ahead_by_promise", .glo "ahead", .glo "turn_of", .glo "latest", .glo "at_least_in", .glo "at_least", .glo "worst", .glo "next_of", .glo "are_needs", .glo "first_unmet", .glo "with_promise", .glo "least_promise", .glo "_law_cell", .glo "_law_box", .glo "_law_take", .glo "_law_same", .glo "_law_deal", .glo "_law_stretch", .glo "_law_case", .glo "_law_surely", .glo "_law_unmet", .glo "_law_least", .glo "_law_needs", .glo "_law_asked", .glo "_law_refusals_right", .glo "law", .glo "GuestError", .glo "Missing", .glo "NoNumber", .glo "NoShare", .glo "NoGuest", .glo "NoNeeds", .str "LETTERS" "abcdefghijklmnopqrstuvwxyz", .int "LONGEST_NAME" (8), .int "LEAST_LENGTH" (4), .int "MOST_LENGTH" (60), .int "MOST_GUESTS" (6), .int "MOST_TURNS" (400), .int "MOST_NEEDS" (60), .free "KeyError", .free "ValueError", .free "abs", .free "all", .free "bool", .free "dict", .free "divmod", .free "enumerate", .free "int", .free "isinstance", .free "len", .free "list", .free "max", .free "min", .free "range", .free "str", .free "sum", .free "tuple"]
def exL (K : PySem.W.Frag) : List Bool := [GX.gbB K GX.bVE (He.ga K "GuestError"),
  GX.gbB K GX.bKE (He.ga K "Missing"),
  GX.xcB K GX.bVE (He.ga K "NoNumber") "found",
  He.eqO (PySem.W.findIn K (.ref (He.ga K "NoNumber")) "__init__") (some (some (.ref (He.ma K (He.ga K "NoNumber") "__init__")))),
  decide (PySem.W.typeIn K (.ref (He.ma K (He.ga K "NoNumber") "__init__")) = some (.type "function")),
  GX.xcB K GX.bVE (He.ga K "NoShare") "found",
  He.eqO (PySem.W.findIn K (.ref (He.ga K "NoShare")) "__init__") (some (some (.ref (He.ma K (He.ga K "NoShare") "__init__")))),
  decide (PySem.W.typeIn K (.ref (He.ma K (He.ga K "NoShare") "__init__")) = some (.type "function")),
  GX.xcB K GX.bKE (He.ga K "NoGuest") "found",
  He.eqO (PySem.W.findIn K (.ref (He.ga K "NoGuest")) "__init__") (some (some (.ref (He.ma K (He.ga K "NoGuest") "__init__")))),
  decide (PySem.W.typeIn K (.ref (He.ma K (He.ga K "NoGuest") "__init__")) = some (.type "function")),
  GX.xcB K GX.bVE (He.ga K "NoNeeds") "found",
  He.eqO (PySem.W.findIn K (.ref (He.ga K "NoNeeds")) "__init__") (some (some (.ref (He.ma K (He.ga K "NoNeeds") "__init__")))),
  decide (PySem.W.typeIn K (.ref (He.ma K (He.ga K "NoNeeds") "__init__")) = some (.type "function")),
  decide (PySem.W.exmOne K (.ref (He.ga K "NoNumber")) (.ref (He.ga K "NoNumber")) = some true),
  decide (PySem.W.exmOne K (.ref (He.ga K "NoShare")) (.ref (He.ga K "NoNumber")) = some false),
  decide (PySem.W.exmOne K (.ref (He.ga K "NoShare")) (.ref (He.ga K "NoShare")) = some true),
  decide (PySem.W.exmOne K (.ref (He.ga K "NoGuest")) (.ref (He.ga K "NoNumber")) = some false),
  decide (PySem.W.exmOne K (.ref (He.ga K "NoGuest")) (.ref (He.ga K "NoShare")) = some false),
  decide (PySem.W.exmOne K (.ref (He.ga K "NoGuest")) (.ref (He.ga K "NoGuest")) = some true),
  decide (PySem.W.exmOne K (.ref (He.ga K "NoNeeds")) (.ref (He.ga K "NoNumber")) = some false),
  decide (PySem.W.exmOne K (.ref (He.ga K "NoNeeds")) (.ref (He.ga K "NoShare")) = some false),
  decide (PySem.W.exmOne K (.ref (He.ga K "NoNeeds")) (.ref (He.ga K "NoGuest")) = some false),
  decide (PySem.W.exmOne K (.ref (He.ga K "NoNeeds")) (.ref (He.ga K "NoNeeds")) = some true)]
def exl (K : PySem.W.Frag) : Bool := (exL K).all id
def loose : List PySem.Str := (["__name__", "GuestError", "Missing", "NoNumber", "NoShare", "NoGuest", "NoNeeds", "LETTERS", "LONGEST_NAME", "is_whole"] : List PySem.Str) ++ (["is_name", "LEAST_LENGTH", "MOST_LENGTH", "MOST_GUESTS", "need_length", "are_shares", "MOST_TURNS", "MOST_NEEDS", "need_case", "ahead_by_promise"] : List PySem.Str) ++ (["ahead", "turn_of", "latest", "at_least_in", "at_least", "worst", "next_of", "are_needs", "first_unmet", "with_promise"] : List PySem.Str) ++ (["least_promise", "_law_cell", "_law_box", "_law_take", "_law_same", "_law_deal", "_law_stretch", "_law_case", "_law_surely", "_law_unmet"] : List PySem.Str) ++ (["_law_least", "_law_needs", "_law_asked", "_law_refusals_right"] : List PySem.Str)
abbrev Rw : PySem.W.OpenRow := PySem.W.OpenLaw.row PySem.Challenge.rw_guestfleet_k87_needs_and_least_promises
abbrev hk : PySem.W.Hook := Hk.hookB 5 fal fnl exl
def ob (s : PySem.W.SharedT) : Hk.AlB := Hk.obsBG 5 fal fnl exl (HandSHeadRun.getT s)
theorem ob_eq (s : PySem.W.SharedT) : ob s = hk.obs s.abs := Hk.obsBG_eq (HandSHeadRun.getT_eq s)
theorem run (w : World) : HandSHeadRun.RunEq Rw (PySem.W.view Rw.prog [48]) hk ob 6000 loose w := by
  intro os
  kernel_rfl
theorem xat {l : List Bool} (h : l.all id = true) (i : Nat) {b : Bool} (e : l[i]? = some b) : b = true := List.all_eq_true.mp h b (List.mem_of_getElem? e)
section
variable {P : Program} {w : World} {K : PySem.W.Frag} {h : Heap} {mg : Str → Option Value}
theorem txt (X : K.In h) (G : h.Ns mainGlobals mg) (c : Hk.SaysB fal fnl exl K) : Txt K mg where
  b_KeyError := He.free_ok X G (c.d.fact 44 (f := .free "KeyError") rfl)
  b_ValueError := He.free_ok X G (c.d.fact 45 (f := .free "ValueError") rfl)
  b_abs := He.free_ok X G (c.d.fact 46 (f := .free "abs") rfl)
  b_all := He.free_ok X G (c.d.fact 47 (f := .free "all") rfl)
  b_bool := He.free_ok X G (c.d.fact 48 (f := .free "bool") rfl)
  b_dict := He.free_ok X G (c.d.fact 49 (f := .free "dict") rfl)
  b_divmod := He.free_ok X G (c.d.fact 50 (f := .free "divmod") rfl)
  b_enumerate := He.free_ok X G (c.d.fact 51 (f := .free "enumerate") rfl)
  b_int := He.free_ok X G (c.d.fact 52 (f := .free "int") rfl)
  b_isinstance := He.free_ok X G (c.d.fact 53 (f := .free "isinstance") rfl)
  b_len := He.free_ok X G (c.d.fact 54 (f := .free "len") rfl)
  b_list := He.free_ok X G (c.d.fact 55 (f := .free "list") rfl)
  b_max := He.free_ok X G (c.d.fact 56 (f := .free "max") rfl)
  b_min := He.free_ok X G (c.d.fact 57 (f := .free "min") rfl)
  b_range := He.free_ok X G (c.d.fact 58 (f := .free "range") rfl)
  b_str := He.free_ok X G (c.d.fact 59 (f := .free "str") rfl)
  b_sum := He.free_ok X G (c.d.fact 60 (f := .free "sum") rfl)
  b_tuple := He.free_ok X G (c.d.fact 61 (f := .free "tuple") rfl)
  c_LETTERS := He.str_ok X G (c.d.fact 37 (f := .str "LETTERS" "abcdefghijklmnopqrstuvwxyz") rfl)
  c_LONGEST_NAME := He.int_ok X G (c.d.fact 38 (f := .int "LONGEST_NAME" (8)) rfl)
  c_LEAST_LENGTH := He.int_ok X G (c.d.fact 39 (f := .int "LEAST_LENGTH" (4)) rfl)
  c_MOST_LENGTH := He.int_ok X G (c.d.fact 40 (f := .int "MOST_LENGTH" (60)) rfl)
  c_MOST_GUESTS := He.int_ok X G (c.d.fact 41 (f := .int "MOST_GUESTS" (6)) rfl)
  c_MOST_TURNS := He.int_ok X G (c.d.fact 42 (f := .int "MOST_TURNS" (400)) rfl)
  c_MOST_NEEDS := He.int_ok X G (c.d.fact 43 (f := .int "MOST_NEEDS" (60)) rfl)
  g_GuestError := ⟨GX.gbB_ok (xat c.x 0 rfl), He.glo_ok X G (c.d.fact 31 (f := .glo "GuestError") rfl)⟩
  g_Missing := ⟨GX.gbB_ok (xat c.x 1 rfl), He.glo_ok X G (c.d.fact 32 (f := .glo "Missing") rfl)⟩
  x_NoNumber := by
    obtain ⟨fd, F⟩ := c.d.def_ 0 (d := d_NoNumber_init) rfl
    exact ⟨_, fd, GX.xcB_ok GX.bVE_ok (xat c.x 2 rfl), He.glo_ok X G (c.d.fact 33 (f := .glo "NoNumber") rfl), He.eqO_ok (xat c.x 3 rfl), of_decide_eq_true (xat c.x 4 rfl), F⟩
  x_NoShare := by
    obtain ⟨fd, F⟩ := c.d.def_ 1 (d := d_NoShare_init) rfl
    exact ⟨_, fd, GX.xcB_ok GX.bVE_ok (xat c.x 5 rfl), He.glo_ok X G (c.d.fact 34 (f := .glo "NoShare") rfl), He.eqO_ok (xat c.x 6 rfl), of_decide_eq_true (xat c.x 7 rfl), F⟩
  x_NoGuest := by
    obtain ⟨fd, F⟩ := c.d.def_ 2 (d := d_NoGuest_init) rfl
    exact ⟨_, fd, GX.xcB_ok GX.bKE_ok (xat c.x 8 rfl), He.glo_ok X G (c.d.fact 35 (f := .glo "NoGuest") rfl), He.eqO_ok (xat c.x 9 rfl), of_decide_eq_true (xat c.x 10 rfl), F⟩
  x_NoNeeds := by
    obtain ⟨fd, F⟩ := c.d.def_ 3 (d := d_NoNeeds_init) rfl
    exact ⟨_, fd, GX.xcB_ok GX.bVE_ok (xat c.x 11 rfl), He.glo_ok X G (c.d.fact 36 (f := .glo "NoNeeds") rfl), He.eqO_ok (xat c.x 12 rfl), of_decide_eq_true (xat c.x 13 rfl), F⟩
  a_is_whole := by
    obtain ⟨fd, F⟩ := c.d.def_ 4 (d := d_is_whole) rfl
    exact ⟨_, fd, F, He.glo_ok X G (c.d.fact 0 (f := .glo "is_whole") rfl)⟩
  a_is_name := by
    obtain ⟨fd, F⟩ := c.d.def_ 5 (d := d_is_name) rfl
    exact ⟨_, fd, F, He.glo_ok X G (c.d.fact 1 (f := .glo "is_name") rfl)⟩
  a_need_length := by
    obtain ⟨fd, F⟩ := c.d.def_ 6 (d := d_need_length) rfl
    exact ⟨_, fd, F, He.glo_ok X G (c.d.fact 2 (f := .glo "need_length") rfl)⟩
  a_are_shares := by
    obtain ⟨fd, F⟩ := c.d.def_ 7 (d := d_are_shares) rfl
    exact ⟨_, fd, F, He.glo_ok X G (c.d.fact 3 (f := .glo "are_shares") rfl)⟩
  a_need_case := by
    obtain ⟨fd, F⟩ := c.d.def_ 8 (d := d_need_case) rfl
    exact ⟨_, fd, F, He.glo_ok X G (c.d.fact 4 (f := .glo "need_case") rfl)⟩
  a_ahead_by_promise := by
    obtain ⟨fd, F⟩ := c.d.def_ 9 (d := d_ahead_by_promise) rfl
    exact ⟨_, fd, F, He.glo_ok X G (c.d.fact 5 (f := .glo "ahead_by_promise") rfl)⟩
  a_ahead := by
    obtain ⟨fd, F⟩ := c.d.def_ 10 (d := d_ahead) rfl
    exact ⟨_, fd, F, He.glo_ok X G (c.d.fact 6 (f := .glo "ahead") rfl)⟩
  a_turn_of := by
    obtain ⟨fd, F⟩ := c.d.def_ 11 (d := d_turn_of) rfl
    exact ⟨_, fd, F, He.glo_ok X G (c.d.fact 7 (f := .glo "turn_of") rfl)⟩
  a_latest := by
    obtain ⟨fd, F⟩ := c.d.def_ 12 (d := d_latest) rfl
    exact ⟨_, fd, F, He.glo_ok X G (c.d.fact 8 (f := .glo "latest") rfl)⟩
  a_at_least_in := by
    obtain ⟨fd, F⟩ := c.d.def_ 13 (d := d_at_least_in) rfl
    exact ⟨_, fd, F, He.glo_ok X G (c.d.fact 9 (f := .glo "at_least_in") rfl)⟩
  a_at_least := by
    obtain ⟨fd, F⟩ := c.d.def_ 14 (d := d_at_least) rfl
    exact ⟨_, fd, F, He.glo_ok X G (c.d.fact 10 (f := .glo "at_least") rfl)⟩
  a_worst := by
    obtain ⟨fd, F⟩ := c.d.def_ 15 (d := d_worst) rfl
    exact ⟨_, fd, F, He.glo_ok X G (c.d.fact 11 (f := .glo "worst") rfl)⟩
  a_next_of := by
    obtain ⟨fd, F⟩ := c.d.def_ 16 (d := d_next_of) rfl
    exact ⟨_, fd, F, He.glo_ok X G (c.d.fact 12 (f := .glo "next_of") rfl)⟩
  a_are_needs := by
    obtain ⟨fd, F⟩ := c.d.def_ 17 (d := d_are_needs) rfl
    exact ⟨_, fd, F, He.glo_ok X G (c.d.fact 13 (f := .glo "are_needs") rfl)⟩
  a_first_unmet := by
    obtain ⟨fd, F⟩ := c.d.def_ 18 (d := d_first_unmet) rfl
    exact ⟨_, fd, F, He.glo_ok X G (c.d.fact 14 (f := .glo "first_unmet") rfl)⟩
  a_with_promise := by
    obtain ⟨fd, F⟩ := c.d.def_ 19 (d := d_with_promise) rfl
    exact ⟨_, fd, F, He.glo_ok X G (c.d.fact 15 (f := .glo "with_promise") rfl)⟩
  a_least_promise := by
    obtain ⟨fd, F⟩ := c.d.def_ 20 (d := d_least_promise) rfl
    exact ⟨_, fd, F, He.glo_ok X G (c.d.fact 16 (f := .glo "least_promise") rfl)⟩
  a__law_cell := by
    obtain ⟨fd, F⟩ := c.d.def_ 21 (d := d__law_cell) rfl
    exact ⟨_, fd, F, He.glo_ok X G (c.d.fact 17 (f := .glo "_law_cell") rfl)⟩
  a__law_box := by
    obtain ⟨fd, F⟩ := c.d.def_ 22 (d := d__law_box) rfl
    exact ⟨_, fd, F, He.glo_ok X G (c.d.fact 18 (f := .glo "_law_box") rfl)⟩
  a__law_take := by
    obtain ⟨fd, F⟩ := c.d.def_ 23 (d := d__law_take) rfl
    exact ⟨_, fd, F, He.glo_ok X G (c.d.fact 19 (f := .glo "_law_take") rfl)⟩
  a__law_same := by
    obtain ⟨fd, F⟩ := c.d.def_ 24 (d := d__law_same) rfl
    exact ⟨_, fd, F, He.glo_ok X G (c.d.fact 20 (f := .glo "_law_same") rfl)⟩
  a__law_deal := by
    obtain ⟨fd, F⟩ := c.d.def_ 25 (d := d__law_deal) rfl
    exact ⟨_, fd, F, He.glo_ok X G (c.d.fact 21 (f := .glo "_law_deal") rfl)⟩
  a__law_stretch := by
    obtain ⟨fd, F⟩ := c.d.def_ 26 (d := d__law_stretch) rfl
    exact ⟨_, fd, F, He.glo_ok X G (c.d.fact 22 (f := .glo "_law_stretch") rfl)⟩
  a__law_case := by
    obtain ⟨fd, F⟩ := c.d.def_ 27 (d := d__law_case) rfl
    exact ⟨_, fd, F, He.glo_ok X G (c.d.fact 23 (f := .glo "_law_case") rfl)⟩
  a__law_surely := by
    obtain ⟨fd, F⟩ := c.d.def_ 28 (d := d__law_surely) rfl
    exact ⟨_, fd, F, He.glo_ok X G (c.d.fact 24 (f := .glo "_law_surely") rfl)⟩
  a__law_unmet := by
    obtain ⟨fd, F⟩ := c.d.def_ 29 (d := d__law_unmet) rfl
    exact ⟨_, fd, F, He.glo_ok X G (c.d.fact 25 (f := .glo "_law_unmet") rfl)⟩
  a__law_least := by
    obtain ⟨fd, F⟩ := c.d.def_ 30 (d := d__law_least) rfl
    exact ⟨_, fd, F, He.glo_ok X G (c.d.fact 26 (f := .glo "_law_least") rfl)⟩
  a__law_needs := by
    obtain ⟨fd, F⟩ := c.d.def_ 31 (d := d__law_needs) rfl
    exact ⟨_, fd, F, He.glo_ok X G (c.d.fact 27 (f := .glo "_law_needs") rfl)⟩
  a__law_asked := by
    obtain ⟨fd, F⟩ := c.d.def_ 32 (d := d__law_asked) rfl
    exact ⟨_, fd, F, He.glo_ok X G (c.d.fact 28 (f := .glo "_law_asked") rfl)⟩
  a__law_refusals_right := by
    obtain ⟨fd, F⟩ := c.d.def_ 33 (d := d__law_refusals_right) rfl
    exact ⟨_, fd, F, He.glo_ok X G (c.d.fact 29 (f := .glo "_law_refusals_right") rfl)⟩
  a_law := by
    obtain ⟨fd, F⟩ := c.d.def_ 34 (d := d_law) rfl
    exact ⟨_, fd, F, He.glo_ok X G (c.d.fact 30 (f := .glo "law") rfl)⟩
theorem exm (c : Hk.SaysB fal fnl exl K) : Exm K where
  n_n := of_decide_eq_true (xat c.x 14 rfl)
  s_n := of_decide_eq_true (xat c.x 15 rfl)
  s_s := of_decide_eq_true (xat c.x 16 rfl)
  g_n := of_decide_eq_true (xat c.x 17 rfl)
  g_s := of_decide_eq_true (xat c.x 18 rfl)
  g_g := of_decide_eq_true (xat c.x 19 rfl)
  d_n := of_decide_eq_true (xat c.x 20 rfl)
  d_s := of_decide_eq_true (xat c.x 21 rfl)
  d_g := of_decide_eq_true (xat c.x 22 rfl)
  d_d := of_decide_eq_true (xat c.x 23 rfl)
theorem to0 {base : Heap} {k : Nat} {f : Addr} {fd : FuncData} {ps : List Str} {sp : Sp} (F : FnOk P w K mg base (L2.CX P w) k f fd ps sp) : FnOk P w K mg base CX0 k f fd ps (fun vs H Q _ => sp vs H Q E0) :=
  ⟨fun vs H Q E q => F.len _ _ _ _ q, fun A outer s H args us vs Q E hr he hb hv hs => codeAny_mono (F.run A outer s H args us vs Q E0 hr he hb hv hs) fun r s' z => by
    cases r with
    | ok f => cases f <;> exact z
    | error e =>
      obtain ⟨_, _, _, _, _, _, _, _, _, _, _, _, q⟩ := z
      exact q.elim⟩
theorem law_ok (T : Txt K mg) (X : Exm K) {base : Heap} {f : Addr} {fd : FuncData} (F : At K mg "law" s_law f fd) : FnOk P w K mg base (L2.CX P w) 13 f fd ["script"] (spLaw K) := by
  have G_is_whole := ok_is_whole (P := P) (w := w) (base := base) T
  have G_is_name := ok_is_name (P := P) (w := w) (base := base) T
  have G__law_cell := ok__law_cell (P := P) (w := w) (base := base) T
  have G__law_box := ok__law_box (P := P) (w := w) (base := base) T
  have G__law_take := ok__law_take (P := P) (w := w) (base := base) T
  have G__law_case := ok__law_case (P := P) (w := w) (base := base) T G__law_take
  have G_need_length := ok_need_length (P := P) (w := w) (base := base) T G_is_whole
  have G_are_shares := ok_are_shares (P := P) (w := w) (base := base) T G_is_whole G_is_name
  have G_need_case := ok_need_case (P := P) (w := w) (base := base) T G_need_length G_are_shares
  have G_ahead_by_promise := ok_ahead_by_promise (P := P) (w := w) (base := base) T
  have G_ahead := ok_ahead (P := P) (w := w) (base := base) T G_ahead_by_promise
  have G_turn_of := ok_turn_of (P := P) (w := w) (base := base) T G_ahead
  have G_latest := ok_latest (P := P) (w := w) (base := base) T G_is_whole G_need_case G_turn_of
  have G_at_least_in := ok_at_least_in (P := P) (w := w) (base := base) T G_turn_of
  have G_at_least := ok_at_least (P := P) (w := w) (base := base) T G_is_whole G_need_case G_at_least_in
  have G_worst := ok_worst (P := P) (w := w) (base := base) T G_need_length G_are_shares
  have G_are_needs := ok_are_needs (P := P) (w := w) (base := base) T G_is_whole
  have G_with_promise := ok_with_promise (P := P) (w := w) (base := base) T G_are_shares
  have G_first_unmet := ok_first_unmet (P := P) (w := w) (base := base) T G_need_case G_are_needs G_at_least
  have G_least_promise := ok_least_promise (P := P) (w := w) (base := base) T G_need_case G_are_needs G_with_promise G_first_unmet
  have G__law_deal := ok__law_deal (P := P) (w := w) (base := base) T
  have G__law_same : Def P w K mg base 11 "_law_same" ["told", "due"] (spSame 10 K) := ok__law_same T 10
  have G__law_stretch := ok__law_stretch (P := P) (w := w) (base := base) T G__law_deal
  have G__law_surely := ok__law_surely (P := P) (w := w) (base := base) T G__law_stretch
  have G__law_unmet := ok__law_unmet (P := P) (w := w) (base := base) T G__law_surely
  have G__law_least := ok__law_least (P := P) (w := w) (base := base) T G__law_unmet
  have G__law_needs := ok__law_needs (P := P) (w := w) (base := base) T G__law_take G__law_surely
  have G__law_asked := ok__law_asked (P := P) (w := w) (base := base) T X G_latest G_at_least G_first_unmet G_least_promise G_worst
  have G__law_refusals_right := ok__law_refusals_right (P := P) (w := w) (base := base) T G__law_take G__law_asked G__law_same
  exact ok_law T G__law_cell G__law_box G__law_case G__law_take G__law_needs G_first_unmet G_least_promise G__law_same G__law_unmet G__law_least G__law_refusals_right F
theorem facts {f : Addr} (X : K.In h) (G : h.Ns mainGlobals mg) (hfa : mg ("law" : Str) = some (.ref f)) (c : Hk.SaysB fal fnl exl K) :
    ∃ fd : FuncData, (∀ (s : Shared) (v : Value), BindsTo s fd ⟨[v], []⟩ [("script", v)]) ∧ ∀ base : Heap, K.In base → base.Ns mainGlobals mg → FnOk P w K mg base CX0 13 f fd ["script"] (spLaw K) := by
  obtain ⟨fd, F⟩ := c.d.def_ 34 (d := d_law) rfl
  have e := hfa.symm.trans (He.glo_ok X G (c.d.fact 30 (f := .glo "law") rfl))
  cases e
  have b := FunD.bindsA (ps := ["script"]) F fun _ _ _ _ _ _ us hl => match us, hl with | [_], _ => rfl
  exact ⟨fd, fun s v => b s [v] rfl, fun base _ _ => to0 (law_ok (txt X G c) (exm c) ⟨F, He.glo_ok X G (c.d.fact 30 (f := .glo "law") rfl)⟩)⟩
end
end K87
open PySem PySem.W PySem.Calls PyProof.Rows
theorem PySem.Challenge.cw_guestfleet_k87_needs_and_least_promises_holds : PySem.Challenge.rw_guestfleet_k87_needs_and_least_promises.Holds := by
  w_on; o_law
  refine HandSHeadRun.head_any (r := OpenLaw.row PySem.Challenge.rw_guestfleet_k87_needs_and_least_promises) (q := view (OpenLaw.row PySem.Challenge.rw_guestfleet_k87_needs_and_least_promises).prog [48]) (H := K87.hk) (ob := K87.ob) (M := 6000) (loose := K87.loose) (d := HandSHeadRun.topDef (OpenLaw.row PySem.Challenge.rw_guestfleet_k87_needs_and_least_promises).prog 48) (kwd := []) K87.ob_eq
    (by kernel_rfl) (fun s => by kernel_rfl) K87.run (by kernel_rfl) (by kernel_rfl) (by kernel_rfl) (by rfl) (by first | assumption | decide +kernel) (by decide +kernel) ⟨rfl, rfl, rfl, rfl, rfl, by decide +kernel⟩ ?hw ?hc
  case hw => w_witness2
  case hc =>
    refine L2.walk_ofE (l := PySem.Challenge.rw_guestfleet_k87_needs_and_least_promises) (n := 63) (k := 13) (x := "script") (CX := L2.CX0) rfl (by decide) (by kernel_rfl) ⟨rfl, by decide, by decide⟩ ?F (fun _ _ _ _ z => z)
    intro w mg fa h Y G hmg0
    obtain ⟨K, KX, c⟩ := Y
    have hmg : mg ("law" : PySem.Str) = some (.ref fa) := by
      have e : (HandSHeadRun.topDef (OpenLaw.row PySem.Challenge.rw_guestfleet_k87_needs_and_least_promises).prog 48).name = ("law" : PySem.Str) := by kernel_rfl
      rw [← e]
      exact hmg0
    obtain ⟨fd, hb, hF⟩ := K87.facts (P := (PySem.Challenge.rw_guestfleet_k87_needs_and_least_promises).prog) (w := w) KX G hmg c
    exact ⟨K, fd, K87.spLaw K, KX, hb, fun H a ns hl _ hS => ⟨a, ns, rfl, hS, fun _ => rfl⟩, hF⟩
