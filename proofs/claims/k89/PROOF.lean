import PyProof.Rows.All
import Wide.All
import OpenK.AllK
import Wide.FinOn
import KE.KStateDown
import HandS.ForMost
import HandS.Defaults
import HandS.Head0
import HandS.Head1
import HandS.Head2
import HandS.HeadEnd
import HandS.HeadHook1
import HandS.HeadHook2
import HandS.HeadHook4
import HandS.EndTab
import HandS.HeadWalk
import HandS.WordsExc
import HandS.Wide
import HandS.IsInst
import HandS.Exc
import HandS.ExcOwn
import HandS.ListItems
import HandS.More
import HandS.Flow
import HandS.Style
import HandS.Steps
import HandS.WideBits
import HandS.TupAny
import HandS.TupLe
import HandS.Walk
import HandS.TryMany
import KE.KFromBytes
import PyProof.Rows.FactsExc_KeyError
import HandS.ExcInit
import HandS.ClsMeth
import HandS.Lambda
import HandS.MakeKwOnly
import HandS.Codes
import KE.GoesMore
import HandS.Set
import HandS.SetKeys
import HandS.SetBool
import PyProof.SetRoads
import HandS.Conv
import HandS.Sort
import KE.KDictList
import KE.GoesZip
import HandS.SortKw
import KE.GoesEnumKw
import KE.KDictExact
import HandS.DictComp
import KE.KEqDict
import HandS.Evl
import HandS.Comp
import KE.KNestM
import PySem.Challenge.RW_guestfleet_k89_placements_refused_and_ju
set_option Elab.async false
set_option linter.all false
set_option maxRecDepth 100000
set_option maxHeartbeats 4000000
/-! Hk2: our heads' hook with the tables of the code that makes lambdas. -/
namespace Hk2
open PySem PySem.Spec PyProof.Rows L2
abbrev AlC : Type := He.AlD × Bool
/-- the written part behind the top, class attributes' place added, empty tables left out -/
def kOf (g : Addr → Option Obj) (n : Nat) : PySem.W.Frag := He.frT g (PySem.cStatics :: He.asD g n)
def obsC (n : Nat) (fa : List He.Fa) (fn : List He.DefD) (tf : List He.Defn) (ex : PySem.W.Frag → Bool) (g : Addr → Option Obj) : AlC := (He.obsD fa fn (kOf g n), ex (kOf g n) && He.tabsB g tf (kOf g n))
def valC (fn : List He.DefD) : AlC := (He.valD fn, true)
structure SaysC (fa : List He.Fa) (fn : List He.DefD) (tf : List He.Defn) (ex : PySem.W.Frag → Bool) (h : Heap) (K : PySem.W.Frag) : Prop where
  d : He.SaysD fa fn K
  x : ex K = true
  c : ∀ p ∈ tf, PySem.W.codeHdIn K (He.cT K p).1 (He.cT K p).2 = true ∧ K.lookup (He.cT K p).2 = none ∧ h.get? (He.cT K p).2 = some { cls := .none, data := .fields #[] }
theorem says_ofC {n : Nat} {fa : List He.Fa} {fn : List He.DefD} {tf : List He.Defn} {ex : PySem.W.Frag → Bool} {h : Heap} (e : obsC n fa fn tf ex h.get? = valC fn) : SaysC fa fn tf ex h (kOf h.get? n) := by
  have b := Bool.and_eq_true_iff.mp (congrArg Prod.snd e)
  refine ⟨congrArg Prod.fst e, b.1, fun p hp => ?_⟩
  have t := Bool.and_eq_true_iff.mp (List.all_eq_true.mp b.2 p hp)
  revert t
  generalize hx : h.get? (He.cT (kOf h.get? n) p).2 = x
  rintro ⟨t1, t2⟩
  cases x with
  | none => cases t2
  | some o => exact ⟨t1, He.frT_none hx t2, by rw [He.emptyTab_eq t2]⟩
def hookC (n : Nat) (fa : List He.Fa) (fn : List He.DefD) (tf : List He.Defn) (ex : PySem.W.Frag → Bool) : PySem.W.Hook where
  α := AlC
  obs := fun s => obsC n fa fn tf ex s.heap.get?
  val := fun _ => valC fn
  says := fun _ h => ∃ K : PySem.W.Frag, K.In h ∧ SaysC fa fn tf ex h K
  of := fun _ _ e => ⟨_, He.frT_in, says_ofC e⟩
  keeps := fun _ _ _ ⟨K, hK, c⟩ k => ⟨K, PySem.W.Frag.In.keeps hK k, c.d, c.x, fun p hp => ⟨(c.c p hp).1, (c.c p hp).2.1, k _ _ (c.c p hp).2.2⟩⟩
theorem obsC_eq {n : Nat} {fa : List He.Fa} {fn : List He.DefD} {tf : List He.Defn} {ex : PySem.W.Frag → Bool} {g : Addr → Option Obj} {s : Shared} (h : ∀ a, g a = s.heap.get? a) : obsC n fa fn tf ex g = (hookC n fa fn tf ex).obs s := by
  rw [show g = s.heap.get? from funext h]
  rfl
end Hk2

set_option Elab.async false
set_option linter.all false
set_option maxRecDepth 100000
set_option maxHeartbeats 1000000
/-! RP: plain data, and what stands for it in the heap; defs by name. -/
namespace RP
open PySem PySem.Spec PyProof.Rows L2
/-! ### plain data -/
inductive D where
  | non | bl (b : Bool) | int (i : Int) | str (x : Str) | lst (l : List D) | tup (l : List D) | dct (l : List (Str × D))
mutual
inductive Rep (K : PySem.W.Frag) (H : Hp) : V → D → Prop where
  | non : Rep K H .non .non
  | bl (b : Bool) : Rep K H (.bl b) (.bl b)
  | int (i : Int) : Rep K H (.int i) (.int i)
  | str (x : Str) (h : x.length ≤ sizeLine) : Rep K H (.str x) (.str x)
  | lst {a : Addr} {vs : List V} {ds : List D} (h : SqL K H a vs) (r : Reps K H vs ds) : Rep K H (.ref a) (.lst ds)
  | tup {a : Addr} {vs : List V} {ds : List D} (h : SqT K H a vs) (r : Reps K H vs ds) : Rep K H (.ref a) (.tup ds)
  | dct {a : Addr} {kvs : List (Key × V)} {ds : List (Str × D)} (h : Rd H a (.dK kvs)) (r : RepK K H kvs ds) : Rep K H (.ref a) (.dct ds)
inductive Reps (K : PySem.W.Frag) (H : Hp) : List V → List D → Prop where
  | nil : Reps K H [] []
  | cons {v : V} {d : D} {vs : List V} {ds : List D} (h : Rep K H v d) (t : Reps K H vs ds) : Reps K H (v :: vs) (d :: ds)
inductive RepK (K : PySem.W.Frag) (H : Hp) : List (Key × V) → List (Str × D) → Prop where
  | nil : RepK K H [] []
  | cons {x : Str} {v : V} {d : D} {kvs : List (Key × V)} {ds : List (Str × D)} (hx : x.length ≤ sizeLine) (h : Rep K H v d) (t : RepK K H kvs ds) : RepK K H ((.inr x, v) :: kvs) ((x, d) :: ds)
end
/-! ### heaps that know the same -/
/-- what is to be read in R is to be read in H -/
def Lq (R H : Hp) : Prop := ∀ a u, Rd R a u → Rd H a u
theorem Lq.refl (H : Hp) : Lq H H := fun _ _ h => h
theorem Lq.trans {A B C : Hp} (h : Lq A B) (k : Lq B C) : Lq A C := fun a u r => k a u (h a u r)
theorem Lq.of {R H : Hp} (s : Same R H) : Lq R H := fun a u r => by
  rcases r with r | ⟨o, r⟩
  · exact .inl (s a _ r)
  · exact .inr ⟨o, s a _ r⟩
theorem Lq.seq {K : PySem.W.Frag} {R H : Hp} (l : Lq R H) {a : Addr} {xs : List V} (h : SqL K R a xs) : SqL K H a xs := h.elim (fun z => .inl (l _ _ z)) .inr
theorem Lq.tup {K : PySem.W.Frag} {R H : Hp} (l : Lq R H) {a : Addr} {xs : List V} (h : SqT K R a xs) : SqT K H a xs := h.elim (fun z => .inl (l _ _ z)) .inr
mutual
theorem Rep.mono {K : PySem.W.Frag} {R H : Hp} (l : Lq R H) : ∀ {v : V} {d : D}, Rep K R v d → Rep K H v d
  | _, _, .non => .non
  | _, _, .bl b => .bl b
  | _, _, .int i => .int i
  | _, _, .str x h => .str x h
  | _, _, .lst h r => .lst (l.seq h) (Reps.mono l r)
  | _, _, .tup h r => .tup (l.tup h) (Reps.mono l r)
  | _, _, .dct h r => .dct (l _ _ h) (RepK.mono l r)
theorem Reps.mono {K : PySem.W.Frag} {R H : Hp} (l : Lq R H) : ∀ {vs : List V} {ds : List D}, Reps K R vs ds → Reps K H vs ds
  | _, _, .nil => .nil
  | _, _, .cons h t => .cons (Rep.mono l h) (Reps.mono l t)
theorem RepK.mono {K : PySem.W.Frag} {R H : Hp} (l : Lq R H) : ∀ {kvs : List (Key × V)} {ds : List (Str × D)}, RepK K R kvs ds → RepK K H kvs ds
  | _, _, .nil => .nil
  | _, _, .cons hx h t => .cons hx (Rep.mono l h) (RepK.mono l t)
end
theorem Rep.same {K : PySem.W.Frag} {R H : Hp} (s : Same R H) {v : V} {d : D} (r : Rep K R v d) : Rep K H v d := r.mono (Lq.of s)
theorem Reps.same {K : PySem.W.Frag} {R H : Hp} (s : Same R H) {v : List V} {d : List D} (r : Reps K R v d) : Reps K H v d := r.mono (Lq.of s)
theorem RepK.same {K : PySem.W.Frag} {R H : Hp} (s : Same R H) {v : List (Key × V)} {d : List (Str × D)} (r : RepK K R v d) : RepK K H v d := r.mono (Lq.of s)
/-- a dict is locked, and let go -/
theorem Lq.lock {R H : Hp} (l : Lq R H) {d : Addr} {u : HO} {o : Obj} (h : H d = some u) (m : Mut (some u)) : Lq R (upd H d (.frz o u)) := fun a v r => by
  have q := l a v r
  by_cases e : a = d
  · subst e
    rcases q with q | ⟨o', q⟩
    · rw [h] at q
      cases q
      exact .inr ⟨o, upd_same⟩
    · rw [h] at q
      cases q
      exact m.elim
  · rcases q with q | ⟨o', q⟩
    · exact .inl (by rw [upd_ne e]; exact q)
    · exact .inr ⟨o', by rw [upd_ne e]; exact q⟩
theorem same_new {H : Hp} {p : Addr} {o : HO} (h : H p = none) : Same H (upd H p o) := fun b u e => by
  rw [upd_ne (ne_of_none e h)]
  exact e
/-- what was locked stands again -/
theorem _root_.L2.Same.unlock {H H' : Hp} {d : Addr} {u : HO} {o : Obj} (h : H d = some u) (s : Same (upd H d (.frz o u)) H') : Same H (upd H' d u) := fun b v e => by
  by_cases q : b = d
  · subst q
    rw [h] at e
    cases e
    exact upd_same
  · rw [upd_ne q]
    exact s b v (by rw [upd_ne q]; exact e)
/-! ### known parts -/
/-- a part of the heap that holds no locked thing -/
def Plain (R : Hp) : Prop := ∀ a o u, R a ≠ some (.frz o u)
theorem Plain.put {R : Hp} (p : Plain R) {a : Addr} {o : HO} (h : ∀ ob u, o ≠ .frz ob u) : Plain (upd R a o) := fun b ob u e => by
  by_cases q : b = a
  · subst q
    rw [upd_same] at e
    exact h ob u (Option.some.inj e)
  · rw [upd_ne q] at e
    exact p b ob u e
theorem Plain.none : Plain fun _ => none := fun _ _ _ e => nomatch e
theorem Plain.rd {R : Hp} (p : Plain R) {a : Addr} {u : HO} (r : Rd R a u) : R a = some u := by
  rcases r with r | ⟨o, r⟩
  · exact r
  · exact (p _ _ _ r).elim
theorem _root_.L2.Same.out {R H : Hp} (s : Same R H) {p : Addr} (h : H p = none) : R p = none := s.free h
theorem _root_.L2.Same.put {R H : Hp} (s : Same R H) {p : Addr} {o : HO} : Same (upd R p o) (upd H p o) := fun b u e => by
  by_cases q : b = p
  · subst q
    rw [upd_same] at e ⊢
    exact e
  · rw [upd_ne q] at e ⊢
    exact s b u e
theorem _root_.L2.Same.skip {R H : Hp} (s : Same R H) {p : Addr} {o : HO} (h : R p = none) : Same R (upd H p o) := fun b u e => by
  rw [upd_ne (fun q => by rw [q, h] at e; cases e)]
  exact s b u e
/-- all but what stands at b is as it was -/
def But (b : Addr) (H H' : Hp) : Prop := ∀ a o, a ≠ b → H a = some o → H' a = some o
theorem But.refl (b : Addr) (H : Hp) : But b H H := fun _ _ _ h => h
theorem But.trans {b : Addr} {A B C : Hp} (h : But b A B) (k : But b B C) : But b A C := fun a o n e => k a o n (h a o n e)
theorem But.of {b : Addr} {H H' : Hp} (s : Same H H') : But b H H' := fun a o _ e => s a o e
theorem But.same {b : Addr} {R H H' : Hp} (k : But b H H') (n : R b = none) (s : Same R H) : Same R H' := fun a o e => k a o (fun q => by rw [q, n] at e; cases e) (s a o e)
theorem But.free {b : Addr} {H H' : Hp} (k : But b H H') {p : Addr} (n : p ≠ b) (h : H' p = none) : H p = none := by
  cases q : H p with
  | none => rfl
  | some o =>
    rw [k p o n q] at h
    cases h
theorem But.write {b : Addr} {H : Hp} {o : HO} : But b H (upd H b o) := fun a u n e => by
  rw [upd_ne n]
  exact e
/-- R2 knows besides R only what is new behind H -/
structure Grow (H R R2 : Hp) : Prop where
  same : Same R R2
  old : ∀ a, H a ≠ none → R2 a = R a
theorem Grow.refl (H R : Hp) : Grow H R R := ⟨Same.refl R, fun _ _ => rfl⟩
theorem Grow.trans {H H1 R R1 R2 : Hp} (a : Grow H R R1) (b : Grow H1 R1 R2) (k : ∀ x, H x ≠ none → H1 x ≠ none) : Grow H R R2 := ⟨a.same.trans b.same, fun x h => (b.old x (k x h)).trans (a.old x h)⟩
theorem Grow.put {H R R1 : Hp} (a : Grow H R R1) {p : Addr} {o : HO} (h : H p = none) (n : R1 p = none) : Grow H R (upd R1 p o) := ⟨a.same.trans (same_new n), fun x hx => by
  rw [upd_ne (fun q => hx (by rw [q]; exact h))]
  exact a.old x hx⟩
theorem Grow.off {H R R2 : Hp} (g : Grow H R R2) {b : Addr} {o : HO} (h : H b = some o) (n : R b = none) : R2 b = none := (g.old b (by rw [h]; exact fun z => nomatch z)).trans n
theorem Reps.len {K : PySem.W.Frag} {R : Hp} : ∀ {zs : List V} {ds : List D}, Reps K R zs ds → zs.length = ds.length
  | _, _, .nil => rfl
  | _, _, .cons _ t => by rw [List.length_cons, List.length_cons, t.len]
theorem Reps.get {K : PySem.W.Frag} {R : Hp} : ∀ {zs : List V} {ds : List D} {i : Nat} {z : V}, Reps K R zs ds → zs[i]? = some z → ∃ d, ds[i]? = some d ∧ Rep K R z d
  | _, _, _, _, .nil, h => nomatch h
  | _, _, 0, _, .cons h _, e => by
    cases e
    exact ⟨_, rfl, h⟩
  | _, _, i + 1, _, .cons _ t, e => t.get (i := i) e
theorem Reps.at {K : PySem.W.Frag} {R : Hp} : ∀ {zs : List V} {ds : List D} {i : Nat} {d : D}, Reps K R zs ds → ds[i]? = some d → ∃ z, zs[i]? = some z ∧ Rep K R z d
  | _, _, _, _, .nil, h => nomatch h
  | _, _, 0, _, .cons h _, e => by
    cases e
    exact ⟨_, rfl, h⟩
  | _, _, i + 1, _, .cons _ t, e => t.at (i := i) e
theorem RepK.len {K : PySem.W.Frag} {R : Hp} : ∀ {zs : List (Key × V)} {ds : List (Str × D)}, RepK K R zs ds → zs.length = ds.length
  | _, _, .nil => rfl
  | _, _, .cons _ _ t => by rw [List.length_cons, List.length_cons, t.len]
theorem RepK.get {K : PySem.W.Frag} {R : Hp} : ∀ {zs : List (Key × V)} {ds : List (Str × D)} {i : Nat} {k : Key} {z : V}, RepK K R zs ds → zs[i]? = some (k, z) → ∃ x d, ds[i]? = some (x, d) ∧ k = .inr x ∧ x.length ≤ sizeLine ∧ Rep K R z d
  | _, _, _, _, _, .nil, h => nomatch h
  | _, _, 0, _, _, .cons hx h _, e => by
    cases e
    exact ⟨_, _, rfl, rfl, hx, h⟩
  | _, _, i + 1, _, _, .cons _ _ t, e => t.get (i := i) e
/-! ### data by its kind -/
def D.ty : D → String
  | .non => "NoneType"
  | .bl _ => "bool"
  | .int _ => "int"
  | .str _ => "str"
  | .lst _ => "list"
  | .tup _ => "tuple"
  | .dct _ => "dict"
theorem sqL_ty {K : PySem.W.Frag} {H : Hp} {a : Addr} {xs : List V} (h : SqL K H a xs) : TyX K H (.ref a) (.type "list") := by
  rcases h with (h | ⟨o, h⟩) | ⟨o, its, n, hk, hc, _⟩
  · exact .base (.lst h)
  · exact .base (.frz h)
  · exact .kList hk hc
theorem sqT_ty {K : PySem.W.Frag} {H : Hp} {a : Addr} {xs : List V} (h : SqT K H a xs) : TyX K H (.ref a) (.type "tuple") := by
  rcases h with (h | ⟨o, h⟩) | ⟨o, its, n, hk, hc, _⟩
  · exact .base (.tup h)
  · exact .fTuple h
  · exact .kTuple hk hc
theorem Rep.tyx {K : PySem.W.Frag} {H : Hp} {v : V} {d : D} (r : Rep K H v d) : TyX K H v (.type d.ty) := by
  cases r with
  | non => exact .base .non
  | bl b => exact .base (.bl b)
  | int i => exact .base (.int i)
  | str x _ => exact .base (.str x)
  | lst h _ => exact sqL_ty h
  | tup h _ => exact sqT_ty h
  | dct h _ =>
    rcases h with h | ⟨o, h⟩
    · exact .base (.dK h)
    · exact .fDict h
/-- isinstance of data -/
def D.isa (d : D) (T : String) : Bool := decide (d.ty = T) || (decide (d.ty = "bool") && decide (T = "int"))
theorem isa_kit {K : PySem.W.Frag} (d : D) {T : String} (h : T ∈ ["int", "bool", "str", "list", "tuple", "dict"]) : PySem.W.kitOne K (.type d.ty) (.type T) = some (d.isa T) := by
  have key : ∀ t ∈ ["NoneType", "bool", "int", "str", "list", "tuple", "dict"], ∀ T ∈ ["int", "bool", "str", "list", "tuple", "dict"], kitB t T = some (decide (t = T) || (decide (t = "bool") && decide (T = "int"))) := by decide +kernel
  have ht : d.ty ∈ ["NoneType", "bool", "int", "str", "list", "tuple", "dict"] := by cases d <;> simp [D.ty]
  exact kit_ty (key _ ht _ h)
/-! ### readings -/
/-- a reading that is answered by a lemma, never unfolded on the way -/
structure Box (p : Prop) : Prop where
  out : p
theorem call_box {X : Cx} {f : Value} {r : List V → Hp → VK → Prop} (h : CallR X f r) : CallR X f (fun xs H Q => Box (r xs H Q)) := fun pins s σ H xs us Q I rv q => h pins s σ H xs us Q I rv q.out
theorem call_is {X : Cx} : CallR X (.builtin "isinstance") (fun xs H Q => Box (rIsi X.K xs H Q)) := call_box call_isi
theorem call_isLT {X : Cx} : CallR X (.builtin "isinstance") (fun xs H Q => Box (rIsiT X.K xs H Q)) := call_box call_isiT
section
variable {K : PySem.W.Frag} {H : Hp} {v : V} {d : D} {Q : VK}
/-- isinstance(x, T) -/
theorem rd_isi {T : String} (r : Rep K H v d) (h : Q (.bl (d.isa T)) H) (hT : T ∈ ["int", "bool", "str", "list", "tuple", "dict"] := by decide) : Box (rIsi K [v, .ty T] H Q) := ⟨_, _, _, _, _, rfl, .ty T, r.tyx, isa_kit d hT, h⟩
/-- isinstance(x, (list, tuple)), the tuple just laid -/
theorem rd_isiLT {p : Addr} (r : Rep K H v d) (hp : H p = none) (h : Q (.bl (d.isa "list" || d.isa "tuple")) (upd H p (.tup [.ty "list", .ty "tuple"]))) : Box (rIsiT K [v, .ref p] (upd H p (.tup [.ty "list", .ty "tuple"])) Q) := by
  have r2 := r.same (same_new (o := .tup [.ty "list", .ty "tuple"]) hp)
  have e : PySem.W.kitAny K (.type d.ty) [.type "list", .type "tuple"] = some (d.isa "list" || d.isa "tuple") := by
    have h1 := isa_kit (K := K) d (T := "list") (by decide)
    have h2 := isa_kit (K := K) d (T := "tuple") (by decide)
    refine kitAny_cons h1 (fun z => ?_) fun z => by rw [z]; rfl
    rw [z]
    refine kitAny_cons h2 (fun z2 => ?_) fun z2 => by rw [z2]; rfl
    rw [z2]
    exact kitAny_nil
  exact ⟨_, _, _, _, _, _, rfl, upd_same, .cons (.ty _) (.cons (.ty _) .nil), r2.tyx, e, h⟩
end
theorem ite_dec {A B : Prop} {c : Bool} (h1 : c = true → A) (h2 : c = false → B) : if c = true then A else B := by
  cases c with
  | true => exact iteT (h1 rfl)
  | false => exact iteF (h2 rfl)
end RP

set_option Elab.async false
set_option linter.all false
set_option maxRecDepth 100000
set_option maxHeartbeats 1000000
/-! KR: the layer's rules with the written part K named, so that they serve in a comprehension's block too. -/
namespace RP
open PySem PySem.Spec PyProof.Rows L2
section
variable {X : Cx} (K : PySem.W.Frag) (h : X.K = K)
include h
theorem kix_list : IxR X (rIxL K) := by subst h; exact ix_list
theorem kix_tup : IxR X (rIxT K) := by subst h; exact ix_tup
theorem ksl_list : SlR X (rSlL K) := by subst h; exact sl_list
theorem ksl_tup : SlR X (rSlA K) := by subst h; exact sl_tupA
theorem kcall_len_seq : CallR X (.builtin "len") (fun xs H Q => ∃ p ys, xs = [.ref p] ∧ (SqL K H p ys ∨ SqT K H p ys) ∧ Q (.int ys.length) H) := by subst h; exact call_len_seq
theorem kcall_len : CallR X (.builtin "len") (fun xs H Q => ∃ x n, xs = [x] ∧ LenV K x H n ∧ Q (.int n) H) := by subst h; exact call_len
theorem kcall_list_of : CallR X (.type "list") (fun xs H Q => ∃ p ys, xs = [.ref p] ∧ (SqL K H p ys ∨ SqT K H p ys) ∧ ∀ l, H l = none → Q (.ref l) (upd H l (.lst ys))) := by subst h; exact call_list_of
theorem kcall_tuple_of : CallR X (.type "tuple") (fun xs H Q => ∃ p ys, xs = [.ref p] ∧ ((SqL K H p ys ∧ ∀ l, H l = none → Q (.ref l) (upd H l (.tup ys))) ∨ (SqT K H p ys ∧ Q (.ref p) H))) := by subst h; exact call_tuple_of
theorem kcall_dictP (hc : X.calm = true) : CallR X (.type "dict") (fun xs H Q => ∃ (a : Addr) (ps : List Addr) (kvs : List (Key × V)), xs = [.ref a] ∧ SqL K H a (ps.map V.ref) ∧ Paired (fun p kv => SqT K H p [kV kv.1, kv.2]) ps kvs ∧
    ∀ p, H p = none → Q (.ref p) (upd H p (.dK (mergeK [] kvs)))) := by subst h; exact call_dictP hc
theorem kcr_sum (hc : X.calm = true) : CallR X (.builtin "sum") (rSum K) := by subst h; exact cr_sum hc
theorem kcr_all (hc : X.calm = true) : CallR X (.builtin "all") (rAll K) := by subst h; exact cr_all hc
theorem kcr_any (hc : X.calm = true) : CallR X (.builtin "any") (rAny K) := by subst h; exact cr_any hc
theorem kcall_is : CallR X (.builtin "isinstance") (fun xs H Q => Box (rIsi K xs H Q)) := by subst h; exact call_is
theorem kcall_isLT : CallR X (.builtin "isinstance") (fun xs H Q => Box (rIsiT K xs H Q)) := by subst h; exact call_isLT
theorem kmt_index : MtR X "list.index" (rIndex K) := by subst h; exact mt_index
theorem kmt_indexB : MtR X "list.index" (fun x xs H Q => Box (rIndex K x xs H Q)) := by
  subst h
  exact fun pins s σ H x xs v us Q I rx rv q => mt_index pins s σ H x xs v us Q I rx rv q.out
theorem kop_catA : OpR X (binaryOp .Add) (rCatA K) := by subst h; exact op_catA
theorem kop_in_seq : OpR X (compareOp .In) (rIn K false) := by subst h; exact op_in_seq
theorem kop_notIn_seq : OpR X (compareOp .NotIn) (rIn K true) := by subst h; exact op_notIn_seq
theorem kop_eqD (hu : X.A.units + 64 < cLine) : OpR X (compareOp .Eq) (rEqD K) := by subst h; exact op_eqD hu
theorem kop_neD (hu : X.A.units + 64 < cLine) : OpR X (compareOp .NotEq) (rNeD K) := by subst h; exact op_neD hu
end
section
variable {X : Cx} (K : PySem.W.Frag) (h : X.K = K) {tg e o : Expr} {es : List Expr} {te to : TE} {ta : TA}
include h
theorem kpi_list (hl : PE X e te) : PI X tg e (iList K te) := by subst h; exact pi_list hl
theorem kpi_tup (hl : PE X e te) : PI X tg e (iTup K te) := by subst h; exact pi_tup hl
theorem kpi_enum {p pos tpos : Pos} {elts : List Expr} {kk : Nat} (hg : Gl X "enumerate") (hm : X.mg "enumerate" = none) (ha : PA X [e] ta) (hs : starEach [e] X.env = [(false, eval e X.env)] := by rfl) :
    PI X (.Tuple elts kk tpos) (.Call (.Name "enumerate" p) [e] [] pos) (iEnum K ta) := by subst h; exact pi_enum hg hm ha hs
theorem kpg_tup {k : Nat} {t : TGs} {n : Nat} {pos : Pos} (hc : X.calm = true) (hp : PGs X es t) (hn : (assignEach es X.env).length = n := by rfl) (hst : (assignEach es X.env).findIdx? (·.1) = none := by rfl) : PG X (.Tuple es k pos) (gTup K n t) := by
  subst h
  exact pg_tup hc hp hn hst
theorem kpe_bm {nm : Str} {r : V → List V → Hp → VK → Prop} {apos cpos : Pos} {T' : String} (z : PE X (.Call (.Attribute o nm apos) es [] cpos) (tBM X.K T' r to ta)) : PE X (.Call (.Attribute o nm apos) es [] cpos) (tBM K T' r to ta) := by
  subst h
  exact z
end
end RP

set_option Elab.async false
set_option linter.all false
set_option maxRecDepth 100000
set_option maxHeartbeats 1000000
/-! LC: comprehensions that only make new things. -/
namespace RP
open PySem PySem.Spec PyProof.Rows L2
theorem range_succ_filterMap {α : Type} (f : Nat → Option α) (n : Nat) : (List.range (n + 1)).filterMap f = (List.range n).filterMap f ++ (match f n with
    | some y => [y]
    | none => []) := by
  rw [List.range_succ, List.filterMap_append]
  cases h : f n <;> simp [h]
theorem filterMap_range_length {α : Type} (f : Nat → Option α) (n : Nat) : ((List.range n).filterMap f).length ≤ n := by
  have h := List.length_filterMap_le f (List.range n)
  rw [List.length_range] at h
  exact h
section
variable {J : It} {n : Nat} {G : Hp → Prop} {Y : Nat → Hp → V → Hp → Prop} {g : TG} {tt : TT} {te : TE} {vs : List Nat} {σ : L2.St} {H1 : Hp} {L : Addr} {Qd : Hp → Prop}
/-- each value is told by f (none: left out) -/
theorem lc_vals (w : Walk J n G Y) (f : Nat → Option V) (hD : H1 L = none) (hn : n ≤ 1000000) (hG : ∀ H, Same H1 H → G H)
    (hs : ∀ i x H H' (Y2 : V → Hp → Prop) (N2 : Hp → Prop), i < n → Same H1 H → H L ≠ none → Y i H x H' → (∀ y H4, f i = some y → Same H H4 → Y2 y H4) → (∀ H3, f i = none → Same H H3 → N2 H3) →
      g x (wipe σ vs) H' fun σ2 H2 => wipe σ2 vs = wipe σ vs ∧ tt σ2 H2 fun b H3 => if b = true then te σ2 H3 Y2 else N2 H3)
    (hd : ∀ H, Same H1 H → H L = some (.lst ((List.range n).filterMap f)) → Qd H) :
    ∃ W : Nat → Nat → Hp → Prop, (∃ m, W 0 m (upd H1 L (.lst []))) ∧ ∀ i m H, W i m H →
      (J.stop i H ∧ Qd H) ∨ (J.go i H ∧ ∃ Nx : Hp → Prop, (∀ H', Nx H' → ∃ m', m' < m ∧ W (i + 1) m' H') ∧ ∀ x H', J.yld i H x H' → g x (wipe σ vs) H' fun σ2 H2 => wipe σ2 vs = wipe σ vs ∧ tt σ2 H2 fun b H3 =>
        if b = true then te σ2 H3 fun y H4 => ∃ acc, H4 L = some (.lst acc) ∧ acc.length < sizeLine ∧ Nx (upd H4 L (.lst (acc ++ [y]))) else Nx H3) := by
  refine lc_it w (fun i H => Same H1 H ∧ H L = some (.lst ((List.range i).filterMap f))) ⟨same_new hD, by rw [upd_same]; rfl⟩ (fun i H _ p => hG H p.1) ?_ (fun H p => hd H p.1 p.2)
  intro i x H H' hi p y
  refine hs i x H H' _ _ hi p.1 (by rw [p.2]; exact fun z => nomatch z) y (fun v H4 e s => ?_) (fun H3 e s => ?_)
  · refine ⟨_, s _ _ p.2, ?_, ?_, ?_⟩
    · have := filterMap_range_length f i
      exact Nat.lt_of_le_of_lt (Nat.le_trans this (by omega)) (show 1000000 < sizeLine by rw [sizeLine_eq]; decide)
    · exact (p.1.trans s).skip hD
    · rw [upd_same, range_succ_filterMap, e]
  · refine ⟨p.1.trans s, ?_⟩
    rw [s _ _ p.2, range_succ_filterMap, e, List.append_nil]
/-- each value stands for data told by f -/
theorem lc_reps {K : PySem.W.Frag} {R : Hp} (w : Walk J n G Y) (f : Nat → Option D) (hD : H1 L = none) (hn : n ≤ 1000000) (hR : Same R H1) (hP : Plain R) (hG : ∀ H, Same H1 H → G H)
    (hs : ∀ i x H H' R1 (Y2 : V → Hp → Prop) (N2 : Hp → Prop), i < n → Same H1 H → H L ≠ none → Grow H1 R R1 → Plain R1 → Same R1 H → Y i H x H' →
      (∀ y H4 R4 d, f i = some d → Same H H4 → Grow H R1 R4 → Plain R4 → Same R4 H4 → Rep K R4 y d → Y2 y H4) → (∀ H3, f i = none → Same H H3 → N2 H3) →
      g x (wipe σ vs) H' fun σ2 H2 => wipe σ2 vs = wipe σ vs ∧ tt σ2 H2 fun b H3 => if b = true then te σ2 H3 Y2 else N2 H3)
    (hd : ∀ H R1 zs, Same H1 H → Grow H1 R R1 → Plain R1 → Same R1 H → R1 L = none → H L = some (.lst zs) → Reps K R1 zs ((List.range n).filterMap f) → Qd H) :
    ∃ W : Nat → Nat → Hp → Prop, (∃ m, W 0 m (upd H1 L (.lst []))) ∧ ∀ i m H, W i m H →
      (J.stop i H ∧ Qd H) ∨ (J.go i H ∧ ∃ Nx : Hp → Prop, (∀ H', Nx H' → ∃ m', m' < m ∧ W (i + 1) m' H') ∧ ∀ x H', J.yld i H x H' → g x (wipe σ vs) H' fun σ2 H2 => wipe σ2 vs = wipe σ vs ∧ tt σ2 H2 fun b H3 =>
        if b = true then te σ2 H3 fun y H4 => ∃ acc, H4 L = some (.lst acc) ∧ acc.length < sizeLine ∧ Nx (upd H4 L (.lst (acc ++ [y]))) else Nx H3) := by
  have app : ∀ {R : Hp} {zs : List V} {ds : List RP.D} {y : V} {d : RP.D}, Reps K R zs ds → Rep K R y d → Reps K R (zs ++ [y]) (ds ++ [d]) := by
    intro R zs ds y d r q
    induction zs generalizing ds with
    | nil =>
      cases r
      exact .cons q .nil
    | cons z zs ih =>
      cases r with
      | cons h t => exact .cons h (ih t)
  have len : ∀ {R : Hp} {zs : List V} {ds : List RP.D}, Reps K R zs ds → zs.length = ds.length := by
    intro R zs ds r
    induction zs generalizing ds with
    | nil =>
      cases r
      rfl
    | cons z zs ih =>
      cases r with
      | cons h t => rw [List.length_cons, List.length_cons, ih t]
  have hRD : R L = none := hR.out hD
  refine lc_it w (fun i H => ∃ R1 zs, Same H1 H ∧ Grow H1 R R1 ∧ Plain R1 ∧ Same R1 H ∧ R1 L = none ∧ H L = some (.lst zs) ∧ Reps K R1 zs ((List.range i).filterMap f))
    ⟨R, [], same_new hD, Grow.refl _ _, hP, hR.skip hRD, hRD, upd_same, .nil⟩ (fun i H _ ⟨_, _, p, _⟩ => hG H p) ?_ (fun H ⟨R1, zs, p1, p2, p3, p4, p5, p6, p7⟩ => hd H R1 zs p1 p2 p3 p4 p5 p6 p7)
  rintro i x H H' hi ⟨R1, zs, p1, p2, p3, p4, p5, p6, p7⟩ y
  refine hs i x H H' R1 _ _ hi p1 (by rw [p6]; exact fun z => nomatch z) p2 p3 p4 y (fun v H4 R4 d e s gr pl sr rp => ?_) (fun H3 e s => ?_)
  · have h4D : R4 L = none := (gr.old L (by rw [p6]; exact fun z => nomatch z)).trans p5
    refine ⟨_, s _ _ p6, ?_, R4, zs ++ [v], ?_, ?_, pl, sr.skip h4D, h4D, upd_same, ?_⟩
    · have h1 := filterMap_range_length f i
      have h2 := len p7
      exact Nat.lt_of_le_of_lt (by omega) (show 1000000 < sizeLine by rw [sizeLine_eq]; decide)
    · exact (p1.trans s).skip hD
    · refine p2.trans gr fun a ha z => ?_
      cases q : H1 a with
      | none => exact ha q
      | some o =>
        rw [p1 a o q] at z
        cases z
    · rw [range_succ_filterMap, e]
      exact app (p7.same gr.same) rp
  · refine ⟨R1, zs, p1.trans s, p2, p3, p4.trans s, p5, s _ _ p6, ?_⟩
    rw [range_succ_filterMap, e, List.append_nil]
    exact p7
end
end RP

set_option Elab.async false
set_option linter.all false
set_option maxRecDepth 100000
set_option maxHeartbeats 1000000
/-! GX3: a try with several clauses, each with or without a name. -/
namespace GX
open PySem PySem.Spec PyProof.Rows L2
/-- what is wanted behind a suite that holds a name in slot i: the slot is empty then -/
abbrev gone (D : Ends) (i : Nat) : Ends := { nx := fun σ H => D.nx (σ.set i none) H, rt := D.rt, bk := fun σ H => D.bk (σ.set i none) H, ct := fun σ H => D.ct (σ.set i none) H }
/-- a clause's suite, entered with the error at a -/
def enter (D : Ends) (oi : Option Nat) (t : TS) (a : Addr) (σ : L2.St) (H : Hp) : Prop := match oi with
  | none => t D σ H
  | some i => t (gone D i) (σ.set i (some (.ref a))) H
abbrev Cl : Type := Value × Option Nat × (Addr → Value → Option Addr → TS)
/-- what the clauses wish of an error of the body, one after the other -/
def wMA (K : PySem.W.Frag) (Wout : WX) (D : Ends) : List Cl → WX
  | [] => Wout
  | (c, oi, ts) :: r => fun cls d σ H => ∃ b, PySem.W.exmOne K cls c = some b ∧ (b = true → ∀ a, H a = none → enter D oi (ts a cls d) a σ H) ∧ (b = false → wMA K Wout D r cls d σ H)
inductive HdA (X : Cx) : List ExceptHandler → List Cl → Prop
  | nil : HdA X [] []
  | bare {x : Str} {c : Value} {ts : Addr → Value → Option Addr → TS} {b0 : Stmt} {suite : List Stmt} {np pos' : Pos} {hds : List ExceptHandler} {l : List Cl} (hc : Names X x c)
      (hsu : ∀ (a : Addr) (oe : Obj) (cls : Value) (d : Option Addr) (pn : List (Addr × Obj)), Zc cls d oe → (∃ vs, oe.data = .fields vs) → PSs (X.suite a ((a, oe) :: pn)) (b0 :: suite) (ts a cls d)) (r : HdA X hds l) :
      HdA X (.ExceptHandler (some (.Name x np)) none (b0 :: suite) pos' :: hds) ((c, none, ts) :: l)
  | named {x n : Str} {i : Nat} {c : Value} {ts : Addr → Value → Option Addr → TS} {b0 : Stmt} {suite : List Stmt} {np pos' : Pos} {hds : List ExceptHandler} {l : List Cl} (hi : X.N[i]? = some n) (hln : X.env.kindOf n = some .local) (hc : Names X x c)
      (hsu : ∀ (a : Addr) (oe : Obj) (cls : Value) (d : Option Addr) (pn : List (Addr × Obj)), Zc cls d oe → (∃ vs, oe.data = .fields vs) → PSs (X.suite a ((a, oe) :: pn)) (b0 :: suite) (ts a cls d)) (r : HdA X hds l) :
      HdA X (.ExceptHandler (some (.Name x np)) (some n) (b0 :: suite) pos' :: hds) ((c, some i, ts) :: l)
section
variable {X : Cx} {body : List Stmt} {h0 : ExceptHandler} {hds : List ExceptHandler} {l : List Cl} {pos : Pos} {tb : WX → TS} {Wout : WX}
theorem ps_try_ma (hs : X.stack = X.env :: X.outer) (hf : X.env.frame = some X.env.locals) (hN : X.N.Nodup) (tk : Takes X Wout)
    (hb : ∀ (W : WX) (pn : List (Addr × Obj)) (xe : Value → Shared → Prop), Takes (X.tr pn xe) W → PassesOwn (model X.prog X.w) X.A X.env xe → PSs (X.tr pn xe) body (tb W))
    (hh : HdA X (h0 :: hds) l) : PS X (.Try body (h0 :: hds) [] [] pos) (fun D σ H => tb (wMA X.K Wout D l) D σ H) := by
  refine ⟨fun pins s σ H D I h => ?_⟩
  have ok := I.ok
  have hfr : X.A.frames = some (X.env :: X.outer) := by rw [ok.frames, hs]
  have back : ∀ {f : Flow} {s1 : Shared}, SP (X.tr (X.pn ++ pins) (fun e s₁ => wpAny (model X.prog X.w) X.A (noteFrame e X.env) (fun _ s₂ => wpAny (model X.prog X.w) X.A (setFlight e none) (fun _ s₃ =>
      wpAny (model X.prog X.w) X.A (handleBy e X.env (h0 :: hds)) (SP X pins D) X.xe s₃) X.xe s₂) X.xe s₁)) [] D f s1 → SP X pins D f s1 := fun {f s1} hsp => by
    cases f with
    | next =>
      obtain ⟨σ1, H1, J, q⟩ := hsp
      exact ⟨σ1, H1, J.ofTry ok, q⟩
    | brk =>
      obtain ⟨σ1, H1, J, q⟩ := hsp
      exact ⟨σ1, H1, J.ofTry ok, q⟩
    | cont =>
      obtain ⟨σ1, H1, J, q⟩ := hsp
      exact ⟨σ1, H1, J.ofTry ok, q⟩
    | ret u =>
      obtain ⟨v, σ1, H1, J, r, q⟩ := hsp
      exact ⟨v, σ1, H1, J.ofTry ok, r, q⟩
  refine wpAny_Try_except ?_
  refine wpAny_mono ((hb (wMA X.K Wout D l) (X.pn ++ pins) _ (fun u s' xx => ?_) PassesOwn.looking).run [] s σ H D (I.toTry _) h) (fun f s1 hsp => ?_) (fun e s1 he => he)
  · obtain ⟨a, B, sI, pins', σ', H', cls, d, rfl, J', nb, up, sky, na, os, ag, w⟩ := xx
    have J : Inv X pins σ' H' sI := J'.ofTry ok
    have sky' : Sky B (X.env :: X.outer) a (Zc cls d) X.env.locals s'.heap := by
      rw [← hs]
      exact sky
    show wpAny (model X.prog X.w) X.A (noteFrame (.ref a) X.env) _ _ _
    refine Sky.land Zc.steady hfr hf sky' fun h3 fl3 up3 => ?_
    have J3 : Inv X pins σ' H' { s' with heap := h3 } := J.landed nb fl3.1 (up.trans up3) os ag
    obtain ⟨oe3, vs3, he3, hz3, hd3⟩ := fl3.there
    have nfr : a ∉ frs (X.env :: X.outer) := fun hm => by
      obtain ⟨_, o', e', hnf⟩ := fl3.2.2.1.mem hm
      rw [he3] at e'
      cases e'
      exact hnf _ hd3
    have nL : a ≠ X.env.locals := fun z => nfr (List.mem_filterMap.mpr ⟨X.env, List.mem_cons_self, by rw [hf, z]⟩)
    have nF : a ∉ X.fs := fun hm => by
      obtain ⟨e, he, q⟩ := List.mem_filterMap.mp hm
      exact nfr (List.mem_filterMap.mpr ⟨e, List.mem_cons_of_mem _ he, q⟩)
    have S3 := J3.suite he3 hd3 na nL nF
    -- the class named by a clause
    have test : ∀ {x : Str} {np : Pos} {c : Value} {Q : Value → Shared → Prop} {E : Value → Shared → Prop}, Names X x c → Q c { s' with heap := h3 } → wpAny (model X.prog X.w) (X.A.mark (some (.ref a))) (eval (.Name x np) X.env) Q E { s' with heap := h3 } := fun {x np c Q E} hc q => by
      obtain ⟨hg, hdbg, hm | ⟨hm, hv, hnn⟩⟩ := hc
      · exact ld_glob (X := X.suite a ((a, oe3) :: (X.pn ++ pins))) S3 hg hm q hdbg
      · exact ld_blt (X := X.suite a ((a, oe3) :: (X.pn ++ pins))) S3 hg hm hv q hnn hdbg
    have LT : PySem.W.Looks (model X.prog X.w) h3 (typeOf (.ref a)) cls := fun A Q E s k q => wpAny_typeOf_ref (k _ _ he3) (by rw [hz3.1]; exact q)
    have go : ∀ {hds' : List ExceptHandler} {l' : List Cl}, HdA X hds' l' → wMA X.K Wout D l' cls d σ' H' → wpAny (model X.prog X.w) X.A (handleBy (.ref a) X.env hds') (SP X pins D) X.xe { s' with heap := h3 } := by
      intro hds' l' hk
      induction hk with
      | nil =>
        intro w
        refine wpAny_handleBy_nil ?_
        obtain ⟨k1, k2, k3, oe, vs, T, oT, ts', he, hz, hd, h1, hr⟩ := id fl3
        unfold PySem.passOn
        refine wpAny_bind (wpAny_field he hd h1 ?_)
        rw [if_neg (show ¬ ((Value.ref T == Value.none) = true) from by simp)]
        have fin : wpAny (model X.prog X.w) X.A (setFlight (.ref a) X.env.frame) (fun _ s4 => wpAny (model X.prog X.w) X.A (throw (.ref a) : Sem Flow) (SP X pins D) X.xe s4) X.xe { s' with heap := h3 } := by
          rw [hf]
          refine HandSPX.setFlight_upZ fl3 fun h4 hh4 up4 => wpAny_throw (tk _ _ ?_)
          exact ⟨a, B, sI, pins, σ', H', cls, d, rfl, J, nb, (up.trans up3).trans up4, .inr (.inr (by rw [hs]; exact hh4)), na, os, ag, w⟩
        first
          | exact wpAny_bind (wpAny_pure (wpAny_bind fin))
          | exact wpAny_bind fin
      | @bare x c ts b0 suite np pos' hds2 l2 hc hsu r ih =>
        intro w
        obtain ⟨b, hb1, hyes, hno⟩ := w
        refine wpAny_handleBy_cons (codeAny_handlers_test ?_) (by intro q; cases q)
        refine test hc ((PySem.W.exm_one (M := model X.prog X.w) (J3.kIn) LT hb1).here ?_)
        cases b with
        | true =>
          refine codeAny_handlers_suite ?_
          refine HandSPX.lands_againZ fl3 fun h4 fl4 up4 => ?_
          have J4 : Inv X pins σ' H' { s' with heap := h4 } := J.landed nb fl4.1 ((up.trans up3).trans up4) os ag
          obtain ⟨oe4, vs4, he4, hz4, hd4⟩ := fl4.there
          have S4 := J4.suite he4 hd4 na nL nF
          refine wpAny_mono ((hsu a oe4 cls d (X.pn ++ pins) hz4 ⟨_, hd4⟩).run [] _ _ H' _ S4 (hyes rfl a na)) (fun f s6 hsp => ?_) (fun _ _ z => False.elim z)
          cases f with
          | next =>
            obtain ⟨σ6, H6, S6, q6⟩ := hsp
            exact ⟨_, _, S6.unsuite ok, q6⟩
          | brk =>
            obtain ⟨σ6, H6, S6, q6⟩ := hsp
            exact ⟨_, _, S6.unsuite ok, q6⟩
          | cont =>
            obtain ⟨σ6, H6, S6, q6⟩ := hsp
            exact ⟨_, _, S6.unsuite ok, q6⟩
          | ret u =>
            obtain ⟨v6, σ6, H6, S6, r6, q6⟩ := hsp
            exact ⟨_, _, _, S6.unsuite ok, r6, q6⟩
        | false =>
          show wpAny _ X.A (handleBy (.ref a) X.env hds2) _ _ _
          exact ih (hno rfl)
      | @named x n i c ts b0 suite np pos' hds2 l2 hi hln hc hsu r ih =>
        intro w
        obtain ⟨b, hb1, hyes, hno⟩ := w
        refine wpAny_handleBy_cons (codeAny_handlers_test ?_) (by intro q; cases q)
        refine test hc ((PySem.W.exm_one (M := model X.prog X.w) (J3.kIn) LT hb1).here ?_)
        cases b with
        | true =>
          refine codeAny_handlers_suite_as ?_
          refine HandSPX.lands_againZ fl3 fun h4 fl4 up4 => ?_
          have J4 : Inv X pins σ' H' { s' with heap := h4 } := J.landed nb fl4.1 ((up.trans up3).trans up4) os ag
          obtain ⟨oe4, vs4, he4, hz4, hd4⟩ := fl4.there
          have S4 := J4.suite he4 hd4 na nL nF
          refine store_ok (X := X.suite a ((a, oe4) :: (X.pn ++ pins))) (v := .ref a) S4 hN hi (.inl hln) rfl (fun s5 S5 => ?_) (.inr hln)
          have hent := hyes rfl a na
          refine wpAny_mono ((hsu a oe4 cls d (X.pn ++ pins) hz4 ⟨_, hd4⟩).run [] s5 _ H' _ S5 hent) (fun f s6 hsp => ?_) (fun _ _ z => False.elim z)
          have end_ : ∀ {σ6 : L2.St} {H6 : Hp} {Q : Shared → Prop}, Inv (X.suite a ((a, oe4) :: (X.pn ++ pins))) [] σ6 H6 s6 → (∀ s7, Inv X pins (σ6.set i none) H6 s7 → Q s7) →
              wpAny (model X.prog X.w) X.A (do bindName X.env n .none; unbindBehindTheSuite X.env n pos') (fun _ s7 => Q s7) X.xe s6 := fun {σ6 H6 Q} S6 hq => gone_ok (S6.unsuite ok) hN hi hln hq
          cases f with
          | next =>
            obtain ⟨σ6, H6, S6, q6⟩ := hsp
            exact end_ S6 fun s7 J7 => ⟨_, _, J7, q6⟩
          | brk =>
            obtain ⟨σ6, H6, S6, q6⟩ := hsp
            exact end_ S6 fun s7 J7 => ⟨_, _, J7, q6⟩
          | cont =>
            obtain ⟨σ6, H6, S6, q6⟩ := hsp
            exact end_ S6 fun s7 J7 => ⟨_, _, J7, q6⟩
          | ret u =>
            obtain ⟨v6, σ6, H6, S6, r6, q6⟩ := hsp
            exact end_ S6 fun s7 J7 => ⟨_, _, _, J7, r6, q6⟩
        | false =>
          show wpAny _ X.A (handleBy (.ref a) X.env hds2) _ _ _
          exact ih (hno rfl)
    exact go hh w
  · have q := back hsp
    cases f with
    | next => exact wpAny_execs_nil q
    | brk => exact q
    | cont => exact q
    | ret u => exact q
end
end GX

set_option Elab.async false
set_option linter.all false
set_option maxRecDepth 100000
set_option maxHeartbeats 4000000
/-! GX1: own exception classes over any base with the BaseException maker: how they are made, initialised, stored to. -/
namespace GX
open PySem PySem.W PySem.Calls PyProof.Rows PySem.HandSPX
section
variable {prog : Program} {w : World} {M : Model} {A : Around} {E : Value → Shared → Prop} {R : Result → Shared → Prop} {h : Heap} {g : Array GenState} {d : Drawn} {t : Nat} {os : OsState}
variable {nm q : Str} {C N : Addr} {bs bm bmB : List Value} {hdct : Bool} {sn : List Str} {sub : List Value} {ab : Bool} {col : Option Bool} {dd : Option Addr} {k0 k1 k2 k3 k5 : Option Value} {B newId initId : String}
/-- what the maker asks of the class's chain: it stands over the maker's owner, and is no AttributeError, no NameError -/
structure Over (B : String) (bm : List Value) : Prop where
  has : bm.contains (.type B) = true
  noA : bm.contains (.type "AttributeError") = false
  noN : bm.contains (.type "NameError") = false
theorem Over.cons {B : String} {bm : List Value} (o : Over B bm) (C : Addr) : Over B (.ref C :: bm) :=
  ⟨by rw [List.contains_cons, o.has, Bool.or_true], by rw [List.contains_cons, o.noA]; rfl, by rw [List.contains_cons, o.noN]; rfl⟩
theorem chk_new (F : ExcBaseFacts B newId initId bmB) (o : Over B bm) {rest : List Value} {Q : Unit → Shared → Prop}
    (hC : h.get? C = some (excClassObj nm q C N bs bm hdct sn sub ab col dd k0 k1 k2 k3 k5 newId)) (hq : Q () ⟨h, g, d, t, os⟩) :
    wpAny M A (checkBuiltinCall newId ⟨.ref C :: rest, []⟩) Q E ⟨h, g, d, t, os⟩ := by
  have c1 := (o.cons C).has
  have c2 := F.noStar
  simp only [checkBuiltinCall, F.newKind, F.newSplit, F.newRow]
  repeat (first
    | refine wpAny_loadPart_at hC ?_
    | (refine wpAny_isSubtype_exc hC ?_; rw [c1])
    | refine wpAny_staticBase_exc hC ?_
    | refine wpAny_madeBy_exc hC ?_
    | simp only [bne_self_eq_false, Bool.false_eq_true, if_false]
    | wp_step)
  exact hq
theorem run_new (F : ExcBaseFacts B newId initId bmB) (o : Over B bm) {rest : List Value} (hC : h.get? C = some (excClassObj nm q C N bs bm hdct sn sub ab col dd k0 k1 k2 k3 k5 newId))
    (hq : R (.ok (.ret (.ref (h.objs.size + 1)))) ⟨(h.push (kdv_tup rest)).push (excO C h.objs.size), g, d, t, os⟩) (hrest : rest.length ≤ sizeLine) :
    codeAny (model prog w) A (.builtin newId ⟨.ref C :: rest, []⟩) R ⟨h, g, d, t, os⟩ := by
  have c0 := F.ends
  have c1 := (o.cons C).has
  have c2 := (o.cons C).noA
  have c3 := (o.cons C).noN
  refine codeAny_builtinAt F.entry ?_
  unfold Builtin.«BaseException.__new__»
  refine PySem.wpAt_bind ?_
  show PySem.wpAt _ _ _ (stack >>= _) _ _ _
  refine PySem.wpAt_bind (PySem.wpAt_stack fun p below => PySem.wpAt_of_wpAny ?_)
  wp_walk
  refine PySem.wpAt_of_wpAny ?_
  rw [F.owner]
  repeat (first
    | with_reducible refine wpAny_madeHere_exc F.canon hC ?_
    | with_reducible refine wpAny_loadPart_at hC ?_
    | (with_reducible refine wpAny_isSubtype_exc hC ?_; first | rw [c1] | rw [c2] | rw [c3])
    | wp_step)
  show R _ _
  rw [Heap.size_push]
  exact hq
theorem run_type (F : ExcBaseFacts B newId initId bmB) (o : Over B bm) {rest : List Value} {fI : Addr} {Q : Fin → Shared → Prop} (hC : h.get? C = some (excClassObj nm q C N bs bm hdct sn sub ab col dd k0 k1 k2 k3 k5 newId))
    (hi : Looks (model prog w) h (typeLookup (.ref C) "__init__") (some (.ref fI))) (hb : ∀ self, Looks (model prog w) h (bindSpecial (.ref fI) self) (.ref fI, [self])) (hrest : rest.length ≤ sizeLine)
    (hq : codeAny (model prog w) A (.call (.ref fI) ⟨.ref (h.objs.size + 1) :: rest, []⟩)
      (fun r s' => match r with | .ok (.ret v) => v = .none ∧ Q (.done (.ret (.ref (h.objs.size + 1)))) s' | .ok _ => False | .error e => E e s')
      ⟨(h.push (kdv_tup rest)).push (excO C h.objs.size), g, d, t, os⟩) :
    wpAny (model prog w) A (Builtin.«type.__call__» ⟨.ref C :: rest, []⟩) Q E ⟨h, g, d, t, os⟩ := by
  repeat (first | with_reducible refine wpAny_loadPart_at hC ?_ | with_reducible refine wpAny_madeBy_exc hC ?_ | wp_step)
  refine codeAny_call_builtin_code (Code.quiet_builtin _ F.quiet) (chk_new F o hC ?_)
  refine run_new F o hC ?_ hrest
  show wpAny _ _ _ _ _ _
  have kk : ∀ b u, h.get? b = some u → ((h.push (kdv_tup rest)).push (excO C h.objs.size)).get? b = some u := fun b u e => Heap.get?_push_of_some _ (Heap.get?_push_of_some _ e)
  have hC2 := kk _ _ hC
  have hget : ((h.push (kdv_tup rest)).push (excO C h.objs.size)).get? (h.objs.size + 1) = some (excO C h.objs.size) := by heap_get
  have hself : (Value.ref C :: bm).contains (.ref C) = true := by simp
  have i1 := hi.keeps kk
  have b1 := (hb (.ref (h.objs.size + 1))).keeps kk
  unfold isInstance
  repeat (first | with_reducible refine wpAny_loadPart_at hget ?_ | (with_reducible refine wpAny_isSubtype_exc hC2 ?_; rw [hself]) | wp_step)
  show wpAny _ _ (typeLookup (.ref C) _) _ _ _
  refine i1.at ?_
  refine wpAny_holding (wpAny_bind (b1.at ?_))
  refine wpAny_bind (wpAny_call (codeAny_mono hq fun r s' z => ?_))
  rcases r with e | (v | _ | _ | _) <;> first | exact z | exact z.elim | skip
  obtain ⟨rfl, z⟩ := z
  first
    | exact wpAny_pure (wpAny_pure z)
    | (wp_walk; exact z)
/-- C(..): the record is made, then C's own __init__ runs -/
theorem call_cls (F : ExcBaseFacts B newId initId bmB) (o : Over B bm) {rest : List Value} {fI : Addr} (hC : h.get? C = some (excClassObj nm q C N bs bm hdct sn sub ab col dd k0 k1 k2 k3 k5 newId))
    (hi : Looks (model prog w) h (typeLookup (.ref C) "__init__") (some (.ref fI))) (hb : ∀ self, Looks (model prog w) h (bindSpecial (.ref fI) self) (.ref fI, [self])) (hrest : rest.length ≤ sizeLine)
    (hq : codeAny (model prog w) (A.under (.builtin "type.__call__" ⟨.ref C :: rest, []⟩)) (.call (.ref fI) ⟨.ref (h.objs.size + 1) :: rest, []⟩) (InitBack (h.objs.size + 1) R)
      ⟨(h.push (kdv_tup rest)).push (excO C h.objs.size), g, d, t, os⟩) :
    codeAny (model prog w) A (.call (.ref C) ⟨rest, []⟩) R ⟨h, g, d, t, os⟩ := by
  have f1 := tc_lookup
  have f2 := tc_bind (.ref C)
  have hTy : (⟨h, g, d, t, os⟩ : Shared).TypeIs (.ref C) "type" := ⟨_, hC, rfl⟩
  refine codeAny_of_tree ?_
  show wpAny _ _ (callAny (.ref C) _) _ _ _
  repeat (any_goals (first | assumption | with_reducible refine wpAny_loadPart_at hC ?_ | wp_step))
  refine ⟨rfl, ?_⟩
  refine codeAny_call_builtin_at (Code.quiet_builtin _ (by decide +kernel)) entry_typeCall (wpAny_check_type_call_sub hC (run_type F o hC hi hb hrest ?_))
  refine codeAny_mono hq fun r s' z => ?_
  rcases r with e | (v | _ | _ | _) <;> exact z

/-! ### B.__init__(e, ..): the args are laid anew -/
/-- what is asked of the name of B's own __init__ -/
structure InitF (B initId : String) : Prop where
  slot : Slot B "__init__" initId
  entry : entryFor table initId = some Builtin.«BaseException.__init__»
  split : splitId initId = some (B, "__init__")
  kind : builtinKind initId = some .slot
  row : Manifest.signature? initId = some ⟨.positional, "*", B, .self, [⟨"args", .varPos, false⟩]⟩
  noStar : (B != "*") = true
theorem init_ok (F : InitF B initId) (o : bm.contains (.type B) = true) {e t0 : Addr} {rest : List Value} (hC : h.get? C = some (excClassObj nm q C N bs bm hdct sn sub ab col dd k0 k1 k2 k3 k5 newId)) (he : h.get? e = some (excO C t0))
    (hrest : rest.length ≤ sizeLine) (hq : ∀ h' t1, (∀ b u, b ≠ e → h.get? b = some u → h'.get? b = some u) → h'.get? e = some (excO C t1) → R (.ok (.ret .none)) ⟨h', g, d, t, os⟩) :
    codeAny (model prog w) A (.call (.builtin initId) ⟨.ref e :: rest, []⟩) R ⟨h, g, d, t, os⟩ := by
  refine codeAny_call_builtin F.slot.plain F.entry ?_
  have c1 : (Value.ref C :: bm).contains (.type B) = true := by rw [List.contains_cons, o, Bool.or_true]
  have c2 := F.noStar
  have hcls : (excO C t0).cls = .ref C := rfl
  have goal : ∀ {A : Around} {Q : Unit → Shared → Prop} {E : Value → Shared → Prop}, Q () ⟨h, g, d, t, os⟩ → wpAny (model prog w) A (checkBuiltinCall initId ⟨.ref e :: rest, []⟩) Q E ⟨h, g, d, t, os⟩ := fun {A Q E} hq => by
    simp only [checkBuiltinCall, F.kind, F.split, F.row]
    repeat (first
      | (with_reducible refine wpAny_loadPart_at he ?_; rw [hcls])
      | with_reducible refine wpAny_loadPart_at hC ?_
      | (with_reducible refine wpAny_isSubtype_exc hC ?_; rw [c1])
      | wp_step)
    refine wpAny_onRaise ?_
    have star : ∀ (a b : String) (n : Nat), Bind.check ⟨.positional, "*", B, .self, [⟨"args", .varPos, false⟩]⟩ a b n (List.map (fun x => x.fst) ({ pos := Value.ref e :: rest } : Args).kw) = pure () := fun a b n => check_star_args _ _ _ _ _ _
    rw [star]
    exact wpAny_pure hq
  refine goal ?_
  wp_walk
  refine hq _ h.objs.size (fun b u hb hu => ?_) ?_
  · rw [Heap.get?_update_other _ _ (Ne.symm hb)]
    exact Heap.get?_push_of_some _ hu
  · rw [Heap.get?_update_self _ (Heap.get?_push_of_some _ he) rfl]
    rfl
end
theorem initF_of {B newId initId : String} {bm : List Value} (F : ExcBaseFacts B newId initId bm) : InitF B initId := ⟨F.init, F.initEntry, F.initSplit, F.initKind, F.initRow, F.noStar⟩
theorem initF_KeyError : InitF "KeyError" "KeyError.__init__" :=
  ⟨excClass_KeyError.init, excClass_KeyError.initEntry, excClass_KeyError.initSplit, excClass_KeyError.initKind, by kernel_rfl, excClass_KeyError.notStar⟩

/-! ### self.name = v on such an instance that has no dict yet -/
section
open Builtin Builtin.ObjectAttr
variable {prog : Program} {w : World} {A : Around} {R : Result → Shared → Prop} {hp : Heap} {g : Array GenState} {d : Drawn} {t : Nat} {os : OsState}
/-- what is asked of the chain: nobody of it refuses a store -/
structure Lets (mro : List Value) : Prop where
  obj : mro.contains (.type "object") = true
  ne : mro.isEmpty = false
  pass : ∀ self : Value, refuseLoop self "__setattr__" mro = pure ()
theorem Lets.cons {mro : List Value} (l : Lets mro) (C : Addr) : Lets (.ref C :: mro) := ⟨by rw [List.contains_cons, l.obj, Bool.or_true], rfl, fun self => by rw [refuseLoop_ref]; exact l.pass self⟩
theorem store_new {K : W.Frag} {name : Str} {tk : Tok} {v : Value} {x C : Addr} {fv : Array Value} {cd : ClassData}
    (X : K.In hp) (hx : hp.get? x = some { cls := .ref C, data := .fields fv }) (hcd : W.clsIn K C = some cd) (hm : Lets cd.mro) (hh : cd.hasDict = true) (ha : W.findIn K (.ref C) name = some none)
    (hq : ∀ h' tk' dx, (∀ b u, b ≠ x → hp.get? b = some u → h'.get? b = some u) → hp.objs.size ≤ dx → dx ≠ x → h'.get? x = some { cls := .ref C, dict := some dx, data := .fields fv } →
      h'.Ns1 dx (fun y => if y = name then some v else none) → R (.ok (.ret .none)) ⟨h', g, d, tk', os⟩) :
    codeAny (model prog w) A (.call (.builtin "object.__setattr__") ⟨[.ref x, .str name tk, v], []⟩) R ⟨hp, g, d, t, os⟩ := by
  have I : W.InstAt hp x { cls := .ref C, data := .fields fv } C none := ⟨hx, rfl, rfl, trivial⟩
  have SF := F.store_object
  have hxs : x ≠ hp.objs.size := Nat.ne_of_lt (Heap.lt_size hx)
  have isobj : W.mroIn K C (.type "object") = some true := by
    unfold W.mroIn
    rw [hcd, Option.bind_some, if_neg (by rw [hm.ne]; decide), hm.obj]
  have sub : W.Looks (model prog w) hp (isInstance (.ref x) (.type "object")) true := I.type.andThen (W.looks_mroIn X isobj)
  refine codeAny_call_builtin SF.slot.plain SF.entry (@W.check_slot (model prog w) _ _ ⟨hp, g, d, t, os⟩ "object.__setattr__" "object" "__setattr__" (.ref x) [.str name tk, v] [] _ SF.kind SF.split sub (SF.args (.ref x) (.str name tk) v) ?_)
  have lmro : W.Looks (model prog w) hp (mroOf (.ref C)) cd.mro := (W.looks_clsIn X hcd).andThen .now
  have ltk : W.Looks (model prog w) hp (storeTaker? none) none := .now
  have lcls : W.Looks (model prog w) hp (classData C) cd := W.looks_clsIn X hcd
  rw [W.osa_eq, refuse_eq]
  refine wpAny_bind (wpAny_bind (I.type.at (wpAny_bind (lmro.at ?_))))
  rw [hm.pass]
  refine wpAny_pure (wpAny_bind (I.type.at (wpAny_bind ((W.looks_findIn X ha).at (wpAny_bind (ltk.at ?_))))))
  show wpAny _ _ (storeInOwnDict (.ref x) (.ref C) (.str name tk) name v false) _ _ _
  obtain ⟨nm, bs, mro, ns, qn, hd, sn, sb, ab, col, del⟩ := cd
  dsimp only at hh
  subst hh
  unfold storeInOwnDict ownDictForStores
  repeat (first
    | with_reducible refine HandSPX.store_in_new ?_ ?_
    | with_reducible refine wpAny_loadPart_at hx ?_
    | with_reducible refine lcls.at ?_
    | wp_step)
  · exact ⟨_, #[], _, (Heap.get?_update_ne _ _ _ _ hxs.symm).trans (Heap.get?_push_at rfl rfl), rfl, fun e he => absurd he (by simp), fun _ => rfl⟩
  · intro h' tk' hn' hs
    have hx1 : (hp.push { cls := .type "dict", data := .dict #[] }).get? x = some { cls := .ref C, data := .fields fv } := Heap.get?_push_of_some _ hx
    refine hq h' tk' hp.objs.size (fun b u hb hu => ?_) (Nat.le_refl _) hxs.symm ?_ hn'
    · exact (hs.2 b (Nat.ne_of_lt (Heap.lt_size hu))).trans ((Heap.get?_update_ne _ _ _ _ hb).trans (Heap.get?_push_of_some _ hu))
    · exact (hs.2 x hxs).trans (Heap.get?_update_self _ hx1 rfl)
end
end GX

set_option Elab.async false
set_option linter.all false
set_option maxRecDepth 100000
set_option maxHeartbeats 1000000
/-! GX2: an own exception class with one field: its __init__, raising it, reading its field in a suite. -/
namespace GX
open PySem PySem.Spec PyProof.Rows L2
/-! ### bases -/
/-- a base: the maker of its classes, its own __init__, its chain -/
structure Bs where
  maker : String
  own : String
  base : String
  ini : String
  tail : List Value
structure Bs.Ok (b : Bs) : Prop where
  facts : ∃ ini bm, PySem.ExcBaseFacts b.own b.maker ini bm
  over : Over b.own b.tail
  lets : Lets b.tail
  init : InitF b.base b.ini
  has : b.tail.contains (.type b.base) = true
  plain : PySem.W.handedIn (.builtin b.ini) = true
def bVE : Bs := ⟨"ValueError.__new__", "ValueError", "ValueError", "ValueError.__init__", [.type "ValueError", .type "Exception", .type "BaseException", .type "object"]⟩
def bKE : Bs := ⟨"LookupError.__new__", "LookupError", "KeyError", "KeyError.__init__", [.type "KeyError", .type "LookupError", .type "Exception", .type "BaseException", .type "object"]⟩
def bLE : Bs := ⟨"LookupError.__new__", "LookupError", "LookupError", "LookupError.__init__", [.type "LookupError", .type "Exception", .type "BaseException", .type "object"]⟩
theorem bVE_ok : bVE.Ok := ⟨⟨_, _, F.excBase_ValueError⟩, ⟨by decide +kernel, by decide +kernel, by decide +kernel⟩, ⟨by decide +kernel, rfl, fun self => F.store_ValueError.passes self⟩, initF_of F.excBase_ValueError, by decide +kernel, by decide +kernel⟩
theorem bLE_ok : bLE.Ok := ⟨⟨_, _, F.excBase_LookupError⟩, ⟨by decide +kernel, by decide +kernel, by decide +kernel⟩, ⟨by decide +kernel, rfl, fun self => by kernel_rfl⟩, initF_of F.excBase_LookupError, by decide +kernel, by decide +kernel⟩
theorem bKE_ok : bKE.Ok := ⟨⟨_, _, F.excBase_LookupError⟩, ⟨by decide +kernel, by decide +kernel, by decide +kernel⟩, ⟨by decide +kernel, rfl, fun self => by kernel_rfl⟩, initF_KeyError, by decide +kernel, by decide +kernel⟩
/-- own classes, then the base's chain -/
def refsB (tail : List Value) : List Value → Bool
  | [] => tail.isEmpty
  | v :: r => (match v with
    | .ref _ => refsB tail r
    | _ => false) || decide (v :: r = tail)
theorem refsB_ind {tail : List Value} {P : List Value → Prop} (h0 : P tail) (h1 : ∀ C r, P r → P (.ref C :: r)) : ∀ l, refsB tail l = true → P l
  | [], e => by
    have q : tail = [] := List.isEmpty_iff.mp e
    rw [q] at h0
    exact h0
  | v :: r, e => by
    unfold refsB at e
    rcases Bool.or_eq_true_iff.mp e with z | z
    · cases v with
      | ref C => exact h1 C r (refsB_ind h0 h1 r z)
      | _ => cases z
    · rw [of_decide_eq_true z]
      exact h0
theorem over_refs {b : Bs} (k : b.Ok) {bm : List Value} (e : refsB b.tail bm = true) : Over b.own bm := refsB_ind (P := Over b.own) k.over (fun C _ o => o.cons C) bm e
theorem lets_refs {b : Bs} (k : b.Ok) {bm : List Value} (e : refsB b.tail bm = true) : Lets bm := refsB_ind (P := Lets) k.lets (fun C _ o => o.cons C) bm e
theorem has_refs {b : Bs} (k : b.Ok) {bm : List Value} (e : refsB b.tail bm = true) : bm.contains (.type b.base) = true :=
  refsB_ind (P := fun l => l.contains (.type b.base) = true) k.has (fun C _ o => by rw [List.contains_cons, o, Bool.or_true]) bm e
/-! ### what the written part says of such a class at C, its field called f -/
structure XC (K : PySem.W.Frag) (b : Bs) (C : Addr) (f : Str) : Prop where
  ok : b.Ok
  cls : ∃ nm q N bs bm sn sub ab col dd k0 k1 k2 k3 k5, K.lookup C = some (excClassObj nm q C N bs bm true sn sub ab col dd k0 k1 k2 k3 k5 b.maker) ∧ refsB b.tail bm = true
  sa : PySem.W.findIn K (.ref C) "__setattr__" = some (some (.builtin "object.__setattr__"))
  ga : PySem.W.findIn K (.ref C) "__getattribute__" = some (some (.builtin "BaseException.__getattribute__"))
  gg : PySem.W.findIn K (.ref C) "__getattr__" = some none
  nf : PySem.W.findIn K (.ref C) f = some none
  exC : PySem.W.subIn K (.ref C) (.type "BaseException") = some true
  tyC : PySem.W.typeIn K (.ref C) = some (.type "type")
  kC : PySem.W.keepIn K (.ref C) = true
  hdC : PySem.W.hasDictIn K C = true
def clsB (K : PySem.W.Frag) (b : Bs) (C : Addr) : Bool := match K.lookup C with
  | some ⟨.type "type", _, .cls cd, sl⟩ => (match cd.mro, sl.toList with
    | .ref D :: bm, [_, _, _, _, some (.builtin n), _] => D == C && n == b.maker && !cd.hasDel && cd.hasDict && refsB b.tail bm
    | _, _ => false)
  | _ => false
theorem clsB_ok {K : PySem.W.Frag} {b : Bs} {C : Addr} (h : clsB K b C = true) :
    ∃ nm q N bs bm sn sub ab col dd k0 k1 k2 k3 k5, K.lookup C = some (excClassObj nm q C N bs bm true sn sub ab col dd k0 k1 k2 k3 k5 b.maker) ∧ refsB b.tail bm = true := by
  unfold clsB at h
  split at h
  · rename_i dd cd sl ho
    split at h
    · rename_i D bm k0 k1 k2 k3 n k5 hm hs
      simp only [Bool.and_eq_true, beq_iff_eq, Bool.not_eq_true'] at h
      obtain ⟨⟨⟨⟨e1, e2⟩, e3⟩, e4⟩, e5⟩ := h
      obtain ⟨nm, bs, mro, ns, qn, hd, sn, sub, ab, col, del⟩ := cd
      dsimp only at hm e3 e4
      subst e1 e2 hm e3 e4
      have hsl : sl = #[k0, k1, k2, k3, some (.builtin b.maker), k5] := by
        obtain ⟨l⟩ := sl
        simp only at hs
        rw [hs]
      subst hsl
      exact ⟨_, _, _, _, bm, _, _, _, _, _, _, _, _, _, _, ho, e5⟩
    · cases h
  · cases h
def xcB (K : PySem.W.Frag) (b : Bs) (C : Addr) (f : Str) : Bool :=
  clsB K b C && (He.eqO (PySem.W.findIn K (.ref C) "__setattr__") (some (some (.builtin "object.__setattr__"))) && (He.eqO (PySem.W.findIn K (.ref C) "__getattribute__") (some (some (.builtin "BaseException.__getattribute__"))) &&
  (He.eqO (PySem.W.findIn K (.ref C) "__getattr__") (some none) && (He.eqO (PySem.W.findIn K (.ref C) f) (some none) && (decide (PySem.W.subIn K (.ref C) (.type "BaseException") = some true) &&
  (decide (PySem.W.typeIn K (.ref C) = some (.type "type")) && (PySem.W.keepIn K (.ref C) && PySem.W.hasDictIn K C)))))))
theorem xcB_ok {K : PySem.W.Frag} {b : Bs} {C : Addr} {f : Str} (k : b.Ok) (h : xcB K b C f = true) : XC K b C f := by
  unfold xcB at h
  simp only [Bool.and_eq_true] at h
  obtain ⟨h1, h2, h3, h4, h5, h6, h7, h8, h9⟩ := h
  exact ⟨k, clsB_ok h1, He.eqO_ok h2, He.eqO_ok h3, He.eqO_ok h4, He.eqO_ok h5, of_decide_eq_true h6, of_decide_eq_true h7, h8, h9⟩
/-- the own base class at G, whose __init__ is the built-in base's -/
structure GB (K : PySem.W.Frag) (b : Bs) (G : Addr) : Prop where
  rd : PySem.W.readsIn K G (.type "type") = true
  ga : PySem.W.specialIn K (.ref G) "__getattribute__" = some (some (.builtin "type.__getattribute__"))
  at_ : PySem.W.findCls K (.ref G) (.type "type") "__init__" = some (.val (.builtin b.ini))
def gbB (K : PySem.W.Frag) (b : Bs) (G : Addr) : Bool :=
  PySem.W.readsIn K G (.type "type") && (He.eqO (PySem.W.specialIn K (.ref G) "__getattribute__") (some (some (.builtin "type.__getattribute__"))) && (match PySem.W.findCls K (.ref G) (.type "type") "__init__" with
    | some (.val (.builtin n)) => decide (n = b.ini)
    | _ => false))
theorem gbB_ok {K : PySem.W.Frag} {b : Bs} {G : Addr} (h : gbB K b G = true) : GB K b G := by
  unfold gbB at h
  simp only [Bool.and_eq_true] at h
  obtain ⟨h1, h2, h3⟩ := h
  refine ⟨h1, He.eqO_ok h2, ?_⟩
  split at h3
  · rename_i n e
    rw [e, of_decide_eq_true h3]
  · cases h3
section
variable {X : Cx} {pins : List (Addr × Obj)} {σ : L2.St} {H : Hp} {s : Shared} {a C dx : Addr} {b : Bs} {f : Str} {y : V} {u : Value} {fs : List (Str × V)} {Q : Unit → Shared → Prop} {E : Value → Shared → Prop} {A : Around}
/-- self.f = y, the first field -/
theorem xst_new (T : XC X.K b C f) (I : Inv X pins σ H s) (e : H a = some (exo a C none)) (ry : RelV y u)
    (h : ∀ dx s', H dx = none → dx ≠ a → Inv X pins σ (upd (upd H dx (exd dx [(f, y)])) a (exo a C (some dx))) s' → Q () s') : wpAny (model X.prog X.w) A (setAttr (.ref a) f u) Q E s := by
  obtain ⟨nm, q, N, bs, bm, sn, sub, ab, col, dd, k0, k1, k2, k3, k5, hC, hbm⟩ := T.cls
  have hcl : PySem.W.clsIn X.K C = some { name := nm, bases := bs, mro := .ref C :: bm, ns := N, qualname := q, hasDict := true, slotNames := sn, subclasses := sub, abstract := ab, collection := col, hasDel := false } := by
    unfold PySem.W.clsIn
    rw [hC] <;> rfl
  obtain ⟨t1, ho⟩ := exo_at I.hok e
  obtain ⟨hp, g, d, t, os⟩ := s
  refine PySem.W.set_plain I.kIn (ox := { cls := .ref C, dict := none, data := .fields #[.ref t1, .none, .none, .none, .bool false, .none] }) (od := none) ⟨ho, rfl, rfl, trivial⟩ T.sa ?_
  refine store_new I.kIn ho hcl ((lets_refs T.ok hbm).cons C) rfl T.nf (fun h' tk' dx k dn dne hx hn => ?_)
  have hnd : H dx = none := I.hok.fresh dn
  have nd : ∀ {c : Addr} {o : Obj}, hp.get? c = some o → c ≠ dx := fun {c o} q => Nat.ne_of_lt (Nat.lt_of_lt_of_le (Heap.lt_size q) dn)
  have na : ∀ {c : Addr}, H c = none → c ≠ a := fun {c} n z => by
    rw [z, e] at n
    cases n
  have U : Un X.fs [] H (upd (upd H dx (exd dx [(f, y)])) a (exo a C (some dx))) hp h' := {
    keep := fun c o q n _ _ => k c o (na n) q
    slot := fun c o q n _ _ => ⟨o.slots, k c o (na n) q⟩
    free := fun c o q n _ => by
      rw [upd_ne (na n), upd_ne (nd q)]
      exact n
    there := fun c o q _ => by
      by_cases hb : c = a
      · exact ⟨_, by rw [hb]; exact hx⟩
      · exact ⟨o, k c o hb q⟩
    tups := fun c xs q => by
      rw [upd_ne (at_ne e q exo_tup), upd_ne (ne_of_none q hnd)]
      exact q
    frzs := fun c o v q => by
      rw [upd_ne (at_ne e q exo_frz), upd_ne (ne_of_none q hnd)]
      exact q
    tbls := fun c ps q => ⟨#[], by
      rw [upd_ne (at_ne e q exo_tbl), upd_ne (ne_of_none q hnd), q]
      simp⟩ }
  refine h dx _ hnd dne (I.un (t' := tk') U fun c o q => ?_)
  by_cases hb : c = a
  · subst hb
    rw [upd_same] at q
    cases q
    exact exo_ok hx
  · rw [upd_ne hb] at q
    by_cases hd : c = dx
    · subst hd
      rw [upd_same] at q
      cases q
      exact exd_ok hn (relO_put (fs := []) ry fun g => True.intro)
    · rw [upd_ne hd] at q
      have far : ∀ c', c' = c ∨ H c' = some (.own c) → c' ≠ a := fun c' hc => hc.elim (fun z => by rw [z]; exact hb) fun z => at_ne e z exo_own
      exact (I.hok c o q).stay (fun c' v hc z => k c' v (far c' hc) z)
        (fun c' hc => by
          rw [upd_ne (at_ne e hc exo_own), upd_ne (ne_of_none hc hnd)]
          exact hc)
        (fun c' xs hc => by
          rw [upd_ne (at_ne e hc exo_tup), upd_ne (ne_of_none hc hnd)]
          exact hc)
/-- B.__init__(self, ..) -/
theorem xinit_ok {us : List Value} {Q : Value → Shared → Prop} (T : XC X.K b C f) (I : Inv X pins σ H s) (e : H a = some (exo a C none)) (hl : us.length ≤ sizeLine) (h : ∀ s', Inv X pins σ H s' → Q .none s') :
    wpAny (model X.prog X.w) A (call (.builtin b.ini) (.ref a :: us)) Q E s := by
  obtain ⟨nm, q, N, bs, bm, sn, sub, ab, col, dd, k0, k1, k2, k3, k5, hC, hbm⟩ := T.cls
  obtain ⟨t1, ho⟩ := exo_at I.hok e
  obtain ⟨hp, g, d, t, os⟩ := s
  refine wpAny_call (init_ok T.ok.init (has_refs T.ok hbm) (I.kIn _ _ hC) ho hl fun h' t2 k hx => ?_)
  have J := I.write (t' := t) (x := a) (e := a) (o := exo a C none) (by rw [e]; exact True.intro) (.inl rfl) k ⟨_, hx⟩ (exo_ok hx)
  have eu : upd H a (exo a C none) = H := by
    funext c
    by_cases hb : c = a
    · rw [hb, upd_same, e]
    · rw [upd_ne hb]
  rw [eu] at J
  exact h _ J
end
/-! ### readings and rules -/
/-- G.__init__(self, ..) -/
def tGI (K : PySem.W.Frag) (b : Bs) (f : Str) (ta : TA) : TE := fun σ H Q => ta σ H fun vs H1 => ∃ (a C : Addr) (ws : List V), vs = .ref a :: ws ∧ ws.length ≤ 1000 ∧ XC K b C f ∧ H1 a = some (exo a C none) ∧ Q .non H1
/-- self.f = e -/
def tXst (K : PySem.W.Frag) (b : Bs) (f : Str) (to te : TE) : TS := fun D σ H => te σ H fun y H1 => to σ H1 fun x H2 => ∃ a C : Addr, x = .ref a ∧ XC K b C f ∧ H2 a = some (exo a C none) ∧
  ∀ dx, H2 dx = none → dx ≠ a → D.nx σ (upd (upd H2 dx (exd dx [(f, y)])) a (exo a C (some dx)))
section
variable {X : Cx} {o e : Expr} {es : List Expr} {to te : TE} {ta : TA} {b : Bs} {f x : Str} {p p' p1 p2 pos : Pos} {G : Addr}
theorem pe_ginit {pl : Sem Bool} (gb : GB X.K b G) (bk : b.Ok) (hg : Gl X x) (hm : X.mg x = some (.ref G)) (ha : PA X (e :: es) ta)
    (hc : eval (.Call (.Attribute (.Name x p1) "__init__" p2) (e :: es) [] pos) X.env = (do
      let ov ← eval (.Name x p1) X.env
      standAt p2.atName
      let (f, first) ← holding [ov] (getMethod ov "__init__" pl)
      callWith pos f first (backTo pos (starEach (e :: es) X.env)) (backToKw pos (keywordEach [] X.env))) := by rfl)
    (hdb : (x == ("__debug__" : Str)) = false := by decide) (he : starEach (e :: es) X.env = (false, eval e X.env) :: starEach es X.env := by rfl) (hpl : (backTo pos (starEach es X.env)).any (·.1) = false := by rfl) :
    PE X (.Call (.Attribute (.Name x p1) "__init__" p2) (e :: es) [] pos) (tGI X.K b f ta) := by
  refine ⟨fun pins s σ H Q I h => ?_⟩
  refine PySem.W.methodCall_KW (ld_glob I hg hm ?_ hdb) hc
  refine PySem.W.method_cls I.kIn gb.ga (PySem.W.cls_value I.kIn gb.rd gb.at_ bk.plain ?_)
  show wpAny _ _ (callWith pos (Value.builtin b.ini) [] (backTo pos (starEach (e :: es) X.env)) []) _ _ _
  refine PyProof.Rows.callWith_method1 (thn (ha.run pos pins _ σ H _ (I.tok _) h) fun us s1 ⟨vs, H1, I1, r1, a, C, ws, ev, hl, T, ea, q⟩ => ?_) he hpl
  subst ev
  cases r1 with
  | @cons _ u0 _ ur ra rw' =>
    obtain rfl : u0 = Value.ref a := ra
    have hlen : ur.length ≤ sizeLine := by
      rw [← Paired.length rw', sizeLine_eq]
      omega
    exact xinit_ok T I1 ea hlen fun s' J => ⟨.non, H1, J, rfl, q⟩
theorem ps_xst (ho : PE X o to) (he : PE X e te) (hs : swapsWith e (some (.Attribute o f p')) pos.line X.env = pure false := by rfl) : PS X (.Assign [.Attribute o f p'] e pos) (tXst X.K b f to te) := by
  refine ⟨fun pins s σ H D I h => ?_⟩
  refine plainObj_wpAny_Assign_Attribute (thn (he.run pins s σ H _ I h) fun v s1 ⟨y, H1, I1, r1, q1⟩ => thn (ho.run pins s1 σ H1 _ I1 q1) fun u s2 ⟨x, H2, I2, r2, a, C, ex, T, ea, q⟩ => ?_) hs
  subst ex
  obtain rfl : u = Value.ref a := r2
  exact xst_new T I2 ea r1 fun dx s' n ne J => ⟨σ, _, J, q dx n ne⟩
/-- the __init__'s promise -/
def spX (K : PySem.W.Frag) (b : Bs) (f : Str) : Sp := fun vs H Q _ => ∃ (a C : Addr) (v : V), vs = [.ref a, v] ∧ XC K b C f ∧ H a = some (exo a C none) ∧ ∀ d, H d = none → d ≠ a → Q .non (upd (upd H d (exd d [(f, v)])) a (exo a C (some d)))
/-- C(e): an error whose own dict holds the field -/
def tMkX (C : Addr) (f : Str) (ta : TE) : L2.St → Hp → XK → Prop := fun σ H Q => ta σ H fun v H1 => ∀ d, H1 d = none → Q (.ref C) (some d) (upd H1 d (.xd [(f, v)]))
theorem pmk_x {CX : CXT} {fI C : Addr} {k : Nat} {fd : FuncData} {ps : List Str} (T : XC X.K b C f) (iC : PySem.W.findIn X.K (.ref C) "__init__" = some (some (.ref fI))) (tI : PySem.W.typeIn X.K (.ref fI) = some (.type "function"))
    (F1 : FnOk X.prog X.w X.K X.mg X.base CX k fI fd ps (spX X.K b f)) (hr : Room (k + 1) X.A) (hb : Binds X.K fd ps []) (hx : Passes CX X (fun _ _ _ => False)) (hg : Gl X x) (hm : X.mg x = some (.ref C)) (ha1 : PA X [e] (tCons te tNil))
    (hdb : (x == ("__debug__" : Str)) = false := by decide) (he : starEach [e] X.env = (false, eval e X.env) :: starEach [] X.env := by rfl) (hpl : (backTo pos (starEach [] X.env)).any (·.1) = false := by rfl) :
    PMk X (.Call (.Name x p) [e] [] pos) (tMkX C f te) := by
  intro pins s σ H Q I h
  obtain ⟨nm, q, N, bs, bm, sn, sub, ab, col, dd, k0, k1, k2, k3, k5, hC, hbm⟩ := T.cls
  obtain ⟨ini, bmB, FB⟩ := T.ok.facts
  refine wpAny_Call_Name_kw (ld_glob I hg hm ?_ hdb)
  have h1 : tCons te tNil σ H (fun vs H1 => match vs with
    | [v] => ∀ d, H1 d = none → Q (.ref C) (some d) (upd H1 d (.xd [(f, v)]))
    | _ => False) := h
  refine PySem.W.callWith_K (h₀ := X.base) I.ok.mod.kin T.kC (thn (ha1.run pos pins s σ H _ I h1) fun us s1 ⟨vs, H1, I1, r1, q1⟩ => ⟨I1.kIn, ?_⟩) he hpl
  cases r1 with
  | nil => exact q1.elim
  | @cons v u vs1 us1 rv rr =>
    cases rr with
    | cons _ _ => exact q1.elim
    | nil =>
      show wpAny _ _ (call (.ref C) [u]) _ _ _
      obtain ⟨hp, g, dr, tk, os⟩ := s1
      have hsz : hp.objs.size ≤ hp.objs.size + 1 := Nat.le_succ _
      have hn : H1 (hp.objs.size + 1) = none := I1.hok.fresh hsz
      have kk : ∀ c o, hp.get? c = some o → ((hp.push (PySem.W.kdv_tup [u])).push (PySem.HandSPX.excO C hp.objs.size)).get? c = some o := fun c o z => Heap.get?_push_of_some _ (Heap.get?_push_of_some _ z)
      have hget : ((hp.push (PySem.W.kdv_tup [u])).push (PySem.HandSPX.excO C hp.objs.size)).get? (hp.objs.size + 1) = some (PySem.HandSPX.excO C hp.objs.size) := by heap_get
      have I2 := I1.laid (t' := tk) (a := hp.objs.size + 1) (o := exo (hp.objs.size + 1) C none) (h' := (hp.push (PySem.W.kdv_tup [u])).push (PySem.HandSPX.excO C hp.objs.size)) kk hsz (exo_ok hget)
      have r2 : Vals [V.ref (hp.objs.size + 1), v] [Value.ref (hp.objs.size + 1), u] := .cons rfl (.cons rv .nil)
      -- what the __init__ leaves is an error's dict
      have hq : spX X.K b f [V.ref (hp.objs.size + 1), v] (upd H1 (hp.objs.size + 1) (exo (hp.objs.size + 1) C none))
          (fun w H2 => w = .non ∧ ∃ (d : Addr), H2 (hp.objs.size + 1) = some (exo (hp.objs.size + 1) C (some d)) ∧ H2 d = some (exd d [(f, v)]) ∧ H1 d = none ∧ Q (.ref C) (some d) (upd (del H2 (hp.objs.size + 1)) d (.xd [(f, v)]))) (fun _ _ _ => False) := by
        refine ⟨_, C, v, rfl, T, upd_same, fun d hd hne => ⟨rfl, d, upd_same, ?_, ?_, ?_⟩⟩
        · rw [upd_ne hne, upd_same]
        · rw [upd_ne hne] at hd
          exact hd
        · rw [upd_ne hne] at hd
          have z := q1 d hd
          have eh : upd (del (upd (upd (upd H1 (hp.objs.size + 1) (exo (hp.objs.size + 1) C none)) d (exd d [(f, v)])) (hp.objs.size + 1) (exo (hp.objs.size + 1) C (some d))) (hp.objs.size + 1)) d (.xd [(f, v)]) = upd H1 d (.xd [(f, v)]) := by
            funext c
            by_cases c1 : c = d
            · rw [c1, upd_same, upd_same]
            · rw [upd_ne c1, upd_ne c1]
              by_cases c2 : c = hp.objs.size + 1
              · rw [c2, del_same, hn]
              · rw [del_ne c2, upd_ne c2, upd_ne c1, upd_ne c2]
          rw [eh]
          exact z
      have hl : ([Value.ref (hp.objs.size + 1), u] ++ []).length = ps.length := (F1.len _ _ _ _ hq)
      refine wpAny_call (call_cls FB (over_refs T.ok hbm) (I1.kIn _ _ hC) (PySem.W.looks_findIn I1.kIn iC) (fun self => PySem.W.bind_fn I1.kIn self tI) (by rw [sizeLine_eq]; show 1 ≤ 16777216; decide)
        (codeAny_mono (F1.run _ X.stack _ _ ⟨[Value.ref (hp.objs.size + 1), u], []⟩ [Value.ref (hp.objs.size + 1), u] _ _ (fun _ _ _ => False) (hr.make C [u] []) (I2.env0.make C [u] []) (hb _ [Value.ref (hp.objs.size + 1), u] I2.kIn hl) r2 hq) fun r s' hq' => ?_))
      cases r with
      | error er => exact hx pins σ _ _ er s' I2 hq'
      | ok fl =>
        cases fl with
        | ret w =>
          obtain ⟨v2, H2, os2, bare2, un2, hok2, rv2, ev, d, ea, ed, hd1, q2⟩ := hq'
          subst ev
          obtain ⟨h2, g2, d2, t2, os'⟩ := s'
          exact ⟨rv2, mk_end (raises_own T.exC T.tyC) I1 hsz kk un2 hok2 os2 bare2 ea ed hd1 q2⟩
        | next => exact False.elim hq'
        | brk => exact False.elim hq'
        | cont => exact False.elim hq'
/-- e.f, e the error that the suite holds (at a; its class cls, its dict d) -/
def tXfld (C : Addr) (f : Str) (a : Addr) (cls : Value) (d : Option Addr) (te : TE) : TE := fun σ H Q => te σ H fun x H1 => x = .ref a ∧ cls = .ref C ∧ ∃ (dd : Addr) (v : V), d = some dd ∧ H1 dd = some (.xd [(f, v)]) ∧ Q v H1
theorem pe_xfld {C a : Addr} {oe : Obj} {cls : Value} {d : Option Addr} {pn : List (Addr × Obj)} (T : XC X.K b C f) (hz : Zc cls d oe) (hf : ∃ vs, oe.data = .fields vs) (he : PE (X.suite a ((a, oe) :: pn)) e te)
    (hb : attributeBase e f X.env (eval e X.env) = eval e X.env := by rfl) : PE (X.suite a ((a, oe) :: pn)) (.Attribute e f pos) (tXfld C f a cls d te) := by
  refine ⟨fun pins s σ H Q I h => ?_⟩
  refine attr_of hb (thn (he.run pins s σ H _ I h) fun u s1 ⟨x, H1, I1, rx, ex, ec, dd, v, ed, ea, q⟩ => ?_)
  subst ex ec ed
  obtain rfl : u = Value.ref a := rx
  obtain ⟨ha, _⟩ := I1.pin (a, oe) (List.mem_append_left _ List.mem_cons_self)
  obtain ⟨vs, hd⟩ := hf
  obtain ⟨mA, hns, hr⟩ := (show ObjOk X.prog X.w H1 s1.heap dd (.xd [(f, v)]) from I1.hok dd _ ea)
  obtain ⟨od, ho, hl⟩ := lookIn_ns hns
  have l : List.lookup f [(f, v)] = some v := by simp [List.lookup]
  obtain ⟨u, hu, ru⟩ := RelO.some_of (v := v) (o := mA f) (by rw [← l]; exact hr f)
  have J : PySem.W.InstAt s1.heap a oe C (some od) := ⟨ha, hz.1, by unfold PySem.W.notCls; rw [hd] <;> rfl, by rw [hz.2]; exact ho⟩
  exact HandSPX.exc_get I1.kIn J T.ga T.gg T.exC (PySem.W.findObj_own T.hdC T.nf rfl (by rw [hl, hu])) (handed_of ru) ⟨v, H1, I1.tok _, ru, q⟩
end
end GX

set_option Elab.async false
set_option linter.all false
set_option maxRecDepth 100000
set_option maxHeartbeats 1000000
/-! DF: a def of the top by its name, its calls; short readings. -/
namespace RP
open PySem PySem.Spec PyProof.Rows L2
/-- the def that the module calls x keeps the promise sp, by at most level k -/
def Def (P : Program) (w : World) (K : PySem.W.Frag) (mg : Str → Option Value) (base : Heap) (k : Nat) (x : Str) (ps : List Str) (sp : Sp) : Prop :=
  ∃ (f : Addr) (fd : FuncData), mg x = some (.ref f) ∧ PySem.W.keepIn K (.ref f) = true ∧ Binds K fd ps [] ∧ FnOk P w K mg base (L2.CX P w) k f fd ps sp
/-- where a def of the text stands -/
structure At (K : PySem.W.Frag) (mg : Str → Option Value) (x : Str) (st : Stmt) (f : Addr) (fd : FuncData) : Prop where
  fn : FunD K x x (defArgs st) (defBody st) (defScope st) [] [] f fd
  mg : mg x = some (.ref f)
section
variable {P : Program} {w : World} {K : PySem.W.Frag} {mg : Str → Option Value} {base : Heap}
theorem Def.mono {j k : Nat} {x : Str} {ps : List Str} {sp : Sp} (D : Def P w K mg base j x ps sp) (h : j ≤ k) : Def P w K mg base k x ps sp := by
  obtain ⟨f, fd, a, b, c, d⟩ := D
  exact ⟨f, fd, a, b, c, d.mono h⟩
theorem Def.imp {k : Nat} {x : Str} {ps : List Str} {sp sp' : Sp} (D : Def P w K mg base k x ps sp) (h : ∀ vs H Q E, sp' vs H Q E → sp vs H Q E) : Def P w K mg base k x ps sp' := by
  obtain ⟨f, fd, a, b, c, d⟩ := D
  exact ⟨f, fd, a, b, c, d.imp h⟩
/-- THE RULE for a def of the text -/
theorem Def.mk {x : Str} {st : Stmt} {f : Addr} {fd : FuncData} {N ps : List Str} {k : Nat} {sp : Sp} (F : At K mg x st f fd) (S : FnScope N ps (defScope st))
    (hb : ∀ (kV doc pm : Value) (an : Option Addr) (cdv ct : Value) (us : List Value), us.length = ps.length → bindArgs (PySem.W.fnOf x x (defArgs st) (defBody st) (defScope st) .none kV doc pm an cdv ct) ⟨us, []⟩ = pure (ps.zip us))
    (len : ∀ vs H Q E, sp vs H Q E → vs.length = ps.length)
    (hbody : ∀ (cdv : Value) (A : Around) (outer : List Env) (s : Shared) (H : Hp) (vs : List V) (Q : VK) (E : XK), Room k (A.deeper (envOfC x (defScope st) s.heap.objs.size f cdv)) → sp vs H Q E →
      ∃ t, PSs (cxOf (L2.CX P w) P w K mg base N x (defScope st) f cdv A outer s H E) (defBody st) t ∧ t { nx := fun _ H' => Q .non H', rt := Q } (start N vs) H) : Def P w K mg base (k + 1) x ps sp :=
  ⟨f, fd, F.mg, F.fn.kp, F.fn.bindsN hb, F.fn.ok S len hbody⟩
end
section
variable {X : Cx} {k : Nat} {x : Str} {ps : List Str} {sp : Sp} {p pos : Pos} {e : Expr} {es : List Expr} {t : TA} {W : WX}
/-- a call of a def that lets nothing out here -/
def tD (sp : Sp) (t : TA) : TE := fun σ H Q => t σ H fun vs H1 => sp vs H1 Q E0
theorem pe_d (D : Def X.prog X.w X.K X.mg X.base k x ps sp) (hr : Room k X.A) (hg : Gl X x) (ha : PA X (e :: es) t) (hdb : (x == ("__debug__" : Str)) = false := by decide)
    (he : starEach (e :: es) X.env = (false, eval e X.env) :: starEach es X.env := by rfl) (hpl : (backTo pos (starEach es X.env)).any (·.1) = false := by rfl) : PE X (.Call (.Name x p) (e :: es) [] pos) (tD sp t) := by
  obtain ⟨f, fd, hm, hk, hb, F⟩ := D
  have z := pe_call (dvs := []) (E := E0) (p := p) (pos := pos) F hr hg hm hk hb .nil passL ha hdb he hpl
  refine ⟨fun pins s σ H Q I h => z.run pins s σ H Q I ?_⟩
  have eq : ∀ vs : List V, vs ++ [] = vs := List.append_nil
  show t σ H fun vs H1 => sp (vs ++ []) H1 Q E0
  simp only [List.append_nil]
  exact h
/-- a call whose errors go where W says -/
def tDX (sp : Sp) (W : WX) (t : TA) : TE := fun σ H Q => t σ H fun vs H1 => sp vs H1 Q fun cls d H' => W cls d σ H'
theorem pe_dX (D : Def X.prog X.w X.K X.mg X.base k x ps sp) (hr : Room k X.A) (hg : Gl X x) (tk : Takes X W) (ha : PA X (e :: es) t) (hdb : (x == ("__debug__" : Str)) = false := by decide)
    (he : starEach (e :: es) X.env = (false, eval e X.env) :: starEach es X.env := by rfl) (hpl : (backTo pos (starEach es X.env)).any (·.1) = false := by rfl) : PE X (.Call (.Name x p) (e :: es) [] pos) (tDX sp W t) := by
  obtain ⟨f, fd, hm, hk, hb, F⟩ := D
  exact pe_callS (E := WE W) F hr hg hm hk hb (passAt tk) ha hdb he hpl
end
/-- in a def's own body: what is let out is what the def lets out -/
abbrev tkB {P : Program} {w : World} {K : PySem.W.Frag} {mg : Str → Option Value} {base : Heap} {N : List Str} {x : Str} {sc : Scope} {f : Addr} {cdv : Value} {A : Around} {outer : List Env} {s : Shared} {H : Hp} {E : XK} :
    Takes (cxOf (L2.CX P w) P w K mg base N x sc f cdv A outer s H E) (fun cls d _ H => E cls d H) := takes_of rfl rfl rfl rfl
end RP
namespace RP
open PySem PySem.Spec PyProof.Rows L2
section
variable {X : Cx} {x : Str} {pos : Pos}
/-- a module's number, a module's text -/
theorem pe_gi {i : Int} (hg : Gl X x) (h : ∃ t, X.mg x = some (.int i t)) (hd : (x == ("__debug__" : Str)) = false := by decide) : PE X (.Name x pos) (tC (.int i)) := by
  obtain ⟨t, e⟩ := h
  exact pe_glob hg e ⟨t, rfl⟩ hd
theorem pe_gs {z : Str} (hg : Gl X x) (h : ∃ t, X.mg x = some (.str z t)) (hd : (x == ("__debug__" : Str)) = false := by decide) : PE X (.Name x pos) (tC (.str z)) := by
  obtain ⟨t, e⟩ := h
  exact pe_glob hg e ⟨t, rfl⟩ hd
end
end RP

set_option Elab.async false
set_option linter.all false
set_option maxRecDepth 100000
set_option maxHeartbeats 1000000
/-! GX4: an own error class of the text, by its name; raising it. -/
namespace GX
open PySem PySem.Spec PyProof.Rows L2 RP
/-- an own base class of the text -/
structure GAt (K : PySem.W.Frag) (mg : Str → Option Value) (b : Bs) (x : Str) (G : Addr) : Prop where
  gb : GB K b G
  g : mg x = some (.ref G)
/-- an own error class of the text, its field f, its __init__ the def st -/
structure XAt (K : PySem.W.Frag) (mg : Str → Option Value) (b : Bs) (x f qual : Str) (st : Stmt) (C fI : Addr) (fd : FuncData) : Prop where
  xc : XC K b C f
  g : mg x = some (.ref C)
  i : PySem.W.findIn K (.ref C) "__init__" = some (some (.ref fI))
  t : PySem.W.typeIn K (.ref fI) = some (.type "function")
  fn : FunD K "__init__" qual (defArgs st) (defBody st) (defScope st) [] [] fI fd
/-- such a class that raises: its __init__ keeps spX -/
def XDef (P : Program) (w : World) (K : PySem.W.Frag) (mg : Str → Option Value) (base : Heap) (b : Bs) (x f : Str) (ps : List Str) (C : Addr) : Prop :=
  XC K b C f ∧ mg x = some (.ref C) ∧ ∃ (fI : Addr) (fd : FuncData), PySem.W.findIn K (.ref C) "__init__" = some (some (.ref fI)) ∧ PySem.W.typeIn K (.ref fI) = some (.type "function") ∧ Binds K fd ps [] ∧ FnOk P w K mg base (L2.CX P w) 1 fI fd ps (spX K b f)
section
variable {P : Program} {w : World} {K : PySem.W.Frag} {mg : Str → Option Value} {base : Heap} {b : Bs} {x f qual : Str} {st : Stmt} {C fI : Addr} {fd : FuncData}
theorem XDef.mk {N ps : List Str} (F : XAt K mg b x f qual st C fI fd) (S : FnScope N ps (defScope st)) (hps : ps.length = 2)
    (hb : ∀ (kV doc pm : Value) (an : Option Addr) (cdv ct : Value) (us : List Value), us.length = ps.length → bindArgs (PySem.W.fnOf "__init__" qual (defArgs st) (defBody st) (defScope st) .none kV doc pm an cdv ct) ⟨us, []⟩ = pure (ps.zip us))
    (hbody : ∀ (cdv : Value) (A : Around) (outer : List Env) (s : Shared) (H : Hp) (E : XK), Room 0 (A.deeper (envOfC qual (defScope st) s.heap.objs.size fI cdv)) →
      ∃ ta to te, PSs (cxOf (L2.CX P w) P w K mg base N qual (defScope st) fI cdv A outer s H E) (defBody st) (tSeq (tDrop (tGI K b f ta)) (tXst K b f to te)) ∧
        (∀ (a v : V) (H : Hp) (Q : List V → Hp → Prop), (∀ z, Q [a, z] H) → ta (start N [a, v]) H Q) ∧ (∀ (a v : V) (H : Hp) (Q : VK), Q a H → to (start N [a, v]) H Q) ∧ (∀ (a v : V) (H : Hp) (Q : VK), Q v H → te (start N [a, v]) H Q)) : XDef P w K mg base b x f ps C := by
  refine ⟨F.xc, F.g, fI, fd, F.i, F.t, F.fn.bindsN hb, F.fn.ok S (fun vs H Q E h => ?_) (fun cdv A outer s H vs Q E hr h => ?_)⟩
  · obtain ⟨a, C', v, rfl, _⟩ := h
    rw [hps]
    rfl
  · obtain ⟨ta, to, te, hp, hq⟩ := hbody cdv A outer s H E hr
    obtain ⟨a, D, v, rfl, T, ha, k⟩ := h
    obtain ⟨q1, q2, q3⟩ := hq
    exact ⟨_, hp, q1 (.ref a) v H _ fun z => ⟨a, D, [z], rfl, by show 1 ≤ 1000; decide, T, ha, q3 (.ref a) v H _ (q2 (.ref a) v H _ ⟨a, D, rfl, T, ha, fun dx hd hne => k dx hd hne⟩)⟩⟩
end
section
variable {X : Cx} {b : Bs} {x f : Str} {ps : List Str} {C : Addr} {e : Expr} {te : TE} {p pos : Pos} {n : Nat}
/-- X(e), to be raised -/
theorem pmk_at (D : XDef X.prog X.w X.K X.mg X.base b x f ps C) (hr : Room n X.A) (hn : 2 ≤ n) (hg : Gl X x) (ha1 : PA X [e] (tCons te tNil))
    (hdb : (x == ("__debug__" : Str)) = false := by decide) (he : starEach [e] X.env = (false, eval e X.env) :: starEach [] X.env := by rfl) (hpl : (backTo pos (starEach [] X.env)).any (·.1) = false := by rfl) :
    PMk X (.Call (.Name x p) [e] [] pos) (tMkX C f te) := by
  obtain ⟨xc, g, fI, fd, i, t, hb, F⟩ := D
  exact pmk_x xc i t F (hr.mono hn) hb passL hg g ha1 hdb he hpl
end
end GX

set_option Elab.async false
set_option linter.all false
set_option maxRecDepth 100000
set_option maxHeartbeats 1000000
/-! DC: the rule for a def, with its code object by name (for the tables of the code that its lambdas need). -/
namespace RP
open PySem PySem.Spec PyProof.Rows L2
section
variable {P : Program} {w : World} {K : PySem.W.Frag} {mg : Str → Option Value} {base : Heap}
theorem FunD.okC {x qual : Str} {params : Arguments} {body : List Stmt} {scope : Scope} {dvs : List V} {kws : List (Str × V)} {fd : FuncData} {p : Str × Option Str} {CX : CXT} {N ps : List Str} {k : Nat} {sp : Sp}
    (F : FunD K x qual params body scope dvs kws (He.fAd K p) fd) (S : FnScope N ps scope) (len : ∀ vs H Q E, sp vs H Q E → vs.length = ps.length)
    (hbody : ∀ (A : Around) (outer : List Env) (s : Shared) (H : Hp) (vs : List V) (Q : VK) (E : XK), Room k (A.deeper (envOfC qual scope s.heap.objs.size (He.fAd K p) (.ref (He.codeOf K p)))) → sp vs H Q E →
      ∃ t, PSs (cxOf CX P w K mg base N qual scope (He.fAd K p) (.ref (He.codeOf K p)) A outer s H E) body t ∧ t { nx := fun _ H' => Q .non H', rt := Q } (start N vs) H) : FnOk P w K mg base CX (k + 1) (He.fAd K p) fd ps sp := by
  obtain ⟨oc, od, dV, kV, doc, pm, an, cdv, ct, osl, rfl, lk, hcd, _, _⟩ := F.ex
  obtain ⟨c, rfl⟩ := He.codeIn_ref hcd
  have e : He.codeOf K p = c := He.codeOf_eq lk rfl
  rw [e] at hbody
  exact fn_of lk hcd S len fun A outer s H vs Q E hr hsp => hbody A outer s H vs Q E hr hsp
/-- THE RULE for a def of the text, its code by name -/
theorem Def.mkC {x : Str} {st : Stmt} {f : Addr} {fd : FuncData} {N ps : List Str} {k : Nat} {sp : Sp} (F : At K mg x st f fd) (hf : f = He.fAd K (x, none)) (S : FnScope N ps (defScope st))
    (hb : ∀ (kV doc pm : Value) (an : Option Addr) (cdv ct : Value) (us : List Value), us.length = ps.length → bindArgs (PySem.W.fnOf x x (defArgs st) (defBody st) (defScope st) .none kV doc pm an cdv ct) ⟨us, []⟩ = pure (ps.zip us))
    (len : ∀ vs H Q E, sp vs H Q E → vs.length = ps.length)
    (hbody : ∀ (A : Around) (outer : List Env) (s : Shared) (H : Hp) (vs : List V) (Q : VK) (E : XK), Room k (A.deeper (envOfC x (defScope st) s.heap.objs.size f (.ref (He.codeOf K (x, none))))) → sp vs H Q E →
      ∃ t, PSs (cxOf (L2.CX P w) P w K mg base N x (defScope st) f (.ref (He.codeOf K (x, none))) A outer s H E) (defBody st) t ∧ t { nx := fun _ H' => Q .non H', rt := Q } (start N vs) H) : Def P w K mg base (k + 1) x ps sp := by
  subst hf
  exact ⟨_, fd, F.mg, F.fn.kp, F.fn.bindsN hb, FunD.okC F.fn S len hbody⟩
end
end RP

set_option Elab.async false
set_option linter.all false
set_option maxRecDepth 100000
set_option maxHeartbeats 1000000
/-! MD: methods and makers of own classes by name; tables of code that grow. -/
namespace RP
open PySem PySem.Spec PyProof.Rows L2 LamX
/-! ### heaps whose tables grow -/
/-- at p stands nothing, or a table -/
def Nw (H : Hp) (p : Addr) : Prop := ∀ o, H p = some o → ∃ ps, o = .tbl ps
theorem _root_.L2.Same.ext {H H' : Hp} (s : Same H H') : ExtN H H' := fun b o h _ => s b o h
theorem nw_of {H H1 : Hp} {p : Addr} (e : ExtN H H1) (h : H1 p = none) : Nw H p := fun o ho => by
  by_cases q : ∃ ps, o = .tbl ps
  · exact q
  · have := e p o ho (fun ps z => q ⟨ps, z⟩)
    rw [h] at this
    cases this
theorem nw_none {H : Hp} {p : Addr} (h : H p = none) : Nw H p := fun o ho => by
  rw [h] at ho
  cases ho
theorem ext_skip {H H1 : Hp} {p : Addr} {o : HO} (e : ExtN H H1) (n : Nw H p) : ExtN H (upd H1 p o) := fun b u h t => by
  have ne : b ≠ p := fun q => by
    rw [q] at h
    obtain ⟨ps, z⟩ := n u h
    exact t ps z
  rw [upd_ne ne]
  exact e b u h t
theorem ext_new {H H1 : Hp} {p : Addr} {o : HO} (e : ExtN H H1) (h : H1 p = none) : ExtN H (upd H1 p o) := ext_skip e (nw_of e h)
theorem ext_but {H H1 H2 : Hp} {b : Addr} (e : ExtN H H1) (n : Nw H b) (k : But b H1 H2) : ExtN H H2 := fun a o h t => by
  have ne : a ≠ b := fun q => by
    rw [q] at h
    obtain ⟨ps, z⟩ := n o h
    exact t ps z
  exact k a o ne (e a o h t)
theorem ext_same {H H1 H2 : Hp} (e : ExtN H H1) (s : Same H1 H2) : ExtN H H2 := e.trans s.ext
theorem tabs_keep {T : List (Addr × Str)} {H H' : Hp} (t : Tabs T H) (k : ∀ b o, H b = some o → ((∃ ps, o = .tbl ps) ∨ ∃ φ, o = .ext φ) → H' b = some o) : Tabs T H' := fun p hp => by
  obtain ⟨ps, h1, h2, h3⟩ := t p hp
  refine ⟨ps, k _ _ h1 (.inl ⟨_, rfl⟩), h2, fun pos cv hc => ?_⟩
  obtain ⟨c, e1, e2⟩ := h3 pos cv hc
  exact ⟨c, e1, k _ _ e2 (.inr ⟨_, rfl⟩)⟩
theorem tabs_same {T : List (Addr × Str)} {H H' : Hp} (t : Tabs T H) (s : Same H H') : Tabs T H' := t.ext s
/-- no table, no thing of another kind -/
def Dat (o : HO) : Prop := (∀ ps, o ≠ .tbl ps) ∧ ∀ φ, o ≠ .ext φ
theorem dat_lst {xs : List V} : Dat (.lst xs) := ⟨(fun _ z => nomatch z), fun _ z => nomatch z⟩
theorem dat_dK {xs : List (Key × V)} : Dat (.dK xs) := ⟨(fun _ z => nomatch z), fun _ z => nomatch z⟩
theorem dat_ins {C dx : Addr} {fs : List (Str × V)} : Dat (.ins C dx fs) := ⟨(fun _ z => nomatch z), fun _ z => nomatch z⟩
theorem dat_frz {o : Obj} {u : HO} : Dat (.frz o u) := ⟨(fun _ z => nomatch z), fun _ z => nomatch z⟩
theorem tabs_put {T : List (Addr × Str)} {H : Hp} {p : Addr} {o u : HO} (t : Tabs T H) (h : H p = some u) (d : Dat u) : Tabs T (upd H p o) := tabs_keep t fun b v hb hv => by
  have ne : b ≠ p := fun q => by
    rw [q, h] at hb
    cases hb
    rcases hv with ⟨ps, z⟩ | ⟨φ, z⟩
    · exact d.1 ps z
    · exact d.2 φ z
  rw [upd_ne ne]
  exact hb
theorem tabs_but {T : List (Addr × Str)} {H H' : Hp} {p : Addr} {u : HO} (t : Tabs T H) (h : H p = some u) (d : Dat u) (k : But p H H') : Tabs T H' := tabs_keep t fun b v hb hv => by
  have ne : b ≠ p := fun q => by
    rw [q, h] at hb
    cases hb
    rcases hv with ⟨ps, z⟩ | ⟨φ, z⟩
    · exact d.1 ps z
    · exact d.2 φ z
  exact k b v ne hb
theorem tabs_new {T : List (Addr × Str)} {H : Hp} {p : Addr} {o : HO} (t : Tabs T H) (h : H p = none) : Tabs T (upd H p o) := t.ext (same_new h)
/-! ### known parts without tables -/
def NoT (R : Hp) : Hp := fun a => match R a with
  | some (.tbl _) => none
  | o => o
theorem NoT.at {R : Hp} {a : Addr} {o : HO} (h : R a = some o) (t : ∀ ps, o ≠ .tbl ps) : NoT R a = some o := by
  unfold NoT
  rw [h]
  cases o with
  | tbl ps => exact absurd rfl (t ps)
  | _ => rfl
theorem NoT.back {R : Hp} {a : Addr} {o : HO} (h : NoT R a = some o) : R a = some o ∧ ∀ ps, o ≠ .tbl ps := by
  unfold NoT at h
  split at h
  · cases h
  · rename_i n
    exact ⟨h, fun ps e => n ps (by rw [h, e])⟩
theorem NoT.same {R : Hp} : Same (NoT R) R := fun a o h => (NoT.back h).1
theorem NoT.plain {R : Hp} (p : Plain R) : Plain (NoT R) := fun a o u h => p a o u (NoT.back h).1
/-- no table is known -/
def Nt (R : Hp) : Prop := ∀ a o, R a = some o → ∀ ps, o ≠ .tbl ps
theorem NoT.nt {R : Hp} : Nt (NoT R) := fun a o h => (NoT.back h).2
theorem Nt.ext {R H H' : Hp} (n : Nt R) (s : Same R H) (e : ExtN H H') : Same R H' := fun a o h => e a o (s a o h) (n a o h)
theorem Nt.put {R : Hp} (n : Nt R) {a : Addr} {o : HO} (h : ∀ ps, o ≠ .tbl ps) : Nt (upd R a o) := fun b u e => by
  by_cases q : b = a
  · subst q
    rw [upd_same] at e
    cases e
    exact h
  · rw [upd_ne q] at e
    exact n b u e
theorem NoT.rd {R : Hp} {a : Addr} {u : HO} (h : Rd R a u) (t : ∀ ps, u ≠ .tbl ps) : Rd (NoT R) a u := by
  rcases h with h | ⟨o, h⟩
  · exact .inl (NoT.at h t)
  · exact .inr ⟨o, NoT.at h fun _ z => nomatch z⟩
mutual
theorem Rep.noT {K : PySem.W.Frag} {R : Hp} : ∀ {v : V} {d : D}, Rep K R v d → Rep K (NoT R) v d
  | _, _, .non => .non
  | _, _, .bl b => .bl b
  | _, _, .int i => .int i
  | _, _, .str x h => .str x h
  | _, _, .lst h r => .lst (h.elim (fun z => .inl (NoT.rd z fun _ q => nomatch q)) .inr) (Reps.noT r)
  | _, _, .tup h r => .tup (h.elim (fun z => .inl (NoT.rd z fun _ q => nomatch q)) .inr) (Reps.noT r)
  | _, _, .dct h r => .dct (NoT.rd h fun _ q => nomatch q) (RepK.noT r)
theorem Reps.noT {K : PySem.W.Frag} {R : Hp} : ∀ {vs : List V} {ds : List D}, Reps K R vs ds → Reps K (NoT R) vs ds
  | _, _, .nil => .nil
  | _, _, .cons h t => .cons (Rep.noT h) (Reps.noT t)
theorem RepK.noT {K : PySem.W.Frag} {R : Hp} : ∀ {kvs : List (Key × V)} {ds : List (Str × D)}, RepK K R kvs ds → RepK K (NoT R) kvs ds
  | _, _, .nil => .nil
  | _, _, .cons hx h t => .cons hx (Rep.noT h) (RepK.noT t)
end
/-! ### methods, makers -/
def MDef (P : Program) (w : World) (K : PySem.W.Frag) (mg : Str → Option Value) (base : Heap) (k : Nat) (x m : Str) (ps : List Str) (dvs : List V) (sp : Sp) : Prop :=
  Cls K (He.ga K x) ∧ ∃ (f : Addr) (fd : FuncData) (ds : List Value), Meth K (He.ga K x) m f ∧ Binds K fd ps ds ∧ Vals dvs ds ∧ FnOk P w K mg base (L2.CX P w) k f fd ps sp
/-- where a method of the text stands -/
structure MAt (K : PySem.W.Frag) (x m qual : Str) (st : Stmt) (kws : List (Str × V)) (fd : FuncData) : Prop where
  c : Cls K (He.ga K x)
  me : Meth K (He.ga K x) m (He.fAd K (x, some m))
  fn : FunD K m qual (defArgs st) (defBody st) (defScope st) [] kws (He.fAd K (x, some m)) fd
/-- where a class of the text stands, with its __init__ -/
structure IAt (K : PySem.W.Frag) (mg : Str → Option Value) (x qual : Str) (st : Stmt) (fd : FuncData) : Prop where
  c : Cls K (He.ga K x)
  mkr : Mk K (He.ga K x) (He.fAd K (x, some "__init__"))
  g : mg x = some (.ref (He.ga K x))
  fn : FunD K "__init__" qual (defArgs st) (defBody st) (defScope st) [] [] (He.fAd K (x, some "__init__")) fd
def IDef (P : Program) (w : World) (K : PySem.W.Frag) (mg : Str → Option Value) (base : Heap) (k : Nat) (x : Str) (ps : List Str) (sp : Sp) : Prop :=
  Cls K (He.ga K x) ∧ mg x = some (.ref (He.ga K x)) ∧ ∃ (f : Addr) (fd : FuncData), Mk K (He.ga K x) f ∧ Binds K fd ps [] ∧ FnOk P w K mg base (L2.CX P w) k f fd ps sp
section
variable {P : Program} {w : World} {K : PySem.W.Frag} {mg : Str → Option Value} {base : Heap}
theorem MDef.mono {j k : Nat} {x m : Str} {ps : List Str} {dvs : List V} {sp : Sp} (D : MDef P w K mg base j x m ps dvs sp) (h : j ≤ k) : MDef P w K mg base k x m ps dvs sp := by
  obtain ⟨c, f, fd, ds, a, b, d, e⟩ := D
  exact ⟨c, f, fd, ds, a, b, d, e.mono h⟩
/-- THE RULE for a method, its code by name -/
theorem MDef.mk {x m qual : Str} {st : Stmt} {fd : FuncData} {N ps : List Str} {k : Nat} {sp : Sp} (F : MAt K x m qual st [] fd) (S : FnScope N ps (defScope st))
    (hb : ∀ (kV doc pm : Value) (an : Option Addr) (cdv ct : Value) (us : List Value), us.length = ps.length → bindArgs (PySem.W.fnOf m qual (defArgs st) (defBody st) (defScope st) .none kV doc pm an cdv ct) ⟨us, []⟩ = pure (ps.zip us))
    (len : ∀ vs H Q E, sp vs H Q E → vs.length = ps.length)
    (hbody : ∀ (A : Around) (outer : List Env) (s : Shared) (H : Hp) (vs : List V) (Q : VK) (E : XK), Room k (A.deeper (envOfC qual (defScope st) s.heap.objs.size (He.fAd K (x, some m)) (.ref (He.codeOf K (x, some m))))) → sp vs H Q E →
      ∃ t, PSs (cxOf (L2.CX P w) P w K mg base N qual (defScope st) (He.fAd K (x, some m)) (.ref (He.codeOf K (x, some m))) A outer s H E) (defBody st) t ∧ t { nx := fun _ H' => Q .non H', rt := Q } (start N vs) H) : MDef P w K mg base (k + 1) x m ps [] sp :=
  ⟨F.c, _, fd, [], F.me, F.fn.bindsN hb, .nil, FunD.okC F.fn S len hbody⟩
/-- the same with keyword-only parameters of which none is written at the call -/
theorem MDef.mkD {x m qual : Str} {st : Stmt} {fd : FuncData} {N ps : List Str} {k : Nat} {sp : Sp} {kws : List (Str × V)} (F : MAt K x m qual st kws fd) (S : FnScope N ps (defScope st)) (n : Nat) (hk : kws ≠ []) (hn : n + kws.length = ps.length)
    (h : ∀ (D : Addr) (doc pm : Value) (an : Option Addr) (cdv ct : Value) (us ks : List Value), us.length = n → ks.length = kws.length →
      KwChain D ((kws.map (·.1)).zip ks) (bindArgs (PySem.W.fnOf m qual (defArgs st) (defBody st) (defScope st) .none (.ref D) doc pm an cdv ct) ⟨us, []⟩) (ps.zip (us ++ ks)))
    (len : ∀ vs H Q E, sp vs H Q E → vs.length = ps.length)
    (hbody : ∀ (A : Around) (outer : List Env) (s : Shared) (H : Hp) (vs : List V) (Q : VK) (E : XK), Room k (A.deeper (envOfC qual (defScope st) s.heap.objs.size (He.fAd K (x, some m)) (.ref (He.codeOf K (x, some m))))) → sp vs H Q E →
      ∃ t, PSs (cxOf (L2.CX P w) P w K mg base N qual (defScope st) (He.fAd K (x, some m)) (.ref (He.codeOf K (x, some m))) A outer s H E) (defBody st) t ∧ t { nx := fun _ H' => Q .non H', rt := Q } (start N vs) H) : MDef P w K mg base (k + 1) x m ps (kws.map (·.2)) sp := by
  obtain ⟨ds, hd, hb⟩ := F.fn.binds0 n hk hn h
  exact ⟨F.c, _, fd, ds, F.me, hb, hd, FunD.okC F.fn S len hbody⟩
theorem IDef.mk {x qual : Str} {st : Stmt} {fd : FuncData} {N ps : List Str} {k : Nat} {sp : Sp} (F : IAt K mg x qual st fd) (S : FnScope N ps (defScope st))
    (hb : ∀ (kV doc pm : Value) (an : Option Addr) (cdv ct : Value) (us : List Value), us.length = ps.length → bindArgs (PySem.W.fnOf "__init__" qual (defArgs st) (defBody st) (defScope st) .none kV doc pm an cdv ct) ⟨us, []⟩ = pure (ps.zip us))
    (len : ∀ vs H Q E, sp vs H Q E → vs.length = ps.length)
    (hbody : ∀ (A : Around) (outer : List Env) (s : Shared) (H : Hp) (vs : List V) (Q : VK) (E : XK), Room k (A.deeper (envOfC qual (defScope st) s.heap.objs.size (He.fAd K (x, some "__init__")) (.ref (He.codeOf K (x, some "__init__"))))) → sp vs H Q E →
      ∃ t, PSs (cxOf (L2.CX P w) P w K mg base N qual (defScope st) (He.fAd K (x, some "__init__")) (.ref (He.codeOf K (x, some "__init__"))) A outer s H E) (defBody st) t ∧ t { nx := fun _ H' => Q .non H', rt := Q } (start N vs) H) : IDef P w K mg base (k + 1) x ps sp :=
  ⟨F.c, F.g, _, fd, F.mkr, F.fn.bindsN hb, FunD.okC F.fn S len hbody⟩
end
section
variable {X : Cx} {k : Nat} {x m : Str} {ps : List Str} {dvs : List V} {sp : Sp} {o e : Expr} {es : List Expr} {ta : TE} {t : TA} {apos pos p : Pos} {W : WX}
/-- o.m(e, ..), nothing let out -/
def tM (C : Addr) (m : Str) (dvs : List V) (sp : Sp) (ta : TE) (t : TA) : TE := fun σ H Q => ta σ H fun x H1 => ∃ a dx fs, x = .ref a ∧ H1 a = some (.ins C dx fs) ∧ fs.lookup m = none ∧ t σ H1 fun vs H2 => sp (x :: (vs ++ dvs)) H2 Q E0
theorem pe_m {pl : Sem Bool} (he : PE X o ta) (D : MDef X.prog X.w X.K X.mg X.base k x m ps dvs sp) (hr : Room k X.A) (ha : PA X (e :: es) t)
    (hst : starEach (e :: es) X.env = (false, eval e X.env) :: starEach es X.env := by rfl) (hpl : (backTo pos (starEach es X.env)).any (·.1) = false := by rfl)
    (ht : eval (.Call (.Attribute o m apos) (e :: es) [] pos) X.env = (do
      let ov ← eval o X.env
      standAt apos.atName
      let (f, first) ← holding [ov] (getMethod ov m pl)
      callWith pos f first (backTo pos (starEach (e :: es) X.env)) (backToKw pos (keywordEach [] X.env))) := by rfl) :
    PE X (.Call (.Attribute o m apos) (e :: es) [] pos) (tM (He.ga X.K x) m dvs sp ta t) := by
  obtain ⟨c, f, fd, ds, hm, hb, hd, F⟩ := D
  exact pe_meth (pl := pl) (dvs := dvs) (E := E0) he c hm F hr hb hd passL ha hst hpl ht
theorem pe_m0 {pl : Sem Bool} (he : PE X o ta) (D : MDef X.prog X.w X.K X.mg X.base k x m ps dvs sp) (hr : Room k X.A)
    (ht : eval (.Call (.Attribute o m apos) [] [] pos) X.env = (do
      let ov ← eval o X.env
      standAt apos.atName
      let (f, first) ← holding [ov] (getMethod ov m pl)
      callWith pos f first (backTo pos (starEach [] X.env)) (backToKw pos (keywordEach [] X.env))) := by rfl) :
    PE X (.Call (.Attribute o m apos) [] [] pos) (tM (He.ga X.K x) m dvs sp ta tNil) := by
  obtain ⟨c, f, fd, ds, hm, hb, hd, F⟩ := D
  exact pe_meth0 (pl := pl) (dvs := dvs) (E := E0) he c hm F hr hb hd passL ht
/-- C(e, ..) -/
def tI (C : Addr) (sp : Sp) (t : TA) : TE := fun σ H Q => t σ H fun vs H1 => ∀ x dx, H1 x = none → H1 dx = none → dx ≠ x → sp (.ref x :: vs) (upd (upd H1 dx (.own x)) x (.ins C dx [])) (fun v H2 => v = .non ∧ Q (.ref x) H2) E0
theorem pe_i (D : IDef X.prog X.w X.K X.mg X.base k x ps sp) (hr : Room (k + 1) X.A) (hg : Gl X x) (ha : PA X (e :: es) t) (hdb : (x == ("__debug__" : Str)) = false := by decide)
    (he : starEach (e :: es) X.env = (false, eval e X.env) :: starEach es X.env := by rfl) (hpl : (backTo pos (starEach es X.env)).any (·.1) = false := by rfl) : PE X (.Call (.Name x p) (e :: es) [] pos) (tI (He.ga X.K x) sp t) := by
  obtain ⟨c, hm, f, fd, M, hb, F⟩ := D
  have z := pe_make (dvs := []) (E := E0) (p := p) (pos := pos) M F hr hg hm hb .nil passL ha hdb he hpl
  refine ⟨fun pins s σ H Q I h => z.run pins s σ H Q I ?_⟩
  show t σ H fun vs H1 => ∀ x dx, H1 x = none → H1 dx = none → dx ≠ x → sp (.ref x :: (vs ++ [])) _ _ E0
  simp only [List.append_nil]
  exact h
end
/-! ### keyword-only parameters; attributes as targets -/
def IDefK (P : Program) (w : World) (K : PySem.W.Frag) (mg : Str → Option Value) (base : Heap) (k : Nat) (x : Str) (ps : List Str) (n : Nat) (ks : List Str) (sp : Sp) : Prop :=
  Cls K (He.ga K x) ∧ mg x = some (.ref (He.ga K x)) ∧ ∃ (f : Addr) (fd : FuncData), Mk K (He.ga K x) f ∧ KBn K fd ps (n + 1) ks (fun us ws => us ++ ws) (fun vs zs => vs ++ zs) ∧ FnOk P w K mg base (L2.CX P w) k f fd ps sp
section
variable {P : Program} {w : World} {K : PySem.W.Frag} {mg : Str → Option Value} {base : Heap}
theorem IDefK.mk {x qual : Str} {st : Stmt} {fd : FuncData} {N ps ks : List Str} {n k : Nat} {sp : Sp} (F : IAt K mg x qual st fd) (S : FnScope N ps (defScope st))
    (hb : ∀ (kV doc pm : Value) (an : Option Addr) (cdv ct : Value) (us ws : List Value), us.length = n + 1 → ws.length = ks.length → bindArgs (PySem.W.fnOf "__init__" qual (defArgs st) (defBody st) (defScope st) .none kV doc pm an cdv ct) ⟨us, ks.zip ws⟩ = pure (ps.zip (us ++ ws)))
    (len : ∀ vs H Q E, sp vs H Q E → vs.length = ps.length)
    (hbody : ∀ (A : Around) (outer : List Env) (s : Shared) (H : Hp) (vs : List V) (Q : VK) (E : XK), Room k (A.deeper (envOfC qual (defScope st) s.heap.objs.size (He.fAd K (x, some "__init__")) (.ref (He.codeOf K (x, some "__init__"))))) → sp vs H Q E →
      ∃ t, PSs (cxOf (L2.CX P w) P w K mg base N qual (defScope st) (He.fAd K (x, some "__init__")) (.ref (He.codeOf K (x, some "__init__"))) A outer s H E) (defBody st) t ∧ t { nx := fun _ H' => Q .non H', rt := Q } (start N vs) H) : IDefK P w K mg base (k + 1) x ps n ks sp := by
  refine ⟨F.c, F.g, _, fd, F.mkr, ?_, FunD.okC F.fn S len hbody⟩
  obtain ⟨oc, od, dV, kV, doc, pm, an, cdv, ct, osl, rfl, lk, hcd, hD, hK⟩ := F.fn.ex
  rcases hD with ⟨_, rfl⟩ | ⟨e, _⟩
  · exact ⟨fun s us ws _ l1 l2 => .of_eq (hb kV doc pm an cdv ct us ws l1 l2), fun r1 r2 => r1.append r2⟩
  · exact absurd rfl e
end
section
variable {X : Cx} {k n : Nat} {x f : Str} {ps ks : List Str} {sp : Sp} {o e : Expr} {es : List Expr} {kws : List Keyword} {to : TE} {t tk : TA} {pos p : Pos}
/-- C(e, .., k = v, ..) -/
theorem pe_iK (D : IDefK X.prog X.w X.K X.mg X.base k x ps n ks sp) (hr : Room (k + 1) X.A) (hg : Gl X x) (ha : PA X (e :: es) t) (hkw : PK X kws tk)
    (hall : (backToKw pos (keywordEach kws X.env)).all (·.1.isSome) = true := by rfl) (hks : (backToKw pos (keywordEach kws X.env)).filterMap (·.1) = ks := by rfl) (hdb : (x == ("__debug__" : Str)) = false := by decide)
    (he : starEach (e :: es) X.env = (false, eval e X.env) :: starEach es X.env := by rfl) (hpl : ((backTo pos (starEach (e :: es) X.env)).any (·.1) || (backToKw pos (keywordEach kws X.env)).any (·.1.isNone)) = false := by rfl) :
    PE X (.Call (.Name x p) (e :: es) kws pos) (tMakeK (He.ga X.K x) n ks.length sp (fun vs zs => vs ++ zs) E0 t tk) := by
  obtain ⟨c, hm, f, fd, M, hb, F⟩ := D
  exact pe_makeK M F hr hg hm hb passL ha hkw hall hks hdb he hpl
def gFld (K : PySem.W.Frag) (to : TE) (f : Str) : TG := fun v σ H Q => to σ H fun x H1 => ∃ a C dx fs, x = .ref a ∧ H1 a = some (.ins C dx fs) ∧ Cls K C ∧ NoAttr K C f ∧ fs.length < 1000 ∧ Q σ (upd H1 a (.ins C dx (putF f v fs)))
theorem pg_fld (ho : PE X o to) (ha : ∀ v, assign (.Attribute o f pos) X.env v = (do
      let ov ← holding [v] (eval o X.env)
      standAt pos.atName
      holding [v, ov] (setAttr ov f v)
      release [v, ov] []) := by intro _; rfl) : PG X (.Attribute o f pos) (gFld X.K to f) := by
  refine ⟨fun pins s σ H v u Q I r h => ?_⟩
  rw [ha]
  refine wpAny_bind (wpAny_holding (thn (ho.run pins s σ H _ I h) fun ov s1 ⟨y, H1, I1, ry, a, C, dx, fs, ex, ea, c, n, l, q⟩ => ?_))
  subst ex
  obtain rfl : ov = Value.ref a := ry
  refine wpAny_bind (wpAny_standAt (wpAny_bind (wpAny_holding (setattr_ok I1 ea c n l r fun s2 I2 => wpAny_release ⟨σ, _, I2, q⟩))))
theorem kpe_fld {f : Str} {e : Expr} {ta : TE} {pos : Pos} (K : PySem.W.Frag) (h : X.K = K) (he : PE X e ta) (hb : attributeBase e f X.env (eval e X.env) = eval e X.env) : PE X (.Attribute e f pos) (tFld K ta f) := by
  subst h
  exact pe_fld he hb
end
end RP

set_option Elab.async false
set_option linter.all false
set_option maxRecDepth 100000
set_option maxHeartbeats 1000000
namespace K89
open PySem PySem.Spec PyProof.Rows L2
def top (i : Nat) : Stmt := PySem.Challenge.pw_guestfleet_k89_placements_refused_and_ju.main.body.getD i (.Pass ⟨0, 0, 0, 0⟩)
abbrev s_NoHouse_init : Stmt := inClass (top 2) 0
abbrev s_NoFleet_init : Stmt := inClass (top 3) 0
abbrev s_NoPlace_init : Stmt := inClass (top 4) 0
abbrev s_NoPlan_init : Stmt := inClass (top 5) 0
abbrev s_is_whole : Stmt := top 9
abbrev s_is_name : Stmt := top 10
abbrev s_are_houses : Stmt := top 17
abbrev s_are_promises : Stmt := top 18
abbrev s_is_fleet : Stmt := top 19
abbrev s_fits : Stmt := top 20
abbrev s_row_of : Stmt := top 21
abbrev s_place_of : Stmt := top 22
abbrev s_need_fleet : Stmt := top 23
abbrev s_needed_row : Stmt := top 24
abbrev s_is_placement : Stmt := top 25
abbrev s_rows_from : Stmt := top 26
abbrev s_moves_from : Stmt := top 27
abbrev s_spread : Stmt := top 28
abbrev s_way_back : Stmt := top 29
abbrev s_plan : Stmt := top 30
abbrev s_drained : Stmt := top 31
abbrev s_reachable : Stmt := top 32
abbrev s_is_closed : Stmt := top 33
abbrev s_after_moves : Stmt := top 34
abbrev s__law_cell : Stmt := top 36
abbrev s__law_box : Stmt := top 37
abbrev s__law_take : Stmt := top 38
abbrev s__law_same : Stmt := top 39
abbrev s__law_fleet : Stmt := top 40
abbrev s__law_fits : Stmt := top 41
abbrev s__law_moves : Stmt := top 42
abbrev s__law_odd_fleet : Stmt := top 43
abbrev s__law_odd_place : Stmt := top 44
abbrev s__law_asked : Stmt := top 45
abbrev s__law_full_right : Stmt := top 46
abbrev s__law_moves_right : Stmt := top 47
abbrev s_law : Stmt := top 48
structure Txt (K : PySem.W.Frag) (mg : Str → Option Value) : Prop where
  b_ValueError : mg "ValueError" = none
  b_abs : mg "abs" = none
  b_all : mg "all" = none
  b_bool : mg "bool" = none
  b_dict : mg "dict" = none
  b_enumerate : mg "enumerate" = none
  b_int : mg "int" = none
  b_isinstance : mg "isinstance" = none
  b_len : mg "len" = none
  b_list : mg "list" = none
  b_max : mg "max" = none
  b_min : mg "min" = none
  b_range : mg "range" = none
  b_sorted : mg "sorted" = none
  b_str : mg "str" = none
  b_sum : mg "sum" = none
  b_tuple : mg "tuple" = none
  b_zip : mg "zip" = none
  c_LETTERS : ∃ t, mg "LETTERS" = some (.str "abcdefghijklmnopqrstuvwxyz" t)
  c_LONGEST_NAME : ∃ t, mg "LONGEST_NAME" = some (.int (8) t)
  c_LEAST_LENGTH : ∃ t, mg "LEAST_LENGTH" = some (.int (4) t)
  c_MOST_LENGTH : ∃ t, mg "MOST_LENGTH" = some (.int (60) t)
  c_MOST_GUESTS : ∃ t, mg "MOST_GUESTS" = some (.int (6) t)
  c_MOST_HOUSES : ∃ t, mg "MOST_HOUSES" = some (.int (3) t)
  c_MOST_PLACED : ∃ t, mg "MOST_PLACED" = some (.int (7) t)
  g_GuestError : GX.GAt K mg GX.bVE "GuestError" (He.ga K "GuestError")
  x_NoHouse : ∃ fI fd, GX.XAt K mg GX.bVE "NoHouse" "found" "NoHouse.__init__" s_NoHouse_init (He.ga K "NoHouse") fI fd
  x_NoFleet : ∃ fI fd, GX.XAt K mg GX.bVE "NoFleet" "found" "NoFleet.__init__" s_NoFleet_init (He.ga K "NoFleet") fI fd
  x_NoPlace : ∃ fI fd, GX.XAt K mg GX.bVE "NoPlace" "found" "NoPlace.__init__" s_NoPlace_init (He.ga K "NoPlace") fI fd
  x_NoPlan : ∃ fI fd, GX.XAt K mg GX.bVE "NoPlan" "found" "NoPlan.__init__" s_NoPlan_init (He.ga K "NoPlan") fI fd
  a_is_whole : ∃ f fd, RP.At K mg "is_whole" s_is_whole f fd
  a_is_name : ∃ f fd, RP.At K mg "is_name" s_is_name f fd
  a_are_houses : ∃ f fd, RP.At K mg "are_houses" s_are_houses f fd
  a_are_promises : ∃ f fd, RP.At K mg "are_promises" s_are_promises f fd
  a_is_fleet : ∃ f fd, RP.At K mg "is_fleet" s_is_fleet f fd
  a_fits : ∃ f fd, RP.At K mg "fits" s_fits f fd
  a_row_of : ∃ f fd, RP.At K mg "row_of" s_row_of f fd
  a_place_of : ∃ f fd, RP.At K mg "place_of" s_place_of f fd
  a_need_fleet : ∃ f fd, RP.At K mg "need_fleet" s_need_fleet f fd
  a_needed_row : ∃ f fd, RP.At K mg "needed_row" s_needed_row f fd
  a_is_placement : ∃ f fd, RP.At K mg "is_placement" s_is_placement f fd
  a_rows_from : ∃ f fd, RP.At K mg "rows_from" s_rows_from f fd
  a_moves_from : ∃ f fd, RP.At K mg "moves_from" s_moves_from f fd
  a_spread : ∃ f fd, RP.At K mg "spread" s_spread f fd
  a_way_back : ∃ f fd, RP.At K mg "way_back" s_way_back f fd
  a_plan : ∃ fd, RP.At K mg "plan" s_plan (He.fAd K ("plan", none)) fd
  a_drained : ∃ fd, RP.At K mg "drained" s_drained (He.fAd K ("drained", none)) fd
  a_reachable : ∃ fd, RP.At K mg "reachable" s_reachable (He.fAd K ("reachable", none)) fd
  a_is_closed : ∃ f fd, RP.At K mg "is_closed" s_is_closed f fd
  a_after_moves : ∃ f fd, RP.At K mg "after_moves" s_after_moves f fd
  a__law_cell : ∃ f fd, RP.At K mg "_law_cell" s__law_cell f fd
  a__law_box : ∃ f fd, RP.At K mg "_law_box" s__law_box f fd
  a__law_take : ∃ f fd, RP.At K mg "_law_take" s__law_take f fd
  a__law_same : ∃ f fd, RP.At K mg "_law_same" s__law_same f fd
  a__law_fleet : ∃ f fd, RP.At K mg "_law_fleet" s__law_fleet f fd
  a__law_fits : ∃ f fd, RP.At K mg "_law_fits" s__law_fits f fd
  a__law_moves : ∃ f fd, RP.At K mg "_law_moves" s__law_moves f fd
  a__law_odd_fleet : ∃ f fd, RP.At K mg "_law_odd_fleet" s__law_odd_fleet f fd
  a__law_odd_place : ∃ f fd, RP.At K mg "_law_odd_place" s__law_odd_place f fd
  a__law_asked : ∃ f fd, RP.At K mg "_law_asked" s__law_asked f fd
  a__law_full_right : ∃ f fd, RP.At K mg "_law_full_right" s__law_full_right f fd
  a__law_moves_right : ∃ f fd, RP.At K mg "_law_moves_right" s__law_moves_right f fd
  a_law : ∃ f fd, RP.At K mg "law" s_law f fd
section
variable {P : Program} {w : World} {K : PySem.W.Frag} {mg : Str → Option Value} {base : Heap}
theorem sc_NoHouse_init : FnScope ["self", "found"] ["self", "found"] (defScope s_NoHouse_init) := ⟨rfl, rfl, rfl, by decide +kernel, rfl, by decide +kernel, by decide +kernel⟩
theorem xd_NoHouse (T : Txt K mg) : GX.XDef P w K mg base GX.bVE "NoHouse" "found" ["self", "found"] (He.ga K "NoHouse") := by
  obtain ⟨fI, fd, F⟩ := T.x_NoHouse
  refine GX.XDef.mk F sc_NoHouse_init rfl (fun _ _ _ _ _ _ us hl => match us, hl with | [_, _], _ => rfl) (fun cdv A outer s H E hr => ?_)
  exact ⟨_, _, _, pss_cons (ps_expr (GX.pe_ginit T.g_GuestError.gb GX.bVE_ok (by rfl) T.g_GuestError.g (pa_cons (pv 0) (pa_cons pe_str pa_nil)))) (pss_one (GX.ps_xst (pv 0) (pv 1))),
    fun a v H Q h => ⟨_, rfl, h _⟩, fun a v H Q h => ⟨_, rfl, h⟩, fun a v H Q h => ⟨_, rfl, h⟩⟩
theorem pmk_NoHouse {X : Cx} {e : Expr} {te : TE} {p pos : Pos} {n : Nat} (hr : Room n X.A) (T : Txt X.K X.mg) (ha1 : PA X [e] (tCons te tNil)) (hg : Gl X "NoHouse" := by rfl) (hn : 2 ≤ n := by decide)
    (he : starEach [e] X.env = (false, eval e X.env) :: starEach [] X.env := by rfl) (hpl : (backTo pos (starEach [] X.env)).any (·.1) = false := by rfl) :
    PMk X (.Call (.Name "NoHouse" p) [e] [] pos) (GX.tMkX (He.ga X.K "NoHouse") "found" te) := GX.pmk_at (xd_NoHouse T) hr hn hg ha1 (by decide) he hpl
theorem sc_NoFleet_init : FnScope ["self", "found"] ["self", "found"] (defScope s_NoFleet_init) := ⟨rfl, rfl, rfl, by decide +kernel, rfl, by decide +kernel, by decide +kernel⟩
theorem xd_NoFleet (T : Txt K mg) : GX.XDef P w K mg base GX.bVE "NoFleet" "found" ["self", "found"] (He.ga K "NoFleet") := by
  obtain ⟨fI, fd, F⟩ := T.x_NoFleet
  refine GX.XDef.mk F sc_NoFleet_init rfl (fun _ _ _ _ _ _ us hl => match us, hl with | [_, _], _ => rfl) (fun cdv A outer s H E hr => ?_)
  exact ⟨_, _, _, pss_cons (ps_expr (GX.pe_ginit T.g_GuestError.gb GX.bVE_ok (by rfl) T.g_GuestError.g (pa_cons (pv 0) (pa_cons pe_str pa_nil)))) (pss_one (GX.ps_xst (pv 0) (pv 1))),
    fun a v H Q h => ⟨_, rfl, h _⟩, fun a v H Q h => ⟨_, rfl, h⟩, fun a v H Q h => ⟨_, rfl, h⟩⟩
theorem pmk_NoFleet {X : Cx} {e : Expr} {te : TE} {p pos : Pos} {n : Nat} (hr : Room n X.A) (T : Txt X.K X.mg) (ha1 : PA X [e] (tCons te tNil)) (hg : Gl X "NoFleet" := by rfl) (hn : 2 ≤ n := by decide)
    (he : starEach [e] X.env = (false, eval e X.env) :: starEach [] X.env := by rfl) (hpl : (backTo pos (starEach [] X.env)).any (·.1) = false := by rfl) :
    PMk X (.Call (.Name "NoFleet" p) [e] [] pos) (GX.tMkX (He.ga X.K "NoFleet") "found" te) := GX.pmk_at (xd_NoFleet T) hr hn hg ha1 (by decide) he hpl
theorem sc_NoPlace_init : FnScope ["self", "found"] ["self", "found"] (defScope s_NoPlace_init) := ⟨rfl, rfl, rfl, by decide +kernel, rfl, by decide +kernel, by decide +kernel⟩
theorem xd_NoPlace (T : Txt K mg) : GX.XDef P w K mg base GX.bVE "NoPlace" "found" ["self", "found"] (He.ga K "NoPlace") := by
  obtain ⟨fI, fd, F⟩ := T.x_NoPlace
  refine GX.XDef.mk F sc_NoPlace_init rfl (fun _ _ _ _ _ _ us hl => match us, hl with | [_, _], _ => rfl) (fun cdv A outer s H E hr => ?_)
  exact ⟨_, _, _, pss_cons (ps_expr (GX.pe_ginit T.g_GuestError.gb GX.bVE_ok (by rfl) T.g_GuestError.g (pa_cons (pv 0) (pa_cons pe_str pa_nil)))) (pss_one (GX.ps_xst (pv 0) (pv 1))),
    fun a v H Q h => ⟨_, rfl, h _⟩, fun a v H Q h => ⟨_, rfl, h⟩, fun a v H Q h => ⟨_, rfl, h⟩⟩
theorem pmk_NoPlace {X : Cx} {e : Expr} {te : TE} {p pos : Pos} {n : Nat} (hr : Room n X.A) (T : Txt X.K X.mg) (ha1 : PA X [e] (tCons te tNil)) (hg : Gl X "NoPlace" := by rfl) (hn : 2 ≤ n := by decide)
    (he : starEach [e] X.env = (false, eval e X.env) :: starEach [] X.env := by rfl) (hpl : (backTo pos (starEach [] X.env)).any (·.1) = false := by rfl) :
    PMk X (.Call (.Name "NoPlace" p) [e] [] pos) (GX.tMkX (He.ga X.K "NoPlace") "found" te) := GX.pmk_at (xd_NoPlace T) hr hn hg ha1 (by decide) he hpl
theorem sc_NoPlan_init : FnScope ["self", "found"] ["self", "found"] (defScope s_NoPlan_init) := ⟨rfl, rfl, rfl, by decide +kernel, rfl, by decide +kernel, by decide +kernel⟩
theorem xd_NoPlan (T : Txt K mg) : GX.XDef P w K mg base GX.bVE "NoPlan" "found" ["self", "found"] (He.ga K "NoPlan") := by
  obtain ⟨fI, fd, F⟩ := T.x_NoPlan
  refine GX.XDef.mk F sc_NoPlan_init rfl (fun _ _ _ _ _ _ us hl => match us, hl with | [_, _], _ => rfl) (fun cdv A outer s H E hr => ?_)
  exact ⟨_, _, _, pss_cons (ps_expr (GX.pe_ginit T.g_GuestError.gb GX.bVE_ok (by rfl) T.g_GuestError.g (pa_cons (pv 0) (pa_cons pe_str pa_nil)))) (pss_one (GX.ps_xst (pv 0) (pv 1))),
    fun a v H Q h => ⟨_, rfl, h _⟩, fun a v H Q h => ⟨_, rfl, h⟩, fun a v H Q h => ⟨_, rfl, h⟩⟩
theorem pmk_NoPlan {X : Cx} {e : Expr} {te : TE} {p pos : Pos} {n : Nat} (hr : Room n X.A) (T : Txt X.K X.mg) (ha1 : PA X [e] (tCons te tNil)) (hg : Gl X "NoPlan" := by rfl) (hn : 2 ≤ n := by decide)
    (he : starEach [e] X.env = (false, eval e X.env) :: starEach [] X.env := by rfl) (hpl : (backTo pos (starEach [] X.env)).any (·.1) = false := by rfl) :
    PMk X (.Call (.Name "NoPlan" p) [e] [] pos) (GX.tMkX (He.ga X.K "NoPlan") "found" te) := GX.pmk_at (xd_NoPlan T) hr hn hg ha1 (by decide) he hpl
end
end K89

set_option Elab.async false
set_option linter.all false
set_option maxRecDepth 100000
set_option maxHeartbeats 1000000
namespace K89
open PySem PySem.Spec PyProof.Rows L2 RP
section
variable {P : Program} {w : World} {K : PySem.W.Frag} {mg : Str → Option Value} {base : Heap}
/-! ### is_whole -/
theorem sc_is_whole : FnScope ["thing", "low", "high"] ["thing", "low", "high"] (defScope s_is_whole) := ⟨rfl, rfl, rfl, by decide +kernel, rfl, by decide +kernel, by decide +kernel⟩
def _root_.RP.D.whole (d : D) (lo hi : Int) : Bool := match d with
  | .int i => decide (lo ≤ i) && decide (i ≤ hi)
  | _ => false
def spWhole (K : PySem.W.Frag) : Sp := fun vs H Q _ => ∃ (v : V) (d : D) (lo hi : Int), vs = [v, .int lo, .int hi] ∧ Rep K H v d ∧ Q (.bl (d.whole lo hi)) H
theorem ok_is_whole (T : Txt K mg) : Def P w K mg base 1 "is_whole" ["thing", "low", "high"] (spWhole K) := by
  obtain ⟨f, fd, F⟩ := T.a_is_whole
  refine Def.mk F sc_is_whole (fun _ _ _ _ _ _ us hl => match us, hl with | [_, _, _], _ => rfl) (fun vs H Q E h => ?_) (fun cdv A outer s H vs Q E hr h => ?_)
  · obtain ⟨v, d, lo, hi, rfl, _⟩ := h
    rfl
  · obtain ⟨v, d, lo, hi, rfl, hv, hq⟩ := h
    refine ⟨_, (pss_one (ps_ret (pe_and (pe_callB (kcall_is K rfl) (by rfl) T.b_isinstance (by decide +kernel) (pa_cons (pv 0) (pa_cons (pe_bltn (v := .ty "int") (by rfl) T.b_int (by decide +kernel) rfl) pa_nil))) (pe_and (pe_not (pe_callB (kcall_is K rfl) (by rfl) T.b_isinstance (by decide +kernel) (pa_cons (pv 0) (pa_cons (pe_bltn (v := .ty "bool") (by rfl) T.b_bool (by decide +kernel) rfl) pa_nil)))) (pe_one (pe_chain op_le op_le (pv 1) (pv 0) (pv 2))))))), ?_⟩
    refine ⟨_, rfl, rd_isi hv ⟨_, rfl, ?_⟩⟩
    cases d with
    | int i =>
      cases hv
      refine iteT ⟨_, rfl, rd_isi (.int i) ⟨_, rfl, ⟨_, rfl, ?_⟩⟩⟩
      refine iteT ⟨_, rfl, _, rfl, _, _, rfl, rfl, _, rfl, ?_⟩
      show if decide (lo ≤ i) = true then _ else _
      refine ite_dec (fun c => ⟨_, rfl, _, _, rfl, rfl, ?_⟩) (fun c => ?_)
      · have e : (D.int i).whole lo hi = decide (i ≤ hi) := by
          show (decide (lo ≤ i) && decide (i ≤ hi)) = _
          rw [c]
          rfl
        rw [e] at hq
        exact hq
      · have e : (D.int i).whole lo hi = false := by
          show (decide (lo ≤ i) && decide (i ≤ hi)) = _
          rw [c]
          rfl
        rw [e] at hq
        exact hq
    | bl b => exact iteT ⟨_, rfl, rd_isi hv ⟨_, rfl, ⟨_, rfl, iteF hq⟩⟩⟩
    | _ => exact iteF hq
theorem all_range_getD (a : Array Nat) (p : Nat → Bool) : ((List.range a.size).map fun i => p (a.getD i 0)).all id = a.toList.all p := by
  have e : a.toList = (List.range a.size).map fun i => a.getD i 0 := by
    refine List.ext_getElem (by simp) fun i h1 h2 => ?_
    have h3 : i < a.size := by simpa using h1
    simp [h3]
  rw [e, List.all_map, List.all_map]
  rfl
/-! ### is_name -/
theorem sc_is_name : FnScope ["thing", "sign"] ["thing"] (defScope s_is_name) := ⟨rfl, rfl, rfl, by decide +kernel, rfl, by decide +kernel, by decide +kernel⟩
def abc : Str := "abcdefghijklmnopqrstuvwxyz"
def okName (z : Str) : Bool := decide (1 ≤ z.length) && (decide (z.length ≤ 8) && z.cps.toList.all fun c => decide (c ∈ abc.cps.toList))
def _root_.RP.D.name (d : D) : Bool := match d with
  | .str z => okName z
  | _ => false
def spName (K : PySem.W.Frag) : Sp := fun vs H Q _ => ∃ (v : V) (d : D), vs = [v] ∧ Rep K H v d ∧ ∀ H', Same H H' → Q (.bl d.name) H'
theorem ok_is_name (T : Txt K mg) : Def P w K mg base 1 "is_name" ["thing"] (spName K) := by
  obtain ⟨f, fd, F⟩ := T.a_is_name
  refine Def.mk F sc_is_name (fun _ _ _ _ _ _ us hl => match us, hl with | [_], _ => rfl) (fun vs H Q E h => ?_) (fun cdv A outer s H vs Q E hr h => ?_)
  · obtain ⟨v, d, rfl, _⟩ := h
    rfl
  · obtain ⟨v, d, rfl, hv, hq⟩ := h
    refine ⟨_, (pss_cons (ps_if (PW.pt (pw_or (pt_not (pt_val (pe_callB (kcall_is K rfl) (by rfl) T.b_isinstance (by decide +kernel) (pa_cons (pv 0) (pa_cons (pe_bltn (v := .ty "str") (by rfl) T.b_str (by decide +kernel) rfl) pa_nil))))) (pw_or1 (pt_not (pt_chain op_le op_le pe_int (pe_callB call_len_str (by rfl) T.b_len (by decide +kernel) (pa_cons (pv 0) pa_nil)) (pe_gi (by rfl) T.c_LONGEST_NAME)))))) (pss_one (ps_ret pe_bl)) pss_nil)
      (pss_one (ps_ret (pe_callB (kcr_all K rfl rfl) (by rfl) T.b_all (by decide +kernel) (pa_cons (pe_lc (own := [("sign", 1)]) rfl sc_is_name.nd (pi_str (pv 0)) (blkOk_by (own := [("sign", 1)]) (N := ["thing", "sign"]) (sc := defScope s_is_name) (by decide +kernel)) (fun _ _ _ _ _ => (pg_name (i := 1) sc_is_name.nd rfl (Or.inl rfl))) (fun _ _ _ _ _ => pts_nil) (fun _ _ _ _ _ => (pe_cmpR op_inS (pv 1) (pe_gs (by rfl) T.c_LETTERS) (by rfl)))) pa_nil))))), ?_⟩
    refine ⟨_, rfl, rd_isi hv ⟨_, rfl, ?_⟩⟩
    cases d with
    | str z =>
      cases hv with
      | str _ hz =>
      refine iteF ⟨_, rfl, z, rfl, hz, _, _, rfl, rfl, _, rfl, ?_⟩
      show if decide ((1 : Int) ≤ (z.length : Int)) = true then _ else _
      refine ite_dec (fun c1 => ⟨_, _, rfl, rfl, _, rfl, ?_⟩) (fun c1 => ⟨_, rfl, iteT ?_⟩)
      · show if (!decide ((z.length : Int) ≤ 8)) = true then _ else _
        refine ite_dec (fun c2 => ?_) (fun c2 => ?_)
        · refine (?_ : Q (.bl false) H)
          have e : (D.str z).name = false := by
            have q : ¬ z.length ≤ 8 := by simp at c2; omega
            show okName z = false
            unfold okName
            rw [decide_eq_false q, Bool.false_and, Bool.and_false]
          rw [e] at hq
          exact hq H (Same.refl H)
        · have q1 : 1 ≤ z.length := by have := of_decide_eq_true c1; omega
          have q2 : z.length ≤ 8 := by simp at c2; omega
          refine ⟨_, rfl, z, rfl, fun L hL => ?_⟩
          refine lc_vals (w := walk_str) (fun i => some (.bl (decide (z.cps.getD i 0 ∈ abc.cps.toList)))) hL (by show z.cps.size ≤ 1000000; have : z.cps.size = z.length := rfl; omega) (fun _ _ => True.intro) ?_ ?_
          · rintro i x H1 H2 Y2 N2 hi s1 hn ⟨rfl, c, hc, rfl⟩ k1 k2
            refine ⟨rfl, ⟨_, rfl, c, abc, rfl, rfl, k1 _ _ ?_ (Same.refl _)⟩⟩
            have e : z.cps.getD i 0 = c := by rw [Array.getD_eq_getD_getElem?, hc]; rfl
            rw [e]
          · intro H2 s2 h2
            refine ⟨L, (List.range z.cps.size).map (fun i => decide (z.cps.getD i 0 ∈ abc.cps.toList)), rfl, SqL.of ?_, ?_⟩
            · rw [h2]
              congr 2
              rw [List.map_map]
              induction z.cps.size with
              | zero => rfl
              | succ n ih => rw [range_succ_filterMap, List.range_succ, List.map_append, ih]; rfl
            · have e : ((List.range z.cps.size).map fun i => decide (z.cps.getD i 0 ∈ abc.cps.toList)).all id = (D.str z).name := by
                rw [all_range_getD z.cps fun c => decide (c ∈ abc.cps.toList)]
                show _ = okName z
                unfold okName
                rw [decide_eq_true q1, decide_eq_true q2, Bool.true_and, Bool.true_and]
              rw [e]
              exact hq _ s2
      · refine (?_ : Q (.bl false) H)
        have e : (D.str z).name = false := by
          have q : ¬ 1 ≤ z.length := by simp at c1; omega
          show okName z = false
          unfold okName
          rw [decide_eq_false q, Bool.false_and]
        rw [e] at hq
        exact hq H (Same.refl H)
    | _ => exact iteT (iteT (hq H (Same.refl H)))
end
end K89

set_option Elab.async false
set_option linter.all false
set_option maxRecDepth 100000
set_option maxHeartbeats 1000000
/-! G0: lemmas of no one law (taken together from k85's texts). -/
namespace RP
open PySem PySem.Spec PyProof.Rows L2
theorem fm_some {α β : Type} (f : α → β) : ∀ l : List α, (l.filterMap fun i => some (f i)) = l.map f
  | [] => rfl
  | a :: l => by
    rw [List.filterMap_cons, List.map_cons]
    exact congrArg _ (fm_some f l)
/-- a dict's value -/
def dlook (l : List (Str × D)) (z : Str) : Option D := (l.find? fun e => decide (e.1 = z)).map (·.2)
theorem RepK.val {K : PySem.W.Frag} {H : Hp} (z : Str) : ∀ {kvs : List (Key × V)} {ds : List (Str × D)}, RepK K H kvs ds →
    (∃ v d, valV kvs (.inr z) = some v ∧ dlook ds z = some d ∧ Rep K H v d) ∨ (valV kvs (.inr z) = none ∧ dlook ds z = none)
  | _, _, .nil => .inr ⟨rfl, rfl⟩
  | _, _, .cons (x := x) (v := v) (d := d) (kvs := kvs) (ds := ds) hx h t => by
    by_cases e : x = z
    · refine .inl ⟨v, d, valV_pos (by rw [e]), ?_, h⟩
      unfold dlook
      rw [List.find?_cons]
      simp [e]
    · have e2 : ¬ (Sum.inr x : Key) = Sum.inr z := fun q => e (Sum.inr.inj q)
      have e3 : dlook ((x, d) :: ds) z = dlook ds z := by
        unfold dlook
        rw [List.find?_cons]
        simp [e]
      rw [valV_neg (by exact e2), e3]
      exact RepK.val z t
theorem dlook_any (l : List (Str × D)) (z : Str) : (dlook l z).isSome = l.any fun e => decide (e.1 = z) := by
  unfold dlook
  rw [Option.isSome_map]
  induction l with
  | nil => rfl
  | cons a r ih =>
    rw [List.find?_cons, List.any_cons]
    cases h : decide (a.1 = z) with
    | true => rfl
    | false => rw [Bool.false_or]; exact ih
/-- what is read off a dict -/
theorem RepK.get_of {K : PySem.W.Frag} {H : Hp} {a : Addr} {kvs : List (Key × V)} {ds : List (Str × D)} {z : Str} {d : D} (r : RepK K H kvs ds) (h : Rd H a (.dK kvs)) (e : dlook ds z = some d) : ∃ v, DGet H a (.str z) (some v) ∧ Rep K H v d := by
  rcases r.val z with ⟨v, d2, e1, e2, q⟩ | ⟨_, e2⟩
  · rw [e] at e2
    cases e2
    exact ⟨v, .inl ⟨kvs, .inr z, h, rfl, e1.symm⟩, q⟩
  · rw [e] at e2
    cases e2
theorem RepK.keys {K : PySem.W.Frag} {H : Hp} : ∀ {kvs : List (Key × V)} {ds : List (Str × D)}, RepK K H kvs ds → (kvs.map fun kv => kV kv.1) = ds.map fun e => V.str e.1
  | _, _, .nil => rfl
  | _, _, .cons _ _ t => by
    rw [List.map_cons, List.map_cons, t.keys]
    rfl
theorem fm_if {α β : Type} (p : α → Prop) [DecidablePred p] (f : α → β) : ∀ l : List α, (l.filterMap fun i => if p i then none else some (f i)) = (l.filter fun i => decide (¬ p i)).map f
  | [] => rfl
  | a :: l => by
    rw [List.filterMap_cons, List.filter_cons]
    by_cases h : p a
    · simp only [h, if_pos, not_true, decide_false, Bool.false_eq_true, if_false]
      exact fm_if p f l
    · simp only [h, if_neg, not_false_eq_true, decide_true, if_true, List.map_cons]
      exact congrArg _ (fm_if p f l)
theorem take_next {α : Type} {l : List α} {i : Nat} {x : α} (h : l[i]? = some x) : l.take (i + 1) = l.take i ++ [x] := by
  rw [List.take_add_one, h]
  rfl
theorem wmul {i j : Int} (h1 : i.natAbs < 2 ^ 40) (h2 : j.natAbs < 2 ^ 40) : CMulW i j := wide_mul h1 h2 (by decide) (by decide) (by decide)
theorem wdiv {i j : Int} (h : 0 < j) (h2 : j.natAbs < 2 ^ 40) : CDivW i j := wide_div h h2 (by decide) (by decide)
/-- the index of one text among different ones -/
theorem rd_index {K : PySem.W.Frag} {H : Hp} {a : Addr} {ns : List Str} {z : Str} {j : Nat} {Q : VK} (h : SqL K H a (ns.map V.str)) (nd : ns.Nodup) (hj : ns[j]? = some z) (q : Q (.int (j : Nat)) H) : Box (rIndex K (.ref a) [.str z] H Q) := by
  have fl : ∀ l : List Str, (l.map V.str).all flatV = true := fun l => by
    rw [List.all_map]
    exact List.all_eq_true.mpr fun _ _ => rfl
  have eqs : ∀ x y : Str, eqV (.str x) (.str y) = decide (x = y) := fun x y => rfl
  refine ⟨a, _, _, j, .str z, rfl, rfl, h, rfl, fl ns, by rw [List.getElem?_map, hj]; rfl, by rw [eqs]; simp, fun m z' hm hz => ?_, q⟩
  rw [List.getElem?_map] at hz
  obtain ⟨y, hy, rfl⟩ := Option.map_eq_some_iff.mp hz
  rw [eqs]
  refine decide_eq_false fun e => ?_
  subst e
  have := nd_ix nd hy hj
  omega
theorem range_get {α β : Type} (F : α → β) (l : List α) : ∀ t, t ≤ l.length → (List.range t).filterMap (fun i => l[i]?.map F) = (l.take t).map F
  | 0, _ => rfl
  | t + 1, h => by
    have hx : l[t]? = some l[t] := List.getElem?_eq_getElem (by omega)
    rw [range_succ_filterMap, range_get F l t (by omega), take_next hx, List.map_append, hx]
    rfl
theorem range_all {α β : Type} (F : α → β) (l : List α) : (List.range l.length).filterMap (fun i => l[i]?.map F) = l.map F := by
  rw [range_get F l _ (Nat.le_refl _), List.take_length]
/-- two known parts of one heap are known together -/
theorem join {R R1 H : Hp} (p : Plain R) (s : Same R H) (p1 : Plain R1) (s1 : Same R1 H) : ∃ U, Same R U ∧ Same R1 U ∧ Plain U ∧ Same U H := by
  have key : ∀ a o, ((R a).or (R1 a)) = some o → R a = some o ∨ R1 a = some o := fun a o h => by
    cases c : R a with
    | none =>
      rw [c] at h
      exact .inr h
    | some u =>
      rw [c] at h
      exact .inl (by rw [← h]; rfl)
  refine ⟨fun a => (R a).or (R1 a), fun a o h => ?_, fun a o h => ?_, fun a o u h => ?_, fun a o h => ?_⟩
  · show (R a).or (R1 a) = some o
    rw [h]
    rfl
  · show (R a).or (R1 a) = some o
    cases c : R a with
    | none => exact h
    | some u =>
      have e1 := s a _ c
      have e2 := s1 a _ h
      rw [e1] at e2
      exact e2
  · rcases key _ _ h with q | q
    · exact p _ _ _ q
    · exact p1 _ _ _ q
  · rcases key _ _ h with q | q
    · exact s _ _ q
    · exact s1 _ _ q
/-- a known part without what stands at d -/
def Off (d : Addr) (R : Hp) : Hp := fun a => if a = d then none else R a
theorem off_at {d : Addr} {R : Hp} : Off d R d = none := if_pos rfl
theorem off_ne {d a : Addr} {R : Hp} (h : a ≠ d) : Off d R a = R a := if_neg h
theorem Off.same {d : Addr} {R : Hp} : Same (Off d R) R := fun a o h => by
  by_cases e : a = d
  · rw [e, off_at] at h
    cases h
  · rw [off_ne e] at h
    exact h
theorem Off.plain {d : Addr} {R : Hp} (p : Plain R) : Plain (Off d R) := fun a o u h => p a o u (Off.same _ _ h)
theorem Off.put {d : Addr} {R H : Hp} {o : HO} (s : Same R H) : Same (Off d R) (upd H d o) := fun a u h => by
  by_cases e : a = d
  · rw [e, off_at] at h
    cases h
  · rw [off_ne e] at h
    rw [upd_ne e]
    exact s a u h
theorem Rep.pair_off {K : PySem.W.Frag} {R : Hp} {d : Addr} {kvs : List (Key × V)} {v : V} {p c : Int} (pl : Plain R) (hd : R d = some (.dK kvs)) (h : Rep K R v (.tup [.int p, .int c])) : Rep K (Off d R) v (.tup [.int p, .int c]) := by
  obtain ⟨a, rfl, hs⟩ := (show ∃ a, v = .ref a ∧ SqT K R a [.int p, .int c] from by
    cases h with
    | tup h r =>
      cases r with
      | cons h1 t =>
        cases h1
        cases t with
        | cons h2 t =>
          cases h2
          cases t
          exact ⟨_, rfl, h⟩)
  refine .tup ?_ (.cons (.int _) (.cons (.int _) .nil))
  rcases hs with hs | hs
  · refine .inl (.inl ?_)
    have q := pl.rd hs
    rw [off_ne]
    · exact q
    · intro e
      rw [e, hd] at q
      cases q
  · exact .inr hs
/-- a list of pairs, for dict() -/
theorem pairs_of {K : PySem.W.Frag} {R : Hp} : ∀ {es : List (Str × D)} {zs : List V}, Reps K R zs (es.map fun e => .tup [.str e.1, e.2]) →
    ∃ (ps : List Addr) (kvs : List (Key × V)), zs = ps.map V.ref ∧ Paired (fun p kv => SqT K R p [kV kv.1, kv.2]) ps kvs ∧ RepK K R kvs es
  | [], _, r => by
    cases r
    exact ⟨[], [], rfl, .nil, .nil⟩
  | e :: es, zs, r => by
    rw [List.map_cons] at r
    cases r with
    | cons h t =>
      obtain ⟨ps, kvs, e1, e2, e3⟩ := pairs_of t
      cases h with
      | @tup a vs _ h r =>
        cases r with
        | cons h1 t1 =>
          cases h1 with
          | str _ hx =>
          cases t1 with
          | @cons v _ _ _ h2 t2 =>
            cases t2
            exact ⟨a :: ps, (.inr e.1, v) :: kvs, by rw [e1]; rfl, .cons h e2, .cons hx h2 e3⟩
theorem merge_nodup : ∀ {kvs acc : List (Key × V)}, ((acc ++ kvs).map (·.1)).Nodup → mergeK acc kvs = acc ++ kvs
  | [], acc, _ => by rw [List.append_nil]; rfl
  | kv :: r, acc, h => by
    have hn : valV acc kv.1 = none := by
      cases c : valV acc kv.1 with
      | none => rfl
      | some v =>
        exfalso
        have hm : kv.1 ∈ acc.map (·.1) := by
          unfold valV at c
          obtain ⟨e, he, _⟩ := Option.map_eq_some_iff.mp c
          have h1 := List.find?_some he
          have h2 := List.mem_of_find?_eq_some he
          exact List.mem_map.mpr ⟨e, h2, of_decide_eq_true h1⟩
        rw [List.map_append, List.nodup_append] at h
        exact h.2.2 _ hm _ (by rw [List.map_cons]; exact List.mem_cons_self) rfl
    have e : mergeK acc (kv :: r) = mergeK (acc ++ [kv]) r := by
      show mergeK (putK acc kv.1 kv.2) r = _
      rw [putK_new _ hn]
    rw [e, merge_nodup (by rw [List.append_assoc]; exact h), List.append_assoc]
    rfl
theorem RepK.keysN {K : PySem.W.Frag} {H : Hp} : ∀ {kvs : List (Key × V)} {es : List (Str × D)}, RepK K H kvs es → kvs.map (·.1) = es.map fun e => (Sum.inr e.1 : Key)
  | _, _, .nil => rfl
  | _, _, .cons _ _ t => by
    rw [List.map_cons, List.map_cons, t.keysN]
theorem RepK.merge {K : PySem.W.Frag} {H : Hp} {kvs : List (Key × V)} {es : List (Str × D)} (r : RepK K H kvs es) (n : (es.map (·.1)).Nodup) : mergeK [] kvs = kvs := by
  refine merge_nodup ?_
  rw [List.nil_append, r.keysN]
  have e : (es.map fun e => (Sum.inr e.1 : Key)) = (es.map (·.1)).map Sum.inr := by
    rw [List.map_map]
    rfl
  rw [e]
  exact List.pairwise_map.mpr (n.imp fun h q => h (Sum.inr.inj q))
theorem paired_mono {α β : Type} {F G : α → β → Prop} (h : ∀ a b, F a b → G a b) : ∀ {l : List α} {m : List β}, Paired F l m → Paired G l m
  | _, _, .nil => .nil
  | _, _, .cons a b => .cons (h _ _ a) (paired_mono h b)
theorem atI_lt {xs : List V} {i : Int} (h0 : 0 ≤ i) (h1 : i < xs.length) : ∃ v, atI xs i = some v ∧ v ∈ xs := by
  have h2 : i.toNat < xs.length := by omega
  have e : ((i.toNat : Nat) : Int) = i := by omega
  have h3 : xs[i.toNat]? = some xs[i.toNat] := List.getElem?_eq_getElem h2
  have h4 := atI_nat h3
  rw [e] at h4
  exact ⟨_, h4, List.getElem_mem h2⟩
theorem But.frame {b : Addr} {H H' : Hp} (k : But b H H') {a : Addr} {o : HO} (n : a ≠ b) (h : H a = some o) : H' a = some o := k a o n h
theorem ne_at {H : Hp} {a p : Addr} {o : HO} (h : H a = some o) (hp : H p = none) : p ≠ a := fun e => by
  rw [e, h] at hp
  cases hp
theorem But.new {b : Addr} {H : Hp} {p : Addr} {o : HO} (h : H p = none) : But b H (upd H p o) := But.of (same_new h)
theorem RepK.snoc {K : PySem.W.Frag} {H : Hp} {x : Str} {v : V} {d : D} (hx : x.length ≤ sizeLine) (hd : Rep K H v d) : ∀ {kvs : List (Key × V)} {es : List (Str × D)}, RepK K H kvs es → RepK K H (kvs ++ [(.inr x, v)]) (es ++ [(x, d)])
  | _, _, .nil => .cons hx hd .nil
  | _, _, .cons h1 h2 t => .cons h1 h2 (RepK.snoc hx hd t)
theorem valV_none {l : List (Key × V)} {k : Key} (h : k ∉ l.map (·.1)) : valV l k = none := by
  cases c : valV l k with
  | none => rfl
  | some v =>
    exfalso
    unfold valV at c
    obtain ⟨e, he, _⟩ := Option.map_eq_some_iff.mp c
    have h1 := List.find?_some he
    have h2 := List.mem_of_find?_eq_some he
    exact h (List.mem_map.mpr ⟨e, h2, of_decide_eq_true h1⟩)
theorem erase_map {α β : Type} (f : α → β) : ∀ (l : List α) (k : Nat), (l.map f).eraseIdx k = (l.eraseIdx k).map f
  | [], _ => rfl
  | _ :: _, 0 => rfl
  | a :: l, k + 1 => by
    show f a :: (l.map f).eraseIdx k = f a :: (l.eraseIdx k).map f
    rw [erase_map f l k]
theorem erase_perm {α : Type} : ∀ {l : List α} {k : Nat} {y : α}, l[k]? = some y → (y :: l.eraseIdx k).Perm l
  | [], _, _, h => nomatch h
  | a :: l, 0, y, h => by
    cases h
    exact List.Perm.refl _
  | a :: l, k + 1, y, h => by
    have ih := erase_perm (l := l) (k := k) h
    show (y :: a :: l.eraseIdx k).Perm (a :: l)
    exact (List.Perm.swap a y _).trans (ih.cons a)
theorem valV_mem : ∀ {l : List (Key × V)} {k : Key} {v : V}, (l.map (·.1)).Nodup → (k, v) ∈ l → valV l k = some v
  | [], _, _, _, h => nomatch h
  | e :: l, k, v, n, h => by
    rw [List.map_cons, List.nodup_cons] at n
    rcases List.mem_cons.mp h with h | h
    · rw [← h]
      exact valV_pos rfl
    · have ne : ¬ e.1 = k := fun q => n.1 (by rw [q]; exact List.mem_map.mpr ⟨_, h, rfl⟩)
      rw [valV_neg ne]
      exact valV_mem n.2 h
theorem fm_ifT {α β : Type} (p : α → Bool) (f : α → β) : ∀ l : List α, (l.filterMap fun i => if p i = true then some (f i) else none) = (l.filter p).map f
  | [] => rfl
  | a :: l => by
    rw [List.filterMap_cons, List.filter_cons]
    cases h : p a with
    | true => simp only [if_true, List.map_cons]; exact congrArg _ (fm_ifT p f l)
    | false => simp only [Bool.false_eq_true, if_false]; exact fm_ifT p f l
theorem fm_getD {α : Type} (l : List Nat) (f : Nat → Option α) : ((List.range l.length).filterMap fun t => f (l.getD t 0)) = l.filterMap f := by
  have e : (List.range l.length).map (fun t => l.getD t 0) = l := by
    refine List.ext_getElem (by simp) fun i h1 h2 => ?_
    rw [List.getElem_map, List.getElem_range, List.getD_eq_getElem?_getD, List.getElem?_eq_getElem h2]
    rfl
  have e2 : l.filterMap f = ((List.range l.length).map fun t => l.getD t 0).filterMap f := by rw [e]
  rw [e2, List.filterMap_map]
  rfl
theorem repK_ints {K : PySem.W.Frag} {H : Hp} : ∀ {es : List (Str × Int)} {kvs : List (Key × V)}, RepK K H kvs (es.map fun e => (e.1, D.int e.2)) → kvs = es.map fun e => (Sum.inr e.1, V.int e.2)
  | [], _, r => by cases r; rfl
  | e :: es, _, r => by
    rw [List.map_cons] at r
    cases r with
    | cons hx h t =>
      cases h
      rw [List.map_cons, repK_ints t]
theorem flat_strs (l : List Str) : (l.map V.str).all flatV = true := by
  rw [List.all_map]
  exact List.all_eq_true.mpr fun _ _ => rfl
theorem inV_strs (z : Str) : ∀ l : List Str, inV (.str z) (l.map V.str) = decide (z ∈ l)
  | [] => rfl
  | y :: r => by
    have e : inV (.str z) ((y :: r).map V.str) = (decide (y = z) || inV (.str z) (r.map V.str)) := rfl
    rw [e, inV_strs z r, ← Bool.decide_or]
    exact decide_eq_decide.mpr ((or_congr_left eq_comm).trans List.mem_cons.symm)
theorem fm_ints (f : Nat → Int) (n : Nat) : ((List.range n).filterMap fun i => some (V.int (f i))) = ((List.range n).map f).map V.int := by
  rw [fm_some, List.map_map]
  rfl
theorem min_if (a b : Int) : min a b = if b < a then b else a := by
  show (if a ≤ b then a else b) = _
  split <;> split <;> omega
theorem max_if (a b : Int) : max a b = if b > a then b else a := by
  show (if a ≤ b then b else a) = _
  split <;> split <;> omega
theorem two_of {K : PySem.W.Frag} {H : Hp} {vs : List V} {ds : List D} (r : Reps K H vs ds) : (∃ p c vp vc, ds = [p, c] ∧ vs = [vp, vc] ∧ Rep K H vp p ∧ Rep K H vc c) ∨ vs.length ≠ 2 := by
  cases r with
  | nil => exact .inr (by decide)
  | cons h1 t =>
    cases t with
    | nil => exact .inr (by simp)
    | cons h2 t2 =>
      cases t2 with
      | nil => exact .inl ⟨_, _, _, _, rfl, rfl, h1, h2⟩
      | cons _ _ => exact .inr (by simp)
end RP

set_option Elab.async false
set_option linter.all false
set_option maxRecDepth 100000
set_option maxHeartbeats 1000000
/-! IT: walks over a list or a tuple; enumerate of a tuple. -/
namespace RP
open PySem PySem.Spec PyProof.Rows L2
/-- enumerate(v), v told by what its iterator is -/
theorem meets_enum1B {v : Value} {o : Obj} {H : Heap → Prop} (B : Begins v o H) :
    Meets (Builtin.«enumerate.__new__» ⟨[.type "enumerate", v], []⟩) (fun _ R s => H s.heap ∧
      R (.ok (.ret (.ref (s.heap.push o).objs.size))) { s with heap := (s.heap.push o).push { cls := .type "enumerate", data := .fields #[.none, .bool false, .ref s.heap.objs.size, rawInt 0, .none, .none] } }) :=
  .of_wp fun prog w A R s h => by
    obtain ⟨hp, g, d, tk, os⟩ := s; obtain ⟨h1, h⟩ := h
    have hsub := sub_enumerate
    have q1 : ∀ {A' : Around} {E : Value → Shared → Prop} {Q : Value → Shared → Prop}, Q (.ref hp.objs.size) ⟨hp.push o, g, d, tk, os⟩ → wpAny (model prog w) A' (pyIter v) Q E ⟨hp, g, d, tk, os⟩ :=
      fun q => B.iter prog w _ _ ⟨hp, g, d, tk, os⟩ _ h1 q
    wp_walk using q1
    refine wpAny_stack_any fun st => wpAny_pure ?_
    split
    · rename_i c _ _ _ _ _
      cases (c == Value.type "enumerate")
      · wp_walk using q1
        exact ⟨_, rfl, h⟩
      · wp_walk using q1
        exact ⟨_, rfl, h⟩
    · wp_walk using q1
      exact ⟨_, rfl, h⟩
section
variable {prog : Program} {w : World} {A : Around} {E : Value → Shared → Prop} {s : Shared}
theorem enum1_begins {v : Value} {o : Obj} {H : Heap → Prop} {Q : Value → Shared → Prop} (B : Begins v o H) (h1 : H s.heap)
    (h : ∀ h', IsEnum h' (s.heap.objs.size + 1) s.heap.objs.size 0 .none → h'.get? s.heap.objs.size = some o → h'.objs.size = s.heap.objs.size + 2 →
      (∀ b o, s.heap.get? b = some o → h'.get? b = some o) → Q (.ref (s.heap.objs.size + 1)) { s with heap := h' }) :
    wpAny (model prog w) A (call (.type "enumerate") [v]) Q E s := by
  refine callType_new F.called_enumerate (by decide) (F.typeCall_enumerate_1 _) (F.newCall_enumerate_1 _) (fun obj => F.args_object_init_2 obj _) F.entry_enumerate_new
    (meets_enum1B B) ⟨h1, ?_⟩
  have hz : (s.heap.push o).objs.size = s.heap.objs.size + 1 := Heap.size_push ..
  show _ ∧ _
  rw [hz]
  have he : IsEnum ((s.heap.push o).push { cls := .type "enumerate", data := .fields #[.none, .bool false, .ref s.heap.objs.size, rawInt 0, .none, .none] }) (s.heap.objs.size + 1) s.heap.objs.size 0 .none := by
    have := Heap.get?_push_size (s.heap.push o) (o := { cls := .type "enumerate", data := .fields #[.none, .bool false, .ref s.heap.objs.size, rawInt 0, .none, .none] }) rfl
    rw [hz] at this; exact this
  refine ⟨⟨_, he, rfl⟩, h _ he (Heap.get?_push_of_some _ (Heap.get?_push_size _ B.free)) (by rw [Heap.size_push, hz]) fun b o x => Heap.get?_push_of_some _ (Heap.get?_push_of_some _ x)⟩
end
/-- the tuple at a, each item in a new pair -/
def IteT (K : PySem.W.Frag) (a : Addr) : It :=
  ⟨fun i H => ∃ (xs : List V) (x : V), SqT K H a xs ∧ xs[i]? = some x, fun i H v H' => ∃ T x, v = .ref T ∧ H T = none ∧ H' = upd H T (.tup [.int (i : Nat), x]) ∧ ∀ xs, SqT K H a xs → xs[i]? = some x, fun i H => ∃ xs : List V, SqT K H a xs ∧ xs.length ≤ i⟩
theorem enum_apart {h : Heap} {e it a : Addr} {c : Int} {old : Value} {its : Array Value} {i : Nat} (he : IsEnum h e it c old) (hit : h.IsTupleIter it a i) (p : h.IsTuple a its) : a ≠ it ∧ e ∉ [it, a] := by
  obtain ⟨o1, h1, c1, d1⟩ := hit
  obtain ⟨o2, h2, c2, n2, d2⟩ := p
  have ne : ∀ {x y : Addr} {o o' : Obj}, h.get? x = some o → h.get? y = some o' → o.cls ≠ o'.cls → x ≠ y := fun hx hy q z => by
    rw [z, hy] at hx
    exact q (by rw [Option.some.inj hx])
  refine ⟨ne h2 h1 (by rw [c1, c2]; decide), fun m => ?_⟩
  rcases List.mem_cons.mp m with z | z
  · exact ne he h1 (by show Value.type "enumerate" ≠ _; rw [c1]; decide) z
  · rw [List.mem_singleton] at z
    exact ne he h2 (by show Value.type "enumerate" ≠ _; rw [c2]; decide) z
theorem turn_enumT {P : Program} {w : World} {K : PySem.W.Frag} {elts : List Expr} {kk : Nat} {tpos : Pos} (a e it : Addr) :
    Turn P w K (.Tuple elts kk tpos) (IteT K a) [e, it] e (fun i h => (∃ old, IsEnum h e it ((i : Nat) : Int) old) ∧ h.IsTupleIter it a i ∧ e ≠ it) where
  mem := by simp
  obj := fun i h st b hb => by
    obtain ⟨⟨old, he⟩, ⟨o, ho, hc, hd⟩, _⟩ := st
    have e' : b = e ∨ b = it := by simpa using hb
    rcases e' with z | z
    · rw [z]; exact ⟨_, he, fun v q => nomatch q⟩
    · rw [z]; exact ⟨o, ho, fun v q => by rw [hd] at q; cases q⟩
  keep := fun i h h' st k => let ⟨⟨old, he⟩, hi, hne⟩ := st; ⟨⟨old, k e (by simp) _ he⟩, hi.at fun o q => k it (by simp) o q, hne⟩
  item := by
    intro X hP hw hK hc i pins s σ H E I hf st hg
    subst hP hw hK
    obtain ⟨⟨old, he⟩, hit, hne⟩ := st
    obtain ⟨xs, x, hq, hx⟩ := hg
    obtain ⟨its, rv, p, hz⟩ := I.tuple hq
    have p' : s.heap.IsTuple a its.toArray := p
    obtain ⟨u, hu, ru⟩ := rv.get hx
    have hel : e < s.heap.objs.size := Heap.lt_size he
    have hil : it < s.heap.objs.size := by obtain ⟨_, q, _⟩ := hit; exact Heap.lt_size q
    obtain ⟨hai, hea⟩ := enum_apart he hit p'
    have hli : i < its.toArray.size := by
      have := (List.getElem?_eq_some_iff.mp hu).1
      simpa using this
    refine wpAny_pyNext_enum_itemD (Draws.tuple (A := X.A.in1) (by exact I.ok.hd hc) it a hai its.toArray) he ⟨hit, p'⟩ hli hne hea fun y h' tk hP ho hst hT hsz hk => ?_
    obtain ⟨hit', _⟩ := hst
    have hy : y = u := by
      have q : its.toArray[i]? = some u := by simpa using hu
      rw [q] at hP
      exact (Option.some.inj hP).symm
    subst hy
    refine ⟨_, rfl, wpAny_letOwnedTupleGo_enum (s := { s with heap := h', toks := tk + 1 }) ho fun h'' he' sb => ?_⟩
    have hT2 : h''.get? s.heap.objs.size = some { cls := .type "tuple", data := .seq #[.int i tk, y] } := (sb.2 _ (Nat.ne_of_gt hel)).trans hT
    have new : ObjOk X.prog X.w (upd H s.heap.objs.size (.tup [.int (i : Nat), x])) h'' s.heap.objs.size (.tup [.int (i : Nat), x]) :=
      ⟨by show 2 ≤ sizeLine; decide, [.int i tk, y], .cons ⟨_, rfl⟩ (.cons ru .nil), ⟨_, hT2, rfl, _, rfl⟩⟩
    have I1 : Inv X pins σ (upd H s.heap.objs.size (.tup [.int (i : Nat), x])) { s with heap := h'', toks := tk + 1 } :=
      I.turnedNew (ch := [e, it]) (fun b ob hb q => (sb.2 b (fun z => hb (by simp [z]))).trans (hk b ob (fun z => hb (by simp [z])) (fun z => hb (by simp [z])) q)) hf (Nat.le_refl _) new
    refine ⟨.ref s.heap.objs.size, _, I1, rfl, ⟨_, x, rfl, I.hok.fresh (Nat.le_refl _), rfl, fun ys hy => by rw [I.tuple_inj hy hq]; exact hx⟩, ⟨⟨y, ?_⟩, hit'.at fun o q => (sb.2 it (Ne.symm hne)).trans q, hne⟩, fun b hb => ?_⟩
    · have e1 : ((i + 1 : Nat) : Int) = (i : Int) + 1 := by omega
      rw [e1]; exact he'
    · have hb' : b < s.heap.objs.size := by
        have e' : b = e ∨ b = it := by simpa using hb
        rcases e' with z | z
        · rw [z]; exact hel
        · rw [z]; exact hil
      rw [upd_ne (Nat.ne_of_lt hb')]
      exact (hf b hb).1
  done := by
    intro X hP hw hK hc i pins s σ H E I hf st hg
    subst hP hw hK
    obtain ⟨⟨old, he⟩, hit, hne⟩ := st
    obtain ⟨xs, hq, hx⟩ := hg
    obtain ⟨its, rv, p, hz⟩ := I.tuple hq
    have p' : s.heap.IsTuple a its.toArray := p
    obtain ⟨f0, f1, f2, f3, f4, f5⟩ := hf it (by simp)
    have hl := rv.length
    have hT : s.TypeIs (.ref e) "enumerate" := ⟨_, he, rfl⟩
    have fin : wpAny (model X.prog X.w) X.A (pyNext (.ref e)) (fun r s1 => r = none ∧ Inv X pins σ H s1) E s := by
      unfold pyNext
      refine wpAny_bind (wpAny_attempt (wpAny_callSpecial?_slot (name := Str.ofString "__next__") hT F.slot_enumerate_next
        (wpAny_call_entry F.slot_enumerate_next hT F.entry_enumerate_next ?_ (F.args_enumerate_next_1 _))))
      show wpAny _ _ (field (.ref e) 2 >>= _) _ _ _
      refine wpAny_bind (wpAny_field he rfl (x := .ref it) rfl ?_)
      refine wpAny_bind (wpAny_nextOf_tuple_end (by exact I.ok.hd hc) hit p' (by simp; omega) fun h' x eb hx' => ?_)
      obtain ⟨o, ho, hc'⟩ := hx'
      refine wpAny_bind (wpAny_isInstance (T := "StopIteration") (b := true) ⟨o, ho, hc'⟩ isSubtype_stop ?_)
      exact wpAny_pure ⟨rfl, I.turned (t' := s.toks) (fun b o hb q => eb b o hb q) f0 f1 f3 f4 f5⟩
    exact fin
  self := fun A i s Q E st h => let ⟨⟨_, he⟩, _⟩ := st; wpAny_pyIter_enum he h
/-! ### the rules: a list (true) or a tuple (false) -/
def Sq (b : Bool) (K : PySem.W.Frag) (H : Hp) (a : Addr) (xs : List V) : Prop := match b with
  | true => SqL K H a xs
  | false => SqT K H a xs
def ItB (b : Bool) (K : PySem.W.Frag) (a : Addr) : It := match b with
  | true => Itl K a
  | false => Itt K a
def ItEB (b : Bool) (K : PySem.W.Frag) (a : Addr) : It := match b with
  | true => Ite K a
  | false => IteT K a
theorem Sq.or {b : Bool} {K : PySem.W.Frag} {H : Hp} {a : Addr} {xs : List V} (h : Sq b K H a xs) : SqL K H a xs ∨ SqT K H a xs := by
  cases b with
  | true => exact .inl h
  | false => exact .inr h
theorem Sq.mono {b : Bool} {K : PySem.W.Frag} {R H : Hp} {a : Addr} {xs : List V} (l : Lq R H) (h : Sq b K R a xs) : Sq b K H a xs := by
  cases b with
  | true => exact l.seq h
  | false => exact l.tup h
def iSeq (K : PySem.W.Frag) (tl : TE) : TI := fun σ H R => tl σ H fun x H1 => ∃ a b, x = .ref a ∧ (∃ xs, Sq b K H1 a xs) ∧ R (ItB b K a) H1
theorem pi_seq {X : Cx} {tg l : Expr} {tl : TE} (hl : PE X l tl) : PI X tg l (iSeq X.K tl) := by
  refine ⟨fun pins s σ H R I h => ?_⟩
  refine thn (hl.run pins s σ H _ I h) fun v s1 ⟨x, H1, I1, r1, q1⟩ => ?_
  obtain ⟨a, b, e, ⟨xs, hq⟩, q⟩ := q1
  cases b with
  | true =>
    subst e
    cases r1
    obtain ⟨its, rv, p, hz⟩ := I1.list hq
    refine wpAny_pyIter_list p.isList ?_
    refine ⟨s1.heap.objs.size, [s1.heap.objs.size], _, _, H1, rfl, I1.kept (t' := s1.toks) fun b o e => Heap.get?_push_of_some _ e, turn_list a _, ⟨_, Heap.get?_push_size _ rfl, rfl, rfl⟩, fun b hb => ?_, q⟩
    have e : b = s1.heap.objs.size := by simpa using hb
    subst e
    exact I1.fpOk (Nat.le_refl _) (I1.hok.fresh (Nat.le_refl _))
  | false =>
    subst e
    cases r1
    obtain ⟨its, rv, p, hz⟩ := I1.tuple hq
    refine wpAny_pyIter_tuple (show s1.heap.IsTuple a its.toArray from p) ?_
    refine ⟨s1.heap.objs.size, [s1.heap.objs.size], _, _, H1, rfl, I1.kept (t' := s1.toks) fun b o e => Heap.get?_push_of_some _ e, turn_tuple a _, ⟨_, Heap.get?_push_size _ rfl, rfl, rfl⟩, fun b hb => ?_, q⟩
    have e : b = s1.heap.objs.size := by simpa using hb
    subst e
    exact I1.fpOk (Nat.le_refl _) (I1.hok.fresh (Nat.le_refl _))
theorem kpi_seq {X : Cx} (K : PySem.W.Frag) (h : X.K = K) {tg l : Expr} {tl : TE} (hl : PE X l tl) : PI X tg l (iSeq K tl) := by subst h; exact pi_seq hl
def iEnumS (K : PySem.W.Frag) (ta : TA) : TI := fun σ H R => ta σ H fun vs H1 => ∃ a b xs, vs = [.ref a] ∧ Sq b K H1 a xs ∧ R (ItEB b K a) H1
theorem pi_enumS {X : Cx} {e : Expr} {ta : TA} {p pos tpos : Pos} {elts : List Expr} {kk : Nat} (hg : Gl X "enumerate") (hm : X.mg "enumerate" = none) (ha : PA X [e] ta) (hs : starEach [e] X.env = [(false, eval e X.env)] := by rfl) :
    PI X (.Tuple elts kk tpos) (.Call (.Name "enumerate" p) [e] [] pos) (iEnumS X.K ta) := by
  refine ⟨fun pins s σ H R I h => ?_⟩
  refine Call_ (ld_blt I hg hm boot_enumerate (PyProof.Rows.callWith_type1 (thn (ha.run pos pins s σ H _ I h) fun us s1 ⟨vs, H1, I1, r1, q1⟩ => ?_) hs rfl))
  obtain ⟨a, b, xs, ex, hq, q⟩ := q1
  subst ex
  cases r1 with
  | cons r rr =>
    cases rr
    cases r
    have fin : ∀ {J : It} {tn : Nat → Heap → Prop} {h' : Heap}, (∀ b o, s1.heap.get? b = some o → h'.get? b = some o) → Turn X.prog X.w X.K (.Tuple elts kk tpos) J [s1.heap.objs.size + 1, s1.heap.objs.size] (s1.heap.objs.size + 1) tn → tn 0 h' → R J H1 →
        PIE X pins σ (.Tuple elts kk tpos) R (.ref (s1.heap.objs.size + 1)) { s1 with heap := h' } := fun {J tn h'} hk tr t0 q => by
      refine ⟨s1.heap.objs.size + 1, [s1.heap.objs.size + 1, s1.heap.objs.size], _, _, H1, rfl, I1.kept (t' := s1.toks) hk, tr, t0, fun b hb => ?_, q⟩
      have I2 : Inv X pins σ H1 { s1 with heap := h' } := I1.kept (t' := s1.toks) hk
      have e' : b = s1.heap.objs.size + 1 ∨ b = s1.heap.objs.size := by simpa using hb
      have hle : s1.heap.objs.size ≤ b := by
        rcases e' with z | z
        · rw [z]; exact Nat.le_add_right _ _
        · rw [z]; exact Nat.le_refl _
      exact I1.fpOk hle (I1.hok.fresh hle)
    cases b with
    | true =>
      obtain ⟨its, rv, p', hz⟩ := I1.list hq
      exact call_enumerate_list p'.isList fun h' he hit hsz hk => wpAny_pyIter_enum he (fin hk (turn_enum a _ _) ⟨⟨.none, he⟩, hit, Nat.succ_ne_self _⟩ q)
    | false =>
      obtain ⟨its, rv, p', hz⟩ := I1.tuple hq
      have pt : s1.heap.IsTuple a its.toArray := p'
      exact enum1_begins (begins_tuple a its.toArray) pt fun h' he hit hsz hk => wpAny_pyIter_enum he (fin hk (turn_enumT a _ _) ⟨⟨.none, he⟩, ⟨_, hit, rfl, rfl⟩, Nat.succ_ne_self _⟩ q)
theorem kpi_enumS {X : Cx} (K : PySem.W.Frag) (h : X.K = K) {e : Expr} {ta : TA} {p pos tpos : Pos} {elts : List Expr} {kk : Nat} (hg : Gl X "enumerate") (hm : X.mg "enumerate" = none) (ha : PA X [e] ta) (hs : starEach [e] X.env = [(false, eval e X.env)] := by rfl) :
    PI X (.Tuple elts kk tpos) (.Call (.Name "enumerate" p) [e] [] pos) (iEnumS K ta) := by subst h; exact pi_enumS hg hm ha hs
theorem walk_enumT {K : PySem.W.Frag} {a : Addr} {xs : List V} : Walk (IteT K a) xs.length (fun H => SqT K H a xs) (YPair (fun i => some (.int (i : Nat))) (fun i => xs[i]?)) := by
  refine ⟨fun i _ hi q => ⟨xs, xs[i], q, by simp [hi]⟩, fun _ q => ⟨xs, q, Nat.le_refl _⟩, fun i H v H' _ q y => ?_⟩
  obtain ⟨T, x, h1, h2, h3, h4⟩ := y
  exact ⟨T, .int (i : Nat), x, h1, h2, h3, rfl, h4 xs q⟩
theorem walk_seq {K : PySem.W.Frag} {a : Addr} {xs : List V} : ∀ {b : Bool}, Walk (ItB b K a) xs.length (fun H => Sq b K H a xs) (YAt xs)
  | true => walk_list
  | false => walk_tup
theorem walk_enumS {K : PySem.W.Frag} {a : Addr} {xs : List V} : ∀ {b : Bool}, Walk (ItEB b K a) xs.length (fun H => Sq b K H a xs) (YPair (fun i => some (.int (i : Nat))) (fun i => xs[i]?))
  | true => walk_enum
  | false => walk_enumT
/-! ### a list of whole numbers == [], != [] -/
theorem dp_ints {K : PySem.W.Frag} {H : Hp} : ∀ is : List Int, DpAll K H (is.map V.int) (is.map PyData.int)
  | [] => .nil
  | i :: r => .cons (.int i) (dp_ints r)
theorem ints_can : ∀ is : List Int, PyData.canLayAll0 (is.map PyData.int) = true
  | [] => by unfold PyData.canLayAll0; rfl
  | i :: r => by
    rw [List.map_cons]
    unfold PyData.canLayAll0
    rw [ints_can r]
    unfold PyData.canLay0
    rfl
theorem ints_depth : ∀ is : List Int, PyData.depthAll (is.map PyData.int) = 0
  | [] => by unfold PyData.depthAll; rfl
  | i :: r => by
    rw [List.map_cons]
    unfold PyData.depthAll
    rw [ints_depth r]
    unfold PyData.depth
    rfl
theorem ints_shaped (is : List Int) : SeqAt.shaped (.list (is.map PyData.int)) = true := by
  unfold SeqAt.shaped
  have e1 : PyData.canLay0 (.list (is.map PyData.int)) = true := by
    unfold PyData.canLay0
    exact ints_can is
  have e2 : PyData.depth (.list (is.map PyData.int)) = 1 := by
    unfold PyData.depth
    rw [ints_depth]
  rw [e1, e2]
  rfl
theorem ints_eqv (is : List Int) : PyData.eqv (.list (is.map PyData.int)) (.list []) = is.isEmpty := by
  cases is <;> rfl
def rEqE (K : PySem.W.Frag) : R2 := fun x y H Q => ∃ (a b : Addr) (is : List Int), x = .ref a ∧ y = .ref b ∧ SqL K H a (is.map V.int) ∧ SqL K H b [] ∧ Q (.bl is.isEmpty) H
def rNeE (K : PySem.W.Frag) : R2 := fun x y H Q => ∃ (a b : Addr) (is : List Int), x = .ref a ∧ y = .ref b ∧ SqL K H a (is.map V.int) ∧ SqL K H b [] ∧ Q (.bl (!is.isEmpty)) H
theorem kop_eqE {X : Cx} (K : PySem.W.Frag) (h : X.K = K) (hu : X.A.units + 64 < cLine) : OpR X (compareOp .Eq) (rEqE K) := by
  subst h
  intro pins s σ H x y v u Q I rx ry q
  obtain ⟨a, b, is, rfl, rfl, h1, h2, q⟩ := q
  refine op_eqD hu pins s σ H _ _ v u Q I rx ry ⟨_, _, .lst h1 (dp_ints is), .lst h2 .nil, ints_shaped is, by decide, ?_⟩
  rw [ints_eqv]
  exact q
theorem kop_neE {X : Cx} (K : PySem.W.Frag) (h : X.K = K) (hu : X.A.units + 64 < cLine) : OpR X (compareOp .NotEq) (rNeE K) := by
  subst h
  intro pins s σ H x y v u Q I rx ry q
  obtain ⟨a, b, is, rfl, rfl, h1, h2, q⟩ := q
  refine op_neD hu pins s σ H _ _ v u Q I rx ry ⟨_, _, .lst h1 (dp_ints is), .lst h2 .nil, ints_shaped is, by decide, ?_⟩
  rw [ints_eqv]
  exact q
/-! ### x[i] of a text, a list or a tuple -/
def rIxAny (K : PySem.W.Frag) : R2 := fun x y H Q => rIxS x y H Q ∨ ∃ (b : Bool) (p : Addr) (xs : List V) (i : Int) (v : V), x = .ref p ∧ y = .int i ∧ Sq b K H p xs ∧ atI xs i = some v ∧ Q v H
theorem kix_any {X : Cx} (K : PySem.W.Frag) (h : X.K = K) : IxR X (rIxAny K) := by
  subst h
  intro value slice pins s σ H x y v u Q I rx ry h hs
  rcases h with h | ⟨b, p, xs, i, w, h1, h2, h3, h4, h5⟩
  · exact ix_str value slice pins s σ H x y v u Q I rx ry h hs
  · cases b with
    | true => exact ix_list value slice pins s σ H x y v u Q I rx ry ⟨p, xs, i, w, h1, h2, h3, h4, h5⟩ hs
    | false => exact ix_tup value slice pins s σ H x y v u Q I rx ry ⟨p, xs, i, w, h1, h2, h3, h4, h5⟩ hs
theorem Sq.len {b : Bool} {K : PySem.W.Frag} {H : Hp} {a : Addr} {xs : List V} (h : Sq b K H a xs) : LenV K (.ref a) H xs.length := by
  rcases h.or with h | h
  · exact .inl ⟨xs, h, rfl⟩
  · exact .inr ⟨xs, h, rfl⟩
theorem cut_one {z : Str} {k c : Nat} (h : z.cps.toList[k]? = some c) : cutS z (some (k : Int)) (some ((k : Int) + 1)) = ⟨#[c]⟩ := by
  have hk : k < z.cps.toList.length := (List.getElem?_eq_some_iff.mp h).1
  have hl : z.length = z.cps.toList.length := by show z.cps.size = _; simp
  unfold cutS
  have e1 : HT.sIx z.length 0 (some (k : Int)) = k := by
    rw [HT.sIx_nat]
    omega
  have e2 : HT.sIx z.length z.length (some ((k : Int) + 1)) = k + 1 := by
    have : ((k : Int) + 1) = ((k + 1 : Nat) : Int) := by omega
    rw [this, HT.sIx_nat]
    omega
  rw [e1, e2, show k + 1 - k = 1 by omega]
  have e3 : (z.cps.toList.drop k).take 1 = [c] := by
    have hc : z.cps.toList[k] = c := (List.getElem?_eq_some_iff.mp h).2
    rw [List.drop_eq_getElem_cons hk, hc]
    rfl
  rw [e3]
end RP

set_option Elab.async false
set_option linter.all false
set_option maxRecDepth 100000
set_option maxHeartbeats 2000000
/-! SC: a set comprehension whose items are ints or texts, and len of it. -/
namespace SC
open PySem PySem.Spec PyProof.Rows L2 RP
/-- what a turn of the block leaves: the item added, or nothing -/
def kept (P : Program) (w : World) (Z : Addr) (B : Hp → Prop) : V → Hp → Prop := fun y G => ∃ (k : Key) (S : Key → Bool) (n : Nat), y = kV k ∧ G Z = some (SetK P w Z S n) ∧ n + 1 < scanBound ∧
  B (upd G Z (SetK P w Z (fun j => S j || decide (j = k)) (if S k = true then n else n + 1)))
def turnS (P : Program) (w : World) (J : It) (gt : TG) (ct : TT) (et : TE) (cl : List Nat) (σ : L2.St) (Z : Addr) (Out : Hp → Prop) (V : Nat → Nat → Hp → Prop) : Prop := ∀ i m G, V i m G →
  (J.stop i G ∧ Out G) ∨ (J.go i G ∧ ∃ B : Hp → Prop, (∀ G', B G' → ∃ m', m' < m ∧ V (i + 1) m' G') ∧
    ∀ x G', J.yld i G x G' → gt x (wipe σ cl) G' fun τ G2 => wipe τ cl = wipe σ cl ∧ ct τ G2 fun b G3 => if b = true then et τ G3 (kept P w Z B) else B G3)
/-- {et for gt in src if ct}, Z the set -/
def tKeys (P : Program) (w : World) (src : TI) (gt : TG) (ct : TT) (et : TE) (cl : List Nat) : TE := fun σ H Q =>
  src σ H fun J G => ∀ Z, G Z = none → ∃ V : Nat → Nat → Hp → Prop, (∃ m, V 0 m (upd G Z (SetK P w Z (fun _ => false) 0))) ∧ turnS P w J gt ct et cl σ Z (Q (.ref Z)) V
section
variable {X : Cx} {pins : List (Addr × Obj)} {σ : L2.St} {G : Hp} {t : Shared} {Z : Addr}
theorem laid (I : Inv X pins σ G t) (hZ : t.heap.objs.size = Z) :
    Inv X pins σ (upd G Z (SetK X.prog X.w Z (fun _ => false) 0)) { t with heap := t.heap.push { cls := .type "set", dict := none, data := .set #[] 0 (.fresh 0 0 (!X.w.params.followText "set-order")) } } := by
  subst hZ
  have R : (t.heap.push { cls := .type "set", dict := none, data := .set #[] 0 (.fresh 0 0 (!X.w.params.followText "set-order")) }).SetOf (mixKind X.prog X.w) t.heap.objs.size (fun _ => false) 0 :=
    ⟨_, #[], 0, _, Heap.get?_push_size _ rfl, ⟨rfl, rfl, rfl⟩, rfl, (fun e he => by cases he), (fun k => by simp), by decide, rfl, rfl⟩
  exact I.laid (t' := t.toks) (fun b u e => Heap.get?_push_of_some _ e) (Nat.le_refl _) (setK_new R)
theorem addK {B : Hp → Prop} {y : V} {u : Value} (I : Inv X pins σ G t) (r : RelV y u) (h : kept X.prog X.w Z B y G) :
    wpAny (model X.prog X.w) X.A (call (.builtin "set.add") [.ref Z, u]) (fun _ t' => ∃ G', Inv X pins σ G' t' ∧ B G') X.xe t := by
  obtain ⟨k, S, n, rfl, hz, room, q⟩ := h
  refine wpAny_mono (mt_saddK pins t σ G (.ref Z) [kV k] (.ref Z) [u] (fun _ G' => B G') I rfl (.cons r .nil) ⟨Z, k, S, n, rfl, rfl, hz, room, q⟩) (fun _ t' z => ?_) fun _ _ z => z
  obtain ⟨_, G', I', _, q'⟩ := z
  exact ⟨G', I', q'⟩
end
section
variable {X : Cx}
theorem set_core {pins : List (Addr × Obj)} {s : Shared} {σ : L2.St} {H : Hp} {Q : VK} {el tgt itr : Expr} {cs : List Expr} {sc : Scope} {own : List (PySem.Str × Nat)} {p1 p2 : Pos} {src : TI} {gt : TG} {ct : TT} {et : TE} {use : Option (Value → Sem Unit)} {Qf : Value → Shared → Prop}
    (calm : X.calm = true) (nd : X.N.Nodup) (I : Inv X pins σ H s) (isrc : PI X tgt itr src) (bo : BlkOk X.N X.env.scope sc own)
    (pgt : ∀ (s1 : Shared) (G : Hp) (C : Addr) (ce : List (PySem.Str × Addr)) (fs : List Addr), PG (X.blk s1 G sc (compEnvC sc ce C X.env) fs) tgt gt)
    (pct : ∀ (s1 : Shared) (G : Hp) (C : Addr) (ce : List (PySem.Str × Addr)) (fs : List Addr), PTs (X.blk s1 G sc (compEnvC sc ce C X.env) fs) cs ct)
    (pet : ∀ (s1 : Shared) (G : Hp) (C : Addr) (ce : List (PySem.Str × Addr)) (fs : List Addr), PE (X.blk s1 G sc (compEnvC sc ce C X.env) fs) el et)
    (nf : ∀ x, foldedSetIterable itr X.env x = pure x) (h : tKeys X.prog X.w src gt ct et (own.map Prod.snd) σ H Q)
    (done : ∀ Z C s' m G, Inv X pins σ G s' → Q (.ref Z) G → s'.heap.Ns C m → FpOk X pins G C → compPost (model X.prog X.w) X.A X.xe use Qf (.ref Z) C (.ok .next) s') :
    wpAny (model X.prog X.w) X.A (comprehension (.SetComp el [⟨tgt, itr, cs, 0⟩] sc p1) sc X.env p2 (newSet (.type "set")) false (eval itr X.env) use) Qf X.xe s := by
  have cells : ∀ y ∈ sc.names, y.2 = .free → ∃ c, X.env.cells.lookup y.1 = some c := fun y hy e => (bo.free y hy e).elim (fun z => I.ok.has _ (.inl z)) fun z => I.ok.has _ (.inr z)
  refine wpAny_comprehension_free (use := use) rfl nf (closure_ok cells) bo.kind (fun y hy e => (bo.uniq y hy).trans (congrArg some e)) ?_
  refine thn (isrc.run pins s σ H _ I h) fun xv s1 hx => thn hx fun itv s2 h2 => ?_
  obtain ⟨it, fp, tn, J, G2, eit, I2, Tk, st2, ok2, turns⟩ := h2
  subst eit
  refine PpSet.newSet_ok (newEnv_comp ?_)
  obtain ⟨Z, hZ⟩ : ∃ Z, s2.heap.objs.size = Z := ⟨_, rfl⟩
  rw [hZ]
  obtain ⟨V, ⟨m0, v0⟩, turn⟩ := turns Z (I2.hok.fresh (Nat.le_of_eq hZ))
  have below : ∀ b ∈ fp, b < s2.heap.objs.size := fun b hb => by
    obtain ⟨o, e, _⟩ := Tk.obj _ _ st2 b hb
    exact Heap.lt_size e
  have I3 := laid I2 hZ
  have grown := Heap.size_push s2.heap { cls := .type "set", dict := none, data := .set #[] 0 (.fresh 0 0 (!X.w.params.followText "set-order")) }
  have keep3 : ∀ b o, s2.heap.get? b = some o → (s2.heap.push { cls := .type "set", dict := none, data := .set #[] 0 (.fresh 0 0 (!X.w.params.followText "set-order")) }).get? b = some o := fun b o e => Heap.get?_push_of_some _ e
  generalize hs3 : ({ s2 with heap := s2.heap.push { cls := .type "set", dict := none, data := .set #[] 0 (.fresh 0 0 (!X.w.params.followText "set-order")) } } : Shared) = s3 at I3
  have e3 : s2.heap.push { cls := .type "set", dict := none, data := .set #[] 0 (.fresh 0 0 (!X.w.params.followText "set-order")) } = s3.heap := by rw [← hs3]
  rw [e3] at grown keep3
  have ok3 : ∀ b ∈ fp, FpOk X pins (upd G2 Z (SetK X.prog X.w Z (fun _ => false) 0)) b ∧ b < s3.heap.objs.size := fun b hb => by
    have lt := below b hb
    have ne : b ≠ Z := by rw [← hZ]; exact Nat.ne_of_lt lt
    exact ⟨⟨(upd_ne ne).trans (ok2 b hb).1, (ok2 b hb).2⟩, by rw [grown]; exact Nat.lt_succ_of_lt lt⟩
  have st3 : tn 0 s3.heap := Tk.keep _ _ _ st2 fun b _ o e => keep3 b o e
  generalize upd G2 Z (SetK X.prog X.w Z (fun _ => false) 0) = G3 at I3 v0 ok3
  have I4 := block_start I3 bo nd ok3
  have g1 := pgt s3 G3 s3.heap.objs.size (cellsFrom (s3.heap.objs.size + 1) sc.names (cloFrom X.env.cells sc.names [])) fp
  have g2 := pct s3 G3 s3.heap.objs.size (cellsFrom (s3.heap.objs.size + 1) sc.names (cloFrom X.env.cells sc.names [])) fp
  have g3 := pet s3 G3 s3.heap.objs.size (cellsFrom (s3.heap.objs.size + 1) sc.names (cloFrom X.env.cells sc.names [])) fp
  change codeAny _ _ (.compStart _ 0 (.ref it) (.ref Z) (compEnvC sc (cellsFrom (s3.heap.objs.size + 1) sc.names (cloFrom X.env.cells sc.names [])) s3.heap.objs.size X.env)) (compPost (model X.prog X.w) X.A X.xe use Qf (.ref Z) s3.heap.objs.size) { s3 with heap := pushCells (s3.heap.push { cls := .type "dict", data := .dict #[] }) sc.names }
  obtain ⟨C, hC⟩ : ∃ C, s3.heap.objs.size = C := ⟨_, rfl⟩
  obtain ⟨env2, he2⟩ : ∃ ev, compEnvC sc (cellsFrom (s3.heap.objs.size + 1) sc.names (cloFrom X.env.cells sc.names [])) s3.heap.objs.size X.env = ev := ⟨_, rfl⟩
  have loc : env2.locals = C := by rw [← he2, ← hC]; rfl
  rw [he2] at I4 g1 g2 g3 ⊢
  rw [hC]
  have st4 : tn 0 (pushCells (s3.heap.push { cls := .type "dict", data := .dict #[] }) sc.names) := Tk.keep _ _ _ st3 fun b _ o e => pushCells_keeps _ _ _ _ (Heap.get?_push_of_some _ e)
  generalize hs4 : ({ s3 with heap := pushCells (s3.heap.push { cls := .type "dict", data := .dict #[] }) sc.names } : Shared) = s4 at I4 ⊢
  have st4 : tn 0 s4.heap := by rw [← hs4]; exact st4
  have foot : ∀ {τ : L2.St} {G : Hp} {t : Shared}, Inv (X.blk s3 G3 sc env2 fp) [] τ G t → (∀ b ∈ fp, G b = none) → ∀ b ∈ fp, FpOk (X.blk s3 G3 sc env2 fp) [] G b := fun {τ G t} J' n b hb => by
    have ex := J'.ok.exf b hb
    exact ⟨n b hb, ex.1, J'.ok.exfs b hb, .inl hb, fun x c e => ex.2 x c e, fun p hp => by simp at hp⟩
  have loop : codeAny (model X.prog X.w) X.A (.compLoop (.SetComp el [⟨tgt, itr, cs, 0⟩] sc p1) 0 (.ref it) (.ref Z) env2) (compPost (model X.prog X.w) X.A X.xe use Qf (.ref Z) C) s4 := by
    refine PpSet.compLoopS_any (fun n t => ∃ i G, Inv (X.blk s3 G3 sc env2 fp) [] (wipe σ (own.map Prod.snd)) G t ∧ tn i t.heap ∧ (∀ b ∈ fp, G b = none) ∧ V i n G) ?_ m0 ⟨0, G3, I4, st4, fun b hb => (ok3 b hb).1.1, v0⟩
    rintro n t ⟨i, G, J5, st5, n5, v5⟩
    rcases turn i n G v5 with ⟨stop, out⟩ | ⟨go, B, next, step⟩
    · refine thnF (Tk.done (X.blk s3 G3 sc env2 fp) rfl rfl rfl calm i [] t _ G (fun _ _ => False) J5 (foot J5 n5) st5 stop) fun r t6 ⟨hr, J6⟩ => ?_
      subst hr
      have nC : G C = none := by
        have z : G env2.locals = none := J6.free
        exact loc ▸ z
      have back : Inv X pins σ G t6 := I3.call' (ch := fp) J6.os J6.base J6.hok J6.bare fun b hb => by
        obtain ⟨_, q1, q2, q3, q4, q5⟩ := (ok3 b hb).1
        exact ⟨q3, q1, q4, q5⟩
      obtain ⟨m, hn, _⟩ := J6.loc
      exact done Z C t6 m G back out (loc ▸ hn) (I3.fpOk (Nat.le_of_eq hC) nC)
    · refine thnF (Tk.item (X.blk s3 G3 sc env2 fp) rfl rfl rfl calm i [] t _ G (fun _ _ => False) J5 (foot J5 n5) st5 go) fun r t6 ⟨u, hr, h6⟩ => ?_
      subst hr
      refine thnF h6 fun _ t7 ⟨x, G7, J7, r7, y7, st7, n7⟩ => ?_
      have J7p := J7.pinned (foot J7 n7) (Tk.obj _ _ st7)
      refine thnF (g1.run _ t7 _ G7 x u _ J7p r7 (step x G7 y7)) fun _ t8 ⟨σ8, G8, J8, wp, q8⟩ => thnF (g2.run _ t8 σ8 G8 _ J8 q8) fun b t9 ⟨G9, J9, q9⟩ => ?_
      have again : ∀ {t' : Shared} {G' : Hp}, Inv (X.blk s3 G3 sc env2 fp) ([] ++ pinsAt fp t7.heap) σ8 G' t' → B G' → ∃ m, m < n ∧ ∃ i G, Inv (X.blk s3 G3 sc env2 fp) [] (wipe σ (own.map Prod.snd)) G t' ∧ tn i t'.heap ∧ (∀ b ∈ fp, G b = none) ∧ V i m G := fun {t' G'} J' nx => by
        obtain ⟨m', hm, v'⟩ := next G' nx
        have held : ∀ b ∈ fp, ∀ o, t7.heap.get? b = some o → t'.heap.get? b = some o ∧ G' b = none := fun b hb o e => by
          have z := J'.pin (b, o) (List.mem_append_right _ (List.mem_append_right _ (mem_pinsAt hb e)))
          exact ⟨z.1, z.2.1⟩
        refine ⟨m', hm, i + 1, G', (J'.unpinned (pins := [])).weak (by rw [← wp, wipe_length]) (fun j v e => (wipe_some (wp ▸ e)).1), Tk.keep _ _ _ st7 fun b hb o e => (held b hb o e).1, fun b hb => ?_, v'⟩
        obtain ⟨o, e, _⟩ := Tk.obj _ _ st7 b hb
        exact (held b hb o e).2
      cases b with
      | false => exact again J9 q9
      | true => exact thnF (g3.run _ t9 σ8 G9 _ J9 q9) fun z t10 ⟨yv, G10, J10, r10, kp⟩ => thnF (addK (X := X.blk s3 G3 sc env2 fp) J10 r10 kp) fun _ t11 ⟨G11, J11, nx⟩ => again J11 nx
  exact PpSet.codeAny_compStart_set loop (Tk.self X.A 0 _ _ _ st4 loop)
/-- as a value -/
theorem pe_setc {el tgt itr : Expr} {cs : List Expr} {sc : Scope} {own : List (PySem.Str × Nat)} {p1 : Pos} {src : TI} {gt : TG} {ct : TT} {et : TE} (calm : X.calm = true) (nd : X.N.Nodup) (isrc : PI X tgt itr src) (bo : BlkOk X.N X.env.scope sc own)
    (pgt : ∀ (s1 : Shared) (G : Hp) (C : Addr) (ce : List (PySem.Str × Addr)) (fs : List Addr), PG (X.blk s1 G sc (compEnvC sc ce C X.env) fs) tgt gt)
    (pct : ∀ (s1 : Shared) (G : Hp) (C : Addr) (ce : List (PySem.Str × Addr)) (fs : List Addr), PTs (X.blk s1 G sc (compEnvC sc ce C X.env) fs) cs ct)
    (pet : ∀ (s1 : Shared) (G : Hp) (C : Addr) (ce : List (PySem.Str × Addr)) (fs : List Addr), PE (X.blk s1 G sc (compEnvC sc ce C X.env) fs) el et)
    (nf : ∀ x, foldedSetIterable itr X.env x = pure x := by intro _; rfl) : PE X (.SetComp el [⟨tgt, itr, cs, 0⟩] sc p1) (tKeys X.prog X.w src gt ct et (own.map Prod.snd)) := by
  refine ⟨fun pins s σ H Q I h => ?_⟩
  rw [PpSet.eval_SetComp]
  refine set_core calm nd I isrc bo pgt pct pet nf h fun Z C s' m G I' q hn f => ⟨m, hn, fun h2 sb => ?_⟩
  obtain ⟨f0, f1, _, f3, f4, f5⟩ := f
  exact ⟨.ref Z, G, I'.turned (t' := s'.toks) (fun b o hb e => (sb.2 b hb).trans e) f0 f1 f3 f4 f5, rfl, q⟩
end
/-! ### len of a set of keys -/
def rLenK (P : Program) (w : World) : List V → Hp → VK → Prop := fun xs H Q => ∃ (a : Addr) (S : Key → Bool) (n : Nat), xs = [.ref a] ∧ H a = some (SetK P w a S n) ∧ Q (.int (n : Nat)) H
theorem call_lenK {X : Cx} : CallR X (.builtin "len") (rLenK X.prog X.w) := by
  intro pins s σ H xs us Q I r h
  obtain ⟨a, S, n, rfl, ha, q⟩ := h
  cases r with
  | cons r1 t =>
    cases t
    cases r1
    obtain ⟨o, es, ep, t, ho, hex, hd, _, _, hb, hf, hn⟩ := setK_get I ha
    refine call_len_set ho hex hd hf (by unfold scanBound at hb; omega) ⟨.int (n : Nat), H, (I.tok _).tok _, ⟨_, by rw [hn]⟩, q⟩
/-! ### the members of a list, one by one -/
/-- how many differ among the first n -/
def diff {α : Type} [DecidableEq α] : List α → Nat
  | [] => 0
  | x :: r => if x ∈ r then diff r else diff r + 1
theorem diff_le {α : Type} [DecidableEq α] : ∀ l : List α, diff l ≤ l.length
  | [] => Nat.le_refl 0
  | x :: r => by
    have ih := diff_le r
    show (if x ∈ r then diff r else diff r + 1) ≤ r.length + 1
    split <;> omega
theorem diff_old {α : Type} [DecidableEq α] {x : α} {r : List α} (h : x ∈ r) : diff (x :: r) = diff r := by
  show (if x ∈ r then diff r else diff r + 1) = _
  rw [if_pos h]
theorem diff_new {α : Type} [DecidableEq α] {x : α} {r : List α} (h : x ∉ r) : diff (x :: r) = diff r + 1 := by
  show (if x ∈ r then diff r else diff r + 1) = _
  rw [if_neg h]
theorem diff_nodup {α : Type} [DecidableEq α] : ∀ l : List α, diff l = l.length ↔ l.Nodup
  | [] => by simp [diff]
  | x :: r => by
    have ih := diff_nodup r
    have le := diff_le r
    show (if x ∈ r then diff r else diff r + 1) = r.length + 1 ↔ _
    rw [List.nodup_cons]
    split
    · next h => exact ⟨fun e => by omega, fun e => absurd h e.1⟩
    · next h => exact ⟨fun e => ⟨h, ih.mp (by omega)⟩, fun e => by rw [ih.mpr e.2]⟩
section
variable {P : Program} {w : World} {J : It} {n : Nat} {Gd : Hp → Prop} {Y : Nat → Hp → V → Hp → Prop} {g : TG} {tt : TT} {te : TE} {vs : List Nat} {σ : L2.St} {H1 : Hp} {L : Addr} {Out : Hp → Prop}
/-- every item's key is told by f -/
theorem sc_vals (wk : Walk J n Gd Y) (f : Nat → Key) (hL : H1 L = none) (hn : n ≤ 1000) (hG : ∀ H, Same H1 H → Gd H)
    (hs : ∀ i x H H' (Y2 : V → Hp → Prop) (N2 : Hp → Prop), i < n → Same H1 H → Y i H x H' → (∀ H4, Same H H4 → Y2 (kV (f i)) H4) →
      g x (wipe σ vs) H' fun σ2 H2 => wipe σ2 vs = wipe σ vs ∧ tt σ2 H2 fun b H3 => if b = true then te σ2 H3 Y2 else N2 H3)
    (hd : ∀ H S, Same H1 H → H L = some (SetK P w L S (diff ((List.range n).map f).reverse)) → (∀ k, S k = true ↔ k ∈ (List.range n).map f) → Out H) :
    ∃ V : Nat → Nat → Hp → Prop, (∃ m, V 0 m (upd H1 L (SetK P w L (fun _ => false) 0))) ∧ turnS P w J g tt te vs σ L Out V := by
  refine ⟨fun i m H => m = n - i ∧ i ≤ n ∧ Same H1 H ∧ ∃ S, H L = some (SetK P w L S (diff ((List.range i).map f).reverse)) ∧ ∀ k, S k = true ↔ k ∈ (List.range i).map f, ⟨n, by omega, Nat.zero_le _, same_new hL, _, upd_same, fun k => by simp⟩, ?_⟩
  rintro i m H ⟨rfl, hi, s, S, hS, hk⟩
  by_cases lt : i < n
  · refine .inr ⟨wk.goes i H lt (hG H s), fun H' => i + 1 ≤ n ∧ Same H1 H' ∧ ∃ S, H' L = some (SetK P w L S (diff ((List.range (i + 1)).map f).reverse)) ∧ ∀ k, S k = true ↔ k ∈ (List.range (i + 1)).map f, fun H' ⟨h1, h2, h3⟩ => ⟨n - (i + 1), by omega, rfl, h1, h2, h3⟩, fun x H' y => ?_⟩
    refine hs i x H H' _ _ lt s (wk.yields i H x H' lt (hG H s) y) fun H4 s4 => ?_
    have le : diff ((List.range i).map f).reverse ≤ i := by
      have h := diff_le ((List.range i).map f).reverse
      rw [List.length_reverse, List.length_map, List.length_range] at h
      exact h
    refine ⟨f i, S, _, rfl, s4 _ _ hS, by unfold scanBound; omega, lt, (s.trans s4).skip hL, fun j => S j || decide (j = f i), ?_, fun k => ?_⟩
    · rw [upd_same]
      congr 2
      rw [List.range_succ, List.map_append, List.map_singleton, List.reverse_append, List.reverse_singleton]
      by_cases q : f i ∈ (List.range i).map f
      · rw [if_pos ((hk _).mpr q)]
        exact (diff_old (List.mem_reverse.mpr q)).symm
      · rw [if_neg (fun z => q ((hk _).mp z))]
        exact (diff_new (fun z => q (List.mem_reverse.mp z))).symm
    · rw [List.range_succ, List.map_append, List.map_singleton, List.mem_append, List.mem_singleton, Bool.or_eq_true, decide_eq_true_eq, hk k]
  · obtain rfl : i = n := by omega
    exact .inl ⟨wk.stops H (hG H s), hd H S s hS hk⟩
end
end SC

set_option Elab.async false
set_option linter.all false
set_option maxRecDepth 100000
set_option maxHeartbeats 1000000
namespace RP
open PySem PySem.Spec PyProof.Rows L2
/-- the items of a list or a tuple -/
def D.seq : D → Option (List D)
  | .lst l => some l
  | .tup l => some l
  | _ => none
theorem Rep.seq {K : PySem.W.Frag} {H : Hp} {v : V} {d : D} (r : Rep K H v d) : (d.seq = none ∧ (d.isa "list" || d.isa "tuple") = false) ∨ ∃ b a xs l, v = .ref a ∧ Sq b K H a xs ∧ Reps K H xs l ∧ d.seq = some l ∧ (d.isa "list" || d.isa "tuple") = true := by
  cases r with
  | lst h r => exact .inr ⟨true, _, _, _, rfl, h, r, rfl, rfl⟩
  | tup h r => exact .inr ⟨false, _, _, _, rfl, h, r, rfl, rfl⟩
  | _ => exact .inl ⟨rfl, rfl⟩
end RP
namespace K89
open PySem PySem.Spec PyProof.Rows L2 RP
theorem whole_int {d : D} {lo hi : Int} (h : d.whole lo hi = true) : ∃ i, d = .int i ∧ lo ≤ i ∧ i ≤ hi := by
  cases d with
  | int i =>
    have h2 := Bool.and_eq_true_iff.mp (show (decide (lo ≤ i) && decide (i ≤ hi)) = true from h)
    exact ⟨i, rfl, of_decide_eq_true h2.1, of_decide_eq_true h2.2⟩
  | _ => cases h
theorem name_str {d : D} (h : d.name = true) : ∃ z, d = .str z ∧ okName z = true := by
  cases d with
  | str z => exact ⟨z, rfl, h⟩
  | _ => cases h
def _root_.RP.D.house (d : D) : Bool := match d with
  | .tup [n, x] => n.name && x.whole 4 60
  | _ => false
theorem house_tup {ds : List D} (h : ds.length ≠ 2) : (D.tup ds).house = false := by
  match ds, h with
  | [], _ => rfl
  | [_], _ => rfl
  | [_, _], h => exact absurd rfl h
  | _ :: _ :: _ :: _, _ => rfl
/-- a house's name and length -/
def hD (e : Str × Int) : D := .tup [.str e.1, .int e.2]
theorem house_of {d : D} (h : d.house = true) : ∃ e : Str × Int, d = hD e ∧ okName e.1 = true ∧ 4 ≤ e.2 ∧ e.2 ≤ 60 := by
  cases d with
  | tup ds =>
    match ds, h with
    | [n, x], h =>
      have h2 := Bool.and_eq_true_iff.mp (show (n.name && x.whole 4 60) = true from h)
      obtain ⟨z, rfl, hz⟩ := name_str h2.1
      obtain ⟨i, rfl, h3, h4⟩ := whole_int h2.2
      exact ⟨(z, i), rfl, hz, h3, h4⟩
  | _ => cases h
def hnm (d : D) : Str := match d with
  | .tup (.str z :: _) => z
  | _ => ""
def _root_.RP.D.houses (d : D) : Bool := match d.seq with
  | some l => (decide (1 ≤ l.length) && decide (l.length ≤ 3)) && (l.all D.house && decide ((l.map hnm).Nodup))
  | none => false
theorem houses_none {d : D} (h : d.seq = none) : d.houses = false := by
  unfold D.houses
  rw [h]
theorem houses_some {d : D} {l : List D} (h : d.seq = some l) : d.houses = ((decide (1 ≤ l.length) && decide (l.length ≤ 3)) && (l.all D.house && decide ((l.map hnm).Nodup))) := by
  unfold D.houses
  rw [h]
theorem houses_bad {d : D} {l : List D} (h : d.seq = some l) {i : Nat} {x : D} (hx : l[i]? = some x) (hb : x.house = false) : d.houses = false := by
  rw [houses_some h]
  have e : l.all D.house = false := by
    cases q : l.all D.house with
    | false => rfl
    | true =>
      have := List.all_eq_true.mp q x (List.mem_of_getElem? hx)
      rw [hb] at this
      cases this
  rw [e, Bool.false_and, Bool.and_false]
section
variable {P : Program} {w : World} {K : PySem.W.Frag} {mg : Str → Option Value} {base : Heap}
/-! ### are_houses -/
theorem sc_are_houses : FnScope ["thing", "house", "names", "name"] ["thing"] (defScope s_are_houses) := ⟨rfl, rfl, rfl, by decide +kernel, rfl, by decide +kernel, by decide +kernel⟩
def spHouses (K : PySem.W.Frag) : Sp := fun vs H Q _ => ∃ (v : V) (d : D), vs = [v] ∧ Rep K H v d ∧ ∀ H', Same H H' → Q (.bl d.houses) H'
theorem ok_are_houses (T : Txt K mg) (G_is_whole : Def P w K mg base 1 "is_whole" ["thing", "low", "high"] (spWhole K)) (G_is_name : Def P w K mg base 1 "is_name" ["thing"] (spName K)) : Def P w K mg base 3 "are_houses" ["thing"] (spHouses K) := by
  obtain ⟨f, fd, F⟩ := T.a_are_houses
  refine Def.mk F sc_are_houses (fun _ _ _ _ _ _ us hl => match us, hl with | [_], _ => rfl) (fun vs H Q E h => ?_) (fun cdv A outer s H vs Q E hr h => ?_)
  · obtain ⟨v, d, rfl, _⟩ := h
    rfl
  · obtain ⟨v, d, rfl, hv, hq⟩ := h
    refine ⟨_, (pss_cons (ps_if (PW.pt (pw_or (pt_not (pt_val (pe_callB (kcall_isLT K rfl) (by rfl) T.b_isinstance (by decide +kernel) (pa_cons (pv 0) (pa_cons (pe_tup (pa_cons (pe_bltn (v := .ty "list") (by rfl) T.b_list (by decide +kernel) rfl) (pa_cons (pe_bltn (v := .ty "tuple") (by rfl) T.b_tuple (by decide +kernel) rfl) pa_nil))) pa_nil))))) (pw_or1 (pt_not (pt_chain op_le op_le pe_int (pe_callB (kcall_len_seq K rfl) (by rfl) T.b_len (by decide +kernel) (pa_cons (pv 0) pa_nil)) (pe_gi (by rfl) T.c_MOST_HOUSES)))))) (pss_one (ps_ret pe_bl)) pss_nil)
      (pss_cons (ps_for (passes_of rfl) rfl (kpi_seq K rfl (pv 0)) (pg_name (i := 1) sc_are_houses.nd rfl (Or.inl rfl))
        (pss_cons (ps_if (PW.pt (pw_or (pt_not (pt_val (pe_callB (kcall_is K rfl) (by rfl) T.b_isinstance (by decide +kernel) (pa_cons (pv 1) (pa_cons (pe_bltn (v := .ty "tuple") (by rfl) T.b_tuple (by decide +kernel) rfl) pa_nil))))) (pw_or (pt_cmpR op_ne (pe_callB (kcall_len_seq K rfl) (by rfl) T.b_len (by decide +kernel) (pa_cons (pv 1) pa_nil)) pe_int (nomark _)) (pw_or1 (pt_not (pt_val (pe_d G_is_name (hr.mono (by decide)) (by rfl) (pa_cons (pe_ix (kix_tup K rfl) (pv 1) pe_int (fun _ _ => rfl)) pa_nil)))))))) (pss_one (ps_ret pe_bl)) pss_nil)
      (pss_one (ps_if (pt_not (pt_val (pe_d G_is_whole (hr.mono (by decide)) (by rfl) (pa_cons (pe_ix (kix_tup K rfl) (pv 1) pe_int (fun _ _ => rfl)) (pa_cons (pe_gi (by rfl) T.c_LEAST_LENGTH) (pa_cons (pe_gi (by rfl) T.c_MOST_LENGTH) pa_nil)))))) (pss_one (ps_ret pe_bl)) pss_nil))))
      (pss_cons (ps_setLc (i := 2) (own := [("house", 1)]) rfl sc_are_houses.nd rfl rfl (sw_true rfl rfl rfl (by decide +kernel)) (kpi_seq K rfl (pv 0)) (blkOk_by (own := [("house", 1)]) (N := ["thing", "house", "names", "name"]) (sc := defScope s_are_houses) (by decide +kernel)) (fun _ _ _ _ _ => (pg_name (i := 1) sc_are_houses.nd rfl (Or.inl rfl))) (fun _ _ _ _ _ => pts_nil) (fun _ _ _ _ _ => (pe_ix (kix_tup K rfl) (pv 1) pe_int (fun _ _ => rfl))))
      (pss_one (ps_ret (pe_cmpR op_eq (pe_callB (kcall_len_seq K rfl) (by rfl) T.b_len (by decide +kernel) (pa_cons (pv 2) pa_nil)) (pe_callB SC.call_lenK (by rfl) T.b_len (by decide +kernel) (pa_cons (SC.pe_setc (own := [("name", 3)]) rfl sc_are_houses.nd (kpi_list K rfl (pv 2)) (blkOk_by (own := [("name", 3)]) (N := ["thing", "house", "names", "name"]) (sc := defScope s_are_houses) (by decide +kernel)) (fun _ _ _ _ _ => (pg_name (i := 3) sc_are_houses.nd rfl (Or.inl rfl))) (fun _ _ _ _ _ => pts_nil) (fun _ _ _ _ _ => (pv 3))) pa_nil)) (nomark _))))))), ?_⟩
    refine ⟨_, rfl, (show 2 ≤ sizeLine by decide), fun p hp => rd_isiLT hv hp ⟨_, rfl, ?_⟩⟩
    have s1 : Same H (upd H p (.tup [.ty "list", .ty "tuple"])) := same_new hp
    generalize upd H p (.tup [.ty "list", .ty "tuple"]) = H1 at s1 ⊢
    rcases hv.seq with ⟨e1, e2⟩ | ⟨b, a, xs, l, rfl, hS, hr', e1, e2⟩
    · rw [e2]
      have z := hq H1 s1
      rw [houses_none e1] at z
      exact iteT (iteT z)
    · rw [e2]
      have hS1 := hS.mono (Lq.of s1)
      have r1 := hr'.same s1
      have hl := hr'.len
      refine iteF ⟨_, rfl, a, xs, rfl, hS1.or, _, _, rfl, rfl, _, rfl, ?_⟩
      show if decide ((1 : Int) ≤ (xs.length : Int)) = true then _ else _
      have short : ¬ (1 ≤ l.length ∧ l.length ≤ 3) → d.houses = false := fun h => by
        rw [houses_some e1]
        by_cases h1 : 1 ≤ l.length
        · rw [decide_eq_false (fun h3 => h ⟨h1, h3⟩), Bool.and_false, Bool.false_and]
        · rw [decide_eq_false h1, Bool.false_and, Bool.false_and]
      refine ite_dec (fun c1 => ⟨_, _, rfl, rfl, _, rfl, ?_⟩) (fun c1 => ⟨_, rfl, iteT ?_⟩)
      · show if (!decide ((xs.length : Int) ≤ 3)) = true then _ else _
        refine ite_dec (fun c2 => ?_) (fun c2 => ?_)
        · refine (?_ : Q (.bl false) H1)
          have z := hq H1 s1
          rw [short (fun h => by simp at c2; omega)] at z
          exact z
        · have q1 : 1 ≤ l.length := by have := of_decide_eq_true c1; omega
          have q2 : l.length ≤ 3 := by simp at c2; omega
          have bad : ∀ {i : Nat} {x : D} {H' : Hp}, l[i]? = some x → x.house = false → Same H1 H' → Q (.bl false) H' := fun {i x H'} h1 h2 s => by
            have z := hq H' (s1.trans s)
            rw [houses_bad e1 h1 h2] at z
            exact z
          refine ⟨_, rfl, a, b, rfl, ⟨_, hS1⟩, ?_⟩
          refine for_it (w := walk_seq) (fun i σ H' => ∃ (o1 o2 o3 : Option V), σ = [some (.ref a), o1, o2, o3] ∧ (∀ x ∈ l.take i, x.house = true) ∧ Same H1 H')
            ⟨none, none, none, rfl, (fun x hx => by cases hx), Same.refl _⟩ (fun i σ H' _ ⟨_, _, _, _, _, s⟩ => hS1.mono (Lq.of s)) ?_ ?_
          · rintro i x σ H2 H3 hi ⟨o1, o2, o3, rfl, hall, s2⟩ ⟨rfl, hx⟩
            obtain ⟨y, hy, ry⟩ := r1.get hx
            have ry2 := ry.same s2
            refine ⟨_, rfl, rd_isi ry2 ⟨_, rfl, ?_⟩⟩
            cases y with
            | tup ds =>
              cases ry2 with
              | @tup c ys _ hT rT =>
              refine iteF ⟨_, rfl, c, ys, rfl, .inr hT, rfl, _, rfl, ?_⟩
              rcases two_of rT with ⟨n, len, vn, vl, rfl, rfl, rn, rl⟩ | hne
              · refine iteF ⟨_, rfl, c, _, 0, _, rfl, rfl, hT, rfl, vn, n, rfl, rn, fun H4 s4 => ⟨_, rfl, ?_⟩⟩
                show if (!n.name) = true then _ else _
                cases c3 : n.name with
                | false =>
                  refine bad hy ?_ (s2.trans s4)
                  show (n.name && len.whole 4 60) = false
                  rw [c3]
                  rfl
                | true =>
                  refine iteF ⟨_, rfl, c, _, 1, _, rfl, rfl, (Lq.of s4).tup hT, rfl, vl, len, 4, 60, rfl, rl.same s4, _, rfl, ?_⟩
                  show if (!len.whole 4 60) = true then _ else _
                  cases c4 : len.whole 4 60 with
                  | false =>
                    refine bad hy ?_ (s2.trans s4)
                    show (n.name && len.whole 4 60) = false
                    rw [c4, Bool.and_false]
                  | true =>
                    refine iteF ⟨_, _, _, rfl, fun x hx => ?_, s2.trans s4⟩
                    rw [take_next hy] at hx
                    rcases List.mem_append.mp hx with hx | hx
                    · exact hall x hx
                    · rw [List.mem_singleton.mp hx]
                      show (n.name && len.whole 4 60) = true
                      rw [c3, c4]
                      rfl
              · have e : decide (V.int ((ys.length : Nat) : Int) = V.int 2) = false := decide_eq_false fun q => hne (by injection q with q; omega)
                show if (!decide (V.int ((ys.length : Nat) : Int) = V.int 2)) = true then _ else _
                rw [e]
                exact iteT (bad hy (house_tup (by rw [← rT.len]; exact hne)) s2)
            | _ => exact iteT (iteT (bad hy rfl s2))
          · rintro σ H2 ⟨o1, o2, o3, rfl, hall, s2⟩
            rw [hl, List.take_length] at hall
            have r2 := r1.same s2
            have nm : ∀ i, i < l.length → ∃ (e : Str × Int) (c : Addr), l[i]? = some (hD e) ∧ xs[i]? = some (.ref c) ∧ SqT K H2 c [.str e.1, .int e.2] := fun i hi => by
              obtain ⟨e, he, _⟩ := house_of (hall l[i] (List.getElem_mem hi))
              have h1 : l[i]? = some (hD e) := by rw [List.getElem?_eq_getElem hi, he]
              obtain ⟨v, h2, h3⟩ := r2.at h1
              cases h3 with
              | tup hT rT =>
                cases rT with
                | cons q1 t =>
                  cases q1
                  cases t with
                  | cons q2 t =>
                    cases q2
                    cases t
                    exact ⟨e, _, h1, h2, hT⟩
            refine ⟨_, rfl, a, b, rfl, ⟨_, hS1.mono (Lq.of s2)⟩, fun L hL => ?_⟩
            refine lc_vals (w := walk_seq) (fun i => l[i]?.map fun d => V.str (hnm d)) hL (by omega) (fun H' s => (hS1.mono (Lq.of s2)).mono (Lq.of s)) ?_ ?_
            · rintro i x H3 H4 Y2 N2 hi s3 hnL ⟨rfl, hx⟩ k1 k2
              obtain ⟨e, c, h1, h2, h3⟩ := nm i (by omega)
              rw [h2] at hx
              cases hx
              exact ⟨rfl, ⟨_, rfl, c, _, 0, _, rfl, rfl, (Lq.of s3).tup h3, rfl, k1 _ _ (by rw [h1]; rfl) (Same.refl _)⟩⟩
            · intro H3 s3 h3
              rw [show xs.length = l.length from hl, range_all] at h3
              have hlen : (l.map fun d => V.str (hnm d)).length = l.length := List.length_map ..
              refine ⟨_, rfl, L, _, rfl, .inl (SqL.of h3), _, rfl, L, rfl, ⟨_, SqL.of h3⟩, fun Z hZ => ?_⟩
              refine SC.sc_vals (P := P) (w := w) (wk := walk_list) (fun i => .inr (hnm (l.getD i .non))) hZ (by omega) (fun H' s => SqL.of (s _ _ h3)) ?_ ?_
              · rintro i x H4 H5 Y2 N2 hi s4 ⟨rfl, hx⟩ k1
                rw [List.getElem?_map] at hx
                obtain ⟨d, hd, rfl⟩ := Option.map_eq_some_iff.mp hx
                refine ⟨rfl, ⟨_, rfl, ?_⟩⟩
                have e : l.getD i .non = d := by rw [List.getD_eq_getElem?_getD, hd]; rfl
                have z := k1 _ (Same.refl _)
                rw [e] at z
                exact z
              · intro H4 S s4 h4 _
                refine ⟨Z, S, _, rfl, h4, rfl, ?_⟩
                rw [hlen]
                have z := hq H4 (s1.trans (s2.trans (s3.trans s4)))
                have ek : ((List.range l.length).map fun i => (Sum.inr (hnm (l.getD i .non)) : Key)) = (l.map hnm).map Sum.inr := by
                  refine List.ext_getElem (by simp) fun i h1 h2 => ?_
                  have h3 : i < l.length := by simpa using h1
                  simp [h3]
                have ed : decide (V.int ((l.length : Nat) : Int) = V.int ((SC.diff ((List.range l.length).map fun i => (Sum.inr (hnm (l.getD i .non)) : Key)).reverse : Nat) : Int)) = d.houses := by
                  rw [houses_some e1, decide_eq_true q1, decide_eq_true q2, List.all_eq_true.mpr hall, ek]
                  show _ = decide _
                  refine decide_eq_decide.mpr ?_
                  have dn := SC.diff_nodup (((l.map hnm).map (Sum.inr : Str → Key)).reverse)
                  have hn : (((l.map hnm).map (Sum.inr : Str → Key)).reverse).Nodup ↔ (l.map hnm).Nodup := by
                    rw [(List.reverse_perm _).nodup_iff]
                    unfold List.Nodup
                    rw [List.pairwise_map]
                    exact ⟨fun h => h.imp fun q e => q (by rw [e]), fun h => h.imp fun q e => q (by injection e)⟩
                  rw [← hn, ← dn, List.length_reverse, List.length_map, List.length_map]
                  exact ⟨fun q => by injection q with q; omega, fun q => by rw [q]⟩
                rw [← ed] at z
                exact z
      · refine (?_ : Q (.bl false) H1)
        have z := hq H1 s1
        rw [short (fun h => by simp at c1; omega)] at z
        exact z
/-! ### are_promises -/
theorem sc_are_promises : FnScope ["thing", "name", "promise"] ["thing"] (defScope s_are_promises) := ⟨rfl, rfl, rfl, by decide +kernel, rfl, by decide +kernel, by decide +kernel⟩
def _root_.RP.D.proms (d : D) : Bool := match d with
  | .dct l => decide (l.length ≤ 7) && l.all fun e => okName e.1 && e.2.whole 0 60
  | _ => false
def spProms (K : PySem.W.Frag) : Sp := fun vs H Q _ => ∃ (R : Hp) (v : V) (d : D), vs = [v] ∧ Same R H ∧ Plain R ∧ Rep K R v d ∧ ∀ H', Same H H' → Q (.bl d.proms) H'
theorem ok_are_promises (T : Txt K mg) (G_is_whole : Def P w K mg base 1 "is_whole" ["thing", "low", "high"] (spWhole K)) (G_is_name : Def P w K mg base 1 "is_name" ["thing"] (spName K)) : Def P w K mg base 3 "are_promises" ["thing"] (spProms K) := by
  obtain ⟨f, fd, F⟩ := T.a_are_promises
  refine Def.mk F sc_are_promises (fun _ _ _ _ _ _ us hl => match us, hl with | [_], _ => rfl) (fun vs H Q E h => ?_) (fun cdv A outer s H vs Q E hr h => ?_)
  · obtain ⟨R, v, d, rfl, _⟩ := h
    rfl
  · obtain ⟨R, v, d, rfl, sR, pR, hv, hq⟩ := h
    refine ⟨_, (pss_cons (ps_if (PW.pt (pw_or (pt_not (pt_val (pe_callB (kcall_is K rfl) (by rfl) T.b_isinstance (by decide +kernel) (pa_cons (pv 0) (pa_cons (pe_bltn (v := .ty "dict") (by rfl) T.b_dict (by decide +kernel) rfl) pa_nil))))) (pw_or1 (pt_cmpR op_gt (pe_callB call_lenD (by rfl) T.b_len (by decide +kernel) (pa_cons (pv 0) pa_nil)) (pe_gi (by rfl) T.c_MOST_PLACED) (nomark _))))) (pss_one (ps_ret pe_bl)) pss_nil)
      (pss_one (ps_ret (pe_callB (kcr_all K rfl rfl) (by rfl) T.b_all (by decide +kernel) (pa_cons (pe_lock (pe_lc (own := [("name", 1), ("promise", 2)]) rfl sc_are_promises.nd (pi_items (pv 0)) (blkOk_by (own := [("name", 1), ("promise", 2)]) (N := ["thing", "name", "promise"]) (sc := defScope s_are_promises) (by decide +kernel)) (fun _ _ _ _ _ => (kpg_tup K rfl (n := 2) rfl (pgs_cons (pg_name (i := 1) sc_are_promises.nd rfl (Or.inl rfl)) (pgs_cons (pg_name (i := 2) sc_are_promises.nd rfl (Or.inl rfl)) pgs_nil)))) (fun _ _ _ _ _ => pts_nil) (fun _ _ _ _ _ => (pe_and (pe_d G_is_name (hr.mono (by decide)) (by rfl) (pa_cons (pv 1) pa_nil)) (pe_one (pe_d G_is_whole (hr.mono (by decide)) (by rfl) (pa_cons (pv 2) (pa_cons pe_int (pa_cons (pe_gi (by rfl) T.c_MOST_LENGTH) pa_nil))))))))) pa_nil))))), ?_⟩
    refine ⟨_, rfl, rd_isi (hv.same sR) ⟨_, rfl, ?_⟩⟩
    cases d with
    | dct l =>
      cases hv with
      | @dct a kvs _ hk rk =>
      have hH : H a = some (.dK kvs) := sR _ _ (pR.rd hk)
      have hl := rk.len
      refine iteF ⟨_, rfl, a, kvs, rfl, hH, _, _, rfl, rfl, _, rfl, ?_⟩
      show if decide ((7 : Int) < (kvs.length : Int)) = true then _ else _
      refine ite_dec (fun c1 => ?_) (fun c1 => ?_)
      · refine (?_ : Q (.bl false) H)
        have e : (D.dct l).proms = false := by
          have q : ¬ l.length ≤ 7 := by
            have := of_decide_eq_true c1
            omega
          show (decide (l.length ≤ 7) && _) = false
          rw [decide_eq_false q, Bool.false_and]
        rw [e] at hq
        exact hq H (Same.refl H)
      · have hl7 : l.length ≤ 7 := by
          have := of_decide_eq_false c1
          omega
        refine ⟨a, .dK kvs, hH, True.intro, fun od => ⟨_, rfl, a, od, kvs, rfl, upd_same, fun L hL => ?_⟩⟩
        have La : L ≠ a := fun e => by
          rw [e, upd_same] at hL
          cases hL
        refine lc_vals (w := walk_items) (fun i => l[i]?.map fun e => V.bl (okName e.1 && e.2.whole 0 60)) hL (by omega) (fun H' s => s _ _ upd_same) ?_ ?_
        · rintro i x H2 H3 Y2 N2 hi s2 hnL ⟨t, kx, vx, rfl, ht, rfl, hkx, hvx⟩ k1 k2
          obtain ⟨ky, hky, rfl⟩ := Option.map_eq_some_iff.mp hkx
          obtain ⟨kz, hkz, rfl⟩ := Option.map_eq_some_iff.mp hvx
          rw [hky] at hkz
          cases hkz
          obtain ⟨k, z⟩ := ky
          obtain ⟨x, d, hd, rfl, hx, rz⟩ := rk.get hky
          have lq : Lq R (upd H2 t (.tup [.str x, z])) := ((Lq.of sR).lock hH True.intro).trans ((Lq.of s2).trans (Lq.of (same_new ht)))
          have s3 : Same H2 (upd H2 t (.tup [.str x, z])) := same_new ht
          have rz' := rz.mono lq
          refine ⟨t, [.str x, z], rfl, SqT.of upd_same, rfl, _, _, rfl, _, _, rfl, rfl, ?_⟩
          refine ⟨rfl, ⟨_, rfl, .str x, .str x, rfl, .str x hx, fun H4 s4 => ⟨_, rfl, ?_⟩⟩⟩
          have fin : ∀ {b : Bool} {H5 : Hp}, (okName x && d.whole 0 60) = b → Same H4 H5 → Y2 (.bl b) H5 := fun {b H5} e s => k1 _ _ (by rw [hd, ← e]; rfl) (s3.trans (s4.trans s))
          show if okName x = true then _ else _
          cases c2 : okName x with
          | false => exact iteF (fin (by rw [c2]; rfl) (Same.refl _))
          | true => exact iteT ⟨_, rfl, z, d, 0, 60, rfl, rz'.same s4, fin (by rw [c2]; rfl) (Same.refl _)⟩
        · intro H2 s2 h2
          rw [show kvs.length = l.length from hl, range_all] at h2
          refine ⟨s2 _ _ upd_same, L, l.map fun e => okName e.1 && e.2.whole 0 60, rfl, SqL.of (by rw [upd_ne La, h2, List.map_map]; rfl), ?_⟩
          have z := hq _ (Same.unlock hH s2)
          have e : (D.dct l).proms = (l.map fun e => okName e.1 && e.2.whole 0 60).all id := by
            show (decide (l.length ≤ 7) && l.all _) = _
            rw [decide_eq_true hl7, Bool.true_and, List.all_map]
            rfl
          rw [e] at z
          exact z
    | _ => exact iteT (iteT (hq H (Same.refl H)))
/-! ### is_fleet -/
theorem sc_is_fleet : FnScope ["thing"] ["thing"] (defScope s_is_fleet) := ⟨rfl, rfl, rfl, by decide +kernel, rfl, by decide +kernel, by decide +kernel⟩
def _root_.RP.D.fleet (d : D) : Bool := match d with
  | .tup [h, p] => h.houses && p.proms
  | _ => false
theorem fleet_tup {ds : List D} (h : ds.length ≠ 2) : (D.tup ds).fleet = false := by
  match ds, h with
  | [], _ => rfl
  | [_], _ => rfl
  | [_, _], h => exact absurd rfl h
  | _ :: _ :: _ :: _, _ => rfl
def spFleet (K : PySem.W.Frag) : Sp := fun vs H Q _ => ∃ (R : Hp) (v : V) (d : D), vs = [v] ∧ Same R H ∧ Plain R ∧ Rep K R v d ∧ ∀ H', Same H H' → Q (.bl d.fleet) H'
theorem ok_is_fleet (T : Txt K mg) (G_are_houses : Def P w K mg base 3 "are_houses" ["thing"] (spHouses K)) (G_are_promises : Def P w K mg base 3 "are_promises" ["thing"] (spProms K)) : Def P w K mg base 4 "is_fleet" ["thing"] (spFleet K) := by
  obtain ⟨f, fd, F⟩ := T.a_is_fleet
  refine Def.mk F sc_is_fleet (fun _ _ _ _ _ _ us hl => match us, hl with | [_], _ => rfl) (fun vs H Q E h => ?_) (fun cdv A outer s H vs Q E hr h => ?_)
  · obtain ⟨R, v, d, rfl, _⟩ := h
    rfl
  · obtain ⟨R, v, d, rfl, sR, pR, hv, hq⟩ := h
    refine ⟨_, (pss_one (ps_ret (pe_and (pe_callB (kcall_is K rfl) (by rfl) T.b_isinstance (by decide +kernel) (pa_cons (pv 0) (pa_cons (pe_bltn (v := .ty "tuple") (by rfl) T.b_tuple (by decide +kernel) rfl) pa_nil))) (pe_and (pe_cmpR op_eq (pe_callB (kcall_len_seq K rfl) (by rfl) T.b_len (by decide +kernel) (pa_cons (pv 0) pa_nil)) pe_int (nomark _)) (pe_and (pe_d G_are_houses (hr.mono (by decide)) (by rfl) (pa_cons (pe_ix (kix_tup K rfl) (pv 0) pe_int (fun _ _ => rfl)) pa_nil)) (pe_one (pe_d G_are_promises (hr.mono (by decide)) (by rfl) (pa_cons (pe_ix (kix_tup K rfl) (pv 0) pe_int (fun _ _ => rfl)) pa_nil)))))))), ?_⟩
    refine ⟨_, rfl, rd_isi (hv.same sR) ⟨_, rfl, ?_⟩⟩
    cases d with
    | tup ds =>
      cases hv with
      | @tup a xs _ hT rT =>
      have hT1 := (Lq.of sR).tup hT
      refine iteT ⟨_, rfl, a, xs, rfl, .inr hT1, rfl, _, rfl, ?_⟩
      rcases two_of rT with ⟨hs, ps, vh, vp, rfl, rfl, rh, rp⟩ | hne
      · refine iteT ⟨_, rfl, a, _, 0, _, rfl, rfl, hT1, rfl, vh, hs, rfl, rh.same sR, fun H2 s2 => ⟨_, rfl, ?_⟩⟩
        show if hs.houses = true then _ else _
        cases c2 : hs.houses with
        | false =>
          have z := hq H2 s2
          rw [show (D.tup [hs, ps]).fleet = false from by show (hs.houses && ps.proms) = false; rw [c2]; rfl] at z
          exact iteF z
        | true =>
          refine iteT ⟨_, rfl, a, _, 1, _, rfl, rfl, (Lq.of s2).tup hT1, rfl, R, vp, ps, rfl, sR.trans s2, pR, rp, fun H3 s3 => ?_⟩
          have z := hq H3 (s2.trans s3)
          rw [show (D.tup [hs, ps]).fleet = ps.proms from by show (hs.houses && ps.proms) = _; rw [c2]; rfl] at z
          exact z
      · have e : decide (V.int ((xs.length : Nat) : Int) = V.int 2) = false := decide_eq_false fun q => hne (by injection q with q; omega)
        have z := hq H (Same.refl H)
        rw [fleet_tup (by rw [← rT.len]; exact hne)] at z
        show if decide (V.int ((xs.length : Nat) : Int) = V.int 2) = true then _ else _
        rw [e]
        exact iteF z
    | _ => exact iteF (hq H (Same.refl H))
end
end K89

set_option Elab.async false
set_option linter.all false
set_option maxRecDepth 100000
set_option maxHeartbeats 2000000
/-! VL: list(d.values()). -/
namespace VL
open PySem PySem.Spec PyProof.Rows L2 RP
def tListVals (te : TE) : TE := fun σ H Q => te σ H fun x G => ∃ (d : Addr) (kvs : List (Key × V)), x = .ref d ∧ G d = some (.dK kvs) ∧ ∀ l, G l = none → Q (.ref l) (upd G l (.lst (kvs.map Prod.snd)))
theorem pe_listVals {X : Cx} {e : Expr} {te : TE} {p p1 p2 p3 : Pos} (calm : X.calm = true) (he : PE X e te) (gl : Gl X "list") (nm : X.mg "list" = none) (bt : bootBuiltins "list" = some (.type "list"))
    (nb : attributeBase e "values" X.env (eval e X.env) = eval e X.env := by rfl) (ln : (p1.endLine == p2.line) = true := by rfl)
    (st : starEach [.Call (.Attribute e "values" p1) [] [] p2] X.env = (false, eval (.Call (.Attribute e "values" p1) [] [] p2) X.env) :: starEach [] X.env := by rfl) :
    PE X (.Call (.Name "list" p) [.Call (.Attribute e "values" p1) [] [] p2] [] p3) (tListVals te) := by
  refine ⟨fun pins s σ H Q I h => ?_⟩
  refine wpAny_Call_Name_kw (ld_blt I gl nm bt (PyProof.Rows.callWith_type1 (PyProof.Rows.args_cons ?_ st) st rfl))
  refine wpAny_Call_method (T := "dict") (id := "dict.values") nb rfl ln F.plainAttrs_dict F.slot_dict_values F.type_dict_values (thn (he.run pins s σ H _ I h) fun u t ⟨x, G, J, rx, d, kvs, ex, hd, q⟩ => ?_)
  subst ex
  obtain rfl : u = Value.ref d := rx
  obtain ⟨hz, lo, vs, kv, hdo⟩ := J.hok d _ hd
  obtain ⟨ep, hat⟩ := hdo.dictAt
  have lk : kvs.length = vs.length := Paired.length kv
  refine ⟨hdo.typeIs, hdo.mapOf.noDict, ?_⟩
  have J2 : Inv X pins σ G { t with heap := t.heap.push { cls := .type "dict_values", data := .fields #[.ref d] } } := J.kept (t' := t.toks) fun b ob z => Heap.get?_push_of_some _ z
  show wpAny _ _ (callWith p2 (.builtin "dict.values") [.ref d] [] []) _ X.xe t
  refine method_meetsIn F.slot_dict_values F.entry_dict_values rfl (PySem.evalArgs_none ⟨rfl, hdo.typeIs, F.args_dict_values_1 _, _, meets_dict_values (mixKind X.prog X.w) d lo, ⟨vs, hdo⟩, ?_⟩)
  refine PyProof.Rows.args_nil ?_
  refine PySem.W.kdl_call (PySem.W.kdl_values (knd := mixKind X.prog X.w) (d := d) (kvs := vs) (ep := ep)) (J.ok.hd calm) ⟨⟨_, Heap.get?_push_size _ rfl, rfl, rfl⟩, hat.push _⟩ (by rw [← lk]; exact hz) fun h' tk acc c kp hS items => ?_
  refine ⟨V.ref _, upd G _ (.lst (kvs.map Prod.snd)), J2.laid (t' := tk) kp (Nat.le_refl _) (show ObjOk X.prog X.w _ _ _ (.lst (kvs.map Prod.snd)) from ⟨by rw [List.length_map]; exact hz, acc.toList, c, ?_, by rw [Array.toArray_toList]; exact hS⟩), rfl, q _ (J2.hok.fresh (Nat.le_refl _))⟩
  refine vals_of_at (by rw [List.length_map, lk, Array.length_toList]; exact items.1.symm) fun j x w h1 h2 => ?_
  obtain ⟨k, hk⟩ := items.2 j w (by rw [← Array.getElem?_toList]; exact h2)
  obtain ⟨y, h3, h4⟩ := kv.at' hk
  rw [List.getElem?_map, h3] at h1
  cases h1
  exact h4
end VL

set_option Elab.async false
set_option linter.all false
set_option maxRecDepth 100000
set_option maxHeartbeats 2000000
/-! ZS: zip(x, y, strict=True) over lists, tuples, dicts of one length. -/
namespace ZS
open PySem PySem.Spec PyProof.Rows L2
section
variable {prog : Program} {w : World} {A : Around} {E : Value → Shared → Prop} {s : Shared}
/-- what draws by pyNext draws by nextOrEnd -/
theorem orEnd {it : Value} {Q : Option Value → Shared → Prop} (h : wpAny (model prog w) A (pyNext it) Q E s) : wpAny (model prog w) A (Builtin.SmallTypes.nextOrEnd it) Q E s := by
  intro Γ p hΓ
  have h1 := h Γ p hΓ
  unfold pyNext at h1
  rw [Sem.wp_bind', Sem.wp_attempt] at h1
  unfold Builtin.SmallTypes.nextOrEnd Builtin.SmallTypes.nextOf
  rw [Sem.wp_bind', Sem.wp_attempt, Sem.wp_bind']
  refine Sem.wp_mono _ _ _ (fun o p' s' k => ?_) (fun e p' s' k => k) _ _ h1
  cases o with
  | none =>
    exfalso
    simpa using k
  | some v => simpa using k
/-- StopIteration is raised -/
theorem stops {α : Type} {Q : α → Shared → Prop} (hh : A.handled = none) (hE : ∀ h' e, (∀ b o, s.heap.get? b = some o → h'.get? b = some o) → (∃ o, h'.get? e = some o ∧ o.cls = .type "StopIteration") → E (.ref e) { s with heap := h' }) :
    wpAny (model prog w) A (Builtin.SmallTypes.stopIteration : Sem α) Q E s := by
  unfold Builtin.SmallTypes.stopIteration
  refine wpAny_bind ?_
  unfold newExc newTuple
  refine wpAny_bind (wpAny_newObj_type ?_ (by size_fits))
  refine wpAny_bind (m := firstArgMember _ _) (wpAny_of_eq (a := Value.none) (by first | rfl | (simp only [firstArgMember]; rfl)) ?_)
  refine wpAny_newObj_type ?_ (by size_fits)
  refine wpAny_raiseNew_none hh (hE _ _ (fun b o e => Heap.get?_push_of_some _ (Heap.get?_push_of_some _ e)) ⟨_, Heap.get?_push_size _ rfl, rfl⟩)
/-- a zip with strict=True -/
abbrev IsZ (h : Heap) (z TI TO : Addr) (f0 : Value) : Prop :=
  h.get? z = some { cls := .type "zip", dict := none, data := .fields #[f0, .bool false, .bool true, .ref TI, .ref TO], slots := #[] }
/-- the next of an iterator: x, its state C turns to C' -/
structure Nx (prog : Program) (w : World) (A : Around) (it : Addr) (fp : List Addr) (C C' : Heap → Prop) (x : Value) : Prop where
  mem : it ∈ fp
  run : ∀ (s : Shared) (Q : Option Value → Shared → Prop) (E : Value → Shared → Prop), C s.heap → (∀ h', C' h' → Heap.SameBut it s.heap h' → Q (some x) { s with heap := h' }) → wpAny (model prog w) A (pyNext (.ref it)) Q E s
  k : ∀ h h', C h → (∀ b ∈ fp, ∀ o, h.get? b = some o → h'.get? b = some o) → C h'
  k' : ∀ h h', C' h → (∀ b ∈ fp, ∀ o, h.get? b = some o → h'.get? b = some o) → C' h'
theorem Nx.over {it x : Addr} {fp : List Addr} {C C' : Heap → Prop} {v : Value} (N : Nx prog w A it fp C C' v) {h h' : Heap} (c : C h) (b : Heap.SameBut x h h') (n : x ∉ fp) : C h' := N.k h h' c fun y hy o e => b.extBut y o (fun q => n (by rw [← q]; exact hy)) e
theorem Nx.over' {it x : Addr} {fp : List Addr} {C C' : Heap → Prop} {v : Value} (N : Nx prog w A it fp C C' v) {h h' : Heap} (c : C' h) (b : Heap.SameBut x h h') (n : x ∉ fp) : C' h' := N.k' h h' c fun y hy o e => b.extBut y o (fun q => n (by rw [← q]; exact hy)) e
/-- an iterator at its end -/
structure Nd (prog : Program) (w : World) (A : Around) (it : Addr) (fp : List Addr) (C : Heap → Prop) : Prop where
  mem : it ∈ fp
  run : ∀ (s : Shared) (Q : Option Value → Shared → Prop) (E : Value → Shared → Prop), C s.heap → (∀ h', Heap.ExtBut it s.heap h' → Q none { s with heap := h' }) → wpAny (model prog w) A (pyNext (.ref it)) Q E s
  k : ∀ h h', C h → (∀ b ∈ fp, ∀ o, h.get? b = some o → h'.get? b = some o) → C h'
variable {z TI TO i1 i2 : Addr} {fp1 fp2 : List Addr} {C1 D1 C2 D2 : Heap → Prop} {a1 a2 x1 x2 : Value}
theorem z_item {Q : Value → Shared → Prop} (S : ZipSep2 z TI TO i1 i2 fp1 fp2) (N1 : Nx prog w A i1 fp1 C1 D1 x1) (N2 : Nx prog w A i2 fp2 C2 D2 x2)
    (hz : IsZ s.heap z TI TO .none) (hTI : IsTupOf2 s.heap TI (.ref i1) (.ref i2)) (hTO : IsTupOf2 s.heap TO a1 a2) (c1 : C1 s.heap) (c2 : C2 s.heap)
    (hQ : ∀ h', IsZ h' z TI TO (rawInt s.heap.objs.size) → IsTupOf2 h' TO x1 x2 → D1 h' → D2 h' → IsTupOf2 h' s.heap.objs.size x1 x2 → h'.objs.size = s.heap.objs.size + 1 →
      (∀ c o, c ≠ z → c ≠ TO → c ≠ i1 → c ≠ i2 → s.heap.get? c = some o → h'.get? c = some o) → Q (.ref s.heap.objs.size) { s with heap := h' }) :
    wpAny (model prog w) A (Builtin.«zip.__next__» ⟨[.ref z], []⟩) (fun fin s' => ∃ v, fin = .done (.ret v) ∧ Q v s') E s := by
  obtain ⟨hp, g, d, tk, os⟩ := s
  show wpAny _ _ (field (.ref z) 2 >>= _) _ _ _
  refine wpAny_bind (wpAny_field hz rfl (x := .bool true) rfl ?_)
  show wpAny _ _ (field (.ref z) 3 >>= _) _ _ _
  refine wpAny_bind (wpAny_field hz rfl (x := .ref TI) rfl ?_)
  refine wpAny_bind (wpAny_seqItems hTI rfl ?_)
  show wpAny _ _ (Builtin.SmallTypes.ownedTupleIsFree (.ref z) >>= _) _ _ _
  refine wpAny_bind ?_
  unfold Builtin.SmallTypes.ownedTupleIsFree
  refine wpAny_bind (wpAny_field hz rfl (x := .none) rfl (wpAny_pure ?_))
  simp only [if_true]
  refine wpAny_bind (wpAny_rule ?_)
  refine wpAny_bind (wpAny_field hz rfl (x := .ref TO) rfl ?_)
  refine wpAny_bind (wpAny_setField_rec hz (by simp) fun g0 hz0 s0 => ?_)
  replace hz0 : IsZ g0 z TI TO .ellipsis := hz0
  replace s0 : Heap.SameBut z hp g0 := s0
  refine wpAny_bind ?_
  simp only [List.zipIdx_cons, List.zipIdx_nil, List.forIn_cons, List.forIn_nil]
  refine wpAny_bind (wpAny_bind (wpAny_onRaise ?_))
  show wpAny _ _ (Builtin.SmallTypes.nextOrEnd (.ref i1)) _ _ ⟨g0, g, d, tk, os⟩
  refine orEnd (N1.run _ _ _ (N1.over c1 s0 S.zf1) fun p1 e1 t1 => ?_)
  replace t1 : Heap.SameBut i1 g0 p1 := t1
  have u1 : IsTupOf2 p1 TO a1 a2 := t1.extBut _ _ S.Ti1 (s0.extBut _ _ S.TOz hTO)
  refine wpAny_bind (wpAny_seqItems (s := ⟨p1, g, d, tk, os⟩) u1 rfl ?_)
  refine wpAny_bind (updateSeq_IsTupOf2 (s := ⟨p1, g, d, tk, os⟩) u1 fun g1 w1 s1 => ?_)
  replace w1 : IsTupOf2 g1 TO x1 a2 := w1
  replace s1 : Heap.SameBut TO p1 g1 := s1
  refine wpAny_bind (wpAny_letGo (wpAny_pure ?_))
  refine wpAny_bind (wpAny_bind (wpAny_onRaise ?_))
  show wpAny _ _ (Builtin.SmallTypes.nextOrEnd (.ref i2)) _ _ ⟨g1, g, d, tk, os⟩
  refine orEnd (N2.run _ _ _ (N2.over (N2.over (N2.over c2 s0 S.zf2) t1 S.sep1_2) s1 S.Tf2) fun p2 e2 t2 => ?_)
  replace t2 : Heap.SameBut i2 g1 p2 := t2
  have u2 : IsTupOf2 p2 TO x1 a2 := t2.extBut _ _ S.Ti2 w1
  refine wpAny_bind (wpAny_seqItems (s := ⟨p2, g, d, tk, os⟩) u2 rfl ?_)
  refine wpAny_bind (updateSeq_IsTupOf2 (s := ⟨p2, g, d, tk, os⟩) u2 fun g2 w2 s2 => ?_)
  replace w2 : IsTupOf2 g2 TO x1 x2 := w2
  replace s2 : Heap.SameBut TO p2 g2 := s2
  refine wpAny_bind (wpAny_letGo (wpAny_pure (wpAny_pure ?_)))
  refine wpAny_bind (wpAny_seqItems (s := ⟨g2, g, d, tk, os⟩) w2 rfl ?_)
  refine wpAny_bind (wpAny_newTuple ?_)
  have hsz : g2.objs.size = hp.objs.size := by rw [s2.1, t2.1, s1.1, t1.1, s0.1]
  have zz : IsZ g2 z TI TO .ellipsis := s2.extBut _ _ S.TOz.symm (t2.extBut _ _ S.zi2 (s1.extBut _ _ S.TOz.symm (t1.extBut _ _ S.zi1 hz0)))
  have kk : ∀ c o, c ≠ z → c ≠ TO → c ≠ i1 → c ≠ i2 → hp.get? c = some o → g2.get? c = some o := fun c o cz cT n1 n2 e => s2.extBut _ _ cT (t2.extBut _ _ n2 (s1.extBut _ _ cT (t1.extBut _ _ n1 (s0.extBut _ _ cz e))))
  have j1 : D1 g2 := N1.over' (N1.over' (N1.over' e1 s1 S.Tf1) t2 S.sep2_1) s2 S.Tf1
  have j2 : D2 g2 := N2.over' e2 s2 S.Tf2
  have zl : z < g2.objs.size := Heap.lt_size zz
  show wpAny _ _ (Builtin.SmallTypes.ownedTupleHandOut (.ref z) (.ref g2.objs.size) >>= _) _ _ ⟨g2.push { cls := .type "tuple", data := .seq #[x1, x2] }, g, d, tk, os⟩
  refine wpAny_bind ?_
  unfold Builtin.SmallTypes.ownedTupleHandOut
  have z6 : IsZ (g2.push { cls := .type "tuple", data := .seq #[x1, x2] }) z TI TO .ellipsis := Heap.get?_push_of_some _ zz
  refine wpAny_bind (wpAny_setField_rec z6 (by simp) fun h7 z7 s7 => ?_)
  replace z7 : IsZ h7 z TI TO (rawInt g2.objs.size) := z7
  refine wpAny_setField_rec z7 (by simp) fun h8 z8 s8 => ?_
  replace z8 : IsZ h8 z TI TO (rawInt g2.objs.size) := z8
  replace s7 : Heap.SameBut z (g2.push { cls := .type "tuple", data := .seq #[x1, x2] }) h7 := s7
  replace s8 : Heap.SameBut z h7 h8 := s8
  have up : ∀ c o, c ≠ z → g2.get? c = some o → h8.get? c = some o := fun c o n e => s8.extBut _ _ n (s7.extBut _ _ n (Heap.get?_push_of_some _ e))
  have T8 : IsTupOf2 h8 g2.objs.size x1 x2 := s8.extBut _ _ (Nat.ne_of_gt zl) (s7.extBut _ _ (Nat.ne_of_gt zl) (Heap.get?_push_size _ rfl))
  have zs : h8.objs.size = g2.objs.size + 1 := by rw [s8.1, s7.1, Heap.size_push]
  rw [hsz] at z8 T8 zs
  refine wpAny_pure ⟨_, rfl, ?_⟩
  show Q (.ref g2.objs.size) ⟨h8, g, d, tk, os⟩
  rw [hsz]
  exact hQ h8 z8 (up _ _ S.TOz w2) (N1.k' _ _ j1 fun b hb o e => up b o (fun q => S.zf1 (by rw [← q]; exact hb)) e) (N2.k' _ _ j2 fun b hb o e => up b o (fun q => S.zf2 (by rw [← q]; exact hb)) e) T8 zs fun c o cz cT n1 n2 e => up c o cz (kk c o cz cT n1 n2 e)
theorem z_end {Q : Fin → Shared → Prop} (hh : A.handled = none) (S : ZipSep2 z TI TO i1 i2 fp1 fp2) (N1 : Nd prog w A i1 fp1 C1) (N2 : Nd prog w A i2 fp2 C2)
    (hz : IsZ s.heap z TI TO .none) (hTI : IsTupOf2 s.heap TI (.ref i1) (.ref i2)) (hTO : IsTupOf2 s.heap TO a1 a2) (c1 : C1 s.heap) (c2 : C2 s.heap)
    (hE : ∀ h' e, (∀ c o, c ≠ z → c ≠ TO → c ≠ i1 → c ≠ i2 → s.heap.get? c = some o → h'.get? c = some o) → (∃ o, h'.get? e = some o ∧ o.cls = .type "StopIteration") → E (.ref e) { s with heap := h' }) :
    wpAny (model prog w) A (Builtin.«zip.__next__» ⟨[.ref z], []⟩) Q E s := by
  obtain ⟨hp, g, d, tk, os⟩ := s
  show wpAny _ _ (field (.ref z) 2 >>= _) _ _ _
  refine wpAny_bind (wpAny_field hz rfl (x := .bool true) rfl ?_)
  show wpAny _ _ (field (.ref z) 3 >>= _) _ _ _
  refine wpAny_bind (wpAny_field hz rfl (x := .ref TI) rfl ?_)
  refine wpAny_bind (wpAny_seqItems hTI rfl ?_)
  show wpAny _ _ (Builtin.SmallTypes.ownedTupleIsFree (.ref z) >>= _) _ _ _
  refine wpAny_bind ?_
  unfold Builtin.SmallTypes.ownedTupleIsFree
  refine wpAny_bind (wpAny_field hz rfl (x := .none) rfl (wpAny_pure ?_))
  simp only [if_true]
  refine wpAny_bind (wpAny_rule ?_)
  refine wpAny_bind (wpAny_field hz rfl (x := .ref TO) rfl ?_)
  refine wpAny_bind (wpAny_setField_rec hz (by simp) fun g0 hz0 s0 => ?_)
  replace hz0 : IsZ g0 z TI TO .ellipsis := hz0
  replace s0 : Heap.SameBut z hp g0 := s0
  refine wpAny_bind ?_
  simp only [List.zipIdx_cons, List.zipIdx_nil, List.forIn_cons, List.forIn_nil]
  refine wpAny_bind (wpAny_bind (wpAny_onRaise ?_))
  show wpAny _ _ (Builtin.SmallTypes.nextOrEnd (.ref i1)) _ _ ⟨g0, g, d, tk, os⟩
  refine orEnd (N1.run _ _ _ (N1.k _ _ c1 fun b hb o e => s0.extBut b o (fun q => S.zf1 (by rw [← q]; exact hb)) e) fun p1 t1 => ?_)
  replace t1 : Heap.ExtBut i1 g0 p1 := t1
  have z1 : IsZ p1 z TI TO .ellipsis := t1 _ _ S.zi1 hz0
  refine wpAny_bind (wpAny_setField_rec (s := ⟨p1, g, d, tk, os⟩) z1 (by simp) fun g1 hz1 s1 => ?_)
  replace hz1 : IsZ g1 z TI TO .none := hz1
  replace s1 : Heap.SameBut z p1 g1 := s1
  refine wpAny_bind ?_
  show wpAny _ _ (forIn (([Value.ref i2] : List Value).zipIdx 1) PUnit.unit (fun (p : Value × Nat) (_ : PUnit) => Builtin.SmallTypes.nextOrEnd p.1 >>= fun o => if o.isSome = true then _ else pure (ForInStep.yield PUnit.unit)) >>= fun _ => rule "zip.__next__.all-ended" >>= fun _ => Builtin.SmallTypes.stopIteration) _ _ ⟨g1, g, d, tk, os⟩
  simp only [List.zipIdx_cons, List.zipIdx_nil, List.forIn_cons, List.forIn_nil]
  refine wpAny_bind (wpAny_bind (wpAny_bind (orEnd (N2.run _ _ _ (N2.k _ _ c2 fun b hb o e => ?_) fun p2 t2 => ?_))))
  · have n1 : b ≠ z := fun q => S.zf2 (by rw [← q]; exact hb)
    have n2 : b ≠ i1 := fun q => S.sep1_2 (by rw [← q]; exact hb)
    exact s1.extBut _ _ n1 (t1 _ _ n2 (s0.extBut _ _ n1 e))
  · replace t2 : Heap.ExtBut i2 g1 p2 := t2
    refine wpAny_pure (wpAny_pure (wpAny_bind (wpAny_rule (stops hh fun h' e kp he => ?_))))
    exact hE h' e (fun c o cz cT n1 n2 q => kp _ _ (t2 _ _ n2 (s1.extBut _ _ cz (t1 _ _ n1 (s0.extBut _ _ cz q))))) he
theorem next_item {Q : Option Value → Shared → Prop} (S : ZipSep2 z TI TO i1 i2 fp1 fp2) (N1 : Nx prog w A.in1 i1 fp1 C1 D1 x1) (N2 : Nx prog w A.in1 i2 fp2 C2 D2 x2)
    (hz : IsZ s.heap z TI TO .none) (hTI : IsTupOf2 s.heap TI (.ref i1) (.ref i2)) (hTO : IsTupOf2 s.heap TO a1 a2) (c1 : C1 s.heap) (c2 : C2 s.heap)
    (hQ : ∀ h', IsZ h' z TI TO (rawInt s.heap.objs.size) → IsTupOf2 h' TO x1 x2 → D1 h' → D2 h' → IsTupOf2 h' s.heap.objs.size x1 x2 → h'.objs.size = s.heap.objs.size + 1 →
      (∀ c o, c ≠ z → c ≠ TO → c ≠ i1 → c ≠ i2 → s.heap.get? c = some o → h'.get? c = some o) → Q (some (.ref s.heap.objs.size)) { s with heap := h' }) :
    wpAny (model prog w) A (pyNext (.ref z)) Q E s := by
  have hT : s.TypeIs (.ref z) "zip" := ⟨_, hz, rfl⟩
  unfold pyNext
  exact wpAny_bind (wpAny_attempt (wpAny_callSpecial?_slot (name := Str.ofString "__next__") hT F.slot_zip_next
    (wpAny_call_entry F.slot_zip_next hT F.entry_zip_next
      (z_item S N1 N2 hz hTI hTO c1 c2 fun h' b1 b2 b3 b4 b5 b6 b7 => wpAny_pure (hQ h' b1 b2 b3 b4 b5 b6 b7)) (F.args_zip_next_1 _))))
theorem next_end {Q : Option Value → Shared → Prop} (hh : A.handled = none) (S : ZipSep2 z TI TO i1 i2 fp1 fp2) (N1 : Nd prog w A.in1 i1 fp1 C1) (N2 : Nd prog w A.in1 i2 fp2 C2)
    (hz : IsZ s.heap z TI TO .none) (hTI : IsTupOf2 s.heap TI (.ref i1) (.ref i2)) (hTO : IsTupOf2 s.heap TO a1 a2) (c1 : C1 s.heap) (c2 : C2 s.heap)
    (hQ : ∀ h', (∀ c o, c ≠ z → c ≠ TO → c ≠ i1 → c ≠ i2 → s.heap.get? c = some o → h'.get? c = some o) → Q none { s with heap := h' }) : wpAny (model prog w) A (pyNext (.ref z)) Q E s := by
  have hT : s.TypeIs (.ref z) "zip" := ⟨_, hz, rfl⟩
  unfold pyNext
  refine wpAny_bind (wpAny_attempt (wpAny_callSpecial?_slot (name := Str.ofString "__next__") hT F.slot_zip_next
    (wpAny_call_entry F.slot_zip_next hT F.entry_zip_next (z_end (by exact hh) S N1 N2 hz hTI hTO c1 c2 fun h' e hk he => ?_) (F.args_zip_next_1 _))))
  obtain ⟨o, ho, hc⟩ := he
  refine wpAny_bind (wpAny_isInstance (T := "StopIteration") (b := true) ⟨o, ho, hc⟩ isSubtype_stop ?_)
  exact wpAny_pure (hQ _ hk)
theorem tuple_go {elts : List Expr} {x1} {pos : Pos} {T : Addr} {Q : Unit → Shared → Prop} (hz : IsZ s.heap z TI TO (rawInt T))
    (hQ : ∀ h', IsZ h' z TI TO .none → Heap.SameBut z s.heap h' → Q () { s with heap := h' }) :
    wpAny (model prog w) A (letOwnedTupleGo (.Tuple elts x1 pos) (.ref z) (.ref T)) Q E s := by
  unfold letOwnedTupleGo
  refine wpAny_bind (wpAny_load hz ?_)
  show wpAny _ _ (if (["enumerate", "zip", "dict_itemiterator", "dict_reverseitemiterator", "odict_iterator", "itertools.zip_longest", "itertools.pairwise"].contains "zip" &&
      (#[rawInt T, .bool false, .bool true, .ref TI, .ref TO] : Array Value)[0]? == some (rawInt T)) = true then _ else _) Q E s
  rw [if_pos (by simp)]
  refine wpAny_bind (wpAny_rule ?_)
  show wpAny _ _ (setField (.ref z) 0 .none) Q E s
  exact wpAny_setField_rec hz (by simp) fun h' hz' hs' => hQ h' hz' hs'
theorem iter_z {f0 : Value} {Q : Value → Shared → Prop} (hz : IsZ s.heap z TI TO f0) (h : Q (.ref z) s) : wpAny (model prog w) A (pyIter (.ref z)) Q E s := by
  have hT : s.TypeIs (.ref z) "zip" := ⟨_, hz, rfl⟩
  refine wpAny_pyIter_slot hT F.slot_zip_iter (wpAny_call_entry F.slot_zip_iter hT F.entry_zip_iter ?_ (F.args_zip_iter_1 _))
  show wpAny _ _ (ret (.ref z)) _ _ s
  exact wpAny_pure ⟨_, rfl, "zip", _, hT, F.slot_zip_next.lookup, h⟩
end
/-! ### it begins -/
abbrev hT2 (h : Heap) (o1 o2 : Obj) : Heap := ((h.push o1).push o2).push { cls := .type "tuple", data := .seq #[.ref h.objs.size, .ref (h.push o1).objs.size] }
abbrev hO2 (h : Heap) (o1 o2 : Obj) : Heap := (hT2 h o1 o2).push { cls := .type "tuple", data := .seq #[.none, .none] }
abbrev hZ2 (h : Heap) (o1 o2 : Obj) : Heap := (hO2 h o1 o2).push { cls := .type "zip", data := .fields #[.none, .bool false, .bool true, .ref ((h.push o1).push o2).objs.size, .ref (hT2 h o1 o2).objs.size] }
theorem meets_new {v1 v2 : Value} {o1 o2 : Obj} {H1 H2 : Heap → Prop} (B1 : Begins v1 o1 H1) (B2 : Begins v2 o2 H2) :
    Meets (Builtin.«zip.__new__» ⟨[.type "zip", v1, v2], [(Str.ofString "strict", .bool true)]⟩) (fun _ R s => (H1 s.heap ∧ H2 s.heap) ∧
      R (.ok (.ret (.ref (hO2 s.heap o1 o2).objs.size))) { s with heap := hZ2 s.heap o1 o2 }) :=
  .of_wp fun prog w A R s h => by
    obtain ⟨hp, g, d, tk, os⟩ := s; obtain ⟨⟨h1, h2⟩, h⟩ := h
    have hsub := sub_zip
    have q1 : ∀ {A' : Around} {E : Value → Shared → Prop} {Q : Value → Shared → Prop}, Q (.ref hp.objs.size) ⟨(hp.push o1), g, d, tk, os⟩ → wpAny (model prog w) A' (pyIter v1) Q E ⟨hp, g, d, tk, os⟩ :=
      fun q => B1.iter prog w _ _ ⟨hp, g, d, tk, os⟩ _ (B1.keeps _ _ h1 fun b o' e => e) q
    have q2 : ∀ {A' : Around} {E : Value → Shared → Prop} {Q : Value → Shared → Prop}, Q (.ref (hp.push o1).objs.size) ⟨((hp.push o1).push o2), g, d, tk, os⟩ → wpAny (model prog w) A' (pyIter v2) Q E ⟨(hp.push o1), g, d, tk, os⟩ :=
      fun q => B2.iter prog w _ _ ⟨(hp.push o1), g, d, tk, os⟩ _ (B2.keeps _ _ h2 fun b o' e => (Heap.get?_push_of_some _ e)) q
    wp_walk using q1, q2
    exact ⟨_, rfl, h⟩
end ZS

set_option Elab.async false
set_option linter.all false
set_option maxRecDepth 100000
set_option maxHeartbeats 2000000
/-! ZS2: the rule for zip(x, y, strict=True): a source is a list, a tuple, a locked dict. -/
namespace ZS
open PySem PySem.Spec PyProof.Rows L2
theorem typeCall_strict (a b : Value) : checkTypeCall "zip" ⟨[a, b], [(Str.ofString "strict", .bool true)]⟩ = pure () := by kernel_rfl
theorem newCall_strict (a b : Value) : checkBuiltinCall "zip.__new__" ⟨[.type "zip", a, b], [(Str.ofString "strict", .bool true)]⟩ = pure () := by kernel_rfl
theorem init_strict (obj a b : Value) : argsOk "object.__init__" ⟨[obj, a, b], [(Str.ofString "strict", .bool true)]⟩ := by unfold argsOk; kernel_rfl
section
variable {prog : Program} {w : World} {A : Around} {E : Value → Shared → Prop} {s : Shared}
theorem begins {v1 v2 : Value} {o1 o2 : Obj} {H1 H2 : Heap → Prop} {Q : Value → Shared → Prop} (B1 : Begins v1 o1 H1) (B2 : Begins v2 o2 H2) (h1 : H1 s.heap) (h2 : H2 s.heap)
    (h : ∀ h', IsZ h' (s.heap.objs.size + 4) (s.heap.objs.size + 2) (s.heap.objs.size + 3) .none → IsTupOf2 h' (s.heap.objs.size + 2) (.ref s.heap.objs.size) (.ref (s.heap.objs.size + 1)) →
      IsTupOf2 h' (s.heap.objs.size + 3) .none .none → h'.get? s.heap.objs.size = some o1 → h'.get? (s.heap.objs.size + 1) = some o2 → h'.objs.size = s.heap.objs.size + 5 →
      (∀ c o, s.heap.get? c = some o → h'.get? c = some o) → Q (.ref (s.heap.objs.size + 4)) { s with heap := h' }) :
    wpAny (model prog w) A (call (.type "zip") [v1, v2] [(Str.ofString "strict", .bool true)]) Q E s := by
  refine callType_newKw F.called_zip (by decide) (typeCall_strict _ _) (newCall_strict _ _) (fun obj => init_strict obj _ _) F.entry_zip_new (meets_new B1 B2) ⟨⟨h1, h2⟩, ?_⟩
  have z1 : (s.heap.push o1).objs.size = s.heap.objs.size + 1 := by rw [Heap.size_push]
  have z2 : ((s.heap.push o1).push o2).objs.size = s.heap.objs.size + 2 := by rw [Heap.size_push, z1]
  have zT : (hT2 s.heap o1 o2).objs.size = s.heap.objs.size + 3 := by rw [Heap.size_push, z2]
  have zO : (hO2 s.heap o1 o2).objs.size = s.heap.objs.size + 4 := by rw [Heap.size_push, zT]
  have zZ : (hZ2 s.heap o1 o2).objs.size = s.heap.objs.size + 5 := by rw [Heap.size_push, zO]
  have p5 : ∀ {c : Addr} {o : Obj}, s.heap.get? c = some o → (hZ2 s.heap o1 o2).get? c = some o := fun e => Heap.get?_push_of_some _ (Heap.get?_push_of_some _ (Heap.get?_push_of_some _ (Heap.get?_push_of_some _ (Heap.get?_push_of_some _ e))))
  have kZ : (hZ2 s.heap o1 o2).get? (hO2 s.heap o1 o2).objs.size = some { cls := .type "zip", data := .fields #[.none, .bool false, .bool true, .ref ((s.heap.push o1).push o2).objs.size, .ref (hT2 s.heap o1 o2).objs.size] } := Heap.get?_push_size _ rfl
  have kO : (hZ2 s.heap o1 o2).get? (hT2 s.heap o1 o2).objs.size = some { cls := .type "tuple", data := .seq #[.none, .none] } := Heap.get?_push_of_some _ (Heap.get?_push_size _ rfl)
  have kT : (hZ2 s.heap o1 o2).get? ((s.heap.push o1).push o2).objs.size = some { cls := .type "tuple", data := .seq #[.ref s.heap.objs.size, .ref (s.heap.push o1).objs.size] } := Heap.get?_push_of_some _ (Heap.get?_push_of_some _ (Heap.get?_push_size _ rfl))
  have k1 : (hZ2 s.heap o1 o2).get? s.heap.objs.size = some o1 := Heap.get?_push_of_some _ (Heap.get?_push_of_some _ (Heap.get?_push_of_some _ (Heap.get?_push_of_some _ (Heap.get?_push_size _ B1.free))))
  have k2 : (hZ2 s.heap o1 o2).get? (s.heap.push o1).objs.size = some o2 := Heap.get?_push_of_some _ (Heap.get?_push_of_some _ (Heap.get?_push_of_some _ (Heap.get?_push_size _ B2.free)))
  rw [zO, zT, z2] at kZ
  rw [zT] at kO
  rw [z2, z1] at kT
  rw [z1] at k2
  show _ ∧ _
  rw [zO]
  exact ⟨⟨_, kZ, rfl⟩, h _ kZ kT kO k1 k2 zZ fun c o e => p5 e⟩
/-- a built-in class called with keywords -/
theorem with_type_kw {M : Model} {pos : Pos} {T : String} {args : List (Bool × Sem Value)} {kws : List (Option Str × Sem Value)} {Q : Value → Shared → Prop} (hp : args.any (·.1) = false) (hk : kws.any (·.1.isNone) = false)
    (h : wpAny M A (evalArgs (.type T) true args kws) (fun a s1 => wpAny M A (call (.type T) a.pos a.kw) Q E s1) E s) : wpAny M A (callWith pos (.type T) [] args kws) Q E s := by
  unfold callWith
  refine wpAny_bind (wpAny_holding (wpAny_mono h (fun a s1 h1 => wpAny_bind (wpAny_standAt ?_)) fun _ _ x => x))
  simp only [hp, hk, Bool.or_false]
  refine wpAny_bind (wpAny_pure ?_)
  exact wpAny_bind (wpAny_mono h1 (fun r s2 hr => wpAny_bind (wpAny_holding (wpAny_point (wpAny_pure hr)))) fun _ _ x => x)
end
/-! ### sources -/
def Keep (h0 : Heap) (a : Addr) (h : Heap) : Prop := ∀ o, h0.get? a = some o → h.get? a = some o
structure Src (P : Program) (w : World) (K : PySem.W.Frag) (S : Hp → Prop) (xs : List V) (a : Addr) where
  St : Addr → Nat → Heap → Prop
  obj : ∀ it i h, St it i h → ∃ o, h.get? it = some o ∧ ∀ v, o.data ≠ .cell v
  kp : ∀ it i h h', St it i h → (∀ o, h.get? it = some o → h'.get? it = some o) → St it i h'
  nx : ∀ (X : Cx) (pins : List (Addr × Obj)) (s : Shared) (σ : L2.St) (H : Hp), X.prog = P → X.w = w → X.K = K → X.calm = true → Inv X pins σ H s → S H → ∀ (it : Addr) (i : Nat) (x : V), a ≠ it → xs[i]? = some x → St it i s.heap →
    ∃ u, L2.RelV x u ∧ Nx P w X.A.in1 it [it, a] (fun h => St it i h ∧ Keep s.heap a h) (fun h => St it (i + 1) h ∧ Keep s.heap a h) u
  nd : ∀ (X : Cx) (pins : List (Addr × Obj)) (s : Shared) (σ : L2.St) (H : Hp), X.prog = P → X.w = w → X.K = K → X.calm = true → Inv X pins σ H s → S H → ∀ (it : Addr), a ≠ it → St it xs.length s.heap → Nd P w X.A.in1 it [it, a] (fun h => St it xs.length h ∧ Keep s.heap a h)
theorem Keep.mono {h0 h h' : Heap} {a : Addr} (k : Keep h0 a h) (q : ∀ o, h.get? a = some o → h'.get? a = some o) : Keep h0 a h' := fun o e => q o (k o e)
/-- what stands is kept under changes elsewhere -/
theorem pair_k {St : Addr → Nat → Heap → Prop} (kp : ∀ it i h h', St it i h → (∀ o, h.get? it = some o → h'.get? it = some o) → St it i h') {it a : Addr} {i : Nat} {h0 : Heap} (h h' : Heap) (c : St it i h ∧ Keep h0 a h) (q : ∀ b ∈ [it, a], ∀ o, h.get? b = some o → h'.get? b = some o) : St it i h' ∧ Keep h0 a h' :=
  ⟨kp _ _ _ _ c.1 (q it (by simp)), c.2.mono (q a (by simp))⟩
section
variable {P : Program} {w : World} {K : PySem.W.Frag}
theorem kpL (a : Addr) : ∀ (it : Addr) (i : Nat) (h h' : Heap), h.IsListIter it a i → (∀ o, h.get? it = some o → h'.get? it = some o) → h'.IsListIter it a i := fun it i h h' st k => st.at fun o e => k o e
theorem kpT (a : Addr) : ∀ (it : Addr) (i : Nat) (h h' : Heap), h.IsTupleIter it a i → (∀ o, h.get? it = some o → h'.get? it = some o) → h'.IsTupleIter it a i := fun it i h h' st k => st.at fun o e => k o e
theorem kpD (a : Addr) (n ep : Nat) : ∀ (it : Addr) (i : Nat) (h h' : Heap), h.IsKeyIter it a i n ep → (∀ o, h.get? it = some o → h'.get? it = some o) → h'.IsKeyIter it a i n ep := fun it i h h' st k => st.at fun o e => k o e
def srcL (P : Program) (w : World) (K : PySem.W.Frag) (a : Addr) (xs : List V) : Src P w K (fun H => SqL K H a xs) xs a where
  St := fun it i h => h.IsListIter it a i
  obj := fun it i h st => by
    obtain ⟨o, e, _, d⟩ := st
    exact ⟨o, e, fun v q => by rw [d] at q; cases q⟩
  kp := kpL a
  nx := by
    intro X pins s σ H hP hw hK hc I hS it i x ne hx st
    subst hP hw hK
    obtain ⟨its, rv, p, _⟩ := I.list hS
    obtain ⟨u, hu, ru⟩ := rv.get hx
    refine ⟨u, ru, by simp, fun s' Q E c h => ?_, pair_k (kpL a), pair_k (kpL a)⟩
    have q : s'.heap.IsList a its.toArray := p.isList.at fun o e => c.2 o e
    exact wpAny_pyNext_list_item c.1 q (x := u) (by simpa using hu) fun h' st' sb => h h' ⟨st', c.2.mono fun o e => (sb.2 a ne).trans e⟩ sb
  nd := by
    intro X pins s σ H hP hw hK hc I hS it ne st
    subst hP hw hK
    obtain ⟨its, rv, p, _⟩ := I.list hS
    refine ⟨by simp, fun s' Q E c h => ?_, pair_k (kpL a)⟩
    have q : s'.heap.IsList a its.toArray := p.isList.at fun o e => c.2 o e
    have hl := rv.length
    exact wpAny_pyNext_list_end (A := X.A.in1) (by exact I.ok.hd hc) c.1 q (by simp; omega) fun h' eb => h h' eb
def srcT (P : Program) (w : World) (K : PySem.W.Frag) (a : Addr) (xs : List V) : Src P w K (fun H => SqT K H a xs) xs a where
  St := fun it i h => h.IsTupleIter it a i
  obj := fun it i h st => by
    obtain ⟨o, e, _, d⟩ := st
    exact ⟨o, e, fun v q => by rw [d] at q; cases q⟩
  kp := kpT a
  nx := by
    intro X pins s σ H hP hw hK hc I hS it i x ne hx st
    subst hP hw hK
    obtain ⟨its, rv, p, _⟩ := I.tuple hS
    have p' : s.heap.IsTuple a its.toArray := p
    obtain ⟨u, hu, ru⟩ := rv.get hx
    refine ⟨u, ru, by simp, fun s' Q E c h => ?_, pair_k (kpT a), pair_k (kpT a)⟩
    have q : s'.heap.IsTuple a its.toArray := p'.at fun o e => c.2 o e
    exact wpAny_pyNext_tuple_item c.1 q (x := u) (by simpa using hu) fun h' st' sb => h h' ⟨st', c.2.mono fun o e => (sb.2 a ne).trans e⟩ sb
  nd := by
    intro X pins s σ H hP hw hK hc I hS it ne st
    subst hP hw hK
    obtain ⟨its, rv, p, _⟩ := I.tuple hS
    have p' : s.heap.IsTuple a its.toArray := p
    refine ⟨by simp, fun s' Q E c h => ?_, pair_k (kpT a)⟩
    have q : s'.heap.IsTuple a its.toArray := p'.at fun o e => c.2 o e
    have hl := rv.length
    exact wpAny_pyNext_tuple_end (A := X.A.in1) (by exact I.ok.hd hc) c.1 q (by simp; omega) fun h' eb => h h' eb
def srcD (P : Program) (w : World) (K : PySem.W.Frag) (a : Addr) (o : Obj) (kvs : List (Key × V)) {es : Array DictEntry} {ep : Nat} (hod : o.data = .dict es ep) : Src P w K (fun H => H a = some (.frz o (.dK kvs))) (kvs.map fun kv => kV kv.1) a where
  St := fun it i h => h.IsKeyIter it a i kvs.length ep
  obj := fun it i h st => by
    obtain ⟨o, e, _, d⟩ := st
    exact ⟨o, e, fun v q => by rw [d] at q; cases q⟩
  kp := kpD a _ _
  nx := by
    intro X pins s σ H hP hw hK hc I hS it i x ne hx st
    subst hP hw hK
    obtain ⟨hs, hgd, hx', es', ep', vs, hdt, hsz, kv, hm⟩ := I.frzK hS
    obtain ⟨rfl, rfl⟩ := dict_ep hod hdt
    rw [List.getElem?_map] at hx
    obtain ⟨⟨k, v⟩, hkv, rfl⟩ := Option.map_eq_some_iff.mp hx
    obtain ⟨u, hu, ru⟩ := kv_get kv hkv
    obtain ⟨es2, ⟨o2, ho2, _, hd2⟩, hs2, he2⟩ := hm.raw
    rw [hgd] at ho2
    cases ho2
    obtain ⟨rfl, _⟩ := dict_ep hod hd2
    have hl : kvs.length = vs.length := Paired.length kv
    have hie : i < es2.size := by
      rw [hs2, ← hl]
      exact (List.getElem?_eq_some_iff.mp hkv).1
    have hkey := (he2 i hie _ _ hu).1
    refine ⟨es2[i].key, relV_key (show keyIs k _ = true from hkey), by simp, fun s' Q E c h => ?_, pair_k (kpD a _ _), pair_k (kpD a _ _)⟩
    exact next_key_item c.1 (c.2 _ hgd) hod hsz (Array.getElem?_eq_getElem hie) fun h' st' sb => h h' ⟨st', c.2.mono fun o e => (sb.2 a ne).trans e⟩ sb
  nd := by
    intro X pins s σ H hP hw hK hc I hS it ne st
    subst hP hw hK
    obtain ⟨hs, hgd, hx', es', ep', vs, hdt, hsz, kv, hm⟩ := I.frzK hS
    obtain ⟨rfl, rfl⟩ := dict_ep hod hdt
    refine ⟨by simp, fun s' Q E c h => ?_, pair_k (kpD a _ _)⟩
    exact next_key_end (A := X.A.in1) (by exact I.ok.hd hc) c.1 (c.2 _ hgd) hod hsz (by rw [List.length_map]; exact Nat.le_refl _) fun h' eb => h h' eb
end
end ZS

set_option Elab.async false
set_option linter.all false
set_option maxRecDepth 100000
set_option maxHeartbeats 2000000
/-! ZS3: the walk over zip(x, y, strict=True). -/
namespace ZS
open PySem PySem.Spec PyProof.Rows L2
/-- what may stand in a strict zip -/
inductive SrcOk (K : PySem.W.Frag) (H : Hp) (a : Addr) : List V → (Hp → Prop) → Prop where
  | lst {xs : List V} (h : SqL K H a xs) : SrcOk K H a xs (fun H => SqL K H a xs)
  | tup {xs : List V} (h : SqT K H a xs) : SrcOk K H a xs (fun H => SqT K H a xs)
  | dic {o : Obj} {kvs : List (Key × V)} (h : H a = some (.frz o (.dK kvs))) : SrcOk K H a (kvs.map fun kv => kV kv.1) (fun H => H a = some (.frz o (.dK kvs)))
theorem SrcOk.holds {K : PySem.W.Frag} {H : Hp} {a : Addr} {xs : List V} {S : Hp → Prop} (h : SrcOk K H a xs S) : S H := by
  cases h with
  | lst h => exact h
  | tup h => exact h
  | dic h => exact h
theorem begins_dic {d : Addr} {o : Obj} {es : Array DictEntry} {ep : Nat} (hd : (d == sysModules) = false) (hx : o.ExactDict) (hdat : o.data = .dict es ep) :
    Begins (.ref d) { cls := .type "dict_keyiterator", data := .fields #[.ref d, .int 0 0, .int es.size 0, .int ep 0] } fun h => h.get? d = some o where
  iter := fun _ _ _ _ _ _ ho h => iter_keys hd ho hx hdat h
  keeps := fun _ _ ho k => k _ _ ho
  free := rfl
theorem SrcOk.start {X : Cx} {pins : List (Addr × Obj)} {σ : L2.St} {H : Hp} {s : Shared} {a : Addr} {xs : List V} {S : Hp → Prop} (h : SrcOk X.K H a xs S) (I : Inv X pins σ H s) :
    ∃ (c : Src X.prog X.w X.K S xs a) (o : Obj) (Hy : Heap → Prop), Begins (.ref a) o Hy ∧ Hy s.heap ∧ a < s.heap.objs.size ∧ ∀ it h, h.get? it = some o → c.St it 0 h := by
  cases h with
  | lst h =>
    obtain ⟨its, rv, p, _⟩ := I.list h
    exact ⟨srcL _ _ _ a xs, _, _, begins_list a its.toArray, p.isList, p.lt, fun it h e => ⟨_, e, rfl, rfl⟩⟩
  | tup h =>
    obtain ⟨its, rv, p, _⟩ := I.tuple h
    have p' : s.heap.IsTuple a its.toArray := p
    have lt : a < s.heap.objs.size := by
      obtain ⟨_, e, _⟩ := p'
      exact Heap.lt_size e
    exact ⟨srcT _ _ _ a xs, _, _, begins_tuple a its.toArray, p', lt, fun it h e => ⟨_, e, rfl, rfl⟩⟩
  | @dic o kvs h =>
    obtain ⟨hs, hgd, hx, es, ep, vs, hdt, hsz, kv, hm⟩ := I.frzK h
    exact ⟨srcD _ _ _ a o kvs hdt, _, _, begins_dic hs hx hdt, hgd, Heap.lt_size hgd, fun it h e => ⟨_, e, rfl, by rw [hsz]; rfl⟩⟩
/-- two sources of one length, item by item in new pairs -/
def ItS (S1 S2 : Hp → Prop) (xs ys : List V) : It :=
  ⟨fun i H => (S1 H ∧ S2 H) ∧ i < xs.length ∧ i < ys.length, fun i H v H' => ∃ T x y, v = .ref T ∧ H T = none ∧ H' = upd H T (.tup [x, y]) ∧ xs[i]? = some x ∧ ys[i]? = some y, fun i H => (S1 H ∧ S2 H) ∧ i = xs.length ∧ i = ys.length⟩
theorem walk_zipS {S1 S2 : Hp → Prop} {xs ys : List V} (h : xs.length = ys.length) : Walk (ItS S1 S2 xs ys) xs.length (fun H => S1 H ∧ S2 H) (YPair (fun i => xs[i]?) (fun i => ys[i]?)) :=
  ⟨fun i _ hi q => ⟨q, hi, by omega⟩, fun _ q => ⟨q, rfl, h⟩, fun i H v H' _ q y => y⟩
theorem sepFive {N a b : Nat} (ha : a < N) (hb : b < N) : ZipSep2 (N + 4) (N + 2) (N + 3) N (N + 1) [N, a] [N + 1, b] := by
  have ne : ∀ {x y : Nat}, ¬ x = y → x ≠ y := fun h => h
  refine ⟨ne (by omega), ne (by omega), ne (by omega), ne (by omega), by simp, ?_, ?_, ne (by omega), by simp, ?_, ?_, ?_, ?_⟩
  all_goals
    simp only [List.mem_cons, List.not_mem_nil, or_false, not_or]
    exact ⟨ne (by omega), ne (by omega)⟩
theorem turn_zipS {P : Program} {w : World} {K : PySem.W.Frag} {elts : List Expr} {kk : Nat} {tpos : Pos} {S1 S2 : Hp → Prop} {xs ys : List V} {a b z TI TO i1 i2 : Addr} (c1 : Src P w K S1 xs a) (c2 : Src P w K S2 ys b) (D : ZipSep2 z TI TO i1 i2 [i1, a] [i2, b]) (n1 : a ≠ i1) (n2 : b ≠ i2) :
    Turn P w K (.Tuple elts kk tpos) (ItS S1 S2 xs ys) [z, TI, TO, i1, i2] z (fun i h => IsZ h z TI TO .none ∧ IsTupOf2 h TI (.ref i1) (.ref i2) ∧ (∃ x y, IsTupOf2 h TO x y) ∧ c1.St i1 i h ∧ c2.St i2 i h) where
  mem := by simp
  obj := fun i h st c hc => by
    obtain ⟨hz, hTI, ⟨x, y, hTO⟩, h1, h2⟩ := st
    simp only [List.mem_cons, List.not_mem_nil, or_false] at hc
    rcases hc with rfl | rfl | rfl | rfl | rfl
    · exact ⟨_, hz, fun v q => nomatch q⟩
    · exact ⟨_, hTI, fun v q => nomatch q⟩
    · exact ⟨_, hTO, fun v q => nomatch q⟩
    · exact c1.obj _ _ _ h1
    · exact c2.obj _ _ _ h2
  keep := fun i h h' st k => by
    obtain ⟨hz, hTI, ⟨x, y, hTO⟩, h1, h2⟩ := st
    exact ⟨k _ (by simp) _ hz, k _ (by simp) _ hTI, ⟨x, y, k _ (by simp) _ hTO⟩, c1.kp _ _ _ _ h1 (k _ (by simp)), c2.kp _ _ _ _ h2 (k _ (by simp))⟩
  item := by
    intro X hP hw hK hc i pins s σ H E I hf st hg
    obtain ⟨hz, hTI, ⟨x0, y0, hTO⟩, h1, h2⟩ := st
    obtain ⟨⟨g1, g2⟩, l1, l2⟩ := hg
    have hx : xs[i]? = some xs[i] := List.getElem?_eq_getElem l1
    have hy : ys[i]? = some ys[i] := List.getElem?_eq_getElem l2
    obtain ⟨u1, r1, N1⟩ := c1.nx X pins s σ H hP hw hK hc I g1 i1 i _ n1 hx h1
    obtain ⟨u2, r2, N2⟩ := c2.nx X pins s σ H hP hw hK hc I g2 i2 i _ n2 hy h2
    have zl : z < s.heap.objs.size := Heap.lt_size hz
    refine next_item D N1 N2 hz hTI hTO ⟨h1, fun _ e => e⟩ ⟨h2, fun _ e => e⟩ fun h' z' TO' e1 e2 T' hsz kp => ?_
    refine ⟨_, rfl, tuple_go (s := { s with heap := h' }) z' fun h3 z3 sb => ?_⟩
    have T3 : h3.get? s.heap.objs.size = some { cls := .type "tuple", data := .seq #[u1, u2] } := (sb.2 _ (Nat.ne_of_gt zl)).trans T'
    have new : ObjOk X.prog X.w (upd H s.heap.objs.size (.tup [xs[i], ys[i]])) h3 s.heap.objs.size (.tup [xs[i], ys[i]]) :=
      ⟨(show 2 ≤ sizeLine by decide), [u1, u2], .cons r1 (.cons r2 .nil), ⟨_, T3, rfl, _, rfl⟩⟩
    have nz : ∀ c, c ∉ [z, TI, TO, i1, i2] → c ≠ z ∧ c ≠ TO ∧ c ≠ i1 ∧ c ≠ i2 := fun c hc => by
      simp only [List.mem_cons, List.not_mem_nil, or_false, not_or] at hc
      exact ⟨hc.1, hc.2.2.1, hc.2.2.2.1, hc.2.2.2.2⟩
    have J : Inv X pins σ (upd H s.heap.objs.size (.tup [xs[i], ys[i]])) { s with heap := h3, toks := s.toks } :=
      I.turnedNew (ch := [z, TI, TO, i1, i2]) (fun c o hc q => by
        obtain ⟨m1, m2, m3, m4⟩ := nz c hc
        exact (sb.2 c m1).trans (kp c o m1 m2 m3 m4 q)) hf (Nat.le_refl _) new
    refine ⟨.ref s.heap.objs.size, _, J, rfl, ⟨_, _, _, rfl, I.hok.fresh (Nat.le_refl _), rfl, hx, hy⟩, ⟨z3, ?_, ⟨u1, u2, ?_⟩, ?_, ?_⟩, fun c hcm => ?_⟩
    · exact (sb.2 _ D.TIz).trans (kp _ _ D.TIz D.TITO D.TIi1 D.TIi2 hTI)
    · exact (sb.2 _ D.TOz).trans TO'
    · exact c1.kp _ _ _ _ e1.1 fun o q => (sb.2 _ (Ne.symm D.zi1)).trans q
    · exact c2.kp _ _ _ _ e2.1 fun o q => (sb.2 _ (Ne.symm D.zi2)).trans q
    · have lt : c < s.heap.objs.size := by
        simp only [List.mem_cons, List.not_mem_nil, or_false] at hcm
        rcases hcm with rfl | rfl | rfl | rfl | rfl
        · exact zl
        · exact Heap.lt_size hTI
        · exact Heap.lt_size hTO
        · obtain ⟨_, e, _⟩ := c1.obj _ _ _ h1
          exact Heap.lt_size e
        · obtain ⟨_, e, _⟩ := c2.obj _ _ _ h2
          exact Heap.lt_size e
      rw [upd_ne (Nat.ne_of_lt lt)]
      exact (hf c hcm).1
  done := by
    intro X hP hw hK hc i pins s σ H E I hf st hg
    obtain ⟨hz, hTI, ⟨x0, y0, hTO⟩, h1, h2⟩ := st
    obtain ⟨⟨g1, g2⟩, l1, l2⟩ := hg
    have N1 := c1.nd X pins s σ H hP hw hK hc I g1 i1 n1 (by rw [← l1]; exact h1)
    have N2 := c2.nd X pins s σ H hP hw hK hc I g2 i2 n2 (by rw [← l2]; exact h2)
    refine next_end (I.ok.hd hc) D N1 N2 hz hTI hTO ⟨by rw [← l1]; exact h1, fun _ e => e⟩ ⟨by rw [← l2]; exact h2, fun _ e => e⟩ fun h' kp => ⟨rfl, I.turnedL (t' := s.toks) (ch := [z, TI, TO, i1, i2]) (fun c o hc q => ?_) hf⟩
    simp only [List.mem_cons, List.not_mem_nil, or_false, not_or] at hc
    exact kp c o hc.1 hc.2.2.1 hc.2.2.2.1 hc.2.2.2.2 q
  self := fun A i s Q E st h => iter_z st.1 h
def iZipS (K : PySem.W.Frag) (ta : TA) : TI := fun σ H R => ta σ H fun vs H1 => ∃ (a b : Addr) (xs ys : List V) (S1 S2 : Hp → Prop), vs = [.ref a, .ref b] ∧ SrcOk K H1 a xs S1 ∧ SrcOk K H1 b ys S2 ∧ xs.length = ys.length ∧ R (ItS S1 S2 xs ys) H1
theorem kpi_zipS {X : Cx} (K : PySem.W.Frag) (hK : X.K = K) {e e2 : Expr} {ta : TA} {p pos tpos kp cp : Pos} {elts : List Expr} {kk j : Nat} (hg : Gl X "zip") (hm : X.mg "zip" = none) (ha : PA X [e, e2] ta)
    (he : backTo pos (starEach [e, e2] X.env) = (false, eval e X.env) :: backTo pos (starEach [e2] X.env) := by rfl) (hpl : (backTo pos (starEach [e, e2] X.env)).any (·.1) = false := by rfl) :
    PI X (.Tuple elts kk tpos) (.Call (.Name "zip" p) [e, e2] [⟨some "strict", .Constant (.bool true) j cp, kp⟩] pos) (iZipS K ta) := by
  subst hK
  refine ⟨fun pins s σ H R I h => ?_⟩
  refine wpAny_Call_Name_kw (ld_blt I hg hm PyProof.Rows.boot_zip ?_)
  refine with_type_kw hpl (by rfl) ?_
  rw [he]
  refine evalArgs_kwB (by rfl) ?_
  rw [← he]
  refine thn (ha.run pos pins s σ H _ I h) fun us s1 ⟨vs, H1, I1, r1, q1⟩ => ?_
  obtain ⟨a, b, xs, ys, S1, S2, rfl, o1, o2, hl, q⟩ := q1
  refine thn ((pk_cons (kpos := kp) (nm := some "strict") (pe_bl (X := X) (b := true) (j := j) (pos := cp)) pk_nil).run pos pins s1 σ H1 (fun zs H2 => zs = [.bl true] ∧ H2 = H1) I1 ⟨rfl, rfl⟩) fun ws s2 ⟨zs, H2, I2, r2, q2⟩ => ?_
  obtain ⟨rfl, rfl⟩ := q2
  cases r1 with
  | cons ra rb =>
    cases rb with
    | cons rb rc =>
      cases rc
      cases ra
      cases rb
      cases r2 with
      | cons rd re =>
        cases re
        cases rd
        obtain ⟨c1, ob1, Hy1, B1, y1, la, st1⟩ := o1.start I2
        obtain ⟨c2, ob2, Hy2, B2, y2, lb, st2⟩ := o2.start I2
        refine begins B1 B2 y1 y2 fun h' hz hTI hTO k1 k2 hsz kp => iter_z hz ?_
        have I3 : Inv X pins σ H2 { s2 with heap := h', toks := s2.toks } := I2.kept kp
        refine ⟨s2.heap.objs.size + 4, [s2.heap.objs.size + 4, s2.heap.objs.size + 2, s2.heap.objs.size + 3, s2.heap.objs.size, s2.heap.objs.size + 1], _, _, H2, rfl, I3, turn_zipS c1 c2 (sepFive la lb) (Nat.ne_of_lt la) (Nat.ne_of_lt (Nat.lt_succ_of_lt lb)), ⟨hz, hTI, ⟨_, _, hTO⟩, st1 _ _ k1, st2 _ _ k2⟩, fun c hcm => ?_, q⟩
        have le : s2.heap.objs.size ≤ c := by
          simp only [List.mem_cons, List.not_mem_nil, or_false] at hcm
          rcases hcm with rfl | rfl | rfl | rfl | rfl
          · exact Nat.le_add_right _ _
          · exact Nat.le_add_right _ _
          · exact Nat.le_add_right _ _
          · exact Nat.le_refl _
          · exact Nat.le_add_right _ _
        exact I2.fpOk le (I2.hok.fresh le)
end ZS

set_option Elab.async false
set_option linter.all false
set_option maxRecDepth 100000
set_option maxHeartbeats 1000000
namespace K89
open PySem PySem.Spec PyProof.Rows L2 RP
/-! ### fleets -/
def seqD (b : Bool) (l : List D) : D := match b with
  | true => .lst l
  | false => .tup l
def pD (e : Str × Int) : Str × D := (e.1, .int e.2)
def fD (b : Bool) (hs ps : List (Str × Int)) : D := .tup [seqD b (hs.map hD), .dct (ps.map pD)]
structure HsOk (hs : List (Str × Int)) : Prop where
  n1 : 1 ≤ hs.length
  n3 : hs.length ≤ 3
  nm : ∀ e ∈ hs, okName e.1 = true
  ln : ∀ e ∈ hs, 4 ≤ e.2 ∧ e.2 ≤ 60
  nd : (hs.map Prod.fst).Nodup
structure PsOk (ps : List (Str × Int)) : Prop where
  n7 : ps.length ≤ 7
  nm : ∀ e ∈ ps, okName e.1 = true
  pr : ∀ e ∈ ps, 0 ≤ e.2 ∧ e.2 ≤ 60
theorem map_hnm (hs : List (Str × Int)) : (hs.map hD).map hnm = hs.map Prod.fst := by
  rw [List.map_map]
  rfl
theorem houses_of {l : List D} : (∀ x ∈ l, x.house = true) → ∃ hs : List (Str × Int), l = hs.map hD ∧ (∀ e ∈ hs, okName e.1 = true ∧ 4 ≤ e.2 ∧ e.2 ≤ 60) := by
  induction l with
  | nil => exact fun _ => ⟨[], rfl, fun e he => by cases he⟩
  | cons x r ih =>
    intro h
    obtain ⟨e, he, h1⟩ := house_of (h x List.mem_cons_self)
    obtain ⟨hs, h2, h3⟩ := ih fun y hy => h y (List.mem_cons_of_mem _ hy)
    refine ⟨e :: hs, by rw [he, h2]; rfl, fun y hy => ?_⟩
    rcases List.mem_cons.mp hy with rfl | hy
    · exact h1
    · exact h3 y hy
theorem proms_of {l : List (Str × D)} : (∀ e ∈ l, (okName e.1 && e.2.whole 0 60) = true) → ∃ ps : List (Str × Int), l = ps.map pD ∧ (∀ e ∈ ps, okName e.1 = true ∧ 0 ≤ e.2 ∧ e.2 ≤ 60) := by
  induction l with
  | nil => exact fun _ => ⟨[], rfl, fun e he => by cases he⟩
  | cons x r ih =>
    intro h
    have h0 := Bool.and_eq_true_iff.mp (h x List.mem_cons_self)
    obtain ⟨i, hi, h1⟩ := whole_int h0.2
    obtain ⟨ps, h2, h3⟩ := ih fun y hy => h y (List.mem_cons_of_mem _ hy)
    refine ⟨(x.1, i) :: ps, by rw [h2]; show _ = (x.1, D.int i) :: _; rw [← hi], fun y hy => ?_⟩
    rcases List.mem_cons.mp hy with rfl | hy
    · exact ⟨h0.1, h1⟩
    · exact h3 y hy
theorem fleet_of {d : D} (h : d.fleet = true) : ∃ b hs ps, d = fD b hs ps ∧ HsOk hs ∧ PsOk ps := by
  cases d with
  | tup ds =>
    match ds, h with
    | [hd, pd], h =>
      have h2 := Bool.and_eq_true_iff.mp (show (hd.houses && pd.proms) = true from h)
      obtain ⟨l, b, h3, h4⟩ : ∃ l b, hd.seq = some l ∧ hd = seqD b l := by
        cases hd with
        | lst l => exact ⟨l, true, rfl, rfl⟩
        | tup l => exact ⟨l, false, rfl, rfl⟩
        | _ => cases h2.1
      have h5 := h2.1
      rw [houses_some h3, Bool.and_eq_true, Bool.and_eq_true, Bool.and_eq_true] at h5
      obtain ⟨⟨a1, a2⟩, a3, a4⟩ := h5
      obtain ⟨hs, e1, e2⟩ := houses_of (List.all_eq_true.mp a3)
      cases pd with
      | dct pl =>
        have h6 := Bool.and_eq_true_iff.mp (show (decide (pl.length ≤ 7) && pl.all fun e => okName e.1 && e.2.whole 0 60) = true from h2.2)
        obtain ⟨ps, f1, f2⟩ := proms_of (List.all_eq_true.mp h6.2)
        have b1 := of_decide_eq_true a1
        have b2 := of_decide_eq_true a2
        have b3 := of_decide_eq_true h6.1
        have b4 := of_decide_eq_true a4
        rw [e1, List.length_map] at b1 b2
        rw [f1, List.length_map] at b3
        rw [e1, map_hnm] at b4
        refine ⟨b, hs, ps, by rw [h4, e1, f1]; rfl, ⟨b1, b2, fun e he => (e2 e he).1, fun e he => (e2 e he).2, b4⟩, ⟨b3, fun e he => (f2 e he).1, fun e he => (f2 e he).2⟩⟩
      | _ => cases h2.2
  | _ => cases h
theorem fleet_ok {b : Bool} {hs ps : List (Str × Int)} (h : HsOk hs) (p : PsOk ps) : (fD b hs ps).fleet = true := by
  have e1 : (seqD b (hs.map hD)).houses = true := by
    have e : (seqD b (hs.map hD)).seq = some (hs.map hD) := by cases b <;> rfl
    rw [houses_some e, List.length_map, decide_eq_true h.n1, decide_eq_true h.n3, map_hnm, decide_eq_true h.nd, Bool.and_true, Bool.and_true, Bool.true_and]
    refine List.all_eq_true.mpr fun x hx => ?_
    obtain ⟨e, he, rfl⟩ := List.mem_map.mp hx
    show (okName e.1 && (decide (4 ≤ e.2) && decide (e.2 ≤ 60))) = true
    rw [h.nm e he, decide_eq_true (h.ln e he).1, decide_eq_true (h.ln e he).2]
    rfl
  have e2 : (D.dct (ps.map pD)).proms = true := by
    show (decide ((ps.map pD).length ≤ 7) && (ps.map pD).all fun e => okName e.1 && e.2.whole 0 60) = true
    rw [List.length_map, decide_eq_true p.n7, Bool.true_and]
    refine List.all_eq_true.mpr fun x hx => ?_
    obtain ⟨e, he, rfl⟩ := List.mem_map.mp hx
    show (okName e.1 && (decide (0 ≤ e.2) && decide (e.2 ≤ 60))) = true
    rw [p.nm e he, decide_eq_true (p.pr e he).1, decide_eq_true (p.pr e he).2]
    rfl
  show ((seqD b (hs.map hD)).houses && (D.dct (ps.map pD)).proms) = true
  rw [e1, e2]
  rfl
def psK (ps : List (Str × Int)) : List (Key × V) := ps.map fun e => (.inr e.1, .int e.2)
/-- a fleet as it stands -/
structure FlAt (K : PySem.W.Frag) (R : Hp) (a ha pa : Addr) (xs : List V) (b : Bool) (hs ps : List (Str × Int)) : Prop where
  t : SqT K R a [.ref ha, .ref pa]
  s : Sq b K R ha xs
  n : xs.length = hs.length
  h : ∀ (i : Nat) (e : Str × Int), hs[i]? = some e → ∃ c : Addr, xs[i]? = some (.ref c) ∧ SqT K R c [.str e.1, .int e.2]
  p : R pa = some (.dK (psK ps))
theorem FlAt.same {K : PySem.W.Frag} {R H : Hp} {a ha pa : Addr} {xs : List V} {b : Bool} {hs ps : List (Str × Int)} (f : FlAt K R a ha pa xs b hs ps) (s : Same R H) : FlAt K H a ha pa xs b hs ps :=
  ⟨(Lq.of s).tup f.t, f.s.mono (Lq.of s), f.n, fun i e he => by
    obtain ⟨c, h1, h2⟩ := f.h i e he
    exact ⟨c, h1, (Lq.of s).tup h2⟩, s _ _ f.p⟩
theorem flAt {K : PySem.W.Frag} {R : Hp} {v : V} {b : Bool} {hs ps : List (Str × Int)} (pl : Plain R) (r : Rep K R v (fD b hs ps)) : ∃ a ha pa xs, v = .ref a ∧ FlAt K R a ha pa xs b hs ps := by
  cases r with
  | @tup a _ _ h r =>
    cases r with
    | @cons vh _ _ _ r1 t =>
      cases t with
      | @cons vp _ _ _ r2 t =>
        cases t
        obtain ⟨ha, xs, rfl, hS, hR⟩ : ∃ ha xs, vh = .ref ha ∧ Sq b K R ha xs ∧ Reps K R xs (hs.map hD) := by
          cases b with
          | true =>
            cases r1 with
            | lst h1 h2 => exact ⟨_, _, rfl, h1, h2⟩
          | false =>
            cases r1 with
            | tup h1 h2 => exact ⟨_, _, rfl, h1, h2⟩
        cases r2 with
        | @dct pa kvs _ hk rk =>
          have ek := repK_ints (es := ps) rk
          rw [ek] at hk
          refine ⟨a, ha, pa, xs, rfl, h, hS, by rw [hR.len, List.length_map], fun i e he => ?_, pl.rd hk⟩
          obtain ⟨v, h2, h3⟩ := hR.at (i := i) (d := hD e) (by rw [List.getElem?_map, he]; rfl)
          cases h3 with
          | @tup c _ _ hT rT =>
            cases rT with
            | cons q1 t =>
              cases q1
              cases t with
              | cons q2 t =>
                cases q2
                cases t
                exact ⟨c, h2, hT⟩
/-! ### which guests stand in a house -/
def prAt (ps : List (Str × Int)) (k : Nat) : Int := (ps.getD k ("", 0)).2
def lnAt (hs : List (Str × Int)) (i : Nat) : Int := (hs.getD i ("", 0)).2
def nmOf (l : List (Str × Int)) (i : Nat) : Str := (l.getD i ("", 0)).1
def inS (ps : List (Str × Int)) (row : List Nat) (i : Nat) : List Int := (List.range ps.length).filterMap fun k => if row.getD k 0 = i then some (prAt ps k) else none
def fit1 (hs ps : List (Str × Int)) (row : List Nat) (i : Nat) : Bool := decide ((inS ps row i).length ≤ 6) && decide ((inS ps row i).sum ≤ lnAt hs i)
def fitsB (hs ps : List (Str × Int)) (row : List Nat) : Bool := (List.range hs.length).all (fit1 hs ps row)
def natV (row : List Nat) : List V := row.map fun i => V.int ((i : Nat) : Int)
theorem inS_len (ps : List (Str × Int)) (row : List Nat) (i : Nat) : (inS ps row i).length ≤ ps.length := filterMap_range_length _ _
theorem psK_val {ps : List (Str × Int)} {k : Nat} (h : k < ps.length) : ((psK ps).map Prod.snd)[k]? = some (.int (prAt ps k)) := by
  unfold psK prAt
  rw [List.map_map, List.getElem?_map, List.getD_eq_getElem?_getD, List.getElem?_eq_getElem h]
  rfl
theorem psK_key {ps : List (Str × Int)} {k : Nat} (h : k < ps.length) : ((psK ps).map fun kv => kV kv.1)[k]? = some (.str (nmOf ps k)) := by
  unfold psK nmOf
  rw [List.map_map, List.getElem?_map, List.getD_eq_getElem?_getD, List.getElem?_eq_getElem h]
  rfl
theorem natV_get {row : List Nat} {k : Nat} (h : k < row.length) : (natV row)[k]? = some (.int ((row.getD k 0 : Nat) : Int)) := by
  unfold natV
  rw [List.getElem?_map, List.getD_eq_getElem?_getD, List.getElem?_eq_getElem h]
  rfl
section
variable {P : Program} {w : World} {K : PySem.W.Frag} {mg : Str → Option Value} {base : Heap}
/-! ### fits -/
theorem sc_fits : FnScope ["fleet", "row", "houses", "promises", "shares", "at", "name", "length", "inside", "share", "place"] ["fleet", "row"] (defScope s_fits) := ⟨rfl, rfl, rfl, by decide +kernel, rfl, by decide +kernel, by decide +kernel⟩
def spFits (K : PySem.W.Frag) : Sp := fun vs H Q _ => ∃ (a ha pa ra : Addr) (xs : List V) (b : Bool) (hs ps : List (Str × Int)) (row : List Nat), vs = [.ref a, .ref ra] ∧ FlAt K H a ha pa xs b hs ps ∧ ps.length ≤ 7 ∧ hs.length ≤ 3 ∧ SqT K H ra (natV row) ∧ row.length = ps.length ∧
  ∀ H', Same H H' → Q (.bl (fitsB hs ps row)) H'
theorem ok_fits (T : Txt K mg) : Def P w K mg base 3 "fits" ["fleet", "row"] (spFits K) := by
  obtain ⟨f, fd, F⟩ := T.a_fits
  refine Def.mk F sc_fits (fun _ _ _ _ _ _ us hl => match us, hl with | [_, _], _ => rfl) (fun vs H Q E h => ?_) (fun cdv A outer s H vs Q E hr h => ?_)
  · obtain ⟨a, ha, pa, ra, xs, b, hs, ps, row, rfl, _⟩ := h
    rfl
  · obtain ⟨a, ha, pa, ra, xs, b, hs, ps, row, rfl, hf, n7, n3, hrow, nrow, hq⟩ := h
    refine ⟨_, (pss_cons (ps_asg (pv 0) (kpg_tup K rfl (n := 2) rfl (pgs_cons (pg_name (i := 2) sc_fits.nd rfl (Or.inl rfl)) (pgs_cons (pg_name (i := 3) sc_fits.nd rfl (Or.inl rfl)) pgs_nil))))
      (pss_cons (ps_set (i := 4) sc_fits.nd rfl (Or.inl rfl) (VL.pe_listVals rfl (pv 3) (by rfl) T.b_list (by decide +kernel)))
      (pss_cons (ps_for (passes_of rfl) rfl (kpi_enumS K rfl (by rfl) T.b_enumerate (pa_cons (pv 2) pa_nil)) (kpg_tup K rfl (n := 2) rfl (pgs_cons (pg_name (i := 5) sc_fits.nd rfl (Or.inr rfl)) (pgs_cons (kpg_tup K rfl (n := 2) rfl (pgs_cons (pg_name (i := 6) sc_fits.nd rfl (Or.inl rfl)) (pgs_cons (pg_name (i := 7) sc_fits.nd rfl (Or.inl rfl)) pgs_nil))) pgs_nil)))
        (pss_cons (ps_setLc (i := 8) (own := [("share", 9), ("place", 10)]) rfl sc_fits.nd rfl rfl (sw_true rfl rfl rfl (by decide +kernel)) (ZS.kpi_zipS K rfl (by rfl) T.b_zip (pa_cons (pv 4) (pa_cons (pv 1) pa_nil))) (blkOk_by (own := [("share", 9), ("place", 10)]) (N := ["fleet", "row", "houses", "promises", "shares", "at", "name", "length", "inside", "share", "place"]) (sc := defScope s_fits) (by decide +kernel)) (fun _ _ _ _ _ => (kpg_tup K rfl (n := 2) rfl (pgs_cons (pg_name (i := 9) sc_fits.nd rfl (Or.inl rfl)) (pgs_cons (pg_name (i := 10) sc_fits.nd rfl (Or.inl rfl)) pgs_nil)))) (fun _ _ _ _ _ => (pts_one (pt_cmpR op_eq (pv 10) (pv 5) (nomark _)))) (fun _ _ _ _ _ => (pv 9)))
      (pss_one (ps_if (PW.pt (pw_or (pt_cmpR op_gt (pe_callB (kcall_len_seq K rfl) (by rfl) T.b_len (by decide +kernel) (pa_cons (pv 8) pa_nil)) (pe_gi (by rfl) T.c_MOST_GUESTS) (nomark _)) (pw_or1 (pt_cmpR op_gt (pe_callB (kcr_sum K rfl rfl) (by rfl) T.b_sum (by decide +kernel) (pa_cons (pv 8) pa_nil)) (pv 7) (nomark _))))) (pss_one (ps_ret pe_bl)) pss_nil))))
      (pss_one (ps_ret pe_bl))))), ?_⟩
    refine ⟨_, rfl, a, _, rfl, hf.t, rfl, _, _, rfl, _, _, rfl, rfl, ?_⟩
    refine ⟨_, rfl, pa, _, rfl, hf.p, fun l hl => ?_⟩
    have s1 : Same H (upd H l (.lst ((psK ps).map Prod.snd))) := same_new hl
    have hl1 : upd H l (.lst ((psK ps).map Prod.snd)) l = some (.lst ((psK ps).map Prod.snd)) := upd_same
    generalize upd H l (.lst ((psK ps).map Prod.snd)) = H1 at s1 hl1 ⊢
    have hf1 := hf.same s1
    refine ⟨_, rfl, ha, b, xs, rfl, hf1.s, ?_⟩
    refine for_it (w := walk_enumS) (fun i σ H' => ∃ (o5 o6 o7 o8 o9 o10 : Option V), σ = [some (.ref a), some (.ref ra), some (.ref ha), some (.ref pa), some (.ref l), o5, o6, o7, o8, o9, o10] ∧ (∀ k, k < i → fit1 hs ps row k = true) ∧ Same H1 H')
      ⟨_, _, _, _, _, _, rfl, (fun k hk => absurd hk (Nat.not_lt_zero _)), Same.refl _⟩ (fun i σ H' _ ⟨_, _, _, _, _, _, _, _, s⟩ => hf1.s.mono (Lq.of s)) ?_ ?_
    · rintro i x σ H2 H3 hi ⟨o5, o6, o7, o8, o9, o10, rfl, hall, s2⟩ ⟨t, vi, vx, rfl, ht, rfl, e1, hx⟩
      cases e1
      rw [hf.n] at hi
      obtain ⟨⟨nm, len⟩, he⟩ : ∃ e, hs[i]? = some e := ⟨_, List.getElem?_eq_getElem hi⟩
      obtain ⟨c, h1, h2⟩ := hf1.h i _ he
      obtain rfl : vx = .ref c := Option.some.inj ((show some vx = xs[i]? from hx.symm).trans h1)
      have s3 : Same H2 (upd H2 t (.tup [.int (i : Nat), .ref c])) := same_new ht
      have ht3 : upd H2 t (.tup [.int (i : Nat), .ref c]) t = some (.tup [.int (i : Nat), .ref c]) := upd_same
      generalize upd H2 t (.tup [.int (i : Nat), .ref c]) = H3 at s3 ht3 ⊢
      have s13 := s2.trans s3
      refine ⟨t, _, rfl, SqT.of ht3, rfl, _, _, rfl, _, _, rfl, c, _, rfl, (Lq.of s13).tup h2, rfl, _, _, rfl, _, _, rfl, rfl, rfl, ?_⟩
      have hl3 := s13 _ _ hl1
      have hrow3 := (Lq.of (s1.trans s13)).tup hrow
      have nl : ((psK ps).map Prod.snd).length = (natV row).length := by
        unfold psK natV
        rw [List.length_map, List.length_map, List.length_map]
        exact nrow.symm
      refine ⟨_, rfl, _, rfl, l, ra, _, _, _, _, rfl, .lst (SqL.of hl3), .tup hrow3, nl, fun L hL => ?_⟩
      have nps : ((psK ps).map Prod.snd).length = ps.length := by
        unfold psK
        rw [List.length_map, List.length_map]
      refine lc_vals (w := ZS.walk_zipS nl) (fun k => if row.getD k 0 = i then some (V.int (prAt ps k)) else none) hL (by omega) (fun H' s => ⟨SqL.of (s _ _ hl3), (Lq.of s).tup hrow3⟩) ?_ ?_
      · rintro k x H4 H5 Y2 N2 hk s4 hnL ⟨t2, v1, v2, rfl, ht2, rfl, g1, g2⟩ k1 k2
        rw [nps] at hk
        have g3 : v1 = .int (prAt ps k) := Option.some.inj ((show some v1 = ((psK ps).map Prod.snd)[k]? from g1.symm).trans (psK_val hk))
        have g4 : v2 = .int ((row.getD k 0 : Nat) : Int) := Option.some.inj ((show some v2 = (natV row)[k]? from g2.symm).trans (natV_get (by omega)))
        subst g3 g4
        have s5 : Same H4 (upd H4 t2 (.tup [.int (prAt ps k), .int ((row.getD k 0 : Nat) : Int)])) := same_new ht2
        refine ⟨t2, _, rfl, SqT.of upd_same, rfl, _, _, rfl, _, _, rfl, rfl, ?_⟩
        refine ⟨rfl, ⟨_, rfl, _, rfl, rfl, _, rfl, ?_⟩⟩
        show if decide (V.int ((row.getD k 0 : Nat) : Int) = V.int ((i : Nat) : Int)) = true then _ else _
        by_cases q : row.getD k 0 = i
        · rw [decide_eq_true (by rw [q])]
          exact iteT ⟨_, rfl, k1 _ _ (if_pos q) s5⟩
        · rw [decide_eq_false (fun z => q (by injection z with z; omega))]
          exact iteF (k2 _ (if_neg q) s5)
      · intro H4 s4 h4
        have e4 : ((List.range ps.length).filterMap fun k => if row.getD k 0 = i then some (V.int (prAt ps k)) else none) = (inS ps row i).map V.int := by
          unfold inS
          rw [List.map_filterMap]
          congr 1
          funext k
          split <;> rfl
        rw [nps, e4] at h4
        have nin := inS_len ps row i
        have eq1 : prAt hs i = len := by
          unfold prAt
          rw [List.getD_eq_getElem?_getD, he]
          rfl
        refine ⟨_, rfl, L, _, rfl, .inl (SqL.of h4), _, _, rfl, rfl, _, rfl, ?_⟩
        rw [List.length_map]
        have no : fit1 hs ps row i = false → Q (.bl false) H4 := fun e => by
          have z := hq H4 (s1.trans (s13.trans s4))
          have e2 : fitsB hs ps row = false := by
            cases q : fitsB hs ps row with
            | false => rfl
            | true =>
              have := List.all_eq_true.mp q i (List.mem_range.mpr hi)
              rw [e] at this
              cases this
          rw [e2] at z
          exact z
        show if decide ((6 : Int) < ((inS ps row i).length : Int)) = true then _ else _
        refine ite_dec (fun c1 => ?_) (fun c1 => ?_)
        · refine no ?_
          have q := of_decide_eq_true c1
          unfold fit1
          rw [decide_eq_false (by omega), Bool.false_and]
        · have q6 := of_decide_eq_false c1
          refine ⟨_, rfl, L, _, rfl, SqL.of h4, _, rfl, _, _, rfl, rfl, _, rfl, ?_⟩
          show if decide (len < (inS ps row i).sum) = true then _ else _
          have e5 : lnAt hs i = len := eq1
          refine ite_dec (fun c2 => ?_) (fun c2 => ?_)
          · refine no ?_
            have q := of_decide_eq_true c2
            unfold fit1
            rw [e5, decide_eq_false (by omega : ¬ (inS ps row i).sum ≤ len), Bool.and_false]
          · have q := of_decide_eq_false c2
            refine ⟨_, _, _, _, _, _, rfl, fun k hk => ?_, s13.trans s4⟩
            by_cases ek : k = i
            · rw [ek]
              unfold fit1
              rw [e5, decide_eq_true (by omega), decide_eq_true (by omega : (inS ps row i).sum ≤ len)]
              rfl
            · exact hall k (by omega)
    · rintro σ H2 ⟨o5, o6, o7, o8, o9, o10, rfl, hall, s2⟩
      rw [hf.n] at hall
      have z := hq H2 (s1.trans s2)
      rw [show fitsB hs ps row = true from List.all_eq_true.mpr fun k hk => hall k (List.mem_range.mp hk)] at z
      exact z
end
end K89

set_option Elab.async false
set_option linter.all false
set_option maxRecDepth 100000
set_option maxHeartbeats 1000000
namespace K89
open PySem PySem.Spec PyProof.Rows L2 RP
/-- the first place of a text -/
def ixS : List Str → Str → Nat
  | [], _ => 0
  | y :: r, z => if y = z then 0 else ixS r z + 1
theorem ixS_at : ∀ {l : List Str} {z : Str}, z ∈ l → l[ixS l z]? = some z
  | [], _, h => by cases h
  | y :: r, z, h => by
    unfold ixS
    by_cases e : y = z
    · rw [if_pos e, e]
      rfl
    · rw [if_neg e]
      have h2 : z ∈ r := by
        rcases List.mem_cons.mp h with q | q
        · exact absurd q.symm e
        · exact q
      exact ixS_at h2
theorem ixS_of {l : List Str} {z : Str} {i : Nat} (nd : l.Nodup) (h : l[i]? = some z) : ixS l z = i := nd_ix nd (ixS_at (List.mem_of_getElem? h)) h
def inHs (hs : List (Str × Int)) : D → Bool
  | .str z => decide (z ∈ hs.map Prod.fst)
  | _ => false
/-- whether a guest has a house -/
def plOk (hs : List (Str × Int)) (l : List (Str × D)) (g : Str) : Bool := match dlook l g with
  | some d => d.name && inHs hs d
  | none => false
def plIx (hs : List (Str × Int)) (l : List (Str × D)) (g : Str) : Nat := match dlook l g with
  | some (.str z) => ixS (hs.map Prod.fst) z
  | _ => 0
def rowL (hs ps : List (Str × Int)) (l : List (Str × D)) : List Nat := ps.map fun e => plIx hs l e.1
def rowOf (hs ps : List (Str × Int)) (pd : D) : Option (List Nat) := match pd with
  | .dct l => if l.length = ps.length ∧ (ps.all fun e => plOk hs l e.1) = true ∧ fitsB hs ps (rowL hs ps l) = true then some (rowL hs ps l) else none
  | _ => none
theorem plOk_str {hs : List (Str × Int)} {l : List (Str × D)} {g : Str} (h : plOk hs l g = true) : ∃ z, dlook l g = some (.str z) ∧ okName z = true ∧ z ∈ hs.map Prod.fst ∧ plIx hs l g = ixS (hs.map Prod.fst) z := by
  unfold plOk at h
  cases e : dlook l g with
  | none =>
    rw [e] at h
    cases h
  | some d =>
    rw [e] at h
    have h2 := Bool.and_eq_true_iff.mp h
    obtain ⟨z, rfl, hz⟩ := name_str h2.1
    refine ⟨z, rfl, hz, of_decide_eq_true h2.2, ?_⟩
    unfold plIx
    rw [e]
/-- what row_of answers -/
def RowQ (K : PySem.W.Frag) (H : Hp) (Q : VK) : Option (List Nat) → Prop
  | none => ∀ H', Same H H' → Q .non H'
  | some row => ∀ H' ra, Same H H' → SqT K H' ra (natV row) → Q (.ref ra) H'
section
variable {P : Program} {w : World} {K : PySem.W.Frag} {mg : Str → Option Value} {base : Heap}
/-! ### row_of -/
theorem sc_row_of : FnScope ["fleet", "place", "houses", "promises", "names", "house", "guest", "row"] ["fleet", "place"] (defScope s_row_of) := ⟨rfl, rfl, rfl, by decide +kernel, rfl, by decide +kernel, by decide +kernel⟩
def spRow (K : PySem.W.Frag) : Sp := fun vs H Q _ => ∃ (R : Hp) (v vp : V) (d pd : D), vs = [v, vp] ∧ Same R H ∧ Plain R ∧ Rep K R v d ∧ Rep K R vp pd ∧ d.fleet = true ∧ (∀ b hs ps, d = fD b hs ps → RowQ K H Q (rowOf hs ps pd))
theorem ok_row_of (T : Txt K mg) (G_is_name : Def P w K mg base 1 "is_name" ["thing"] (spName K)) (G_fits : Def P w K mg base 3 "fits" ["fleet", "row"] (spFits K)) : Def P w K mg base 4 "row_of" ["fleet", "place"] (spRow K) := by
  obtain ⟨f, fd, F⟩ := T.a_row_of
  refine Def.mk F sc_row_of (fun _ _ _ _ _ _ us hl => match us, hl with | [_, _], _ => rfl) (fun vs H Q E h => ?_) (fun cdv A outer s H vs Q E hr h => ?_)
  · obtain ⟨R, v, vp, d, pd, rfl, _⟩ := h
    rfl
  · obtain ⟨R, v, vp, d, pd, rfl, sR, pR, hv, hp, hfl, hq⟩ := h
    obtain ⟨b, hs, ps, rfl, oh, op⟩ := fleet_of hfl
    replace hq := hq b hs ps rfl
    obtain ⟨a, ha, pa, xs, rfl, fa⟩ := flAt pR hv
    have fH := fa.same sR
    have n3 := oh.n3
    have n7 := op.n7
    refine ⟨_, (pss_cons (ps_asg (pv 0) (kpg_tup K rfl (n := 2) rfl (pgs_cons (pg_name (i := 2) sc_row_of.nd rfl (Or.inl rfl)) (pgs_cons (pg_name (i := 3) sc_row_of.nd rfl (Or.inl rfl)) pgs_nil))))
      (pss_cons (ps_set (i := 4) sc_row_of.nd rfl (Or.inr rfl) (pe_lc (own := [("house", 5)]) rfl sc_row_of.nd (kpi_seq K rfl (pv 2)) (blkOk_by (own := [("house", 5)]) (N := ["fleet", "place", "houses", "promises", "names", "house", "guest", "row"]) (sc := defScope s_row_of) (by decide +kernel)) (fun _ _ _ _ _ => (pg_name (i := 5) sc_row_of.nd rfl (Or.inl rfl))) (fun _ _ _ _ _ => pts_nil) (fun _ _ _ _ _ => (pe_ix (kix_tup K rfl) (pv 5) pe_int (fun _ _ => rfl)))))
      (pss_cons (ps_if (PW.pt (pw_or (pt_not (pt_val (pe_callB (kcall_is K rfl) (by rfl) T.b_isinstance (by decide +kernel) (pa_cons (pv 1) (pa_cons (pe_bltn (v := .ty "dict") (by rfl) T.b_dict (by decide +kernel) rfl) pa_nil))))) (pw_or1 (pt_cmpR op_ne (pe_callB call_lenD (by rfl) T.b_len (by decide +kernel) (pa_cons (pv 1) pa_nil)) (pe_callB call_lenD (by rfl) T.b_len (by decide +kernel) (pa_cons (pv 3) pa_nil)) (nomark _))))) (pss_one (ps_ret pe_non)) pss_nil)
      (pss_cons (ps_if (pt_not (pt_val (pe_callB (kcr_all K rfl rfl) (by rfl) T.b_all (by decide +kernel) (pa_cons (pe_lock (pe_lc (own := [("guest", 6)]) rfl sc_row_of.nd (pi_keys (pv 3)) (blkOk_by (own := [("guest", 6)]) (N := ["fleet", "place", "houses", "promises", "names", "house", "guest", "row"]) (sc := defScope s_row_of) (by decide +kernel)) (fun _ _ _ _ _ => (pg_name (i := 6) sc_row_of.nd rfl (Or.inl rfl))) (fun _ _ _ _ _ => pts_nil) (fun _ _ _ _ _ => (pe_and (pe_cmp (pc_din (hu_of hr) (pv 6) (pv 1))) (pe_and (pe_d G_is_name (hr.mono (by decide)) (by rfl) (pa_cons (pe_dget (hu_of hr) (pv 1) (pv 6) (fun _ _ => rfl)) pa_nil)) (pe_one (pe_cmpR (kop_in_seq K rfl) (pe_dget (hu_of hr) (pv 1) (pv 6) (fun _ _ => rfl)) (pv 4) (by rfl)))))))) pa_nil)))) (pss_one (ps_ret pe_non)) pss_nil)
      (pss_cons (ps_set (i := 7) sc_row_of.nd rfl (Or.inl rfl) (pe_callTy (kcall_tuple_of K rfl) (by rfl) T.b_tuple (by decide +kernel) (pa_cons (pe_lock (pe_lc (own := [("guest", 6)]) rfl sc_row_of.nd (pi_keys (pv 3)) (blkOk_by (own := [("guest", 6)]) (N := ["fleet", "place", "houses", "promises", "names", "house", "guest", "row"]) (sc := defScope s_row_of) (by decide +kernel)) (fun _ _ _ _ _ => (pg_name (i := 6) sc_row_of.nd rfl (Or.inl rfl))) (fun _ _ _ _ _ => pts_nil) (fun _ _ _ _ _ => (kpe_bm K rfl (pe_bm PySem.F.plainAttrs_list PySem.F.slot_list_index PySem.F.type_list_index (kmt_indexB K rfl) (pv 4) (pa_cons (pe_dget (hu_of hr) (pv 1) (pv 6) (fun _ _ => rfl)) pa_nil)))))) pa_nil)))
      (pss_one (ps_ret (pe_ifExp (pt_val (pe_d G_fits (hr.mono (by decide)) (by rfl) (pa_cons (pv 0) (pa_cons (pv 7) pa_nil)))) (pv 7) pe_non)))))))), ?_⟩
    refine ⟨_, rfl, a, _, rfl, fH.t, rfl, _, _, rfl, _, _, rfl, rfl, ?_⟩
    refine ⟨_, rfl, ha, b, rfl, ⟨_, fH.s⟩, fun N hN => ?_⟩
    refine lc_vals (w := walk_seq) (fun i => hs[i]?.map fun e => V.str e.1) hN (by rw [fa.n]; omega) (fun H' s => fH.s.mono (Lq.of s)) ?_ ?_
    · rintro i x H1 H2 Y2 N2 hi s1 hnL ⟨rfl, hx⟩ k1 k2
      obtain ⟨e, he⟩ : ∃ e, hs[i]? = some e := ⟨_, List.getElem?_eq_getElem (by rw [fa.n] at hi; exact hi)⟩
      obtain ⟨c, h2, h3⟩ := fH.h i e he
      rw [h2] at hx
      cases hx
      exact ⟨rfl, ⟨_, rfl, c, _, 0, _, rfl, rfl, (Lq.of s1).tup h3, rfl, k1 _ _ (by rw [he]; rfl) (Same.refl _)⟩⟩
    · intro H1 s1 h1
      rw [fa.n, range_all] at h1
      have en : (hs.map fun e => V.str e.1) = (hs.map Prod.fst).map V.str := by rw [List.map_map]; rfl
      rw [en] at h1
      have sR1 := sR.trans s1
      have f1 := fa.same sR1
      refine ⟨_, rfl, rd_isi (hp.same sR1) ⟨_, rfl, ?_⟩⟩
      cases pd with
      | dct l =>
        cases hp with
        | @dct q kvs _ hk rk =>
        have hq1 : H1 q = some (.dK kvs) := sR1 _ _ (pR.rd hk)
        have hlk := rk.len
        have lps : (psK ps).length = ps.length := by
          unfold psK
          rw [List.length_map]
        refine iteF ⟨_, rfl, q, kvs, rfl, hq1, _, rfl, pa, _, rfl, f1.p, rfl, _, rfl, ?_⟩
        rw [lps]
        show if (!decide (V.int ((kvs.length : Nat) : Int) = V.int ((ps.length : Nat) : Int))) = true then _ else _
        have no : rowOf hs ps (.dct l) = none → ∀ H', Same H1 H' → Q .non H' := fun e H' s => by
          rw [e] at hq
          exact hq H' (s1.trans s)
        by_cases e1 : l.length = ps.length
        · rw [decide_eq_true (by rw [hlk, e1])]
          refine iteF ?_
          refine ⟨pa, .dK (psK ps), f1.p, True.intro, fun od => ⟨_, rfl, pa, od, rfl, .inl ⟨psK ps, upd_same, fun L hL => ?_⟩⟩⟩
          have La : L ≠ pa := fun e => by
            rw [e, upd_same] at hL
            cases hL
          have lqL : Lq R (upd H1 pa (.frz od (.dK (psK ps)))) := (Lq.of sR1).lock f1.p True.intro
          have Npa : N ≠ pa := fun e => by
            rw [e, f1.p] at h1
            cases h1
          have hN1 : upd H1 pa (.frz od (.dK (psK ps))) N = some (.lst ((hs.map Prod.fst).map V.str)) := by rw [upd_ne Npa]; exact h1
          refine lc_vals (w := walk_keys) (fun i => ps[i]?.map fun e => V.bl (plOk hs l e.1)) hL (by omega) (fun H' s => s _ _ upd_same) ?_ ?_
          · rintro i x H2 H3 Y2 N2 hi s2 hnL ⟨rfl, k, v, hkv, rfl⟩ k1 k2
            rw [lps] at hi
            obtain ⟨e, he⟩ : ∃ e, ps[i]? = some e := ⟨_, List.getElem?_eq_getElem hi⟩
            have hkv2 : (psK ps)[i]? = some (.inr e.1, .int e.2) := by
              unfold psK
              rw [List.getElem?_map, he]
              rfl
            rw [hkv2] at hkv
            cases hkv
            have fin : ∀ {b : Bool} {H5 : Hp}, plOk hs l e.1 = b → Same H3 H5 → Y2 (.bl b) H5 := fun {b H5} e2 s => k1 _ _ (by rw [he, ← e2]; rfl) s
            have lq3 : Lq R H3 := lqL.trans (Lq.of s2)
            have hN3 := s2 _ _ hN1
            have rk3 := rk.mono lq3
            have hk3 := lq3 _ _ hk
            refine ⟨rfl, ⟨_, rfl, _, rfl, q, valV kvs (.inr e.1), rfl, .inl ⟨kvs, .inr e.1, hk3, rfl, rfl⟩, _, rfl, ?_⟩⟩
            rcases rk3.val e.1 with ⟨v, d, g1, g2, rd⟩ | ⟨g1, g2⟩
            · rw [g1]
              have po : plOk hs l e.1 = (d.name && inHs hs d) := by
                unfold plOk
                rw [g2]
              refine iteT ⟨_, rfl, _, rfl, q, v, rfl, .inl ⟨kvs, .inr e.1, hk3, rfl, g1.symm⟩, v, d, rfl, rd, fun H4 s4 => ⟨_, rfl, ?_⟩⟩
              show if d.name = true then _ else _
              cases c : d.name with
              | false =>
                rw [c, Bool.false_and] at po
                exact iteF (fin po s4)
              | true =>
                obtain ⟨z, rfl, hz⟩ := name_str c
                cases rd
                refine iteT ⟨_, rfl, _, rfl, q, .str z, rfl, .inl ⟨kvs, .inr e.1, (Lq.of s4) _ _ hk3, rfl, g1.symm⟩, ?_⟩
                refine ⟨_, rfl, N, _, rfl, .inl (SqL.of (s4 _ _ hN3)), rfl, flat_strs _, ?_⟩
                rw [inV_strs]
                refine fin ?_ s4
                rw [po, c]
                rfl
            · rw [g1]
              exact iteF (fin (by unfold plOk; rw [g2]) (Same.refl _))
          · intro H2 s2 h2
            rw [lps, range_all] at h2
            have s12 : Same H1 (upd H2 pa (.dK (psK ps))) := Same.unlock f1.p s2
            refine ⟨s2 _ _ upd_same, L, ps.map fun e => plOk hs l e.1, rfl, SqL.of (by rw [upd_ne La, h2, List.map_map]; rfl), _, rfl, ?_⟩
            generalize upd H2 pa (.dK (psK ps)) = H3 at s12 ⊢
            rw [show (ps.map fun e => plOk hs l e.1).all id = ps.all fun e => plOk hs l e.1 from by rw [List.all_map]; rfl]
            cases c : ps.all fun e => plOk hs l e.1 with
            | false => exact iteT (no (if_neg (fun z => by rw [c] at z; cases z.2.1)) _ s12)
            | true =>
              refine iteF ?_
              have hall := List.all_eq_true.mp c
              have fB := f1.same s12
              have sRB := sR1.trans s12
              refine ⟨pa, .dK (psK ps), fB.p, True.intro, fun od2 => ⟨_, rfl, pa, od2, rfl, .inl ⟨psK ps, upd_same, fun M hM => ?_⟩⟩⟩
              have Ma : M ≠ pa := fun e => by
                rw [e, upd_same] at hM
                cases hM
              have lqM : Lq R (upd H3 pa (.frz od2 (.dK (psK ps)))) := (Lq.of sRB).lock fB.p True.intro
              have hNB : upd H3 pa (.frz od2 (.dK (psK ps))) N = some (.lst ((hs.map Prod.fst).map V.str)) := by rw [upd_ne Npa]; exact s12 _ _ h1
              refine lc_vals (w := walk_keys) (fun i => ps[i]?.map fun e => V.int ((plIx hs l e.1 : Nat) : Int)) hM (by omega) (fun H' s => s _ _ upd_same) ?_ ?_
              · rintro i x H4 H5 Y2 N2 hi s4 hnM ⟨rfl, k, v, hkv, rfl⟩ k1 k2
                rw [lps] at hi
                obtain ⟨e, he⟩ : ∃ e, ps[i]? = some e := ⟨_, List.getElem?_eq_getElem hi⟩
                have hkv2 : (psK ps)[i]? = some (.inr e.1, .int e.2) := by
                  unfold psK
                  rw [List.getElem?_map, he]
                  rfl
                rw [hkv2] at hkv
                cases hkv
                obtain ⟨z, g0, _, gz, gi⟩ := plOk_str (hall e (List.mem_of_getElem? he))
                have lq5 : Lq R H5 := lqM.trans (Lq.of s4)
                have hN5 := s4 _ _ hNB
                rcases (rk.mono lq5).val e.1 with ⟨v, d, g1, g2, rd⟩ | ⟨g1, g2⟩
                · rw [g0] at g2
                  cases g2
                  cases rd
                  refine ⟨rfl, ⟨_, rfl, .inl ⟨rfl, _, SqL.of hN5⟩, _, rfl, _, rfl, q, .str z, rfl, .inl ⟨kvs, .inr e.1, lq5 _ _ hk, rfl, g1.symm⟩, ?_⟩⟩
                  refine rd_index (SqL.of hN5) oh.nd (ixS_at gz) ?_
                  rw [← gi]
                  exact k1 _ _ (by rw [he]; rfl) (Same.refl _)
                · rw [g0] at g2
                  cases g2
              · intro H4 s4 h4
                rw [lps, range_all] at h4
                have er : (ps.map fun e => V.int ((plIx hs l e.1 : Nat) : Int)) = natV (rowL hs ps l) := by
                  unfold natV rowL
                  rw [List.map_map]
                  rfl
                rw [er] at h4
                have s34 : Same H3 (upd H4 pa (.dK (psK ps))) := Same.unlock fB.p s4
                have h5 : upd H4 pa (.dK (psK ps)) M = some (.lst (natV (rowL hs ps l))) := by rw [upd_ne Ma]; exact h4
                refine ⟨s4 _ _ upd_same, M, _, rfl, .inl ⟨SqL.of h5, fun r hr2 => ?_⟩⟩
                have s56 : Same (upd H4 pa (.dK (psK ps))) (upd (upd H4 pa (.dK (psK ps))) r (.tup (natV (rowL hs ps l)))) := same_new hr2
                have hr6 : upd (upd H4 pa (.dK (psK ps))) r (.tup (natV (rowL hs ps l))) r = some (.tup (natV (rowL hs ps l))) := upd_same
                generalize upd (upd H4 pa (.dK (psK ps))) r (.tup (natV (rowL hs ps l))) = H6 at s56 hr6 ⊢
                have s36 := s34.trans s56
                have f6 := fB.same s36
                have nrow : (rowL hs ps l).length = ps.length := by
                  unfold rowL
                  rw [List.length_map]
                refine ⟨_, rfl, _, rfl, a, ha, pa, r, xs, b, hs, ps, rowL hs ps l, rfl, f6, n7, n3, SqT.of hr6, nrow, fun H7 s7 => ⟨_, rfl, ?_⟩⟩
                show if fitsB hs ps (rowL hs ps l) = true then _ else _
                have s17 := s12.trans (s36.trans s7)
                cases cf : fitsB hs ps (rowL hs ps l) with
                | false => exact iteF (no (if_neg (fun z => by rw [cf] at z; cases z.2.2)) _ s17)
                | true =>
                  have e2 : rowOf hs ps (.dct l) = some (rowL hs ps l) := if_pos ⟨e1, c, cf⟩
                  rw [e2] at hq
                  exact iteT ⟨_, rfl, hq H7 r (s1.trans s17) (SqT.of (s7 _ _ hr6))⟩
        · rw [decide_eq_false (fun z => e1 (by injection z with z; omega))]
          exact iteT (no (if_neg (fun z => e1 z.1)) H1 (Same.refl _))
      | _ => exact iteT (iteT (hq H1 s1))
end
end K89

set_option Elab.async false
set_option linter.all false
set_option maxRecDepth 100000
set_option maxHeartbeats 1000000
/-! DE: == and != of data without dicts; != of a dict and an empty one. -/
namespace RP
open PySem PySem.Spec PyProof.Rows L2
mutual
def D.py : D → PyData
  | .non => .none
  | .bl b => .bool b
  | .int i => .int i
  | .str z => .str z
  | .lst l => .list (D.pys l)
  | .tup l => .tuple (D.pys l)
  | .dct _ => .dict []
def D.pys : List D → List PyData
  | [] => []
  | d :: r => d.py :: D.pys r
end
/-- data of nesting below n without dicts, its texts well made -/
def Lo : Nat → D → Prop
  | 0, _ => False
  | _ + 1, .non => True
  | _ + 1, .bl _ => True
  | _ + 1, .int _ => True
  | _ + 1, .str z => PyData.strOk z = true
  | n + 1, .lst l => ∀ e ∈ l, Lo n e
  | n + 1, .tup l => ∀ e ∈ l, Lo n e
  | _ + 1, .dct _ => False
mutual
theorem Rep.dp {K : PySem.W.Frag} {H : Hp} : ∀ {n : Nat} {v : V} {d : D}, Rep K H v d → Lo n d → Dp K H v d.py
  | 0, _, _, _, h => h.elim
  | _ + 1, _, _, .non, _ => by unfold D.py; exact .non
  | _ + 1, _, _, .bl b, _ => by unfold D.py; exact .bl b
  | _ + 1, _, _, .int i, _ => by unfold D.py; exact .int i
  | _ + 1, _, _, .str z _, _ => by unfold D.py; exact .str z
  | n + 1, _, _, .lst h r, f => by unfold D.py; exact .lst h (Reps.dp (n := n) r f)
  | n + 1, _, _, .tup h r, f => by unfold D.py; exact .tup h (Reps.dp (n := n) r f)
  | _ + 1, _, _, .dct _ _, f => f.elim
theorem Reps.dp {K : PySem.W.Frag} {H : Hp} : ∀ {n : Nat} {vs : List V} {ds : List D}, Reps K H vs ds → (∀ e ∈ ds, Lo n e) → DpAll K H vs (D.pys ds)
  | _, _, _, .nil, _ => by unfold D.pys; exact .nil
  | _, _, _, .cons h t, f => by unfold D.pys; exact .cons (Rep.dp h (f _ List.mem_cons_self)) (Reps.dp t fun e he => f e (List.mem_cons_of_mem _ he))
end
theorem pys_bits {n : Nat} (ih : ∀ d : D, Lo n d → d.py.canLay0 = true ∧ d.py.depth ≤ n) : ∀ l : List D, (∀ e ∈ l, Lo n e) → PyData.canLayAll0 (D.pys l) = true ∧ PyData.depthAll (D.pys l) ≤ n
  | [], _ => by
    unfold D.pys PyData.canLayAll0 PyData.depthAll
    exact ⟨rfl, Nat.zero_le _⟩
  | d :: r, f => by
    have h1 := ih d (f d List.mem_cons_self)
    have h2 := pys_bits ih r fun e he => f e (List.mem_cons_of_mem _ he)
    unfold D.pys PyData.canLayAll0 PyData.depthAll
    exact ⟨by rw [h1.1, h2.1]; rfl, by omega⟩
theorem lo_bits : ∀ {n : Nat} (d : D), Lo n d → d.py.canLay0 = true ∧ d.py.depth ≤ n
  | 0, _, h => h.elim
  | _ + 1, .non, _ => by unfold D.py PyData.canLay0 PyData.depth; exact ⟨rfl, Nat.zero_le _⟩
  | _ + 1, .bl b, _ => by unfold D.py PyData.canLay0 PyData.depth; exact ⟨rfl, Nat.zero_le _⟩
  | _ + 1, .int i, _ => by unfold D.py PyData.canLay0 PyData.depth; exact ⟨rfl, Nat.zero_le _⟩
  | _ + 1, .str z, h => by unfold D.py PyData.canLay0 PyData.depth; exact ⟨h, Nat.zero_le _⟩
  | n + 1, .lst l, f => by
    have h := pys_bits (fun d => lo_bits (n := n) d) l f
    unfold D.py PyData.canLay0 PyData.depth
    exact ⟨h.1, by omega⟩
  | n + 1, .tup l, f => by
    have h := pys_bits (fun d => lo_bits (n := n) d) l f
    unfold D.py PyData.canLay0 PyData.depth
    exact ⟨h.1, by omega⟩
  | _ + 1, .dct _, f => f.elim
theorem Lo.shaped {n : Nat} {d : D} (h : Lo n d) (hn : n ≤ 64 := by decide) : SeqAt.shaped d.py = true := by
  obtain ⟨h1, h2⟩ := lo_bits d h
  unfold SeqAt.shaped
  rw [h1, decide_eq_true (by omega)]
  rfl
theorem eqv_nil (l : List D) : PyData.eqv (D.lst l).py (.list []) = l.isEmpty := by
  cases l <;> rfl
/-- the two texts of a pair -/
def D.two : D → Option (Str × Str)
  | .tup [.str x, .str y] => some (x, y)
  | _ => none
theorem eqv_str (d : D) (a : Str) : PyData.eqv d.py (.str a) = (match d with
    | .str x => x == a
    | _ => false) := by
  cases d <;> (unfold D.py; first | rfl | (unfold PyData.eqv; rfl))
theorem eqv_two (d : D) (a b : Str) : PyData.eqv d.py (.tuple [.str a, .str b]) = decide (d.two = some (a, b)) := by
  cases d with
  | tup l =>
    match l with
    | [] => rfl
    | [x] =>
      unfold D.py D.pys D.pys PyData.eqv PyData.eqvAll PyData.eqvAll
      rw [Bool.and_false]
      cases x <;> rfl
    | [x, y] =>
      unfold D.py D.pys D.pys D.pys PyData.eqv PyData.eqvAll PyData.eqvAll PyData.eqvAll
      rw [eqv_str, eqv_str, Bool.and_true]
      cases x with
      | str x =>
        cases y with
        | str y =>
          show (x == a && y == b) = decide (some (x, y) = some (a, b))
          by_cases h1 : x = a
          · by_cases h2 : y = b
            · subst h1 h2
              rw [beq_self_eq_true, beq_self_eq_true, decide_eq_true rfl]
              rfl
            · rw [beq_false_of_ne h2, Bool.and_false, decide_eq_false (fun q => h2 (by injection q with q; injection q))]
          · rw [beq_false_of_ne h1, Bool.false_and, decide_eq_false (fun q => h1 (by injection q with q; injection q))]
        | _ => exact Bool.and_false _
      | _ => rfl
    | x :: y :: z :: r =>
      unfold D.py D.pys D.pys D.pys PyData.eqv PyData.eqvAll PyData.eqvAll PyData.eqvAll
      rw [Bool.and_false, Bool.and_false]
      cases x <;> cases y <;> rfl
  | _ => rfl
theorem pair_shaped {a b : Str} (ha : PyData.strOk a = true) (hb : PyData.strOk b = true) : SeqAt.shaped (.tuple [.str a, .str b]) = true := by
  have h : Lo 3 (.tup [.str a, .str b]) := fun e he => by
    rcases List.mem_cons.mp he with rfl | he
    · exact ha
    · rw [List.mem_singleton.mp he]
      exact hb
  exact Lo.shaped h
/-- a dict != an empty dict -/
def rNeD0 : R2 := fun x y G Q => ∃ (a b : Addr) (ks : List (Key × V)), x = .ref a ∧ y = .ref b ∧ G a = some (.dK ks) ∧ G b = some (.dK []) ∧ Q (.bl (!ks.isEmpty)) G
theorem op_neD0 {X : Cx} (hu : X.A.units + 64 < cLine) : OpR X (compareOp .NotEq) rNeD0 := by
  intro pins s σ G x y v u Q I rx ry h
  obtain ⟨a, b, ks, rfl, rfl, ea, eb, q⟩ := h
  cases rx
  cases ry
  obtain ⟨_, y1, va, ra, da⟩ := (show ObjOk X.prog X.w G s.heap a (.dK ks) from I.hok a _ ea)
  obtain ⟨_, y2, vb, rb, db⟩ := (show ObjOk X.prog X.w G s.heap b (.dK []) from I.hok b _ eb)
  have la := ra.length
  have lb := rb.length
  refine PySem.W.keq_ne (knd := mixKind X.prog X.w) (r := true) y1 y2 da db (by omega) (fun e => hits_all rb ra fun p hp => ?_) (fin_bl I q ?_)
  · have : ks.length = 0 := by rw [la, e, ← lb]; rfl
    rw [List.length_eq_zero_iff.mp this] at hp
    cases hp
  · have e0 : vb.length = 0 := by rw [← lb]; rfl
    rw [e0, ← la]
    cases ks with
    | nil => rfl
    | cons k r =>
      have : ((k :: r).length == 0) = false := rfl
      rw [this]
      rfl
end RP

set_option Elab.async false
set_option linter.all false
set_option maxRecDepth 100000
set_option maxHeartbeats 1000000
namespace RP
open PySem PySem.Spec PyProof.Rows L2
theorem rd_cat {K : PySem.W.Frag} {H : Hp} {a b : Addr} {xs ys : List V} {Q : VK} (ha : SqT K H a xs) (hb : SqT K H b ys) (hz : xs.length + ys.length ≤ 1000) (q : ∀ p H', Same H H' → SqT K H' p (xs ++ ys) → Q (.ref p) H') : rCatA K (.ref a) (.ref b) H Q :=
  ⟨a, b, xs, ys, rfl, rfl, ha, hb, (by have : 1000 ≤ sizeLine := by decide
                                       omega), fun e => q b H (Same.refl H) (by rw [e]; exact hb), fun _ e => q a H (Same.refl H) (by rw [e, List.append_nil]; exact ha), fun _ _ p hp => q p _ (same_new hp) (SqT.of upd_same)⟩
theorem cut_left (xs : List V) (k : Nat) : cutV xs none (some (k : Int)) = xs.take k := by
  unfold cutV
  rw [HT.sIx_nat, HT.sIx_none, List.drop_zero, Nat.sub_zero]
  by_cases h : k ≤ xs.length
  · rw [Nat.min_eq_left h]
  · rw [Nat.min_eq_right (by omega), List.take_length, List.take_of_length_le (by omega)]
theorem cut_right (xs : List V) (k : Nat) : cutV xs (some (k : Int)) none = xs.drop k := by
  unfold cutV
  rw [HT.sIx_nat, HT.sIx_none]
  by_cases h : k ≤ xs.length
  · rw [Nat.min_eq_left h, List.take_of_length_le (by rw [List.length_drop]; omega)]
  · rw [Nat.min_eq_right (by omega), List.drop_length, List.drop_eq_nil_of_le (by omega), List.take_nil]
end RP
namespace K89
open PySem PySem.Spec PyProof.Rows L2 RP
/-- an error of the class x, its field the very thing -/
def Errs (K : PySem.W.Frag) (x f : Str) (v : V) (H : Hp) (E : XK) : Prop := ∀ (H' : Hp) (d : Addr), Same H H' → H d = none → H' d = some (.xd [(f, v)]) → E (.ref (He.ga K x)) (some d) H'
theorem Errs.same {K : PySem.W.Frag} {x f : Str} {v : V} {H H1 : Hp} {E : XK} (s : Same H H1) (h : Errs K x f v H E) : Errs K x f v H1 E := fun H' d s' hd e => h H' d (s.trans s') (s.free hd) e
theorem fD_inj {b b2 : Bool} {hs ps hs2 ps2 : List (Str × Int)} (h : fD b hs ps = fD b2 hs2 ps2) : b = b2 ∧ hs = hs2 ∧ ps = ps2 := by
  have h1 := D.tup.inj h
  have h2 := (List.cons.inj h1).1
  have h3 := D.dct.inj (List.cons.inj (List.cons.inj h1).2).1
  have ih : ∀ x y : Str × Int, hD x = hD y → x = y := fun x y e => by
    have e1 := D.tup.inj e
    have e2 := D.str.inj (List.cons.inj e1).1
    have e3 := D.int.inj (List.cons.inj (List.cons.inj e1).2).1
    exact Prod.ext e2 e3
  have ip : ∀ x y : Str × Int, pD x = pD y → x = y := fun x y e => by
    have e1 := Prod.mk.inj e
    exact Prod.ext e1.1 (D.int.inj e1.2)
  refine ⟨?_, ?_, (List.map_inj_right ip).mp h3⟩
  · cases b <;> cases b2 <;> first | rfl | exact nomatch h2
  · cases b <;> cases b2
    · exact (List.map_inj_right ih).mp (D.tup.inj h2)
    · exact nomatch h2
    · exact nomatch h2
    · exact (List.map_inj_right ih).mp (D.lst.inj h2)
def plD (hs ps : List (Str × Int)) (row : List Nat) : List (Str × D) := (List.range ps.length).map fun k => (nmOf ps k, .str (nmOf hs (row.getD k 0)))
def plK (hs ps : List (Str × Int)) (row : List Nat) : List (Key × V) := (List.range ps.length).map fun k => (.inr (nmOf ps k), .str (nmOf hs (row.getD k 0)))
theorem nmOf_get {l : List (Str × Int)} {i : Nat} (h : i < l.length) : (l.map Prod.fst)[i]? = some (nmOf l i) := by
  unfold nmOf
  rw [List.getElem?_map, List.getD_eq_getElem?_getD, List.getElem?_eq_getElem h]
  rfl
theorem names_eq (l : List (Str × Int)) : (List.range l.length).map (nmOf l) = l.map Prod.fst := by
  refine List.ext_getElem? fun i => ?_
  rw [List.getElem?_map]
  by_cases h : i < l.length
  · rw [List.getElem?_range h, nmOf_get h]
    rfl
  · rw [List.getElem?_eq_none (by simp; omega), List.getElem?_eq_none (by simp; omega)]
    rfl
/-- the moves that are possible: guest, house, row after -/
def mvAt (hs ps : List (Str × Int)) (row : List Nat) (g h : Nat) : Option (Nat × Nat × List Nat) := if h ≠ row.getD g 0 ∧ fitsB hs ps (row.set g h) = true then some (g, h, row.set g h) else none
def mvG (hs ps : List (Str × Int)) (row : List Nat) (n : Nat) (g : Nat) : List (Nat × Nat × List Nat) := (List.range n).filterMap (mvAt hs ps row g)
def movesR (hs ps : List (Str × Int)) (row : List Nat) : List (Nat × Nat × List Nat) := (List.range ps.length).flatMap (mvG hs ps row hs.length)
/-- a move as it stands -/
def MvAt (K : PySem.W.Frag) (H : Hp) (m : Nat × Nat × List Nat) (z : V) : Prop := ∃ t r : Addr, z = .ref t ∧ SqT K H t [.int (m.1 : Nat), .int (m.2.1 : Nat), .ref r] ∧ SqT K H r (natV m.2.2)
theorem MvAt.same {K : PySem.W.Frag} {H H' : Hp} {m : Nat × Nat × List Nat} {z : V} (s : Same H H') (h : MvAt K H m z) : MvAt K H' m z := by
  obtain ⟨t, r, e, h1, h2⟩ := h
  exact ⟨t, r, e, (Lq.of s).tup h1, (Lq.of s).tup h2⟩
theorem mvs_same {K : PySem.W.Frag} {H H' : Hp} {ms : List (Nat × Nat × List Nat)} {zs : List V} (s : Same H H') (h : Paired (MvAt K H) ms zs) : Paired (MvAt K H') ms zs := paired_mono (fun _ _ => MvAt.same s) h
theorem mvG_len (hs ps : List (Str × Int)) (row : List Nat) (n g : Nat) : (mvG hs ps row n g).length ≤ n := filterMap_range_length _ _
theorem flat_len {α : Type} (f : Nat → List α) (m : Nat) (h : ∀ i, (f i).length ≤ m) : ∀ n, ((List.range n).flatMap f).length ≤ m * n
  | 0 => Nat.zero_le _
  | n + 1 => by
    rw [List.range_succ, List.flatMap_append, List.length_append, List.flatMap_singleton, Nat.mul_succ]
    exact Nat.add_le_add (flat_len f m h n) (h n)
theorem flat_next {α : Type} (f : Nat → List α) (n : Nat) : (List.range (n + 1)).flatMap f = (List.range n).flatMap f ++ f n := by
  rw [List.range_succ, List.flatMap_append, List.flatMap_singleton]
theorem set_cut (row : List Nat) (g h : Nat) (hg : g < row.length) : (natV row).take g ++ [V.int (h : Nat)] ++ (natV row).drop (g + 1) = natV (row.set g h) := by
  unfold natV
  rw [← List.map_take, ← List.map_drop, List.set_eq_take_append_cons_drop, if_pos hg, List.map_append, List.map_cons, List.append_assoc]
  rfl
theorem nm_size {l : List (Str × Int)} (h : ∀ e ∈ l, okName e.1 = true) {i : Nat} (hi : i < l.length) : (nmOf l i).length ≤ sizeLine := by
  unfold nmOf
  rw [List.getD_eq_getElem?_getD, List.getElem?_eq_getElem hi]
  have h1 := h _ (List.getElem_mem hi)
  unfold okName at h1
  rw [Bool.and_eq_true, Bool.and_eq_true] at h1
  have h2 := of_decide_eq_true h1.2.1
  have : 8 ≤ sizeLine := by decide
  exact Nat.le_trans h2 this
theorem repK_strs {K : PySem.W.Frag} {H : Hp} : ∀ {es : List (Str × Str)} {kvs : List (Key × V)}, RepK K H kvs (es.map fun e => (e.1, D.str e.2)) → kvs = es.map fun e => (Sum.inr e.1, V.str e.2)
  | [], _, r => by cases r; rfl
  | e :: es, _, r => by
    rw [List.map_cons] at r
    cases r with
    | cons hx h t =>
      cases h
      rw [List.map_cons, repK_strs t]
theorem plK_nd {hs ps : List (Str × Int)} {row : List Nat} (nd : (ps.map Prod.fst).Nodup) : ((plK hs ps row).map Prod.fst).Nodup := by
  have e : (plK hs ps row).map Prod.fst = (ps.map Prod.fst).map Sum.inr := by
    unfold plK
    rw [← names_eq, List.map_map, List.map_map]
    rfl
  rw [e]
  unfold List.Nodup
  rw [List.pairwise_map]
  exact nd.imp fun q e => q (by injection e)
section
variable {P : Program} {w : World} {K : PySem.W.Frag} {mg : Str → Option Value} {base : Heap}
/-! ### need_fleet -/
theorem sc_need_fleet : FnScope ["fleet"] ["fleet"] (defScope s_need_fleet) := ⟨rfl, rfl, rfl, by decide +kernel, rfl, by decide +kernel, by decide +kernel⟩
def spNeedF (K : PySem.W.Frag) : Sp := fun vs H Q E => ∃ (R : Hp) (v : V) (d : D), vs = [v] ∧ Same R H ∧ Plain R ∧ Rep K R v d ∧ (d.fleet = false → Errs K "NoFleet" "found" v H E) ∧ (d.fleet = true → ∀ H', Same H H' → Q .non H')
theorem ok_need_fleet (T : Txt K mg) (G_is_fleet : Def P w K mg base 4 "is_fleet" ["thing"] (spFleet K)) : Def P w K mg base 5 "need_fleet" ["fleet"] (spNeedF K) := by
  obtain ⟨f, fd, F⟩ := T.a_need_fleet
  refine Def.mk F sc_need_fleet (fun _ _ _ _ _ _ us hl => match us, hl with | [_], _ => rfl) (fun vs H Q E h => ?_) (fun cdv A outer s H vs Q E hr h => ?_)
  · obtain ⟨R, v, d, rfl, _⟩ := h
    rfl
  · obtain ⟨R, v, d, rfl, sR, pR, hv, h1, h2⟩ := h
    refine ⟨_, (pss_one (ps_if (pt_not (pt_val (pe_d G_is_fleet (hr.mono (by decide)) (by rfl) (pa_cons (pv 0) pa_nil)))) (pss_one (ps_raise rfl tkB (pmk_NoFleet hr T (pa_cons (pv 0) pa_nil)))) pss_nil)), ?_⟩
    refine ⟨_, rfl, R, v, d, rfl, sR, pR, hv, fun H1 s1 => ⟨_, rfl, ?_⟩⟩
    show if (!d.fleet) = true then _ else _
    cases c : d.fleet with
    | true => exact h2 c H1 s1
    | false => exact ⟨_, rfl, fun dd hd => (h1 c).same s1 _ dd (same_new hd) hd upd_same⟩
/-! ### needed_row -/
theorem sc_needed_row : FnScope ["fleet", "place", "row"] ["fleet", "place"] (defScope s_needed_row) := ⟨rfl, rfl, rfl, by decide +kernel, rfl, by decide +kernel, by decide +kernel⟩
def NeedQ (K : PySem.W.Frag) (v : V) (H : Hp) (Q : VK) (E : XK) : Option (List Nat) → Prop
  | none => Errs K "NoPlace" "found" v H E
  | some row => ∀ H' ra, Same H H' → SqT K H' ra (natV row) → Q (.ref ra) H'
def spNeedR (K : PySem.W.Frag) : Sp := fun vs H Q E => ∃ (R : Hp) (v vp : V) (d pd : D), vs = [v, vp] ∧ Same R H ∧ Plain R ∧ Rep K R v d ∧ Rep K R vp pd ∧ d.fleet = true ∧ ∀ b hs ps, d = fD b hs ps → NeedQ K vp H Q E (rowOf hs ps pd)
theorem ok_needed_row (T : Txt K mg) (G_row_of : Def P w K mg base 4 "row_of" ["fleet", "place"] (spRow K)) : Def P w K mg base 5 "needed_row" ["fleet", "place"] (spNeedR K) := by
  obtain ⟨f, fd, F⟩ := T.a_needed_row
  refine Def.mk F sc_needed_row (fun _ _ _ _ _ _ us hl => match us, hl with | [_, _], _ => rfl) (fun vs H Q E h => ?_) (fun cdv A outer s H vs Q E hr h => ?_)
  · obtain ⟨R, v, vp, d, pd, rfl, _⟩ := h
    rfl
  · obtain ⟨R, v, vp, d, pd, rfl, sR, pR, hv, hp, hf, hq⟩ := h
    refine ⟨_, (pss_cons (ps_set (i := 2) sc_needed_row.nd rfl (Or.inl rfl) (pe_d G_row_of (hr.mono (by decide)) (by rfl) (pa_cons (pv 0) (pa_cons (pv 1) pa_nil))))
      (pss_cons (ps_if (pt_cmpR op_isN (pv 2) pe_non (nomark _)) (pss_one (ps_raise rfl tkB (pmk_NoPlace hr T (pa_cons (pv 1) pa_nil)))) pss_nil)
      (pss_one (ps_ret (pv 2))))), ?_⟩
    refine ⟨_, rfl, _, rfl, R, v, vp, d, pd, rfl, sR, pR, hv, hp, hf, fun b hs ps e => ?_⟩
    replace hq := hq b hs ps e
    cases c : rowOf hs ps pd with
    | none =>
      rw [c] at hq
      exact fun H1 s1 => ⟨_, rfl, rfl, _, rfl, iteT ⟨_, rfl, fun dd hd => Errs.same s1 hq _ dd (same_new hd) hd upd_same⟩⟩
    | some row =>
      rw [c] at hq
      exact fun H1 ra s1 h1 => ⟨_, rfl, rfl, _, rfl, iteF ⟨_, rfl, hq H1 ra s1 h1⟩⟩
/-! ### is_placement -/
theorem sc_is_placement : FnScope ["fleet", "thing"] ["fleet", "thing"] (defScope s_is_placement) := ⟨rfl, rfl, rfl, by decide +kernel, rfl, by decide +kernel, by decide +kernel⟩
def spIsP (K : PySem.W.Frag) : Sp := fun vs H Q E => ∃ (R : Hp) (v vp : V) (d pd : D), vs = [v, vp] ∧ Same R H ∧ Plain R ∧ Rep K R v d ∧ Rep K R vp pd ∧ (d.fleet = false → Errs K "NoFleet" "found" v H E) ∧
  (d.fleet = true → ∀ b hs ps, d = fD b hs ps → ∀ H', Same H H' → Q (.bl (rowOf hs ps pd).isSome) H')
theorem ok_is_placement (T : Txt K mg) (G_need_fleet : Def P w K mg base 5 "need_fleet" ["fleet"] (spNeedF K)) (G_row_of : Def P w K mg base 4 "row_of" ["fleet", "place"] (spRow K)) : Def P w K mg base 6 "is_placement" ["fleet", "thing"] (spIsP K) := by
  obtain ⟨f, fd, F⟩ := T.a_is_placement
  refine Def.mk F sc_is_placement (fun _ _ _ _ _ _ us hl => match us, hl with | [_, _], _ => rfl) (fun vs H Q E h => ?_) (fun cdv A outer s H vs Q E hr h => ?_)
  · obtain ⟨R, v, vp, d, pd, rfl, _⟩ := h
    rfl
  · obtain ⟨R, v, vp, d, pd, rfl, sR, pR, hv, hp, h1, h2⟩ := h
    refine ⟨_, (pss_cons (ps_expr (pe_dX G_need_fleet (hr.mono (by decide)) (by rfl) tkB (pa_cons (pv 0) pa_nil)))
      (pss_one (ps_ret (pe_cmpR op_notN (pe_d G_row_of (hr.mono (by decide)) (by rfl) (pa_cons (pv 0) (pa_cons (pv 1) pa_nil))) pe_non (nomark _))))), ?_⟩
    refine ⟨_, rfl, R, v, d, rfl, sR, pR, hv, h1, fun hf H1 s1 => ?_⟩
    refine ⟨_, rfl, _, rfl, R, v, vp, d, pd, rfl, sR.trans s1, pR, hv, hp, hf, fun b hs ps e => ?_⟩
    have hq := h2 hf b hs ps e
    cases c : rowOf hs ps pd with
    | none =>
      rw [c] at hq
      exact fun H2 s2 => ⟨rfl, hq H2 (s1.trans s2)⟩
    | some row =>
      rw [c] at hq
      exact fun H2 ra s2 h3 => ⟨rfl, hq H2 (s1.trans s2)⟩
/-! ### place_of -/
theorem sc_place_of : FnScope ["fleet", "row", "houses", "promises", "guest", "at"] ["fleet", "row"] (defScope s_place_of) := ⟨rfl, rfl, rfl, by decide +kernel, rfl, by decide +kernel, by decide +kernel⟩
def spPlace (K : PySem.W.Frag) : Sp := fun vs H Q _ => ∃ (a ha pa ra : Addr) (xs : List V) (b : Bool) (hs ps : List (Str × Int)) (row : List Nat), vs = [.ref a, .ref ra] ∧ FlAt K H a ha pa xs b hs ps ∧ HsOk hs ∧ PsOk ps ∧ (ps.map Prod.fst).Nodup ∧ SqT K H ra (natV row) ∧ row.length = ps.length ∧ (∀ i ∈ row, i < hs.length) ∧
  ∀ q H', Same H H' → H q = none → H' q = some (.dK (plK hs ps row)) → Q (.ref q) H'
theorem ok_place_of (T : Txt K mg) : Def P w K mg base 1 "place_of" ["fleet", "row"] (spPlace K) := by
  obtain ⟨f, fd, F⟩ := T.a_place_of
  refine Def.mk F sc_place_of (fun _ _ _ _ _ _ us hl => match us, hl with | [_, _], _ => rfl) (fun vs H Q E h => ?_) (fun cdv A outer s H vs Q E hr h => ?_)
  · obtain ⟨a, ha, pa, ra, xs, b, hs, ps, row, rfl, _⟩ := h
    rfl
  · obtain ⟨a, ha, pa, ra, xs, b, hs, ps, row, rfl, fH, oh, op, nd, hrow, nrow, hin, hq⟩ := h
    refine ⟨_, (pss_cons (ps_asg (pv 0) (kpg_tup K rfl (n := 2) rfl (pgs_cons (pg_name (i := 2) sc_place_of.nd rfl (Or.inr rfl)) (pgs_cons (pg_name (i := 3) sc_place_of.nd rfl (Or.inl rfl)) pgs_nil))))
      (pss_one (ps_ret (pe_callTy (kcall_dictP K rfl rfl) (by rfl) T.b_dict (by decide +kernel) (pa_cons (pe_lock (pe_lc (own := [("guest", 4), ("at", 5)]) rfl sc_place_of.nd (ZS.kpi_zipS K rfl (by rfl) T.b_zip (pa_cons (pv 3) (pa_cons (pv 1) pa_nil))) (blkOk_by (own := [("guest", 4), ("at", 5)]) (N := ["fleet", "row", "houses", "promises", "guest", "at"]) (sc := defScope s_place_of) (by decide +kernel)) (fun _ _ _ _ _ => (kpg_tup K rfl (n := 2) rfl (pgs_cons (pg_name (i := 4) sc_place_of.nd rfl (Or.inl rfl)) (pgs_cons (pg_name (i := 5) sc_place_of.nd rfl (Or.inl rfl)) pgs_nil)))) (fun _ _ _ _ _ => pts_nil) (fun _ _ _ _ _ => (pe_tup (pa_cons (pv 4) (pa_cons (pe_ix (kix_tup K rfl) (pe_ix (kix_any K rfl) (pv 2) (pv 5) (fun _ _ => rfl)) pe_int (fun _ _ => rfl)) pa_nil)))))) pa_nil))))), ?_⟩
    refine ⟨_, rfl, a, _, rfl, fH.t, rfl, _, _, rfl, _, _, rfl, rfl, ?_⟩
    have n7 := op.n7
    have nl : ((psK ps).map fun kv => kV kv.1).length = (natV row).length := by
      unfold psK natV
      rw [List.length_map, List.length_map, List.length_map]
      exact nrow.symm
    have nps : ((psK ps).map fun kv => kV kv.1).length = ps.length := by
      unfold psK
      rw [List.length_map, List.length_map]
    refine ⟨pa, .dK (psK ps), fH.p, True.intro, fun od => ⟨_, rfl, _, rfl, pa, ra, _, _, _, _, rfl, .dic upd_same, .tup ((Lq.of (Same.refl H) |>.lock fH.p True.intro).tup hrow), nl, fun L hL => ?_⟩⟩
    have lqL : Lq H (upd H pa (.frz od (.dK (psK ps)))) := (Lq.of (Same.refl H)).lock fH.p True.intro
    have hLa : L ≠ pa := fun e => by
      rw [e, upd_same] at hL
      cases hL
    refine lc_reps (K := K) (w := ZS.walk_zipS nl) (R := fun _ => none) (fun k => some (.tup [.str (nmOf ps k), .str (nmOf hs (row.getD k 0))])) hL (by omega) (fun _ _ h => nomatch h) Plain.none (fun H1 s1 => ⟨s1 _ _ upd_same, (lqL.trans (Lq.of s1)).tup hrow⟩) ?_ ?_
    · rintro k x H1 H2 R1 Y2 N2 hk s1 hnL gr pl sr ⟨t2, v1, v2, rfl, ht2, rfl, g1, g2⟩ k3 k4
      rw [nps] at hk
      have g3 : v1 = .str (nmOf ps k) := Option.some.inj ((show some v1 = ((psK ps).map fun kv => kV kv.1)[k]? from g1.symm).trans (psK_key hk))
      have g4 : v2 = .int ((row.getD k 0 : Nat) : Int) := Option.some.inj ((show some v2 = (natV row)[k]? from g2.symm).trans (natV_get (by omega)))
      subst g3 g4
      have hrk : row.getD k 0 < hs.length := by
        rw [List.getD_eq_getElem?_getD, List.getElem?_eq_getElem (by omega)]
        exact hin _ (List.getElem_mem (by omega))
      have s2 : Same H1 (upd H1 t2 (.tup [.str (nmOf ps k), .int ((row.getD k 0 : Nat) : Int)])) := same_new ht2
      have lq2 := (lqL.trans (Lq.of s1)).trans (Lq.of s2)
      obtain ⟨e, he⟩ : ∃ e, hs[row.getD k 0]? = some e := ⟨_, List.getElem?_eq_getElem hrk⟩
      obtain ⟨c, h2, h3⟩ := fH.h _ e he
      have en : e.1 = nmOf hs (row.getD k 0) := by
        unfold nmOf
        rw [List.getD_eq_getElem?_getD, he]
        rfl
      rw [en] at h3
      refine ⟨t2, _, rfl, SqT.of upd_same, rfl, _, _, rfl, _, _, rfl, rfl, ?_⟩
      refine ⟨rfl, ⟨_, rfl, _, rfl, _, rfl, .inr ⟨b, ha, xs, _, _, rfl, rfl, fH.s.mono lq2, atI_nat h2, c, _, 0, _, rfl, rfl, lq2.tup h3, rfl, (show 2 ≤ sizeLine by decide), fun T3 hT3 => ?_⟩⟩⟩
      have sr2 := sr.trans s2
      exact k3 _ _ (upd R1 T3 (.tup [.str (nmOf ps k), .str (nmOf hs (row.getD k 0))])) _ rfl (s2.trans (same_new hT3)) ((Grow.refl _ _).put (s2.free hT3) (sr2.out hT3)) (pl.put (fun _ _ z => nomatch z)) sr2.put
        (.tup (SqT.of upd_same) (.cons (.str _ (nm_size op.nm hk)) (.cons (.str _ (nm_size oh.nm hrk)) .nil)))
    · intro H1 R1 zs s1 gr pl sr hRL hLz rz
      have ez : (List.range ((psK ps).map fun kv => kV kv.1).length).filterMap (fun k => some (D.tup [.str (nmOf ps k), .str (nmOf hs (row.getD k 0))])) = (((List.range ps.length).map fun k => (nmOf ps k, nmOf hs (row.getD k 0))).map fun e => (e.1, D.str e.2)).map fun e => D.tup [.str e.1, e.2] := by
        rw [fm_some, nps, List.map_map, List.map_map]
        rfl
      rw [ez] at rz
      obtain ⟨as, kvs', rfl, pp, rk'⟩ := pairs_of rz
      have ek : kvs' = plK hs ps row := by
        rw [repK_strs rk', List.map_map]
        rfl
      have em : mergeK [] kvs' = plK hs ps row := by
        have := merge_nodup (kvs := kvs') (acc := []) (by rw [List.nil_append, ek]; exact plK_nd nd)
        rw [this, List.nil_append, ek]
      have hR1a : R1 pa = none := gr.off upd_same rfl
      have su : Same H (upd H1 pa (.dK (psK ps))) := Same.unlock fH.p s1
      have sr1 : Same R1 (upd H1 pa (.dK (psK ps))) := sr.skip hR1a
      refine ⟨s1 _ _ upd_same, L, as, kvs', rfl, SqL.of (by rw [upd_ne hLa]; exact hLz), paired_mono (fun _ _ h => (Lq.of sr1).tup h) pp, fun q hq' => ?_⟩
      rw [em]
      exact hq q _ (su.trans (same_new hq')) (su.free hq') upd_same
end
end K89

set_option Elab.async false
set_option linter.all false
set_option maxRecDepth 100000
set_option maxHeartbeats 1000000
namespace K89
open PySem PySem.Spec PyProof.Rows L2 RP
theorem _root_.RP.sqT_write {K : PySem.W.Frag} {H : Hp} {L t : Addr} {xs zs ys : List V} (hL : H L = some (.lst zs)) (h : SqT K H t xs) : SqT K (upd H L (.lst ys)) t xs := by
  rcases h with (h | ⟨o, h⟩) | h
  · exact .inl (.inl (by rw [upd_ne (fun e => by rw [e, hL] at h; cases h)]; exact h))
  · exact .inl (.inr ⟨o, by rw [upd_ne (fun e => by rw [e, hL] at h; cases h)]; exact h⟩)
  · exact .inr h
theorem MvAt.write {K : PySem.W.Frag} {H : Hp} {L : Addr} {zs ys : List V} {m : Nat × Nat × List Nat} {z : V} (hL : H L = some (.lst zs)) (h : MvAt K H m z) : MvAt K (upd H L (.lst ys)) m z := by
  obtain ⟨t, r, e, h1, h2⟩ := h
  exact ⟨t, r, e, sqT_write hL h1, sqT_write hL h2⟩
section
variable {P : Program} {w : World} {K : PySem.W.Frag} {mg : Str → Option Value} {base : Heap}
/-! ### rows_from -/
theorem sc_rows_from : FnScope ["fleet", "row", "found", "guest", "house", "after"] ["fleet", "row"] (defScope s_rows_from) := ⟨rfl, rfl, rfl, by decide +kernel, rfl, by decide +kernel, by decide +kernel⟩
def spRowsF (K : PySem.W.Frag) : Sp := fun vs H Q _ => ∃ (a ha pa ra : Addr) (xs : List V) (b : Bool) (hs ps : List (Str × Int)) (row : List Nat), vs = [.ref a, .ref ra] ∧ FlAt K H a ha pa xs b hs ps ∧ ps.length ≤ 7 ∧ hs.length ≤ 3 ∧ SqT K H ra (natV row) ∧ row.length = ps.length ∧
  ∀ L H' zs, Same H H' → H' L = some (.lst zs) → Paired (MvAt K H') (movesR hs ps row) zs → Q (.ref L) H'
theorem ok_rows_from (T : Txt K mg) (G_fits : Def P w K mg base 3 "fits" ["fleet", "row"] (spFits K)) : Def P w K mg base 4 "rows_from" ["fleet", "row"] (spRowsF K) := by
  obtain ⟨f, fd, F⟩ := T.a_rows_from
  refine Def.mk F sc_rows_from (fun _ _ _ _ _ _ us hl => match us, hl with | [_, _], _ => rfl) (fun vs H Q E h => ?_) (fun cdv A outer s H vs Q E hr h => ?_)
  · obtain ⟨a, ha, pa, ra, xs, b, hs, ps, row, rfl, _⟩ := h
    rfl
  · obtain ⟨a, ha, pa, ra, xs, b, hs, ps, row, rfl, fH, n7, n3, hrow, nrow, hq⟩ := h
    refine ⟨_, (pss_cons (ps_set (i := 2) sc_rows_from.nd rfl (Or.inl rfl) (pe_lst pa_nil))
      (pss_cons (ps_for (passes_of rfl) rfl (pi_range1 (by rfl) T.b_range (pa_cons (pe_callB (kcall_len_seq K rfl) (by rfl) T.b_len (by decide +kernel) (pa_cons (pv 1) pa_nil)) pa_nil)) (pg_name (i := 3) sc_rows_from.nd rfl (Or.inl rfl))
        (pss_one (ps_for (passes_of rfl) rfl (pi_range1 (by rfl) T.b_range (pa_cons (pe_callB (kcall_len_seq K rfl) (by rfl) T.b_len (by decide +kernel) (pa_cons (pe_ix (kix_tup K rfl) (pv 0) pe_int (fun _ _ => rfl)) pa_nil)) pa_nil)) (pg_name (i := 4) sc_rows_from.nd rfl (Or.inl rfl))
        (pss_cons (ps_set (i := 5) sc_rows_from.nd rfl (Or.inl rfl) (pe_op (kop_catA K rfl) (pe_op (kop_catA K rfl) (pe_slice (ksl_tup K rfl) (pv 1) po_none (po_some (pv 3))) (pe_tup (pa_cons (pv 4) pa_nil))) (pe_slice (ksl_tup K rfl) (pv 1) (po_some (pe_op op_add (pv 3) pe_int)) po_none)))
      (pss_one (ps_if (PW.pt (pw_and (pt_cmpR op_ne (pv 4) (pe_ix (kix_tup K rfl) (pv 1) (pv 3) (fun _ _ => rfl)) (nomark _)) (pw_and1 (pt_val (pe_d G_fits (hr.mono (by decide)) (by rfl) (pa_cons (pv 0) (pa_cons (pv 5) pa_nil))))))) (pss_one (ps_expr (kpe_bm K rfl (pe_bm PySem.F.plainAttrs_list PySem.F.slot_list_append PySem.F.type_list_append mt_append (pv 2) (pa_cons (pe_tup (pa_cons (pv 3) (pa_cons (pv 4) (pa_cons (pv 5) pa_nil)))) pa_nil))))) pss_nil))))))
      (pss_one (ps_ret (pv 2))))), ?_⟩
    refine ⟨Nat.zero_le _, fun L hL => ?_⟩
    have sL : Same H (upd H L (.lst [])) := same_new hL
    have hL1 : upd H L (.lst []) L = some (.lst []) := upd_same
    generalize upd H L (.lst []) = H1 at sL hL1 ⊢
    have nrv : (natV row).length = ps.length := by
      unfold natV
      rw [List.length_map]
      exact nrow
    have mlen : (movesR hs ps row).length ≤ 21 := by
      have h := flat_len (mvG hs ps row hs.length) hs.length (mvG_len hs ps row hs.length) ps.length
      have h2 : hs.length * ps.length ≤ 3 * 7 := Nat.mul_le_mul n3 n7
      exact Nat.le_trans h h2
    refine ⟨_, rfl, ra, _, rfl, .inr ((Lq.of sL).tup hrow), _, rfl, by omega, by omega, ?_⟩
    rw [nrv]
    refine for_it (w := walk_range) (fun g σ H' => ∃ (o3 o4 o5 : Option V) (zs : List V), σ = [some (.ref a), some (.ref ra), some (.ref L), o3, o4, o5] ∧ Same H H' ∧ H' L = some (.lst zs) ∧ Paired (MvAt K H') ((List.range g).flatMap (mvG hs ps row hs.length)) zs)
      ⟨none, none, none, [], rfl, sL, hL1, .nil⟩ (fun _ _ _ _ _ => True.intro) ?_ ?_
    · rintro g x σ Hx H2 hg ⟨o3, o4, o5, zs, rfl, s2, hL2, pz⟩ ⟨rfl, hx⟩
      have hg7 : g < ps.length := by simpa using hg
      have hx2 : x = .int ((g : Nat) : Int) := by
        rw [hx]
        show V.int (0 + (g : Int)) = _
        rw [Int.zero_add]
      subst hx2
      have f2 := fH.same s2
      refine ⟨_, rfl, a, _, 0, _, rfl, rfl, f2.t, rfl, ha, xs, rfl, f2.s.or, _, rfl, by rw [fH.n]; omega, by rw [fH.n]; omega, ?_⟩
      rw [fH.n]
      refine for_it (w := walk_range) (fun h σ H' => ∃ (o4 o5 : Option V) (zs : List V), σ = [some (.ref a), some (.ref ra), some (.ref L), some (.int (g : Nat)), o4, o5] ∧ Same H H' ∧ H' L = some (.lst zs) ∧ Paired (MvAt K H') ((List.range g).flatMap (mvG hs ps row hs.length) ++ mvG hs ps row h g) zs)
        ⟨_, _, zs, rfl, s2, hL2, by rw [show mvG hs ps row 0 g = [] from rfl, List.append_nil]; exact pz⟩ (fun _ _ _ _ _ => True.intro) ?_ ?_
      · rintro h x σ Hy H3 hh ⟨o4, o5, zs, rfl, s3, hL3, pz3⟩ ⟨rfl, hx⟩
        have hh3 : h < hs.length := by simpa using hh
        have hx2 : x = .int ((h : Nat) : Int) := by
          rw [hx]
          show V.int (0 + (h : Int)) = _
          rw [Int.zero_add]
        subst hx2
        have hrow3 := (Lq.of s3).tup hrow
        have lz : zs.length ≤ 24 := by
          have h1 := pz3.length
          rw [List.length_append] at h1
          have h2 := flat_len (mvG hs ps row hs.length) hs.length (mvG_len hs ps row hs.length) g
          have h3 : hs.length * g ≤ 3 * 7 := Nat.mul_le_mul n3 (by omega)
          have h4 := mvG_len hs ps row h g
          omega
        have nw2 : ∀ k : Nat, k < ps.length → ¬ (HT.sIx (natV row).length 0 (some (((k + 1 : Nat)) : Int)) = 0 ∧ HT.sIx (natV row).length (natV row).length none = (natV row).length) := fun k hk q => by
          rw [HT.sIx_nat, nrv] at q
          omega
        have nw : ∀ k : Nat, k < ps.length → ¬ (HT.sIx (natV row).length 0 none = 0 ∧ HT.sIx (natV row).length (natV row).length (some (k : Int)) = (natV row).length) := fun k hk q => by
          rw [HT.sIx_nat, nrv] at q
          omega
        refine ⟨_, rfl, _, rfl, _, rfl, ra, _, rfl, hrow3, (fun z => absurd z (nw g hg7)), fun _ p1 hp1 => ?_⟩
        rw [cut_left]
        have q1 : Same H3 (upd H3 p1 (.tup ((natV row).take g))) := same_new hp1
        have r1 : upd H3 p1 (.tup ((natV row).take g)) p1 = some (.tup ((natV row).take g)) := upd_same
        generalize upd H3 p1 (.tup ((natV row).take g)) = H4 at q1 r1 ⊢
        refine ⟨_, rfl, (show 1 ≤ sizeLine by decide), fun p2 hp2 => ?_⟩
        have q2 : Same H4 (upd H4 p2 (.tup [.int (h : Nat)])) := same_new hp2
        have r2 : upd H4 p2 (.tup [.int (h : Nat)]) p2 = some (.tup [.int (h : Nat)]) := upd_same
        generalize upd H4 p2 (.tup [.int (h : Nat)]) = H5 at q2 r2 ⊢
        refine rd_cat (SqT.of (q2 _ _ r1)) (SqT.of r2) (by rw [List.length_take]; show min g _ + 1 ≤ 1000; omega) fun p3 H6 q3 r3 => ?_
        have hrow6 := (Lq.of (q1.trans (q2.trans q3))).tup hrow3
        refine ⟨_, rfl, _, rfl, _, _, rfl, rfl, _, rfl, ra, _, rfl, hrow6, (fun z => absurd z (nw2 g hg7)), fun _ p4 hp4 => ?_⟩
        show rCatA K (.ref p3) (.ref p4) (upd H6 p4 (.tup (cutV (natV row) (some (((g + 1 : Nat)) : Int)) none))) _
        rw [cut_right]
        have q4 : Same H6 (upd H6 p4 (.tup ((natV row).drop (g + 1)))) := same_new hp4
        have r4 : upd H6 p4 (.tup ((natV row).drop (g + 1))) p4 = some (.tup ((natV row).drop (g + 1))) := upd_same
        generalize upd H6 p4 (.tup ((natV row).drop (g + 1))) = H7 at q4 r4 ⊢
        refine rd_cat ((Lq.of q4).tup r3) (SqT.of r4) (by rw [List.length_append, List.length_take, List.length_drop]; show min g _ + 1 + _ ≤ 1000; omega) fun p5 H8 q5 r5 => ?_
        rw [set_cut row g h (by omega)] at r5
        have q8 : Same H3 H8 := q1.trans (q2.trans (q3.trans (q4.trans q5)))
        have s8 := s3.trans q8
        have hrow8 := (Lq.of q8).tup hrow3
        have hL8 := q8 _ _ hL3
        have pz8 := mvs_same q8 pz3
        refine ⟨_, rfl, _, rfl, _, rfl, ra, _, (g : Nat), _, rfl, rfl, hrow8, atI_nat (natV_get (by omega)), rfl, _, rfl, ?_⟩
        have nx : mvAt hs ps row g h = none → ∀ H', Same H8 H' → ∃ (o4 o5 : Option V) (zs : List V), [some (V.ref a), some (.ref ra), some (.ref L), some (.int (g : Nat)), some (.int (h : Nat)), some (.ref p5)] = [some (.ref a), some (.ref ra), some (.ref L), some (.int (g : Nat)), o4, o5] ∧ Same H H' ∧ H' L = some (.lst zs) ∧ Paired (MvAt K H') ((List.range g).flatMap (mvG hs ps row hs.length) ++ mvG hs ps row (h + 1) g) zs := fun e H' s => by
          refine ⟨_, _, zs, rfl, s8.trans s, s _ _ hL8, ?_⟩
          unfold mvG
          rw [range_succ_filterMap, e, List.append_nil]
          exact mvs_same s pz8
        show if (!decide (V.int ((h : Nat) : Int) = V.int ((row.getD g 0 : Nat) : Int))) = true then _ else _
        by_cases e1 : h = row.getD g 0
        · rw [decide_eq_true (by rw [e1])]
          refine iteF ?_
          exact nx (if_neg (fun z => z.1 e1)) H8 (Same.refl _)
        · rw [decide_eq_false (fun z => e1 (by injection z with z; omega))]
          refine iteT ⟨_, rfl, _, rfl, a, ha, pa, p5, xs, b, hs, ps, row.set g h, rfl, fH.same s8, n7, n3, r5, by rw [List.length_set]; exact nrow, fun H9 s9 => ⟨_, rfl, ?_⟩⟩
          show if fitsB hs ps (row.set g h) = true then _ else _
          cases c : fitsB hs ps (row.set g h) with
          | false => exact iteF (nx (if_neg (fun z => by rw [c] at z; cases z.2)) H9 s9)
          | true =>
            have hL9 := s9 _ _ hL8
            refine iteT ⟨_, rfl, .inl ⟨rfl, _, SqL.of hL9⟩, _, rfl, _, rfl, _, rfl, (show 3 ≤ sizeLine by decide), fun t ht => ?_⟩
            have s10 : Same H9 (upd H9 t (.tup [.int (g : Nat), .int (h : Nat), .ref p5])) := same_new ht
            have ht10 : upd H9 t (.tup [.int (g : Nat), .int (h : Nat), .ref p5]) t = some (.tup [.int (g : Nat), .int (h : Nat), .ref p5]) := upd_same
            generalize upd H9 t (.tup [.int (g : Nat), .int (h : Nat), .ref p5]) = H10 at s10 ht10 ⊢
            have hL10 := s10 _ _ hL9
            refine ⟨L, _, _, rfl, rfl, hL10, (by have : 1000 ≤ sizeLine := by decide
                                                 omega), ?_⟩
            have s810 := s9.trans s10
            refine ⟨_, _, zs ++ [.ref t], rfl, (s8.trans s810).skip hL, upd_same, ?_⟩
            have e : mvAt hs ps row g h = some (g, h, row.set g h) := if_pos ⟨e1, c⟩
            unfold mvG
            rw [range_succ_filterMap, e, ← List.append_assoc]
            refine paired_mono (fun _ _ => MvAt.write hL10) ((mvs_same s810 pz8).snoc ?_)
            exact ⟨t, p5, rfl, SqT.of ht10, (Lq.of s810).tup r5⟩
      · rintro σ H3 ⟨o4, o5, zs, rfl, s3, hL3, pz3⟩
        refine ⟨_, _, _, zs, rfl, s3, hL3, ?_⟩
        rw [flat_next]
        have e : ((hs.length : Nat) : Int).toNat = hs.length := Int.toNat_natCast _
        simpa [e] using pz3
    · rintro σ H2 ⟨o3, o4, o5, zs, rfl, s2, hL2, pz⟩
      refine ⟨_, rfl, hq L H2 zs s2 hL2 ?_⟩
      exact pz
end
end K89

set_option Elab.async false
set_option linter.all false
set_option maxRecDepth 100000
set_option maxHeartbeats 1000000
namespace K89
open PySem PySem.Spec PyProof.Rows L2 RP
theorem ok_strOk {z : Str} (h : okName z = true) : PyData.strOk z = true := by
  unfold okName at h
  rw [Bool.and_eq_true, Bool.and_eq_true] at h
  have h1 := List.all_eq_true.mp h.2.2
  have key : ∀ c ∈ abc.cps.toList, c < 0x110000 := by decide +kernel
  unfold PyData.strOk
  rw [← Array.all_toList]
  exact List.all_eq_true.mpr fun c hc => decide_eq_true (key c (of_decide_eq_true (h1 c hc)))
theorem nm_ok {l : List (Str × Int)} (h : ∀ e ∈ l, okName e.1 = true) {i : Nat} (hi : i < l.length) : okName (nmOf l i) = true := by
  unfold nmOf
  rw [List.getD_eq_getElem?_getD, List.getElem?_eq_getElem hi]
  exact h _ (List.getElem_mem hi)
theorem movesR_mem {hs ps : List (Str × Int)} {row : List Nat} {m : Nat × Nat × List Nat} : m ∈ movesR hs ps row ↔ m.1 < ps.length ∧ m.2.1 < hs.length ∧ m.2.2 = row.set m.1 m.2.1 ∧ m.2.1 ≠ row.getD m.1 0 ∧ fitsB hs ps m.2.2 = true := by
  unfold movesR mvG
  rw [List.mem_flatMap]
  constructor
  · rintro ⟨g, hg, hm⟩
    obtain ⟨h, hh, e⟩ := List.mem_filterMap.mp hm
    unfold mvAt at e
    split at e
    · next c =>
      cases e
      exact ⟨List.mem_range.mp hg, List.mem_range.mp hh, rfl, c.1, c.2⟩
    · cases e
  · rintro ⟨h1, h2, h3, h4, h5⟩
    refine ⟨m.1, List.mem_range.mpr h1, List.mem_filterMap.mpr ⟨m.2.1, List.mem_range.mpr h2, ?_⟩⟩
    unfold mvAt
    rw [if_pos ⟨h4, by rw [← h3]; exact h5⟩, ← h3]
def hits (hs ps : List (Str × Int)) (d : D) (m : Nat × Nat × List Nat) : Bool := decide (d.two = some (nmOf ps m.1, nmOf hs m.2.1))
def stepL (hs ps : List (Str × Int)) (row : List Nat) (d : D) : List (List Nat) := (movesR hs ps row).filterMap fun m => if hits hs ps d m = true then some m.2.2 else none
def runM (hs ps : List (Str × Int)) : List Nat → Nat → List D → Sum Nat (List Nat)
  | row, _, [] => .inr row
  | row, n, d :: r => match stepL hs ps row d with
    | [] => .inl n
    | row2 :: _ => runM hs ps row2 (n + 1) r
/-- a row of a fleet -/
structure RowOk (hs ps : List (Str × Int)) (row : List Nat) : Prop where
  n : row.length = ps.length
  b : ∀ i ∈ row, i < hs.length
  f : fitsB hs ps row = true
theorem RowOk.step {hs ps : List (Str × Int)} {row : List Nat} (o : RowOk hs ps row) {m : Nat × Nat × List Nat} (h : m ∈ movesR hs ps row) : RowOk hs ps m.2.2 := by
  obtain ⟨h1, h2, h3, h4, h5⟩ := movesR_mem.mp h
  refine ⟨by rw [h3, List.length_set]; exact o.n, fun i hi => ?_, h5⟩
  rw [h3] at hi
  rcases List.mem_or_eq_of_mem_set hi with q | q
  · exact o.b i q
  · rw [q]
    exact h2
theorem rowOf_ok {hs ps : List (Str × Int)} {pd : D} {row : List Nat} (h : rowOf hs ps pd = some row) : RowOk hs ps row := by
  cases pd with
  | dct l =>
    replace h : (if l.length = ps.length ∧ (ps.all fun e => plOk hs l e.1) = true ∧ fitsB hs ps (rowL hs ps l) = true then some (rowL hs ps l) else none) = some row := h
    split at h
    · next c =>
      cases h
      refine ⟨by unfold rowL; rw [List.length_map], fun i hi => ?_, c.2.2⟩
      obtain ⟨e, he, rfl⟩ := List.mem_map.mp hi
      obtain ⟨z, _, _, hz, hx⟩ := plOk_str (List.all_eq_true.mp c.2.1 e he)
      have := (List.getElem?_eq_some_iff.mp (ixS_at hz)).1
      rw [hx]
      rw [List.length_map] at this
      exact this
    · cases h
  | _ => exact nomatch (show (none : Option (List Nat)) = some row from h)
theorem stepL_mem {hs ps : List (Str × Int)} {row : List Nat} {d : D} {r : List Nat} (h : r ∈ stepL hs ps row d) : ∃ m ∈ movesR hs ps row, m.2.2 = r := by
  obtain ⟨m, hm, e⟩ := List.mem_filterMap.mp h
  split at e
  · cases e
    exact ⟨m, hm, rfl⟩
  · cases e
theorem mvs_len (hs ps : List (Str × Int)) (row : List Nat) (n7 : ps.length ≤ 7) (n3 : hs.length ≤ 3) : (movesR hs ps row).length ≤ 21 := by
  have h := flat_len (mvG hs ps row hs.length) hs.length (mvG_len hs ps row hs.length) ps.length
  have h2 : hs.length * ps.length ≤ 3 * 7 := Nat.mul_le_mul n3 n7
  exact Nat.le_trans h h2
def rowD (row : List Nat) : D := .tup (row.map fun i => D.int ((i : Nat) : Int))
theorem rep_row {K : PySem.W.Frag} {H : Hp} {r : Addr} {row : List Nat} (h : SqT K H r (natV row)) : Rep K H (.ref r) (rowD row) := by
  refine .tup h ?_
  unfold natV
  clear h
  induction row with
  | nil => exact .nil
  | cons i row ih => exact .cons (.int _) ih
theorem rows_lo (ls : List (List Nat)) : Lo 3 (.lst (ls.map rowD)) := fun e he => by
  obtain ⟨row, _, rfl⟩ := List.mem_map.mp he
  intro x hx
  obtain ⟨i, _, rfl⟩ := List.mem_map.mp hx
  exact True.intro
/-- what after_moves answers -/
def AftQ (H : Hp) (Q : VK) (hs ps : List (Str × Int)) : Sum Nat (List Nat) → Prop
  | .inl n => ∀ H', Same H H' → Q (.int (n : Nat)) H'
  | .inr row => ∀ q H', Same H H' → H q = none → H' q = some (.dK (plK hs ps row)) → Q (.ref q) H'
def AftP (K : PySem.W.Frag) (vp vm : V) (H : Hp) (Q : VK) (E : XK) (hs ps : List (Str × Int)) (pd dm : D) : Prop := match rowOf hs ps pd with
  | none => Errs K "NoPlace" "found" vp H E
  | some row => match dm.seq with
    | none => Errs K "NoPlan" "found" vm H E
    | some ds => ds.length ≤ 1000 ∧ (∀ e ∈ ds, Lo 9 e) ∧ (ps.map Prod.fst).Nodup ∧ AftQ H Q hs ps (runM hs ps row 0 ds)
def RowAt (K : PySem.W.Frag) (H : Hp) (row : List Nat) (z : V) : Prop := ∃ r : Addr, z = .ref r ∧ SqT K H r (natV row)
theorem RowAt.same {K : PySem.W.Frag} {H H' : Hp} {row : List Nat} {z : V} (s : Same H H') (h : RowAt K H row z) : RowAt K H' row z := by
  obtain ⟨r, e, h⟩ := h
  exact ⟨r, e, (Lq.of s).tup h⟩
theorem RowAt.write {K : PySem.W.Frag} {H : Hp} {L : Addr} {zs ys : List V} {row : List Nat} {z : V} (hL : H L = some (.lst zs)) (h : RowAt K H row z) : RowAt K (upd H L (.lst ys)) row z := by
  obtain ⟨r, e, h⟩ := h
  exact ⟨r, e, sqT_write hL h⟩
theorem _root_.PySem.Paired.get' {α β : Type} {F : α → β → Prop} {l : List α} {r : List β} (h : Paired F l r) : ∀ {i : Nat} {y : β}, r[i]? = some y → ∃ x, l[i]? = some x ∧ F x y := by
  induction h with
  | nil => intro i y e; cases e
  | cons h1 _ ih =>
    intro i y e
    cases i with
    | zero => cases e; exact ⟨_, rfl, h1⟩
    | succ i => exact ih (i := i) e
section
variable {P : Program} {w : World} {K : PySem.W.Frag} {mg : Str → Option Value} {base : Heap}
/-! ### after_moves -/
theorem sc_after_moves : FnScope ["fleet", "now", "moves", "row", "names", "name", "length", "guests", "at", "move", "some", "guest", "house", "after"] ["fleet", "now", "moves"] (defScope s_after_moves) := ⟨rfl, rfl, rfl, by decide +kernel, rfl, by decide +kernel, by decide +kernel⟩
def spAft (K : PySem.W.Frag) : Sp := fun vs H Q E => ∃ (R : Hp) (v vp vm : V) (d pd dm : D), vs = [v, vp, vm] ∧ Same R H ∧ Plain R ∧ Rep K R v d ∧ Rep K R vp pd ∧ Rep K R vm dm ∧ (d.fleet = false → Errs K "NoFleet" "found" v H E) ∧
  (d.fleet = true → ∀ b hs ps, d = fD b hs ps → AftP K vp vm H Q E hs ps pd dm)
theorem ok_after_moves (T : Txt K mg) (G_need_fleet : Def P w K mg base 5 "need_fleet" ["fleet"] (spNeedF K)) (G_needed_row : Def P w K mg base 5 "needed_row" ["fleet", "place"] (spNeedR K)) (G_rows_from : Def P w K mg base 4 "rows_from" ["fleet", "row"] (spRowsF K))
    (G_place_of : Def P w K mg base 1 "place_of" ["fleet", "row"] (spPlace K)) : Def P w K mg base 6 "after_moves" ["fleet", "now", "moves"] (spAft K) := by
  obtain ⟨f, fd, F⟩ := T.a_after_moves
  refine Def.mk F sc_after_moves (fun _ _ _ _ _ _ us hl => match us, hl with | [_, _, _], _ => rfl) (fun vs H Q E h => ?_) (fun cdv A outer s H vs Q E hr h => ?_)
  · obtain ⟨R, v, vp, vm, d, pd, dm, rfl, _⟩ := h
    rfl
  · obtain ⟨R, v, vp, vm, d, pd, dm, rfl, sR, pR, hv, hp, hm, h1, h2⟩ := h
    refine ⟨_, (pss_cons (ps_expr (pe_dX G_need_fleet (hr.mono (by decide)) (by rfl) tkB (pa_cons (pv 0) pa_nil)))
      (pss_cons (ps_asg (pe_tup (pa_cons (pe_dX G_needed_row (hr.mono (by decide)) (by rfl) tkB (pa_cons (pv 0) (pa_cons (pv 1) pa_nil))) (pa_cons (pe_lc (own := [("name", 5), ("length", 6)]) rfl sc_after_moves.nd (kpi_seq K rfl (pe_ix (kix_tup K rfl) (pv 0) pe_int (fun _ _ => rfl))) (blkOk_by (own := [("name", 5), ("length", 6)]) (N := ["fleet", "now", "moves", "row", "names", "name", "length", "guests", "at", "move", "some", "guest", "house", "after"]) (sc := defScope s_after_moves) (by decide +kernel)) (fun _ _ _ _ _ => (kpg_tup K rfl (n := 2) rfl (pgs_cons (pg_name (i := 5) sc_after_moves.nd rfl (Or.inl rfl)) (pgs_cons (pg_name (i := 6) sc_after_moves.nd rfl (Or.inl rfl)) pgs_nil)))) (fun _ _ _ _ _ => pts_nil) (fun _ _ _ _ _ => (pv 5))) pa_nil))) (kpg_tup K rfl (n := 2) rfl (pgs_cons (pg_name (i := 3) sc_after_moves.nd rfl (Or.inl rfl)) (pgs_cons (pg_name (i := 4) sc_after_moves.nd rfl (Or.inr rfl)) pgs_nil))))
      (pss_cons (ps_if (pt_not (pt_val (pe_callB (kcall_isLT K rfl) (by rfl) T.b_isinstance (by decide +kernel) (pa_cons (pv 2) (pa_cons (pe_tup (pa_cons (pe_bltn (v := .ty "list") (by rfl) T.b_list (by decide +kernel) rfl) (pa_cons (pe_bltn (v := .ty "tuple") (by rfl) T.b_tuple (by decide +kernel) rfl) pa_nil))) pa_nil))))) (pss_one (ps_raise rfl tkB (pmk_NoPlan hr T (pa_cons (pv 2) pa_nil)))) pss_nil)
      (pss_cons (ps_set (i := 7) sc_after_moves.nd rfl (Or.inr rfl) (pe_callTy (call_listD rfl) (by rfl) T.b_list (by decide +kernel) (pa_cons (pe_ix (kix_tup K rfl) (pv 0) pe_int (fun _ _ => rfl)) pa_nil)))
      (pss_cons (ps_for (passes_of rfl) rfl (kpi_enumS K rfl (by rfl) T.b_enumerate (pa_cons (pv 2) pa_nil)) (kpg_tup K rfl (n := 2) rfl (pgs_cons (pg_name (i := 8) sc_after_moves.nd rfl (Or.inl rfl)) (pgs_cons (pg_name (i := 9) sc_after_moves.nd rfl (Or.inr rfl)) pgs_nil)))
        (pss_cons (ps_setLc (i := 10) (own := [("guest", 11), ("house", 12), ("after", 13)]) rfl sc_after_moves.nd rfl rfl (sw_true rfl rfl rfl (by decide +kernel)) (kpi_list K rfl (pe_d G_rows_from (hr.mono (by decide)) (by rfl) (pa_cons (pv 0) (pa_cons (pv 3) pa_nil)))) (blkOk_by (own := [("guest", 11), ("house", 12), ("after", 13)]) (N := ["fleet", "now", "moves", "row", "names", "name", "length", "guests", "at", "move", "some", "guest", "house", "after"]) (sc := defScope s_after_moves) (by decide +kernel)) (fun _ _ _ _ _ => (kpg_tup K rfl (n := 3) rfl (pgs_cons (pg_name (i := 11) sc_after_moves.nd rfl (Or.inl rfl)) (pgs_cons (pg_name (i := 12) sc_after_moves.nd rfl (Or.inl rfl)) (pgs_cons (pg_name (i := 13) sc_after_moves.nd rfl (Or.inl rfl)) pgs_nil))))) (fun _ _ _ _ _ => (pts_one (pt_cmpR (kop_eqD K rfl hr.units) (pv 9) (pe_tup (pa_cons (pe_ix (kix_list K rfl) (pv 7) (pv 11) (fun _ _ => rfl)) (pa_cons (pe_ix (kix_list K rfl) (pv 4) (pv 12) (fun _ _ => rfl)) pa_nil))) (nomark _)))) (fun _ _ _ _ _ => (pv 13)))
      (pss_cons (ps_if (pt_cmpR (kop_eqD K rfl hr.units) (pv 10) (pe_lst pa_nil) (nomark _)) (pss_one (ps_ret (pv 8))) pss_nil)
      (pss_one (ps_set (i := 3) sc_after_moves.nd rfl (Or.inl rfl) (pe_ix (kix_list K rfl) (pv 10) pe_int (fun _ _ => rfl)))))))
      (pss_one (ps_ret (pe_d G_place_of (hr.mono (by decide)) (by rfl) (pa_cons (pv 0) (pa_cons (pv 3) pa_nil)))))))))), ?_⟩
    refine ⟨_, rfl, R, v, d, rfl, sR, pR, hv, h1, fun hfl H1 s1 => ?_⟩
    obtain ⟨b, hs, ps, rfl, oh, op⟩ := fleet_of hfl
    replace h2 := h2 hfl b hs ps rfl
    unfold AftP at h2
    have n3 := oh.n3
    have n7 := op.n7
    obtain ⟨a, ha, pa, xs, rfl, fa⟩ := flAt pR hv
    refine ⟨_, rfl, _, rfl, R, .ref a, vp, _, pd, rfl, sR.trans s1, pR, hv, hp, hfl, fun b2 hs2 ps2 e => ?_⟩
    obtain ⟨rfl, rfl, rfl⟩ := fD_inj e
    cases c : rowOf hs ps pd with
    | none =>
      rw [c] at h2
      exact h2.same s1
    | some row =>
      rw [c] at h2
      have ok := rowOf_ok c
      intro H2 ra s2 hra
      have s12 := s1.trans s2
      have f2 := fa.same (sR.trans s12)
      refine ⟨_, rfl, a, _, 0, _, rfl, rfl, f2.t, rfl, ha, b, rfl, ⟨_, f2.s⟩, fun N hN => ?_⟩
      refine lc_vals (w := walk_seq) (fun i => hs[i]?.map fun e => V.str e.1) hN (by rw [fa.n]; omega) (fun H' s => f2.s.mono (Lq.of s)) ?_ ?_
      · rintro i x H3 H4 Y2 N2 hi s3 hnL ⟨rfl, hx⟩ k1 k2
        obtain ⟨e, he⟩ : ∃ e, hs[i]? = some e := ⟨_, List.getElem?_eq_getElem (by rw [fa.n] at hi; exact hi)⟩
        obtain ⟨c, g2, g3⟩ := f2.h i e he
        rw [g2] at hx
        cases hx
        exact ⟨c, _, rfl, (Lq.of s3).tup g3, rfl, _, _, rfl, _, _, rfl, rfl, ⟨rfl, ⟨_, rfl, k1 _ _ (by rw [he]; rfl) (Same.refl _)⟩⟩⟩
      · intro H3 s3 h3
        rw [fa.n, range_all] at h3
        have en : (hs.map fun e => V.str e.1) = (hs.map Prod.fst).map V.str := by rw [List.map_map]; rfl
        rw [en] at h3
        refine ⟨(show 2 ≤ sizeLine by decide), fun t ht => ?_⟩
        have s4 : Same H3 (upd H3 t (.tup [.ref ra, .ref N])) := same_new ht
        have ht4 : upd H3 t (.tup [.ref ra, .ref N]) t = some (.tup [.ref ra, .ref N]) := upd_same
        generalize upd H3 t (.tup [.ref ra, .ref N]) = H4 at s4 ht4 ⊢
        have s14 := s12.trans (s3.trans s4)
        have sR4 := sR.trans s14
        refine ⟨t, _, rfl, SqT.of ht4, rfl, _, _, rfl, _, _, rfl, rfl, ?_⟩
        refine ⟨_, rfl, (show 2 ≤ sizeLine by decide), fun p hp' => rd_isiLT (hm.same sR4) hp' ⟨_, rfl, ?_⟩⟩
        have s5 : Same H4 (upd H4 p (.tup [.ty "list", .ty "tuple"])) := same_new hp'
        generalize upd H4 p (.tup [.ty "list", .ty "tuple"]) = H5 at s5 ⊢
        have s15 := s14.trans s5
        have sR5 := sR4.trans s5
        rcases hm.seq with ⟨e1, e2⟩ | ⟨bm, ma, ms, ds, rfl, hS, hr', e1, e2⟩
        · rw [e2]
          replace h2 : Errs K "NoPlan" "found" vm H E := by
            rw [e1] at h2
            exact h2
          exact ⟨_, rfl, fun dd hd => h2.same s15 _ dd (same_new hd) hd upd_same⟩
        · rw [e2]
          replace h2 : ds.length ≤ 1000 ∧ (∀ e ∈ ds, Lo 9 e) ∧ (ps.map Prod.fst).Nodup ∧ AftQ H Q hs ps (runM hs ps row 0 ds) := by
            rw [e1] at h2
            exact h2
          obtain ⟨nds, hlo, nd, hq⟩ := h2
          have f5 := fa.same sR5
          refine iteF ⟨_, rfl, a, _, 1, _, rfl, rfl, f5.t, rfl, pa, _, rfl, .inl f5.p, fun g hg => ?_⟩
          have eg : ((psK ps).map fun kv => kV kv.1) = (ps.map Prod.fst).map V.str := by
            unfold psK
            rw [List.map_map, List.map_map]
            rfl
          rw [eg]
          have s6 : Same H5 (upd H5 g (.lst ((ps.map Prod.fst).map V.str))) := same_new hg
          have hg6 : upd H5 g (.lst ((ps.map Prod.fst).map V.str)) g = some (.lst ((ps.map Prod.fst).map V.str)) := upd_same
          generalize upd H5 g (.lst ((ps.map Prod.fst).map V.str)) = H6 at s6 hg6 ⊢
          have s16 := s15.trans s6
          have sR6 := sR5.trans s6
          have hN6 := s6 _ _ (s5 _ _ (s4 _ _ h3))
          have hra6 := (Lq.of (s3.trans (s4.trans (s5.trans s6)))).tup hra
          have hS6 := hS.mono (Lq.of sR6)
          refine ⟨_, rfl, ma, bm, ms, rfl, hS6, ?_⟩
          have lds := hr'.len
          refine for_it (w := walk_enumS) (fun k σ H' => ∃ (o5 o6 o8 o9 o10 o11 o12 o13 : Option V) (rw' : List Nat) (rk : Addr), σ = [some (.ref a), some vp, some (.ref ma), some (.ref rk), some (.ref N), o5, o6, some (.ref g), o8, o9, o10, o11, o12, o13] ∧ Same H6 H' ∧ SqT K H' rk (natV rw') ∧ RowOk hs ps rw' ∧ runM hs ps row 0 ds = runM hs ps rw' k (ds.drop k))
            ⟨_, _, _, _, _, _, _, _, row, ra, rfl, Same.refl _, hra6, ok, rfl⟩ (fun _ _ _ _ ⟨_, _, _, _, _, _, _, _, _, _, _, s, _⟩ => hS6.mono (Lq.of s)) ?_ ?_
          · rintro k x σ H7 H8 hk ⟨o5, o6, o8, o9, o10, o11, o12, o13, rw', rk, rfl, s7, hrk, okr, erun⟩ ⟨t2, vi, vx, rfl, ht2, rfl, g1, g2⟩
            cases g1
            have hkd : k < ds.length := by omega
            obtain ⟨d, hd, rd⟩ := hr'.get (show ms[k]? = some vx from g2)
            have s8 : Same H7 (upd H7 t2 (.tup [.int (k : Nat), vx])) := same_new ht2
            have ht8 : upd H7 t2 (.tup [.int (k : Nat), vx]) t2 = some (.tup [.int (k : Nat), vx]) := upd_same
            generalize upd H7 t2 (.tup [.int (k : Nat), vx]) = H8 at s8 ht8 ⊢
            have s68 := s7.trans s8
            refine ⟨t2, _, rfl, SqT.of ht8, rfl, _, _, rfl, _, _, rfl, rfl, ?_⟩
            refine ⟨_, rfl, _, rfl, a, ha, pa, rk, xs, b, hs, ps, rw', rfl, fa.same (sR6.trans s68), n7, n3, (Lq.of s8).tup hrk, okr.n, fun L H9 zs s9 hL pz => ⟨L, rfl, ⟨_, SqL.of hL⟩, fun M hM => ?_⟩⟩
            have s69 := s68.trans s9
            have hN9 := s69 _ _ hN6
            have hg9 := s69 _ _ hg6
            have lz := pz.length
            have lm := mvs_len hs ps rw' n7 n3
            have rd9 := rd.same (sR6.trans s69)
            have ld := hlo d (List.mem_of_getElem? hd)
            refine lc_it (w := walk_list) (fun i H' => Same H9 H' ∧ ∃ acc, H' M = some (.lst acc) ∧ acc.length ≤ i ∧ Paired (RowAt K H') (((movesR hs ps rw').take i).filterMap fun m => if hits hs ps d m = true then some m.2.2 else none) acc)
              ⟨same_new hM, [], upd_same, Nat.le_refl 0, .nil⟩ (fun i H' _ ⟨s, _⟩ => SqL.of (s _ _ hL)) ?_ ?_
            · rintro i x Ha Hb hi ⟨sa, acc, hacc, lacc, pacc⟩ ⟨rfl, hx⟩
              obtain ⟨m, hm', t, r, e3, m1, m2⟩ := (mvs_same sa pz).get' hx
              obtain ⟨b1, b2, b3, b4, b5⟩ := movesR_mem.mp (List.mem_of_getElem? hm')
              subst e3
              refine ⟨t, _, rfl, m1, rfl, _, _, rfl, _, _, rfl, _, _, rfl, rfl, ⟨rfl, ?_⟩⟩
              have hga := sa _ _ hg9
              have hNa := sa _ _ hN9
              have a1 : atI ((ps.map Prod.fst).map V.str) (m.1 : Nat) = some (.str (nmOf ps m.1)) := atI_nat (by rw [List.getElem?_map, nmOf_get b1]; rfl)
              have a2 : atI ((hs.map Prod.fst).map V.str) (m.2.1 : Nat) = some (.str (nmOf hs m.2.1)) := atI_nat (by rw [List.getElem?_map, nmOf_get b2]; rfl)
              refine ⟨_, rfl, _, rfl, _, rfl, g, _, _, _, rfl, rfl, SqL.of hga, a1, _, rfl, _, rfl, N, _, _, _, rfl, rfl, SqL.of hNa, a2, (show 2 ≤ sizeLine by decide), fun pq hpq => ?_⟩
              have sq : Same Hb (upd Hb pq (.tup [.str (nmOf ps m.1), .str (nmOf hs m.2.1)])) := same_new hpq
              refine ⟨d.py, .tuple [.str (nmOf ps m.1), .str (nmOf hs m.2.1)], (rd9.same (sa.trans sq)).dp ld, .tup (SqT.of upd_same) (.cons (.str _) (.cons (.str _) .nil)), ld.shaped, pair_shaped (ok_strOk (nm_ok op.nm b1)) (ok_strOk (nm_ok oh.nm b2)), _, rfl, ?_⟩
              rw [eqv_two]
              have ef : (((movesR hs ps rw').take (i + 1)).filterMap fun m => if hits hs ps d m = true then some m.2.2 else none) = (((movesR hs ps rw').take i).filterMap fun m => if hits hs ps d m = true then some m.2.2 else none) ++ (if hits hs ps d m = true then [m.2.2] else []) := by
                rw [take_next hm', List.filterMap_append]
                congr 1
                rw [List.filterMap_cons]
                cases hits hs ps d m <;> rfl
              show if hits hs ps d m = true then _ else _
              cases ch : hits hs ps d m with
              | false =>
                refine iteF ⟨sa.trans sq, acc, sq _ _ hacc, by omega, ?_⟩
                rw [ef, ch]
                show Paired _ (_ ++ []) acc
                rw [List.append_nil]
                exact paired_mono (fun _ _ h => RowAt.same sq h) pacc
              | true =>
                refine iteT ⟨_, rfl, acc, sq _ _ hacc, (by have : 1000 ≤ sizeLine := by decide
                                                           omega), (sa.trans sq).skip hM, acc ++ [.ref r], upd_same, (by rw [List.length_append]; show acc.length + 1 ≤ i + 1; omega), ?_⟩
                rw [ef, ch]
                refine (paired_mono (fun _ _ h => RowAt.write (sq _ _ hacc) (RowAt.same sq h)) pacc).snoc ?_
                exact ⟨r, rfl, sqT_write (sq _ _ hacc) ((Lq.of sq).tup m2)⟩
            · rintro Ha ⟨sa, acc, hacc, lacc, pacc⟩
              rw [← lz, List.take_length] at pacc
              replace pacc : Paired (RowAt K Ha) (stepL hs ps rw' d) acc := pacc
              have s6a := s69.trans sa
              have edk : ds.drop k = d :: ds.drop (k + 1) := by
                have := List.drop_eq_getElem_cons hkd
                rw [this]
                rw [List.getElem?_eq_getElem hkd] at hd
                rw [Option.some.inj hd]
              rw [edk] at erun
              refine ⟨_, rfl, (Nat.zero_le _), fun E hE => ?_⟩
              have se : Same Ha (upd Ha E (.lst [])) := same_new hE
              have hme : upd Ha E (.lst []) M = some (.lst acc) := se _ _ hacc
              have pe := paired_mono (fun _ _ h => RowAt.same se h) pacc
              have repe : Rep K (upd Ha E (.lst [])) (.ref M) (.lst ((stepL hs ps rw' d).map rowD)) := by
                refine .lst (SqL.of hme) ?_
                clear hme hacc lacc edk erun pacc
                generalize stepL hs ps rw' d = sl at pe
                induction pe with
                | nil => exact .nil
                | cons h _ ih =>
                  obtain ⟨r, rfl, h⟩ := h
                  exact .cons (rep_row h) ih
              have lo3 := rows_lo (stepL hs ps rw' d)
              refine ⟨(D.lst ((stepL hs ps rw' d).map rowD)).py, .list [], repe.dp lo3, .lst (SqL.of upd_same) .nil, lo3.shaped, by decide, _, rfl, ?_⟩
              rw [eqv_nil, List.isEmpty_map]
              generalize upd Ha E (.lst []) = He' at se hme pe ⊢
              cases est : stepL hs ps rw' d with
              | nil =>
                have er : runM hs ps rw' k (d :: ds.drop (k + 1)) = .inl k := by
                  unfold runM
                  rw [est]
                rw [erun, er] at hq
                exact iteT ⟨_, rfl, hq He' (s16.trans (s6a.trans se))⟩
              | cons row2 rest =>
                have er : runM hs ps rw' k (d :: ds.drop (k + 1)) = runM hs ps row2 (k + 1) (ds.drop (k + 1)) := by
                  conv => lhs; unfold runM
                  rw [est]
                obtain ⟨m, hm1, hm2⟩ := stepL_mem (d := d) (row := rw') (r := row2) (by rw [est]; exact List.mem_cons_self)
                have ok2 := okr.step hm1
                rw [hm2] at ok2
                rw [est] at pe
                cases pe with
                | @cons _ _ _ lz2 h0 _ =>
                  obtain ⟨r0, rfl, h0⟩ := h0
                  have a0 : atI (V.ref r0 :: lz2) ((0 : Nat) : Int) = some (.ref r0) := atI_nat rfl
                  refine iteF ⟨_, rfl, M, _, 0, _, rfl, rfl, SqL.of hme, a0, ?_⟩
                  exact ⟨_, _, _, _, _, _, _, _, row2, r0, rfl, s6a.trans se, h0, ok2, erun.trans er⟩
          · rintro σ H7 ⟨o5, o6, o8, o9, o10, o11, o12, o13, rw', rk, rfl, s7, hrk, okr, erun⟩
            rw [lds, List.drop_length] at erun
            rw [erun] at hq
            refine ⟨_, rfl, _, rfl, a, ha, pa, rk, xs, b, hs, ps, rw', rfl, fa.same (sR6.trans s7), oh, op, nd, hrk, okr.n, okr.b, fun q H8 s8 nq hq8 => hq q H8 (s16.trans (s7.trans s8)) ((s16.trans s7).free nq) hq8⟩
end
end K89

set_option Elab.async false
set_option linter.all false
set_option maxRecDepth 100000
set_option maxHeartbeats 1000000
namespace K89
open PySem PySem.Spec PyProof.Rows L2 RP
theorem range_bind {α β : Type} (g : α → Option β) (l : List α) : ((List.range l.length).filterMap fun i => (l[i]?).bind g) = l.filterMap g := by
  have key : ∀ t, t ≤ l.length → ((List.range t).filterMap fun i => (l[i]?).bind g) = (l.take t).filterMap g := by
    intro t
    induction t with
    | zero => intro _; rfl
    | succ t ih =>
      intro h
      have hx : l[t]? = some l[t] := List.getElem?_eq_getElem (by omega)
      rw [List.range_succ, List.filterMap_append, ih (by omega), take_next hx, List.filterMap_append, List.filterMap_cons, List.filterMap_cons, hx]
      rfl
  have h := key l.length (Nat.le_refl _)
  rwa [List.take_length] at h
theorem fm_congr {α β : Type} {f g : α → Option β} : ∀ {l : List α}, (∀ x ∈ l, f x = g x) → l.filterMap f = l.filterMap g
  | [], _ => rfl
  | x :: r, h => by
    rw [List.filterMap_cons, List.filterMap_cons, h x List.mem_cons_self, fm_congr fun y hy => h y (List.mem_cons_of_mem _ hy)]
/-! ### how the law deals the guests -/
def seven : List Str := ["a", "b", "c", "d", "e", "f", "g"]
def three : List Str := ["ha", "hb", "hc"]
theorem seven_nd : seven.Nodup := by decide +kernel
theorem seven_ok : ∀ z ∈ seven, okName z = true := by decide +kernel
theorem three_nd : three.Nodup := by decide +kernel
theorem three_ok : ∀ z ∈ three, okName z = true := by decide +kernel
abbrev E3 : Type := Str × Int × Nat
def atE (es : List E3) (i : Nat) : List Int := es.filterMap fun e => if e.2.2 = i then some e.2.1 else none
structure DealI (lens : List Int) (t : Nat) (es : List E3) : Prop where
  nm : ∀ e ∈ es, e.1 ∈ seven.take t
  nd : (es.map Prod.fst).Nodup
  b : ∀ e ∈ es, e.2.2 < lens.length
  pr : ∀ e ∈ es, 0 ≤ e.2.1 ∧ e.2.1 ≤ 60
  c6 : ∀ i, (atE es i).length ≤ 6
  lf : ∀ i, i < lens.length → (atE es i).sum ≤ lens.getD i 0
  n : es.length ≤ t
def leftL (lens : List Int) (es : List E3) : List Int := (List.range lens.length).map fun i => lens.getD i 0 - (atE es i).sum
theorem leftL_len (lens : List Int) (es : List E3) : (leftL lens es).length = lens.length := by
  unfold leftL
  rw [List.length_map, List.length_range]
theorem leftL_get {lens : List Int} {es : List E3} {i : Nat} (h : i < lens.length) : (leftL lens es)[i]? = some (lens.getD i 0 - (atE es i).sum) := by
  unfold leftL
  rw [List.getElem?_map, List.getElem?_range h]
  rfl
theorem atE_snoc (es : List E3) (z : Str) (p : Int) (at' i : Nat) : atE (es ++ [(z, p, at')]) i = atE es i ++ (if at' = i then [p] else []) := by
  unfold atE
  rw [List.filterMap_append]
  congr 1
  by_cases h : at' = i
  · simp [h]
  · simp [h]
theorem leftL_snoc {lens : List Int} {es : List E3} {z : Str} {p : Int} {at' : Nat} (h : at' < lens.length) : leftL lens (es ++ [(z, p, at')]) = (leftL lens es).set at' (lens.getD at' 0 - (atE es at').sum - p) := by
  refine List.ext_getElem? fun i => ?_
  rw [List.getElem?_set, leftL_len]
  by_cases hi : i < lens.length
  · rw [leftL_get hi, leftL_get hi, atE_snoc]
    by_cases e : at' = i
    · subst e
      rw [if_pos rfl, if_pos rfl, if_pos hi, List.sum_append, List.sum_singleton]
      congr 1
      omega
    · rw [if_neg e, if_neg e, List.append_nil]
  · rw [List.getElem?_eq_none (by rw [leftL_len]; omega), List.getElem?_eq_none (by rw [leftL_len]; omega)]
    split
    · next e =>
      subst e
      exact absurd h hi
    · rfl
theorem DealI.next {lens : List Int} {t : Nat} {es : List E3} {z : Str} {p : Int} {at' : Nat} (I : DealI lens t es) (hz : seven[t]? = some z) (h : at' < lens.length) (c : (atE es at').length < 6) (p0 : 0 ≤ p) (p1 : p ≤ lens.getD at' 0 - (atE es at').sum) (p60 : p ≤ 60) : DealI lens (t + 1) (es ++ [(z, p, at')]) := by
  refine ⟨fun e he => ?_, ?_, fun e he => ?_, fun e he => ?_, fun i => ?_, fun i hi => ?_, by have := I.n; rw [List.length_append]; show es.length + 1 ≤ t + 1; omega⟩
  · rw [take_next hz]
    rcases List.mem_append.mp he with q | q
    · exact List.mem_append_left _ (I.nm e q)
    · rw [List.mem_singleton.mp q]
      exact List.mem_append_right _ (List.mem_singleton.mpr rfl)
  · rw [List.map_append]
    refine List.nodup_append.mpr ⟨I.nd, by simp, fun a ha b hb e => ?_⟩
    rw [List.map_singleton, List.mem_singleton] at hb
    obtain ⟨x, hx, rfl⟩ := List.mem_map.mp ha
    have h1 := I.nm x hx
    rw [e, hb] at h1
    obtain ⟨j, hj⟩ := List.mem_iff_getElem?.mp h1
    rw [List.getElem?_take] at hj
    split at hj
    · next lt =>
      have := nd_ix seven_nd hj hz
      omega
    · cases hj
  · rcases List.mem_append.mp he with q | q
    · exact I.b e q
    · rw [List.mem_singleton.mp q]
      exact h
  · rcases List.mem_append.mp he with q | q
    · exact I.pr e q
    · rw [List.mem_singleton.mp q]
      exact ⟨p0, p60⟩
  · rw [atE_snoc, List.length_append]
    by_cases e : at' = i
    · rw [if_pos e, ← e]
      show _ + 1 ≤ 6
      omega
    · rw [if_neg e]
      exact I.c6 i
  · rw [atE_snoc, List.sum_append]
    by_cases e : at' = i
    · rw [if_pos e, ← e, List.sum_singleton]
      omega
    · rw [if_neg e]
      have := I.lf i hi
      simpa using this
theorem DealI.skip {lens : List Int} {t : Nat} {es : List E3} (I : DealI lens t es) : DealI lens (t + 1) es :=
  ⟨fun e he => by
    have h := I.nm e he
    exact (List.take_subset_take_left seven (Nat.le_succ t)) h, I.nd, I.b, I.pr, I.c6, I.lf, Nat.le_succ_of_le I.n⟩
theorem DealI.none (lens : List Int) (h : ∀ l ∈ lens, 0 ≤ l) : DealI lens 0 [] := by
  refine ⟨fun e he => (by cases he), List.nodup_nil, fun e he => (by cases he), fun e he => (by cases he), fun i => Nat.zero_le _, fun i hi => ?_, Nat.le_refl 0⟩
  show (0 : Int) ≤ _
  rw [List.getD_eq_getElem?_getD, List.getElem?_eq_getElem hi]
  exact h _ (List.getElem_mem hi)
/-- a fleet and a placement of the law -/
structure LawFl (hs ps : List (Str × Int)) (row : List Nat) : Prop where
  oh : HsOk hs
  op : PsOk ps
  nd : (ps.map Prod.fst).Nodup
  ok : RowOk hs ps row
  hn : ∃ k, hs.map Prod.fst = three.take k
  pn : ∀ e ∈ ps, e.1 ∈ seven
def psE (es : List E3) : List (Str × Int) := es.map fun e => (e.1, e.2.1)
def rowE (es : List E3) : List Nat := es.map fun e => e.2.2
theorem inS_atE (es : List E3) (i : Nat) : inS (psE es) (rowE es) i = atE es i := by
  unfold atE
  rw [← range_bind]
  unfold inS
  have e : (psE es).length = es.length := by
    unfold psE
    rw [List.length_map]
  rw [e]
  refine fm_congr fun k hk => ?_
  have h := List.mem_range.mp hk
  unfold rowE prAt psE
  rw [List.getD_eq_getElem?_getD, List.getD_eq_getElem?_getD, List.getElem?_map, List.getElem?_map, List.getElem?_eq_getElem h]
  rfl
theorem deal_ok {lens : List Int} {k t : Nat} {es : List E3} (I : DealI lens t es) (t7 : t ≤ 7) (h1 : 1 ≤ k) (h3 : k ≤ 3) (hl : lens.length = k) (hb : ∀ l ∈ lens, 4 ≤ l ∧ l ≤ 60) : LawFl ((three.take k).zip lens) (psE es) (rowE es) := by
  have lt : (three.take k).length = k := by
    rw [List.length_take]
    show min k 3 = k
    omega
  have lz : ((three.take k).zip lens).length = k := by
    rw [List.length_zip, lt, hl, Nat.min_self]
  have m1 : ((three.take k).zip lens).map Prod.fst = three.take k := List.map_fst_zip (by omega)
  have m2 : ((three.take k).zip lens).map Prod.snd = lens := List.map_snd_zip (by omega)
  have le : (psE es).map Prod.fst = es.map Prod.fst := by
    unfold psE
    rw [List.map_map]
    rfl
  have ln : ∀ i, i < k → lnAt ((three.take k).zip lens) i = lens.getD i 0 := fun i hi => by
    unfold lnAt
    have h : (((three.take k).zip lens).map Prod.snd)[i]? = lens[i]? := by rw [m2]
    rw [List.getElem?_map] at h
    rw [List.getD_eq_getElem?_getD, List.getD_eq_getElem?_getD, ← h, List.getElem?_eq_getElem (by omega)]
    rfl
  refine ⟨⟨by omega, by omega, fun e he => ?_, fun e he => ?_, ?_⟩, ⟨?_, fun e he => ?_, fun e he => ?_⟩, by rw [le]; exact I.nd, ⟨?_, fun i hi => ?_, ?_⟩, ⟨k, m1⟩, fun e he => ?_⟩
  · refine three_ok _ (List.mem_of_mem_take (i := k) ?_)
    rw [← m1]
    exact List.mem_map_of_mem he
  · refine hb _ ?_
    rw [← m2]
    exact List.mem_map_of_mem he
  · rw [m1]
    exact three_nd.sublist (List.take_sublist _ _)
  · unfold psE
    rw [List.length_map]
    have := I.n
    omega
  · obtain ⟨x, hx, rfl⟩ := List.mem_map.mp he
    exact seven_ok _ (List.mem_of_mem_take (I.nm x hx))
  · obtain ⟨x, hx, rfl⟩ := List.mem_map.mp he
    exact I.pr x hx
  · unfold rowE psE
    rw [List.length_map, List.length_map]
  · obtain ⟨x, hx, rfl⟩ := List.mem_map.mp hi
    rw [lz, ← hl]
    exact I.b x hx
  · refine List.all_eq_true.mpr fun i hi => ?_
    have hi2 := List.mem_range.mp hi
    rw [lz] at hi2
    unfold fit1
    rw [inS_atE, ln i hi2, decide_eq_true (I.c6 i), decide_eq_true (I.lf i (by omega))]
    rfl
  · obtain ⟨x, hx, rfl⟩ := List.mem_map.mp he
    exact List.mem_of_mem_take (I.nm x hx)
end K89

set_option Elab.async false
set_option linter.all false
set_option maxRecDepth 100000
set_option maxHeartbeats 1000000
namespace K89
open PySem PySem.Spec PyProof.Rows L2 RP
section
variable {P : Program} {w : World} {K : PySem.W.Frag} {mg : Str → Option Value} {base : Heap}
/-! ### _law_cell -/
theorem sc__law_cell : FnScope ["script", "k"] ["script", "k"] (defScope s__law_cell) := ⟨rfl, rfl, rfl, by decide +kernel, rfl, by decide +kernel, by decide +kernel⟩
def spCell (K : PySem.W.Frag) : Sp := fun vs H Q _ => ∃ (v : V) (a : Addr) (ns : List Int) (k : Nat), vs = [v, .int (k : Nat)] ∧ v = .ref a ∧ SqL K H a (ns.map V.int) ∧ k ≤ 1000 ∧ ∀ i H', Same H H' → Q (.int i) H'
theorem ok__law_cell (T : Txt K mg) : Def P w K mg base 1 "_law_cell" ["script", "k"] (spCell K) := by
  obtain ⟨f, fd, F⟩ := T.a__law_cell
  refine Def.mk F sc__law_cell (fun _ _ _ _ _ _ us hl => match us, hl with | [_, _], _ => rfl) (fun vs H Q E h => ?_) (fun cdv A outer s H vs Q E hr h => ?_)
  · obtain ⟨v, a, ns, k, rfl, _⟩ := h
    rfl
  · obtain ⟨_, a, ns, k, rfl, rfl, hS, hk, hq⟩ := h
    refine ⟨_, (pss_one (ps_ret (pe_ifExp (pt_cmpR op_lt (pv 1) (pe_callB (kcall_len_seq K rfl) (by rfl) T.b_len (by decide +kernel) (pa_cons (pv 0) pa_nil)) (nomark _)) (pe_ix (kix_list K rfl) (pv 0) (pv 1) (fun _ _ => rfl)) (pe_op op_add (pe_op op_add (pe_op op_mulW pe_int (pv 1)) pe_int) (pe_op op_mod (pe_callTy call_int1 (by rfl) T.b_int (by decide +kernel) (pa_cons (pe_callB (kcr_sum K rfl rfl) (by rfl) T.b_sum (by decide +kernel) (pa_cons (pe_slice (ksl_list K rfl) (pv 0) po_none (po_some pe_int)) pa_nil)) pa_nil)) pe_int))))), ?_⟩
    refine ⟨_, rfl, _, rfl, a, _, rfl, .inl hS, _, _, rfl, rfl, _, rfl, ?_⟩
    refine ite_dec (fun c => ?_) (fun c => ?_)
    · have c2 := of_decide_eq_true c
      have c3 : k < ns.length := by
        rw [List.length_map] at c2
        omega
      exact ⟨_, rfl, _, rfl, a, _, _, _, rfl, rfl, hS, atI_nat (by rw [List.getElem?_map, List.getElem?_eq_getElem c3]; rfl), hq _ H (Same.refl H)⟩
    · refine ⟨_, rfl, _, _, rfl, rfl, wmul (by decide) (by omega), _, _, rfl, rfl, _, rfl, _, rfl, a, _, rfl, hS, fun p hp => ?_⟩
      have e : ∃ ms : List Int, cutV (ns.map V.int) none (some 1) = ms.map V.int := by
        unfold cutV
        rw [← List.map_drop, ← List.map_take]
        exact ⟨_, rfl⟩
      obtain ⟨ms, e⟩ := e
      rw [e]
      exact ⟨p, ms, rfl, SqL.of upd_same, .inl ⟨_, rfl, _, _, rfl, rfl, (show (0 : Int) < 1000003 by decide), _, _, rfl, rfl, hq _ _ (same_new hp)⟩⟩
/-! ### _law_box -/
theorem sc__law_box : FnScope ["cell", "great"] ["cell"] (defScope s__law_box) := ⟨rfl, rfl, rfl, by decide +kernel, rfl, by decide +kernel, by decide +kernel⟩
/-- the box at a, n turns drawn at most -/
def BoxAt (H : Hp) (a : Addr) (n : Int) : Prop := ∃ b s c : Int, H a = some (.lst [.int b, .int s, .int c]) ∧ 0 ≤ b ∧ 0 ≤ s ∧ s < 2 ^ 31 ∧ 0 ≤ c ∧ c ≤ n
def spBox (K : PySem.W.Frag) : Sp := fun vs H Q _ => ∃ (i : Int), vs = [.int i] ∧ ∀ a H', Same H H' → H a = none → BoxAt H' a 0 → Q (.ref a) H'
theorem ok__law_box (T : Txt K mg) : Def P w K mg base 1 "_law_box" ["cell"] (spBox K) := by
  obtain ⟨f, fd, F⟩ := T.a__law_box
  refine Def.mk F sc__law_box (fun _ _ _ _ _ _ us hl => match us, hl with | [_], _ => rfl) (fun vs H Q E h => ?_) (fun cdv A outer s H vs Q E hr h => ?_)
  · obtain ⟨i, rfl, _⟩ := h
    rfl
  · obtain ⟨i, rfl, hq⟩ := h
    refine ⟨_, (pss_cons (ps_set (i := 1) sc__law_box.nd rfl (Or.inl rfl) (pe_callB call_abs (by rfl) T.b_abs (by decide +kernel) (pa_cons (pv 0) pa_nil)))
      (pss_one (ps_ret (pe_lst (pa_cons (pe_ifExp (pt_cmpR op_ge (pv 1) (pe_op op_pow pe_int pe_int) (nomark _)) (pv 1) pe_int) (pa_cons (pe_op op_mod (pe_callTy call_int1 (by rfl) T.b_int (by decide +kernel) (pa_cons (pv 1) pa_nil)) pe_int) (pa_cons pe_int pa_nil))))))), ?_⟩
    refine ⟨_, rfl, _, rfl, _, rfl, _, _, rfl, rfl, ⟨by decide, by decide, by decide⟩, _, _, rfl, rfl, _, rfl, ?_⟩
    generalize ha : (if i < 0 then -i else i) = g
    have hg : 0 ≤ g := by rw [← ha]; split <;> omega
    have fin : ∀ b : Int, 0 ≤ b → ∀ p, H p = none → Q (.ref p) (upd H p (.lst [.int b, .int (g % 2147483629), .int 0])) := fun b hb p hp =>
      hq p _ (same_new hp) hp ⟨b, g % 2147483629, 0, upd_same, hb, Int.emod_nonneg _ (by decide), by have := Int.emod_lt_of_pos g (show (0 : Int) < 2147483629 by decide); omega, Int.le_refl _, Int.le_refl _⟩
    refine ite_dec (fun c => ?_) (fun c => ?_)
    · refine ⟨_, rfl, _, rfl, .inl ⟨_, rfl, _, _, rfl, rfl, (show (0 : Int) < 2147483629 by decide), (show 3 ≤ sizeLine by decide), fun p hp => ?_⟩⟩
      exact fin g hg p hp
    · refine ⟨_, rfl, .inl ⟨_, rfl, _, _, rfl, rfl, (show (0 : Int) < 2147483629 by decide), (show 3 ≤ sizeLine by decide), fun p hp => ?_⟩⟩
      exact fin 0 (Int.le_refl _) p hp
/-! ### _law_take -/
theorem sc__law_take : FnScope ["box", "many", "digit", "one", "two"] ["box", "many"] (defScope s__law_take) := ⟨rfl, rfl, rfl, by decide +kernel, rfl, by decide +kernel, by decide +kernel⟩
def spTake (K : PySem.W.Frag) : Sp := fun vs H Q _ => ∃ (a : Addr) (n m : Int), vs = [.ref a, .int m] ∧ BoxAt H a n ∧ n < 1000000000 ∧ 0 < m ∧ m ≤ 1000000 ∧ ∀ r H', 0 ≤ r → r < m → BoxAt H' a (n + 1) → But a H H' → Q (.int r) H'
theorem ok__law_take (T : Txt K mg) : Def P w K mg base 1 "_law_take" ["box", "many"] (spTake K) := by
  obtain ⟨f, fd, F⟩ := T.a__law_take
  refine Def.mk F sc__law_take (fun _ _ _ _ _ _ us hl => match us, hl with | [_, _], _ => rfl) (fun vs H Q E h => ?_) (fun cdv A outer s H vs Q E hr h => ?_)
  · obtain ⟨a, n, m, rfl, _⟩ := h
    rfl
  · obtain ⟨a, n, m, rfl, ⟨b, s, c, hH, hb, hs, hs2, hc, hcn⟩, hn, m0, m1, hq⟩ := h
    have hS : SqL K H a [.int b, .int s, .int c] := SqL.of hH
    refine ⟨_, (pss_cons (ps_if (pt_cmpR op_gt (pe_ix (kix_list K rfl) (pv 0) pe_int (fun _ _ => rfl)) pe_int (nomark _)) (pss_cons (ps_set (i := 2) sc__law_take.nd rfl (Or.inl rfl) (pe_op op_mod (pe_callTy call_int1 (by rfl) T.b_int (by decide +kernel) (pa_cons (pe_ix (kix_list K rfl) (pv 0) pe_int (fun _ _ => rfl)) pa_nil)) (pv 1)))
      (pss_cons (ps_asg (pe_op op_fdivW (pe_ix (kix_list K rfl) (pv 0) pe_int (fun _ _ => rfl)) (pv 1)) (pg_sub (pv 0) pe_int set_list))
      (pss_one (ps_ret (pv 2))))) pss_nil)
      (pss_cons (ps_asg (pe_op op_add (pe_ix (kix_list K rfl) (pv 0) pe_int (fun _ _ => rfl)) pe_int) (pg_sub (pv 0) pe_int set_list))
      (pss_cons (ps_set (i := 3) sc__law_take.nd rfl (Or.inl rfl) (pe_op op_mod (pe_callTy call_int1 (by rfl) T.b_int (by decide +kernel) (pa_cons (pe_op op_pow (pe_op op_add (pe_op op_add (pe_ix (kix_list K rfl) (pv 0) pe_int (fun _ _ => rfl)) (pe_op op_mulW pe_int (pe_ix (kix_list K rfl) (pv 0) pe_int (fun _ _ => rfl)))) pe_int) pe_int) pa_nil)) pe_int))
      (pss_cons (ps_set (i := 4) sc__law_take.nd rfl (Or.inl rfl) (pe_op op_mod (pe_callTy call_int1 (by rfl) T.b_int (by decide +kernel) (pa_cons (pe_op op_pow (pe_op op_add (pe_op op_add (pe_op op_fdivW (pv 3) pe_int) (pe_op op_mulW pe_int (pe_ix (kix_list K rfl) (pv 0) pe_int (fun _ _ => rfl)))) pe_int) pe_int) pa_nil)) pe_int))
      (pss_one (ps_ret (pe_op op_mod (pe_callTy call_int1 (by rfl) T.b_int (by decide +kernel) (pa_cons (pe_op op_add (pe_op op_fdivW (pv 3) pe_int) (pe_op op_mulW pe_int (pe_op op_fdivW (pv 4) pe_int))) pa_nil)) (pv 1)))))))), ?_⟩
    refine ⟨_, rfl, a, _, 0, _, rfl, rfl, hS, rfl, _, _, rfl, rfl, _, rfl, ?_⟩
    refine ite_dec (fun k => ?_) (fun k => ?_)
    · have kb := of_decide_eq_true k
      refine ⟨_, rfl, a, _, 0, _, rfl, rfl, hS, rfl, .inl ⟨_, rfl, _, rfl, _, _, rfl, rfl, m0, ?_⟩⟩
      refine ⟨_, rfl, a, _, 0, _, rfl, rfl, hS, rfl, _, rfl, _, _, rfl, rfl, wdiv m0 (by omega), ?_⟩
      refine ⟨_, rfl, a, _, 0, 0, rfl, rfl, hH, rfl, _, rfl, hq (b % m) _ (Int.emod_nonneg _ (by omega)) (Int.emod_lt_of_pos _ m0) ?_ But.write⟩
      exact ⟨b / m, s, c, upd_same, Int.ediv_nonneg hb (by omega), hs, hs2, hc, by omega⟩
    · refine ⟨_, rfl, a, _, 2, _, rfl, rfl, hS, rfl, _, _, rfl, rfl, ?_⟩
      refine ⟨_, rfl, a, _, 2, 2, rfl, rfl, hH, rfl, ?_⟩
      have h2 : upd H a (.lst ([V.int b, V.int s, V.int c].set 2 (.int (c + 1)))) a = some (.lst [.int b, .int s, .int (c + 1)]) := upd_same
      have bt : But a H (upd H a (.lst ([V.int b, V.int s, V.int c].set 2 (.int (c + 1))))) := But.write
      generalize upd H a (.lst ([V.int b, V.int s, V.int c].set 2 (.int (c + 1)))) = H2 at h2 bt ⊢
      have hS2 : SqL K H2 a [.int b, .int s, .int (c + 1)] := SqL.of h2
      have box2 : BoxAt H2 a (n + 1) := ⟨b, s, c + 1, h2, hb, hs, hs2, by omega, by omega⟩
      refine ⟨_, rfl, a, _, 1, _, rfl, rfl, hS2, rfl, _, rfl, a, _, 2, _, rfl, rfl, hS2, rfl, _, _, rfl, rfl, wmul (by decide) (by omega), _, _, rfl, rfl, _, _, rfl, rfl, _, _, rfl, rfl, ⟨by decide, by decide, by omega⟩, .inl ⟨_, rfl, _, _, rfl, rfl, (show (0 : Int) < 2147483647 by decide), ?_⟩⟩
      generalize h1 : (s + 7919 * (c + 1) + 29) ^ (Int.toNat 5) % 2147483647 = one
      have b1 : 0 ≤ one ∧ one < 2147483647 := by
        rw [← h1]
        exact ⟨Int.emod_nonneg _ (by decide), Int.emod_lt_of_pos _ (by decide)⟩
      refine ⟨_, rfl, _, _, rfl, rfl, wdiv (by decide) (by decide), _, rfl, a, _, 2, _, rfl, rfl, hS2, rfl, _, _, rfl, rfl, wmul (by decide) (by omega), _, _, rfl, rfl, _, _, rfl, rfl, _, _, rfl, rfl, ⟨by decide, by decide, by omega⟩, .inl ⟨_, rfl, _, _, rfl, rfl, (show (0 : Int) < 2147483629 by decide), ?_⟩⟩
      generalize h3 : (one / 8 + 104729 * (c + 1) + 11) ^ (Int.toNat 3) % 2147483629 = two
      have b2 : 0 ≤ two ∧ two < 2147483629 := by
        rw [← h3]
        exact ⟨Int.emod_nonneg _ (by decide), Int.emod_lt_of_pos _ (by decide)⟩
      refine ⟨_, rfl, _, _, rfl, rfl, wdiv (by decide) (by decide), _, rfl, _, _, rfl, rfl, wdiv (by decide) (by decide), _, _, rfl, rfl, wmul (by decide) (by omega), _, _, rfl, rfl, .inl ⟨_, rfl, _, rfl, _, _, rfl, rfl, m0, ?_⟩⟩
      exact hq _ H2 (Int.emod_nonneg _ (by omega)) (Int.emod_lt_of_pos _ m0) box2 bt
end
end K89

set_option Elab.async false
set_option linter.all false
set_option maxRecDepth 100000
set_option maxHeartbeats 1000000
namespace K89
open PySem PySem.Spec PyProof.Rows L2 RP
def pairD (e : Str × D) : D := .tup [.str e.1, e.2]
/-- data of nesting below n, none of it long -/
def Fit : Nat → D → Prop
  | 0, _ => False
  | _ + 1, .non => True
  | _ + 1, .bl _ => True
  | _ + 1, .int _ => True
  | _ + 1, .str z => z.length ≤ 1000
  | n + 1, .lst l => l.length ≤ 1000 ∧ ∀ e ∈ l, Fit n e
  | n + 1, .tup l => l.length ≤ 1000 ∧ ∀ e ∈ l, Fit n e
  | n + 1, .dct l => Fit n (.lst (l.map pairD))
/-- what list(d.items()) gives stands for the pairs -/
theorem items_rep {K : PySem.W.Frag} {R H H' : Hp} {kvs : List (Key × V)} {es : List (Str × D)} {p : Addr} {ts : List Addr} (sR : Same R H) (pR : Plain R) (r : RepK K R kvs es) (keep : ∀ b o, H b = some o → H' b = some o) (hp : H p = none) (hts : ∀ t ∈ ts, H t = none) (hl : H' p = some (.lst (ts.map V.ref)))
    (pp : Paired (fun (t : Addr) (q : Key × V) => H' t = some (.tup [kV q.1, q.2])) ts kvs) : ∃ R', Same R R' ∧ Plain R' ∧ Same R' H' ∧ Rep K R' (.ref p) (.lst (es.map pairD)) := by
  have nR : ∀ t, t = p ∨ t ∈ ts → R t = none := fun t ht => by
    rcases ht with rfl | ht
    · exact sR.out hp
    · exact sR.out (hts t ht)
  have isT : ∀ {ts : List Addr} {kvs : List (Key × V)}, Paired (fun (t : Addr) (q : Key × V) => H' t = some (.tup [kV q.1, q.2])) ts kvs → ∀ t ∈ ts, ∃ xs, H' t = some (.tup xs) := by
    intro ts kvs pp
    induction pp with
    | nil => intro t h; cases h
    | cons h _ ih =>
      intro t ht
      rcases List.mem_cons.mp ht with rfl | ht
      · exact ⟨_, h⟩
      · exact ih t ht
  have sRR : Same R (fun b => if b = p ∨ b ∈ ts then H' b else R b) := fun a o e => by
    show (if a = p ∨ a ∈ ts then H' a else R a) = some o
    rw [if_neg (fun h => by rw [nR a h] at e; cases e)]
    exact e
  refine ⟨fun b => if b = p ∨ b ∈ ts then H' b else R b, sRR, fun a o u e => ?_, fun a o e => ?_, ?_⟩
  · have e2 : (if a = p ∨ a ∈ ts then H' a else R a) = some (.frz o u) := e
    by_cases q : a = p ∨ a ∈ ts
    · rw [if_pos q] at e2
      rcases q with rfl | q
      · rw [hl] at e2; cases e2
      · obtain ⟨xs, h⟩ := isT pp a q
        rw [h] at e2; cases e2
    · rw [if_neg q] at e2
      exact pR _ _ _ e2
  · have e2 : (if a = p ∨ a ∈ ts then H' a else R a) = some o := e
    by_cases q : a = p ∨ a ∈ ts
    · rw [if_pos q] at e2; exact e2
    · rw [if_neg q] at e2
      exact keep _ _ (sR _ _ e2)
  · have at' : ∀ t, t = p ∨ t ∈ ts → (fun b => if b = p ∨ b ∈ ts then H' b else R b) t = H' t := fun t h => if_pos h
    refine .lst (SqL.of ((at' p (.inl rfl)).trans hl)) ?_
    have key : ∀ {ts2 : List Addr} {kvs : List (Key × V)} {es : List (Str × D)}, (∀ t ∈ ts2, t ∈ ts) → RepK K R kvs es → Paired (fun (t : Addr) (q : Key × V) => H' t = some (.tup [kV q.1, q.2])) ts2 kvs → Reps K (fun b => if b = p ∨ b ∈ ts then H' b else R b) (ts2.map V.ref) (es.map pairD) := by
      intro ts2 kvs es hin r pp
      induction pp generalizing es with
      | nil =>
        cases r
        exact .nil
      | @cons t kv ts3 kvs3 h _ ih =>
        cases r with
        | @cons x v d _ _ hx hd tl =>
          refine .cons (.tup (SqT.of ((at' t (.inr (hin t List.mem_cons_self))).trans h)) (.cons (.str _ hx) (.cons (hd.same sRR) .nil))) (ih (fun t ht => hin t (List.mem_cons_of_mem _ ht)) tl)
    exact key (fun _ h => h) r pp
section
variable {P : Program} {w : World} {K : PySem.W.Frag} {mg : Str → Option Value} {base : Heap}
/-! ### _law_same: true of two that stand for the same -/
theorem sc__law_same : FnScope ["told", "due", "same", "k"] ["told", "due"] (defScope s__law_same) := ⟨rfl, rfl, rfl, by decide +kernel, rfl, by decide +kernel, by decide +kernel⟩
def spSame (n : Nat) (K : PySem.W.Frag) : Sp := fun vs H Q _ => ∃ (R : Hp) (v1 v2 : V) (d : D), vs = [v1, v2] ∧ Same R H ∧ Plain R ∧ Rep K R v1 d ∧ Rep K R v2 d ∧ Fit n d ∧ ∀ H', Same H H' → Q (.bl true) H'
theorem ok__law_same0 (T : Txt K mg) : Def P w K mg base 1 "_law_same" ["told", "due"] (spSame 0 K) := by
  obtain ⟨f, fd, F⟩ := T.a__law_same
  refine Def.mk F sc__law_same (fun _ _ _ _ _ _ us hl => match us, hl with | [_, _], _ => rfl) (fun vs H Q E h => ?_) (fun cdv A outer s H vs Q E hr h => ?_)
  · obtain ⟨R, v1, v2, d, rfl, _⟩ := h
    rfl
  · obtain ⟨R, v1, v2, d, rfl, _, _, _, _, hf, _⟩ := h
    exact hf.elim
theorem ok__law_sameS (T : Txt K mg) (n : Nat) (G__law_same : Def P w K mg base (n + 1) "_law_same" ["told", "due"] (spSame n K)) : Def P w K mg base (n + 2) "_law_same" ["told", "due"] (spSame (n + 1) K) := by
  obtain ⟨f, fd, F⟩ := T.a__law_same
  refine Def.mk F sc__law_same (fun _ _ _ _ _ _ us hl => match us, hl with | [_, _], _ => rfl) (fun vs H Q E h => ?_) (fun cdv A outer s H vs Q E hr h => ?_)
  · obtain ⟨R, v1, v2, d, rfl, _⟩ := h
    rfl
  · obtain ⟨R, v1, v2, d, rfl, sR, pR, r1, r2, hf, hq⟩ := h
    have h1 := r1.same sR
    have h2 := r2.same sR
    have hQ := hq H (Same.refl H)
    refine ⟨_, (pss_cons (ps_if (PW.pt (pw_or (pt_cmpR op_isN (pv 1) pe_non (nomark _)) (pw_or1 (pt_val (pe_callB (kcall_is K rfl) (by rfl) T.b_isinstance (by decide +kernel) (pa_cons (pv 1) (pa_cons (pe_bltn (v := .ty "bool") (by rfl) T.b_bool (by decide +kernel) rfl) pa_nil))))))) (pss_one (ps_ret (pe_ifExp (pt_cmpR op_isN (pv 1) pe_non (nomark _)) (pe_cmpR op_isN (pv 0) pe_non (nomark _)) (pe_and (pe_callB (kcall_is K rfl) (by rfl) T.b_isinstance (by decide +kernel) (pa_cons (pv 0) (pa_cons (pe_bltn (v := .ty "bool") (by rfl) T.b_bool (by decide +kernel) rfl) pa_nil))) (pe_one (pe_cmpR op_eq (pe_cmpR op_is_bl (pv 0) pe_bl (nomark _)) (pe_cmpR op_is_bl (pv 1) pe_bl (nomark _)) (nomark _))))))) pss_nil)
      (pss_cons (ps_if (pt_val (pe_callB (kcall_is K rfl) (by rfl) T.b_isinstance (by decide +kernel) (pa_cons (pv 1) (pa_cons (pe_bltn (v := .ty "int") (by rfl) T.b_int (by decide +kernel) rfl) pa_nil)))) (pss_one (ps_ret (pe_and (pe_callB (kcall_is K rfl) (by rfl) T.b_isinstance (by decide +kernel) (pa_cons (pv 0) (pa_cons (pe_bltn (v := .ty "int") (by rfl) T.b_int (by decide +kernel) rfl) pa_nil))) (pe_and (pe_not (pe_callB (kcall_is K rfl) (by rfl) T.b_isinstance (by decide +kernel) (pa_cons (pv 0) (pa_cons (pe_bltn (v := .ty "bool") (by rfl) T.b_bool (by decide +kernel) rfl) pa_nil)))) (pe_one (pe_cmpR op_eq (pe_op op_sub (pe_callTy call_int1 (by rfl) T.b_int (by decide +kernel) (pa_cons (pv 0) pa_nil)) (pv 1)) pe_int (nomark _))))))) pss_nil)
      (pss_cons (ps_if (pt_val (pe_callB (kcall_is K rfl) (by rfl) T.b_isinstance (by decide +kernel) (pa_cons (pv 1) (pa_cons (pe_bltn (v := .ty "str") (by rfl) T.b_str (by decide +kernel) rfl) pa_nil)))) (pss_cons (ps_set (i := 2) sc__law_same.nd rfl (Or.inl rfl) (pe_and (pe_callB (kcall_is K rfl) (by rfl) T.b_isinstance (by decide +kernel) (pa_cons (pv 0) (pa_cons (pe_bltn (v := .ty "str") (by rfl) T.b_str (by decide +kernel) rfl) pa_nil))) (pe_one (pe_cmpR op_eq (pe_callB (kcall_len K rfl) (by rfl) T.b_len (by decide +kernel) (pa_cons (pv 0) pa_nil)) (pe_callB (kcall_len K rfl) (by rfl) T.b_len (by decide +kernel) (pa_cons (pv 1) pa_nil)) (nomark _)))))
      (pss_one (ps_ret (pe_and (pv 2) (pe_one (pe_cmpR (kop_eqE K rfl hr.units) (pe_lc (own := [("k", 3)]) rfl sc__law_same.nd (pi_range1 (by rfl) T.b_range (pa_cons (pe_callB (kcall_len K rfl) (by rfl) T.b_len (by decide +kernel) (pa_cons (pv 1) pa_nil)) pa_nil)) (blkOk_by (own := [("k", 3)]) (N := ["told", "due", "same", "k"]) (sc := defScope s__law_same) (by decide +kernel)) (fun _ _ _ _ _ => (pg_name (i := 3) sc__law_same.nd rfl (Or.inl rfl))) (fun _ _ _ _ _ => (pts_one (pt_cmpR op_ne (pe_slice sl_str (pv 0) (po_some (pv 3)) (po_some (pe_op op_add (pv 3) pe_int))) (pe_ix (kix_any K rfl) (pv 1) (pv 3) (fun _ _ => rfl)) (nomark _)))) (fun _ _ _ _ _ => (pv 3))) (pe_lst pa_nil) (nomark _))))))) pss_nil)
      (pss_cons (ps_if (pt_val (pe_callB (kcall_is K rfl) (by rfl) T.b_isinstance (by decide +kernel) (pa_cons (pv 1) (pa_cons (pe_bltn (v := .ty "dict") (by rfl) T.b_dict (by decide +kernel) rfl) pa_nil)))) (pss_one (ps_ret (pe_and (pe_callB (kcall_is K rfl) (by rfl) T.b_isinstance (by decide +kernel) (pa_cons (pv 0) (pa_cons (pe_bltn (v := .ty "dict") (by rfl) T.b_dict (by decide +kernel) rfl) pa_nil))) (pe_one (pe_d G__law_same (hr.mono (by omega)) (by rfl) (pa_cons (LiI.pe_listItems rfl (pv 0) (by rfl) T.b_list (by decide +kernel)) (pa_cons (LiI.pe_listItems rfl (pv 1) (by rfl) T.b_list (by decide +kernel)) pa_nil))))))) pss_nil)
      (pss_cons (ps_if (PW.pt (pw_or (pt_cmpR op_ne (pe_callB (kcall_is K rfl) (by rfl) T.b_isinstance (by decide +kernel) (pa_cons (pv 0) (pa_cons (pe_bltn (v := .ty "list") (by rfl) T.b_list (by decide +kernel) rfl) pa_nil))) (pe_callB (kcall_is K rfl) (by rfl) T.b_isinstance (by decide +kernel) (pa_cons (pv 1) (pa_cons (pe_bltn (v := .ty "list") (by rfl) T.b_list (by decide +kernel) rfl) pa_nil))) (nomark _)) (pw_or1 (pt_cmpR op_ne (pe_callB (kcall_is K rfl) (by rfl) T.b_isinstance (by decide +kernel) (pa_cons (pv 0) (pa_cons (pe_bltn (v := .ty "tuple") (by rfl) T.b_tuple (by decide +kernel) rfl) pa_nil))) (pe_callB (kcall_is K rfl) (by rfl) T.b_isinstance (by decide +kernel) (pa_cons (pv 1) (pa_cons (pe_bltn (v := .ty "tuple") (by rfl) T.b_tuple (by decide +kernel) rfl) pa_nil))) (nomark _))))) (pss_one (ps_ret pe_bl)) pss_nil)
      (pss_cons (ps_if (PW.pt (pw_or (pt_not (pt_val (pe_callB (kcall_isLT K rfl) (by rfl) T.b_isinstance (by decide +kernel) (pa_cons (pv 0) (pa_cons (pe_tup (pa_cons (pe_bltn (v := .ty "list") (by rfl) T.b_list (by decide +kernel) rfl) (pa_cons (pe_bltn (v := .ty "tuple") (by rfl) T.b_tuple (by decide +kernel) rfl) pa_nil))) pa_nil))))) (pw_or1 (pt_cmpR op_ne (pe_callB (kcall_len K rfl) (by rfl) T.b_len (by decide +kernel) (pa_cons (pv 0) pa_nil)) (pe_callB (kcall_len K rfl) (by rfl) T.b_len (by decide +kernel) (pa_cons (pv 1) pa_nil)) (nomark _))))) (pss_one (ps_ret pe_bl)) pss_nil)
      (pss_one (ps_ret (pe_cmpR (kop_eqE K rfl hr.units) (pe_lc (own := [("k", 3)]) rfl sc__law_same.nd (pi_range1 (by rfl) T.b_range (pa_cons (pe_callB (kcall_len K rfl) (by rfl) T.b_len (by decide +kernel) (pa_cons (pv 1) pa_nil)) pa_nil)) (blkOk_by (own := [("k", 3)]) (N := ["told", "due", "same", "k"]) (sc := defScope s__law_same) (by decide +kernel)) (fun _ _ _ _ _ => (pg_name (i := 3) sc__law_same.nd rfl (Or.inl rfl))) (fun _ _ _ _ _ => (pts_one (pt_not (pt_val (pe_d G__law_same (hr.mono (by omega)) (by rfl) (pa_cons (pe_ix (kix_any K rfl) (pv 0) (pv 3) (fun _ _ => rfl)) (pa_cons (pe_ix (kix_any K rfl) (pv 1) (pv 3) (fun _ _ => rfl)) pa_nil))))))) (fun _ _ _ _ _ => (pv 3))) (pe_lst pa_nil) (nomark _)))))))))), ?_⟩
    cases d with
    | non =>
      cases h1
      cases h2
      exact ⟨_, rfl, rfl, _, rfl, iteT ⟨_, rfl, rfl, _, rfl, iteT ⟨_, rfl, rfl, hQ⟩⟩⟩
    | bl b =>
      cases h1
      cases h2
      refine ⟨_, rfl, rfl, _, rfl, iteF ⟨_, rfl, rd_isi (.bl b) ⟨_, rfl, iteT ?_⟩⟩⟩
      refine ⟨_, rfl, rfl, _, rfl, iteF ⟨_, rfl, rd_isi (.bl b) ⟨_, rfl, iteT ?_⟩⟩⟩
      refine ⟨_, rfl, _, _, rfl, rfl, _, rfl, _, _, rfl, rfl, rfl, ?_⟩
      rw [decide_eq_true rfl]
      exact hQ
    | int i =>
      cases h1
      cases h2
      refine ⟨_, rfl, rfl, _, rfl, iteF ⟨_, rfl, rd_isi (.int i) ⟨_, rfl, iteF ?_⟩⟩⟩
      refine ⟨_, rfl, rd_isi (.int i) ⟨_, rfl, iteT ?_⟩⟩
      refine ⟨_, rfl, rd_isi (.int i) ⟨_, rfl, iteT ⟨_, rfl, rd_isi (.int i) ⟨_, rfl, ⟨_, rfl, iteT ?_⟩⟩⟩⟩⟩
      refine ⟨_, rfl, .inl ⟨i, rfl, _, rfl, _, _, rfl, rfl, rfl, ?_⟩⟩
      show Q (.bl (decide (V.int (i - i) = V.int 0))) H
      rw [Int.sub_self, decide_eq_true rfl]
      exact hQ
    | str z =>
      have hz : z.length ≤ 1000 := hf
      cases h1 with
      | str _ hz1 =>
      cases h2
      have hs : Rep K H (.str z) (.str z) := .str z hz1
      refine ⟨_, rfl, rfl, _, rfl, iteF ⟨_, rfl, rd_isi hs ⟨_, rfl, iteF ?_⟩⟩⟩
      refine ⟨_, rfl, rd_isi hs ⟨_, rfl, iteF ?_⟩⟩
      refine ⟨_, rfl, rd_isi hs ⟨_, rfl, iteT ?_⟩⟩
      refine ⟨_, rfl, rd_isi hs ⟨_, rfl, iteT ?_⟩⟩
      refine ⟨_, rfl, _, z.length, rfl, ⟨hz1, rfl⟩, _, rfl, _, z.length, rfl, ⟨hz1, rfl⟩, rfl, ?_⟩
      rw [show decide (V.int (z.length : Nat) = V.int (z.length : Nat)) = true from decide_eq_true rfl]
      refine ⟨_, rfl, _, rfl, iteT ?_⟩
      refine ⟨_, rfl, _, z.length, rfl, ⟨hz1, rfl⟩, _, rfl, by omega, by omega, fun L hL => ?_⟩
      refine lc_vals (w := walk_range) (fun _ => none) hL (by omega) (fun _ _ => True.intro) ?_ ?_
      · rintro i x H1 H2 Y2 N2 hi s1 hnL ⟨rfl, hx⟩ k3 k4
        have hx2 : x = .int ((i : Nat) : Int) := by
          rw [hx]
          show V.int (0 + (i : Int)) = _
          rw [Int.zero_add]
        subst hx2
        have hi2 : i < z.length := by omega
        obtain ⟨c, hc⟩ : ∃ c, z.cps.toList[i]? = some c := ⟨_, List.getElem?_eq_getElem (by have : z.length = z.cps.size := rfl; simp; omega)⟩
        refine ⟨rfl, ⟨_, rfl, _, rfl, _, rfl, _, rfl, _, _, rfl, rfl, _, rfl, z, rfl, hz1, _, rfl, _, rfl, .inl ⟨z, _, c, rfl, rfl, hz1, atI_nat hc, rfl, _, rfl, ?_⟩⟩⟩
        rw [cut_one hc, decide_eq_true rfl]
        exact iteF (k4 _ rfl (Same.refl _))
      · intro H1 s1 h1
        rw [show (List.range ((z.length : Nat) : Int).toNat).filterMap (fun _ => (none : Option V)) = ([] : List Int).map V.int from by
          generalize List.range _ = l
          induction l with
          | nil => rfl
          | cons a l ih => rw [List.filterMap_cons]; exact ih] at h1
        refine ⟨Nat.zero_le _, fun q hq' => ⟨L, q, [], rfl, rfl, SqL.of (same_new hq' _ _ h1), SqL.of upd_same, ?_⟩⟩
        exact hq _ (s1.trans (same_new hq'))
    | dct l =>
      cases r1 with
      | @dct a1 kvs1 _ hk1 rk1 =>
      cases r2 with
      | @dct a2 kvs2 _ hk2 rk2 =>
      have hd1 := h1
      have hd2 := h2
      refine ⟨_, rfl, rfl, _, rfl, iteF ⟨_, rfl, rd_isi h2 ⟨_, rfl, iteF ?_⟩⟩⟩
      refine ⟨_, rfl, rd_isi h2 ⟨_, rfl, iteF ?_⟩⟩
      refine ⟨_, rfl, rd_isi h2 ⟨_, rfl, iteF ?_⟩⟩
      refine ⟨_, rfl, rd_isi h2 ⟨_, rfl, iteT ?_⟩⟩
      refine ⟨_, rfl, rd_isi h1 ⟨_, rfl, iteT ?_⟩⟩
      refine ⟨_, rfl, a1, kvs1, rfl, sR _ _ (pR.rd hk1), fun H1 p1 ts1 keep1 hp1 hts1 hpt1 hl1 pp1 => ?_⟩
      obtain ⟨R1, u1, u2, u3, u4⟩ := items_rep sR pR rk1 keep1 hp1 hts1 hl1 pp1
      refine ⟨_, rfl, a2, kvs2, rfl, u3 _ _ (u1 _ _ (pR.rd hk2)), fun H2 p2 ts2 keep2 hp2 hts2 hpt2 hl2 pp2 => ?_⟩
      obtain ⟨R2, w1, w2, w3, w4⟩ := items_rep u3 u2 (rk2.same u1) keep2 hp2 hts2 hl2 pp2
      exact ⟨R2, .ref p1, .ref p2, _, rfl, w3, w2, u4.same w1, w4, hf, fun H3 s3 => hq H3 (fun a o e => s3 a o (keep2 a o (keep1 a o e)))⟩
    | lst l =>
      cases r1 with
      | @lst a1 ys1 _ hS1 rs1 =>
      cases r2 with
      | @lst a2 ys2 _ hS2 rs2 =>
      have hl1 := rs1.len
      have hl2 := rs2.len
      obtain ⟨hl, hfe⟩ := hf
      refine ⟨_, rfl, rfl, _, rfl, iteF ⟨_, rfl, rd_isi h2 ⟨_, rfl, iteF ?_⟩⟩⟩
      refine ⟨_, rfl, rd_isi h2 ⟨_, rfl, iteF ?_⟩⟩
      refine ⟨_, rfl, rd_isi h2 ⟨_, rfl, iteF ?_⟩⟩
      refine ⟨_, rfl, rd_isi h2 ⟨_, rfl, iteF ?_⟩⟩
      refine ⟨_, rfl, rd_isi h1 ⟨_, rfl, rd_isi h2 ⟨rfl, _, rfl, iteF ?_⟩⟩⟩
      refine ⟨_, rfl, rd_isi h1 ⟨_, rfl, rd_isi h2 ⟨rfl, _, rfl, iteF ?_⟩⟩⟩
      refine ⟨_, rfl, (show 2 ≤ sizeLine by decide), fun tp htp => rd_isiLT h1 htp ⟨_, rfl, iteF ?_⟩⟩
      have s1 : Same H (upd H tp (.tup [.ty "list", .ty "tuple"])) := same_new htp
      generalize upd H tp (.tup [.ty "list", .ty "tuple"]) = H1 at s1 ⊢
      have sR1 := sR.trans s1
      have q1 : Sq true K H1 a1 ys1 := Sq.mono (b := true) (Lq.of sR1) hS1
      have q2 : Sq true K H1 a2 ys2 := Sq.mono (b := true) (Lq.of sR1) hS2
      refine ⟨_, rfl, _, ys1.length, rfl, q1.len, _, rfl, _, ys2.length, rfl, q2.len, rfl, _, rfl, ?_⟩
      rw [show decide (V.int (ys1.length : Nat) = V.int (ys2.length : Nat)) = true from decide_eq_true (by rw [hl1, hl2])]
      refine iteF ⟨_, rfl, _, ys2.length, rfl, q2.len, _, rfl, by omega, by omega, fun L hL => ?_⟩
      refine lc_vals (w := walk_range) (fun _ => none) hL (by omega) (fun _ _ => True.intro) ?_ ?_
      · rintro i x H2 H3 Y2 N2 hi s2 hnL ⟨rfl, hx⟩ k3 k4
        have hx2 : x = .int ((i : Nat) : Int) := by
          rw [hx]
          show V.int (0 + (i : Int)) = _
          rw [Int.zero_add]
        subst hx2
        obtain ⟨z1, hz1⟩ : ∃ z, ys1[i]? = some z := ⟨_, List.getElem?_eq_getElem (by omega)⟩
        obtain ⟨z2, hz2⟩ : ∃ z, ys2[i]? = some z := ⟨_, List.getElem?_eq_getElem (by omega)⟩
        obtain ⟨d1, hd1, e1⟩ := rs1.get hz1
        obtain ⟨d2, hd2, e2⟩ := rs2.get hz2
        rw [hd1] at hd2
        cases hd2
        refine ⟨rfl, ⟨_, rfl, _, rfl, .inr ⟨true, a1, ys1, _, _, rfl, rfl, Sq.mono (Lq.of s2) q1, atI_nat hz1, _, rfl, _, rfl, .inr ⟨true, a2, ys2, _, _, rfl, rfl, Sq.mono (Lq.of s2) q2, atI_nat hz2, ?_⟩⟩⟩⟩
        exact ⟨R, z1, z2, d1, rfl, sR1.trans s2, pR, e1, e2, hfe d1 (List.mem_of_getElem? hd1), fun H4 s4 => ⟨_, rfl, iteF (k4 _ rfl s4)⟩⟩
      · intro H2 s2 h2
        rw [show (List.range ((ys2.length : Nat) : Int).toNat).filterMap (fun _ => (none : Option V)) = ([] : List Int).map V.int from by
          generalize List.range _ = l
          induction l with
          | nil => rfl
          | cons a l ih => rw [List.filterMap_cons]; exact ih] at h2
        refine ⟨Nat.zero_le _, fun q hq' => ⟨L, q, [], rfl, rfl, SqL.of (same_new hq' _ _ h2), SqL.of upd_same, ?_⟩⟩
        exact hq _ (s1.trans (s2.trans (same_new hq')))
    | tup l =>
      cases r1 with
      | @tup a1 ys1 _ hS1 rs1 =>
      cases r2 with
      | @tup a2 ys2 _ hS2 rs2 =>
      have hl1 := rs1.len
      have hl2 := rs2.len
      obtain ⟨hl, hfe⟩ := hf
      refine ⟨_, rfl, rfl, _, rfl, iteF ⟨_, rfl, rd_isi h2 ⟨_, rfl, iteF ?_⟩⟩⟩
      refine ⟨_, rfl, rd_isi h2 ⟨_, rfl, iteF ?_⟩⟩
      refine ⟨_, rfl, rd_isi h2 ⟨_, rfl, iteF ?_⟩⟩
      refine ⟨_, rfl, rd_isi h2 ⟨_, rfl, iteF ?_⟩⟩
      refine ⟨_, rfl, rd_isi h1 ⟨_, rfl, rd_isi h2 ⟨rfl, _, rfl, iteF ?_⟩⟩⟩
      refine ⟨_, rfl, rd_isi h1 ⟨_, rfl, rd_isi h2 ⟨rfl, _, rfl, iteF ?_⟩⟩⟩
      refine ⟨_, rfl, (show 2 ≤ sizeLine by decide), fun tp htp => rd_isiLT h1 htp ⟨_, rfl, iteF ?_⟩⟩
      have s1 : Same H (upd H tp (.tup [.ty "list", .ty "tuple"])) := same_new htp
      generalize upd H tp (.tup [.ty "list", .ty "tuple"]) = H1 at s1 ⊢
      have sR1 := sR.trans s1
      have q1 : Sq false K H1 a1 ys1 := Sq.mono (b := false) (Lq.of sR1) hS1
      have q2 : Sq false K H1 a2 ys2 := Sq.mono (b := false) (Lq.of sR1) hS2
      refine ⟨_, rfl, _, ys1.length, rfl, q1.len, _, rfl, _, ys2.length, rfl, q2.len, rfl, _, rfl, ?_⟩
      rw [show decide (V.int (ys1.length : Nat) = V.int (ys2.length : Nat)) = true from decide_eq_true (by rw [hl1, hl2])]
      refine iteF ⟨_, rfl, _, ys2.length, rfl, q2.len, _, rfl, by omega, by omega, fun L hL => ?_⟩
      refine lc_vals (w := walk_range) (fun _ => none) hL (by omega) (fun _ _ => True.intro) ?_ ?_
      · rintro i x H2 H3 Y2 N2 hi s2 hnL ⟨rfl, hx⟩ k3 k4
        have hx2 : x = .int ((i : Nat) : Int) := by
          rw [hx]
          show V.int (0 + (i : Int)) = _
          rw [Int.zero_add]
        subst hx2
        obtain ⟨z1, hz1⟩ : ∃ z, ys1[i]? = some z := ⟨_, List.getElem?_eq_getElem (by omega)⟩
        obtain ⟨z2, hz2⟩ : ∃ z, ys2[i]? = some z := ⟨_, List.getElem?_eq_getElem (by omega)⟩
        obtain ⟨d1, hd1, e1⟩ := rs1.get hz1
        obtain ⟨d2, hd2, e2⟩ := rs2.get hz2
        rw [hd1] at hd2
        cases hd2
        refine ⟨rfl, ⟨_, rfl, _, rfl, .inr ⟨false, a1, ys1, _, _, rfl, rfl, Sq.mono (Lq.of s2) q1, atI_nat hz1, _, rfl, _, rfl, .inr ⟨false, a2, ys2, _, _, rfl, rfl, Sq.mono (Lq.of s2) q2, atI_nat hz2, ?_⟩⟩⟩⟩
        exact ⟨R, z1, z2, d1, rfl, sR1.trans s2, pR, e1, e2, hfe d1 (List.mem_of_getElem? hd1), fun H4 s4 => ⟨_, rfl, iteF (k4 _ rfl s4)⟩⟩
      · intro H2 s2 h2
        rw [show (List.range ((ys2.length : Nat) : Int).toNat).filterMap (fun _ => (none : Option V)) = ([] : List Int).map V.int from by
          generalize List.range _ = l
          induction l with
          | nil => rfl
          | cons a l ih => rw [List.filterMap_cons]; exact ih] at h2
        refine ⟨Nat.zero_le _, fun q hq' => ⟨L, q, [], rfl, rfl, SqL.of (same_new hq' _ _ h2), SqL.of upd_same, ?_⟩⟩
        exact hq _ (s1.trans (s2.trans (same_new hq')))
theorem ok__law_same (T : Txt K mg) : ∀ n, Def P w K mg base (n + 1) "_law_same" ["told", "due"] (spSame n K)
  | 0 => ok__law_same0 T
  | n + 1 => ok__law_sameS T n (ok__law_same T n)
end
end K89

set_option Elab.async false
set_option linter.all false
set_option maxRecDepth 100000
set_option maxHeartbeats 1000000
namespace K89
open PySem PySem.Spec PyProof.Rows L2 RP
theorem BoxAt.mono {H : Hp} {a : Addr} {n m : Int} (b : BoxAt H a n) (h : n ≤ m) : BoxAt H a m := by
  obtain ⟨x, y, z, e, h1, h2, h3, h4, h5⟩ := b
  exact ⟨x, y, z, e, h1, h2, h3, h4, Int.le_trans h5 h⟩
theorem BoxAt.ne {H : Hp} {a p : Addr} {n : Int} (b : BoxAt H a n) (hp : H p = none) : p ≠ a := by
  obtain ⟨x, y, z, e, _⟩ := b
  exact ne_at e hp
theorem BoxAt.same {H H' : Hp} {a : Addr} {n : Int} (b : BoxAt H a n) (s : Same H H') : BoxAt H' a n := by
  obtain ⟨x, y, z, e, h⟩ := b
  exact ⟨x, y, z, s _ _ e, h⟩
theorem BoxAt.but {H H' : Hp} {a c : Addr} {n : Int} (b : BoxAt H a n) (s : But c H H') (h : a ≠ c) : BoxAt H' a n := by
  obtain ⟨x, y, z, e, h'⟩ := b
  exact ⟨x, y, z, s _ _ h e, h'⟩
/-- one of some numbers -/
theorem pick {is : List Int} {r : Int} (h0 : 0 ≤ r) (h1 : r < is.length) : ∃ i ∈ is, atI (is.map V.int) r = some (.int i) := by
  obtain ⟨v, e, hv⟩ := atI_lt (xs := is.map V.int) h0 (by rw [List.length_map]; exact h1)
  obtain ⟨i, hi, rfl⟩ := List.mem_map.mp hv
  exact ⟨i, hi, e⟩
/-- all but what is owned stays -/
def Keep (own : Addr → Prop) (H H' : Hp) : Prop := ∀ b o, ¬ own b → H b = some o → H' b = some o
theorem Keep.refl (own : Addr → Prop) (H : Hp) : Keep own H H := fun _ _ _ h => h
theorem Keep.trans {own : Addr → Prop} {A B C : Hp} (h : Keep own A B) (k : Keep own B C) : Keep own A C := fun b o n e => k b o n (h b o n e)
theorem Keep.of {own : Addr → Prop} {H H' : Hp} (s : Same H H') : Keep own H H' := fun b o _ e => s b o e
theorem Keep.but {own : Addr → Prop} {H H' : Hp} {c : Addr} (k : But c H H') (h : own c) : Keep own H H' := fun b o n e => k b o (fun q => n (by rw [q]; exact h)) e
theorem Keep.put {own : Addr → Prop} {H : Hp} {c : Addr} {u : HO} (h : own c) : Keep own H (upd H c u) := fun b o n e => by
  rw [upd_ne (fun q => n (by rw [q]; exact h))]
  exact e
def plE (es : List E3) : List (Key × V) := es.map fun e => (.inr e.1, .str (three.getD e.2.2 ""))
theorem three_at {k i : Nat} (h : i < k) (k3 : k ≤ 3) : atI ((three.take k).map V.str) (i : Nat) = some (.str (three.getD i "")) := by
  refine atI_nat ?_
  rw [List.getElem?_map, List.getElem?_take, if_pos h, List.getD_eq_getElem?_getD, List.getElem?_eq_getElem (by show i < 3; omega)]
  rfl
theorem three_inj {i j : Nat} (hi : i < 3) (hj : j < 3) (h : three.getD i "" = three.getD j "") : i = j := by
  have h1 : three[i]? = some (three.getD i "") := by rw [List.getD_eq_getElem?_getD, List.getElem?_eq_getElem hi]; rfl
  have h2 : three[j]? = some (three.getD j "") := by rw [List.getD_eq_getElem?_getD, List.getElem?_eq_getElem hj]; rfl
  rw [h] at h1
  exact nd_ix three_nd h1 h2
theorem fresh_key {es : List E3} {z : Str} (h : z ∉ es.map Prod.fst) : valV (plE es) (.inr z) = none ∧ valV (psK (psE es)) (.inr z) = none := by
  refine ⟨valV_none fun q => h ?_, valV_none fun q => h ?_⟩
  · unfold plE at q
    rw [List.map_map] at q
    obtain ⟨e, he, e2⟩ := List.mem_map.mp q
    have e3 : e.1 = z := by injection e2
    exact List.mem_map.mpr ⟨e, he, e3⟩
  · unfold psK psE at q
    rw [List.map_map, List.map_map] at q
    obtain ⟨e, he, e2⟩ := List.mem_map.mp q
    have e3 : e.1 = z := by injection e2
    exact List.mem_map.mpr ⟨e, he, e3⟩
theorem fm_len {α β γ : Type} {p : α → Prop} [DecidablePred p] (f : α → β) (g : α → γ) : ∀ {l : List α}, (l.filterMap fun x => if p x then some (f x) else none).length = (l.filterMap fun x => if p x then some (g x) else none).length
  | [] => rfl
  | x :: r => by
    rw [List.filterMap_cons, List.filterMap_cons]
    have ih := fm_len (p := p) f g (l := r)
    by_cases h : p x
    · simp only [h, if_true, List.length_cons, ih]
    · simp only [h, if_false, ih]
theorem sum_nonneg : ∀ {l : List Int}, (∀ x ∈ l, 0 ≤ x) → 0 ≤ l.sum
  | [], _ => Int.le_refl 0
  | x :: r, h => by
    rw [List.sum_cons]
    have h1 := h x List.mem_cons_self
    have h2 := sum_nonneg (l := r) fun y hy => h y (List.mem_cons_of_mem _ hy)
    omega
/-- a known part, and one thing more that stands -/
theorem know {R H : Hp} {q : Addr} {o : HO} (p : Plain R) (s : Same R H) (h : H q = some o) (ho : ∀ ob u, o ≠ .frz ob u) : Same R (upd R q o) ∧ Plain (upd R q o) ∧ Same (upd R q o) H := by
  refine ⟨fun b u e => ?_, p.put ho, fun b u e => ?_⟩
  · by_cases c : b = q
    · rw [c] at e ⊢
      have e2 := s _ _ e
      rw [h] at e2
      rw [upd_same]
      exact e2
    · rw [upd_ne c]; exact e
  · by_cases c : b = q
    · rw [c, upd_same] at e
      rw [c, h]; exact e
    · rw [upd_ne c] at e
      exact s _ _ e
theorem nm_sz {z : Str} (h : okName z = true) : z.length ≤ sizeLine := by
  unfold okName at h
  rw [Bool.and_eq_true, Bool.and_eq_true] at h
  have h2 := of_decide_eq_true h.2.1
  have : 8 ≤ sizeLine := by decide
  exact Nat.le_trans h2 this
theorem repK_ps' {K : PySem.W.Frag} {R : Hp} : ∀ {ps : List (Str × Int)}, (∀ e ∈ ps, e.1.length ≤ sizeLine) → RepK K R (psK ps) (ps.map pD)
  | [], _ => .nil
  | e :: r, h => .cons (h e List.mem_cons_self) (.int _) (repK_ps' fun x hx => h x (List.mem_cons_of_mem _ hx))
theorem repK_ps {K : PySem.W.Frag} {R : Hp} {ps : List (Str × Int)} (o : PsOk ps) : RepK K R (psK ps) (ps.map pD) := repK_ps' fun e he => nm_sz (o.nm e he)
theorem three_sz (i : Nat) : (three.getD i "").length ≤ sizeLine := by
  have big : 2 ≤ sizeLine := by decide
  match i with
  | 0 => exact Nat.le_trans (show (three.getD 0 "").length ≤ 2 by decide +kernel) big
  | 1 => exact Nat.le_trans (show (three.getD 1 "").length ≤ 2 by decide +kernel) big
  | 2 => exact Nat.le_trans (show (three.getD 2 "").length ≤ 2 by decide +kernel) big
  | n + 3 => exact Nat.zero_le _
theorem repK_pl {K : PySem.W.Frag} {R : Hp} : ∀ {es : List E3}, (∀ e ∈ es, e.1.length ≤ sizeLine) → RepK K R (plE es) (es.map fun e => (e.1, .str (three.getD e.2.2 "")))
  | [], _ => .nil
  | e :: r, h => .cons (h e List.mem_cons_self) (.str _ (three_sz _)) (repK_pl fun x hx => h x (List.mem_cons_of_mem _ hx))
theorem plK_E {hs : List (Str × Int)} {es : List E3} (hb : ∀ e ∈ es, e.2.2 < hs.length) (hn : ∀ i, i < hs.length → nmOf hs i = three.getD i "") : plK hs (psE es) (rowE es) = plE es := by
  unfold plK plE
  refine List.ext_getElem? fun i => ?_
  rw [List.getElem?_map, List.getElem?_map]
  have le : (psE es).length = es.length := by
    unfold psE
    rw [List.length_map]
  by_cases h : i < es.length
  · rw [List.getElem?_range (by omega), List.getElem?_eq_getElem h]
    have e1 : nmOf (psE es) i = es[i].1 := by
      unfold nmOf psE
      rw [List.getD_eq_getElem?_getD, List.getElem?_map, List.getElem?_eq_getElem h]
      rfl
    have e2 : (rowE es).getD i 0 = es[i].2.2 := by
      unfold rowE
      rw [List.getD_eq_getElem?_getD, List.getElem?_map, List.getElem?_eq_getElem h]
      rfl
    show some ((Sum.inr (nmOf (psE es) i) : Key), V.str (nmOf hs ((rowE es).getD i 0))) = some (.inr es[i].1, V.str (three.getD es[i].2.2 ""))
    rw [e1, e2, hn _ (hb _ (List.getElem_mem h))]
  · rw [List.getElem?_eq_none (by simp; omega), List.getElem?_eq_none (by omega)]
    rfl
section
variable {P : Program} {w : World} {K : PySem.W.Frag} {mg : Str → Option Value} {base : Heap}
/-! ### _law_fleet -/
theorem sc__law_fleet : FnScope ["box", "names", "many", "lengths", "name", "left", "place", "guests", "tight", "guest", "at", "inside", "one", "most", "length"] ["box"] (defScope s__law_fleet) := ⟨rfl, rfl, rfl, by decide +kernel, rfl, by decide +kernel, by decide +kernel⟩
def spLFl (K : PySem.W.Frag) : Sp := fun vs H Q _ => ∃ (a : Addr) (n : Int), vs = [.ref a] ∧ BoxAt H a n ∧ n ≤ 100000 ∧ ∀ (t f p ha pa : Addr) (xs : List V) (H' R' : Hp) (hs ps : List (Str × Int)) (row : List Nat), LawFl hs ps row → BoxAt H' a (n + 50) → But a H H' → SqT K H' t [.ref f, .ref p] →
  Plain R' → Same R' H' → R' a = none → R' f = some (.tup [.ref ha, .ref pa]) → R' ha = some (.lst xs) → Reps K R' xs (hs.map hD) → R' pa = some (.dK (psK ps)) → R' p = some (.dK (plK hs ps row)) → Q (.ref t) H'
theorem ok__law_fleet (T : Txt K mg) (G__law_take : Def P w K mg base 1 "_law_take" ["box", "many"] (spTake K)) : Def P w K mg base 2 "_law_fleet" ["box"] (spLFl K) := by
  obtain ⟨f, fd, F⟩ := T.a__law_fleet
  refine Def.mk F sc__law_fleet (fun _ _ _ _ _ _ us hl => match us, hl with | [_], _ => rfl) (fun vs H Q E h => ?_) (fun cdv A outer s H vs Q E hr h => ?_)
  · obtain ⟨a, n, rfl, _⟩ := h
    rfl
  · obtain ⟨a, n, rfl, bx, hn, hq⟩ := h
    refine ⟨_, (pss_cons (ps_set (i := 1) sc__law_fleet.nd rfl (Or.inr rfl) (pe_slice (ksl_list K rfl) (pe_lst (pa_cons pe_str (pa_cons pe_str (pa_cons pe_str pa_nil)))) po_none (po_some (pe_op op_add pe_int (pe_ix (kix_list K rfl) (pe_lst (pa_cons pe_int (pa_cons pe_int (pa_cons pe_int (pa_cons pe_int (pa_cons pe_int (pa_cons pe_int pa_nil))))))) (pe_d G__law_take (hr.mono (by decide)) (by rfl) (pa_cons (pv 0) (pa_cons pe_int pa_nil))) (fun _ _ => rfl))))))
      (pss_cons (ps_set (i := 2) sc__law_fleet.nd rfl (Or.inl rfl) (pe_ix (kix_list K rfl) (pe_lst (pa_cons pe_int (pa_cons pe_int (pa_cons pe_int (pa_cons pe_int (pa_cons pe_int (pa_cons pe_int (pa_cons pe_int (pa_cons pe_int pa_nil))))))))) (pe_d G__law_take (hr.mono (by decide)) (by rfl) (pa_cons (pv 0) (pa_cons pe_int pa_nil))) (fun _ _ => rfl)))
      (pss_cons (ps_setLc (i := 3) (own := [("name", 4)]) rfl sc__law_fleet.nd rfl rfl (sw_true rfl rfl rfl (by decide +kernel)) (kpi_list K rfl (pv 1)) (blkOk_by (own := [("name", 4)]) (N := ["box", "names", "many", "lengths", "name", "left", "place", "guests", "tight", "guest", "at", "inside", "one", "most", "length"]) (sc := defScope s__law_fleet) (by decide +kernel)) (fun _ _ _ _ _ => (pg_name (i := 4) sc__law_fleet.nd rfl (Or.inl rfl))) (fun _ _ _ _ _ => pts_nil) (fun _ _ _ _ _ => (pe_op op_add pe_int (pe_d G__law_take (hr.mono (by decide)) (by rfl) (pa_cons (pv 0) (pa_cons (pe_ix (kix_list K rfl) (pe_lst (pa_cons pe_int (pa_cons pe_int (pa_cons pe_int pa_nil)))) (pe_d G__law_take (hr.mono (by decide)) (by rfl) (pa_cons (pv 0) (pa_cons pe_int pa_nil))) (fun _ _ => rfl)) pa_nil))))))
      (pss_cons (ps_par3 (i := 5) (j := 6) (l := 7) rfl sc__law_fleet.nd rfl rfl rfl (by decide) (by decide) (by decide) rfl rfl rfl (pa_cons (pe_callTy (kcall_list_of K rfl) (by rfl) T.b_list (by decide +kernel) (pa_cons (pv 3) pa_nil)) (pa_cons pe_dnewK (pa_cons pe_dnewK pa_nil))) (by rfl))
      (pss_cons (ps_set (i := 8) sc__law_fleet.nd rfl (Or.inl rfl) (pe_d G__law_take (hr.mono (by decide)) (by rfl) (pa_cons (pv 0) (pa_cons pe_int pa_nil))))
      (pss_cons (ps_for (passes_of rfl) rfl (kpi_list K rfl (pe_slice (ksl_list K rfl) (pe_lst (pa_cons pe_str (pa_cons pe_str (pa_cons pe_str (pa_cons pe_str (pa_cons pe_str (pa_cons pe_str (pa_cons pe_str pa_nil)))))))) po_none (po_some (pv 2)))) (pg_name (i := 9) sc__law_fleet.nd rfl (Or.inl rfl))
        (pss_cons (ps_set (i := 10) sc__law_fleet.nd rfl (Or.inr rfl) (pe_d G__law_take (hr.mono (by decide)) (by rfl) (pa_cons (pv 0) (pa_cons (pe_callB (kcall_len_seq K rfl) (by rfl) T.b_len (by decide +kernel) (pa_cons (pv 1) pa_nil)) pa_nil))))
      (pss_cons (ps_set (i := 11) sc__law_fleet.nd rfl (Or.inl rfl) (pe_callB (kcall_len_seq K rfl) (by rfl) T.b_len (by decide +kernel) (pa_cons (pe_lock (pe_lc (own := [("one", 12)]) rfl sc__law_fleet.nd (pi_values (pv 6)) (blkOk_by (own := [("one", 12)]) (N := ["box", "names", "many", "lengths", "name", "left", "place", "guests", "tight", "guest", "at", "inside", "one", "most", "length"]) (sc := defScope s__law_fleet) (by decide +kernel)) (fun _ _ _ _ _ => (pg_name (i := 12) sc__law_fleet.nd rfl (Or.inl rfl))) (fun _ _ _ _ _ => (pts_one (pt_cmpR op_eq (pv 12) (pe_ix (kix_list K rfl) (pv 1) (pv 10) (fun _ _ => rfl)) (nomark _)))) (fun _ _ _ _ _ => (pv 12)))) pa_nil)))
      (C8.pss_cut (ps_if (pt_cmpR op_eq (pv 11) pe_int (nomark _)) (pss_one (ps_set (i := 10) sc__law_fleet.nd rfl (Or.inr rfl) (pe_op op_mod (pe_callTy call_int1 (by rfl) T.b_int (by decide +kernel) (pa_cons (pe_op op_add (pv 10) pe_int) pa_nil)) (pe_callB (kcall_len_seq K rfl) (by rfl) T.b_len (by decide +kernel) (pa_cons (pv 1) pa_nil))))) pss_nil)
      (pss_cons (ps_set (i := 13) sc__law_fleet.nd rfl (Or.inl rfl) (pe_ix (kix_list K rfl) (pe_lst (pa_cons (pe_ix (kix_list K rfl) (pv 5) (pv 10) (fun _ _ => rfl)) (pa_cons (pe_callB (call_min2 rfl) (by rfl) T.b_min (by decide +kernel) (pa_cons (pe_ix (kix_list K rfl) (pv 5) (pv 10) (fun _ _ => rfl)) (pa_cons pe_int pa_nil))) (pa_cons (pe_op op_fdivW (pe_op op_add (pe_ix (kix_list K rfl) (pv 5) (pv 10) (fun _ _ => rfl)) pe_int) pe_int) pa_nil)))) (pv 8) (fun _ _ => rfl)))
      (pss_one (ps_if (pt_cmpR op_lt (pe_callB (kcall_len_seq K rfl) (by rfl) T.b_len (by decide +kernel) (pa_cons (pe_lock (pe_lc (own := [("one", 12)]) rfl sc__law_fleet.nd (pi_values (pv 6)) (blkOk_by (own := [("one", 12)]) (N := ["box", "names", "many", "lengths", "name", "left", "place", "guests", "tight", "guest", "at", "inside", "one", "most", "length"]) (sc := defScope s__law_fleet) (by decide +kernel)) (fun _ _ _ _ _ => (pg_name (i := 12) sc__law_fleet.nd rfl (Or.inl rfl))) (fun _ _ _ _ _ => (pts_one (pt_cmpR op_eq (pv 12) (pe_ix (kix_list K rfl) (pv 1) (pv 10) (fun _ _ => rfl)) (nomark _)))) (fun _ _ _ _ _ => (pv 12)))) pa_nil)) pe_int (nomark _)) (pss_cons (ps_dput (hu_of hr) (pv 7) (pv 9) (pe_callB (call_min2 rfl) (by rfl) T.b_min (by decide +kernel) (pa_cons (pe_ix (kix_list K rfl) (pv 5) (pv 10) (fun _ _ => rfl)) (pa_cons (pe_op op_add (pe_d G__law_take (hr.mono (by decide)) (by rfl) (pa_cons (pv 0) (pa_cons (pe_op op_add (pv 13) pe_int) pa_nil))) (pe_callTy call_int1 (by rfl) T.b_int (by decide +kernel) (pa_cons (pe_and (pe_cmpR op_eq (pv 8) pe_int (nomark _)) (pe_one (pe_cmpR op_gt (pe_ix (kix_list K rfl) (pv 5) (pv 10) (fun _ _ => rfl)) pe_int (nomark _)))) pa_nil))) pa_nil))) rfl)
      (pss_cons (ps_asg (pe_op op_sub (pe_ix (kix_list K rfl) (pv 5) (pv 10) (fun _ _ => rfl)) (pe_dget (hu_of hr) (pv 7) (pv 9) (fun _ _ => rfl))) (pg_sub (pv 5) (pv 10) set_list))
      (pss_one (ps_dput (hu_of hr) (pv 6) (pv 9) (pe_ix (kix_list K rfl) (pv 1) (pv 10) (fun _ _ => rfl)) rfl)))) pss_nil)))))))
      (pss_one (ps_ret (pe_tup (pa_cons (pe_tup (pa_cons (pe_lc (own := [("name", 4), ("length", 14)]) rfl sc__law_fleet.nd (pi_zip (by rfl) T.b_zip (pa_cons (pv 1) (pa_cons (pv 3) pa_nil))) (blkOk_by (own := [("name", 4), ("length", 14)]) (N := ["box", "names", "many", "lengths", "name", "left", "place", "guests", "tight", "guest", "at", "inside", "one", "most", "length"]) (sc := defScope s__law_fleet) (by decide +kernel)) (fun _ _ _ _ _ => (kpg_tup K rfl (n := 2) rfl (pgs_cons (pg_name (i := 4) sc__law_fleet.nd rfl (Or.inl rfl)) (pgs_cons (pg_name (i := 14) sc__law_fleet.nd rfl (Or.inl rfl)) pgs_nil)))) (fun _ _ _ _ _ => pts_nil) (fun _ _ _ _ _ => (pe_tup (pa_cons (pv 4) (pa_cons (pv 14) pa_nil))))) (pa_cons (pv 7) pa_nil))) (pa_cons (pv 6) pa_nil))))))))))), ?_⟩
    -- the names
    refine ⟨(show 3 ≤ sizeLine by decide), fun p1 hp1 => ?_⟩
    have s1 : Same H (upd H p1 (.lst [.str "ha", .str "hb", .str "hc"])) := same_new hp1
    have h1 : upd H p1 (.lst [.str "ha", .str "hb", .str "hc"]) p1 = some (.lst (three.map V.str)) := upd_same
    have n1 : p1 ≠ a := bx.ne hp1
    generalize upd H p1 (.lst [.str "ha", .str "hb", .str "hc"]) = H1 at s1 h1 ⊢
    have bx1 := bx.same s1
    refine ⟨(show 6 ≤ sizeLine by decide), fun p2 hp2 => ?_⟩
    have s2 : Same H1 (upd H1 p2 (.lst [.int 0, .int 1, .int 1, .int 2, .int 2, .int 2])) := same_new hp2
    have h2 : upd H1 p2 (.lst [.int 0, .int 1, .int 1, .int 2, .int 2, .int 2]) p2 = some (.lst (([0, 1, 1, 2, 2, 2] : List Int).map V.int)) := upd_same
    have n2 : p2 ≠ a := bx1.ne hp2
    generalize upd H1 p2 (.lst [.int 0, .int 1, .int 1, .int 2, .int 2, .int 2]) = H2 at s2 h2 ⊢
    have bx2 := bx1.same s2
    replace h1 := s2 _ _ h1
    have B2 : But a H H2 := (But.of s1).trans (But.of s2)
    refine ⟨_, rfl, a, n, 6, rfl, bx2, by omega, by omega, by omega, fun r H3 r0 r1 bx3 b3 => ?_⟩
    obtain ⟨x, hx, ex⟩ := pick (is := [0, 1, 1, 2, 2, 2]) r0 r1
    have B3 := B2.trans b3
    obtain ⟨k, ek, k1, k3⟩ : ∃ k : Nat, 1 + x = (k : Int) ∧ 1 ≤ k ∧ k ≤ 3 := by
      have h : x = 0 ∨ x = 1 ∨ x = 2 := by
        simp only [List.mem_cons, List.not_mem_nil, or_false] at hx
        omega
      exact ⟨(1 + x).toNat, by omega, by omega, by omega⟩
    refine ⟨p2, _, r, _, rfl, rfl, SqL.of (b3 _ _ n2 h2), ex, _, _, rfl, rfl, _, rfl, p1, _, rfl, SqL.of (b3 _ _ n1 h1), fun N hN => ?_⟩
    rw [ek, cut_left, ← List.map_take]
    have n3 : N ≠ a := bx3.ne hN
    have s4 : Same H3 (upd H3 N (.lst ((three.take k).map V.str))) := same_new hN
    have hN4 : upd H3 N (.lst ((three.take k).map V.str)) N = some (.lst ((three.take k).map V.str)) := upd_same
    generalize upd H3 N (.lst ((three.take k).map V.str)) = H4 at s4 hN4 ⊢
    have bx4 := bx3.same s4
    have B4 := B3.trans (But.of s4)
    have lk : (three.take k).length = k := by
      rw [List.length_take]
      show min k 3 = k
      omega
    -- how many
    refine ⟨(show 8 ≤ sizeLine by decide), fun p5 hp5 => ?_⟩
    have s5 : Same H4 (upd H4 p5 (.lst [.int 3, .int 4, .int 5, .int 6, .int 7, .int 7, .int 0, .int 1])) := same_new hp5
    have h5 : upd H4 p5 (.lst [.int 3, .int 4, .int 5, .int 6, .int 7, .int 7, .int 0, .int 1]) p5 = some (.lst (([3, 4, 5, 6, 7, 7, 0, 1] : List Int).map V.int)) := upd_same
    have n5 : p5 ≠ a := bx4.ne hp5
    generalize upd H4 p5 (.lst [.int 3, .int 4, .int 5, .int 6, .int 7, .int 7, .int 0, .int 1]) = H5 at s5 h5 ⊢
    have bx5 := bx4.same s5
    have B5 := B4.trans (But.of s5)
    replace hN4 := s5 _ _ hN4
    refine ⟨_, rfl, a, n + 1, 8, rfl, bx5, by omega, by omega, by omega, fun r2 H6 q0 q1 bx6 b6 => ?_⟩
    obtain ⟨y, hy, ey⟩ := pick (is := [3, 4, 5, 6, 7, 7, 0, 1]) q0 q1
    obtain ⟨m, rfl, m7⟩ : ∃ m : Nat, y = (m : Int) ∧ m ≤ 7 := by
      have h : 0 ≤ y ∧ y ≤ 7 := by
        simp only [List.mem_cons, List.not_mem_nil, or_false] at hy
        omega
      exact ⟨y.toNat, by omega, by omega⟩
    have B6 := B5.trans b6
    have hN6 := b6 _ _ n3 hN4
    refine ⟨p5, _, r2, _, rfl, rfl, SqL.of (b6 _ _ n5 h5), ey, ?_⟩
    -- the lengths
    refine ⟨_, rfl, N, rfl, ⟨_, SqL.of hN6⟩, fun L hL => ?_⟩
    have nL : L ≠ a := bx6.ne hL
    have nLN : L ≠ N := ne_at hN6 hL
    refine lc_it (w := walk_list) (fun i H' => BoxAt H' a (n + 2 + 2 * (i : Nat)) ∧ But a H6 H' ∧ ∃ lens : List Int, H' L = some (.lst (lens.map V.int)) ∧ lens.length = i ∧ ∀ l ∈ lens, 4 ≤ l ∧ l ≤ 60)
      ⟨(bx6.mono (by omega)).same (same_new hL), But.of (same_new hL), [], upd_same, rfl, fun l hl => by cases hl⟩ (fun i H' _ ⟨_, b, _⟩ => SqL.of (b _ _ n3 hN6)) ?_ ?_
    · rintro i z Ha Hb hi ⟨bxa, ba, lens, hla, ll, hb⟩ ⟨rfl, hz⟩
      rw [List.length_map, lk] at hi
      refine ⟨rfl, ⟨_, rfl, (show 3 ≤ sizeLine by decide), fun p7 hp7 => ?_⟩⟩
      have s7 : Same Hb (upd Hb p7 (.lst [.int 3, .int 12, .int 57])) := same_new hp7
      have h7 : upd Hb p7 (.lst [.int 3, .int 12, .int 57]) p7 = some (.lst (([3, 12, 57] : List Int).map V.int)) := upd_same
      have n7 : p7 ≠ a := bxa.ne hp7
      have n7L : p7 ≠ L := ne_at hla hp7
      generalize upd Hb p7 (.lst [.int 3, .int 12, .int 57]) = Hc at s7 h7 ⊢
      refine ⟨_, rfl, a, _, 3, rfl, bxa.same s7, by omega, by omega, by omega, fun r3 Hd q0 q1 bxd bd => ?_⟩
      obtain ⟨u, hu, eu⟩ := pick (is := [3, 12, 57]) q0 q1
      have u1 : 1 ≤ u ∧ u ≤ 57 := by
        simp only [List.mem_cons, List.not_mem_nil, or_false] at hu
        omega
      refine ⟨p7, _, r3, _, rfl, rfl, SqL.of (bd _ _ n7 h7), eu, a, _, u, rfl, bxd, by omega, by omega, by omega, fun r4 He t0 t1 bxe be => ⟨_, _, rfl, rfl, ?_⟩⟩
      have hLe : He L = some (.lst (lens.map V.int)) := be _ _ nL (bd _ _ nL (s7 _ _ hla))
      refine ⟨_, hLe, ?_, ?_, ?_, lens ++ [4 + r4], ?_, ?_, ?_⟩
      · rw [List.length_map]
        have : 100 ≤ sizeLine := by decide
        omega
      · have z : BoxAt He a (n + 2 + 2 * ((i + 1 : Nat) : Int)) := bxe.mono (by omega)
        exact z.but But.write (Ne.symm nL)
      · have z : But a H6 He := ((ba.trans (But.of s7)).trans bd).trans be
        intro b o nb e
        have eb : b ≠ L := fun q => by rw [q, hL] at e; cases e
        rw [upd_ne eb]
        exact z b o nb e
      · rw [upd_same, List.map_append]
        rfl
      · rw [List.length_append, ll]
        rfl
      · intro l hl
        rcases List.mem_append.mp hl with h | h
        · exact hb l h
        · rw [List.mem_singleton.mp h]
          omega
    · rintro Ha ⟨bxa, ba, lens, hla, ll, hb⟩
      rw [List.length_map, lk] at ll bxa
      have hNa := ba _ _ n3 hN6
      have Ba := B6.trans ba
      -- what is left, the dicts
      refine ⟨_, rfl, L, _, rfl, .inl (SqL.of hla), fun F hF => ?_⟩
      have sF : Same Ha (upd Ha F (.lst (lens.map V.int))) := same_new hF
      have hF1 : upd Ha F (.lst (lens.map V.int)) F = some (.lst (lens.map V.int)) := upd_same
      have nF : F ≠ a := bxa.ne hF
      have nFN : F ≠ N := ne_at hNa hF
      have nFL : F ≠ L := ne_at hla hF
      generalize upd Ha F (.lst (lens.map V.int)) = Hb at sF hF1 ⊢
      refine fun p hp => ?_
      have sp : Same Hb (upd Hb p (.dK [])) := same_new hp
      have hp1' : upd Hb p (.dK []) p = some (.dK []) := upd_same
      have np : p ≠ a := (bxa.same sF).ne hp
      have npN : p ≠ N := ne_at (sF _ _ hNa) hp
      have npL : p ≠ L := ne_at (sF _ _ hla) hp
      have npF : p ≠ F := ne_at hF1 hp
      generalize upd Hb p (.dK []) = Hc at sp hp1' ⊢
      refine fun g hg => ?_
      have sg : Same Hc (upd Hc g (.dK [])) := same_new hg
      have hg1 : upd Hc g (.dK []) g = some (.dK []) := upd_same
      have ng : g ≠ a := ((bxa.same sF).same sp).ne hg
      have ngN : g ≠ N := ne_at (sp _ _ (sF _ _ hNa)) hg
      have ngL : g ≠ L := ne_at (sp _ _ (sF _ _ hla)) hg
      have ngF : g ≠ F := ne_at (sp _ _ hF1) hg
      have ngp : g ≠ p := ne_at hp1' hg
      generalize upd Hc g (.dK []) = Hd at sg hg1 ⊢
      have s9 := sF.trans (sp.trans sg)
      have hNd := s9 _ _ hNa
      have hLd := s9 _ _ hla
      have hFd := sg _ _ (sp _ _ hF1)
      have hpd := sg _ _ hp1'
      have bxd := bxa.same s9
      have Bd := Ba.trans (But.of s9)
      refine ⟨_, _, _, rfl, ?_⟩
      -- how tight
      refine ⟨_, rfl, a, _, 3, rfl, bxd, by omega, by omega, by omega, fun ti He t0 t1 bxe be => ?_⟩
      have hNe := be _ _ n3 hNd
      have hLe := be _ _ nL hLd
      have hFe := be _ _ nF hFd
      have hpe := be _ _ np hpd
      have hge := be _ _ ng hg1
      have Be := Bd.trans be
      refine ⟨(show 7 ≤ sizeLine by decide), fun p8 hp8 => ?_⟩
      have s10 : Same He (upd He p8 (.lst [.str "a", .str "b", .str "c", .str "d", .str "e", .str "f", .str "g"])) := same_new hp8
      have h10 : upd He p8 (.lst [.str "a", .str "b", .str "c", .str "d", .str "e", .str "f", .str "g"]) p8 = some (.lst (seven.map V.str)) := upd_same
      generalize upd He p8 (.lst [.str "a", .str "b", .str "c", .str "d", .str "e", .str "f", .str "g"]) = Hf at s10 h10 ⊢
      refine ⟨_, rfl, _, rfl, p8, _, rfl, SqL.of h10, fun G hG => ?_⟩
      rw [cut_left, ← List.map_take]
      have s11 : Same Hf (upd Hf G (.lst ((seven.take m).map V.str))) := same_new hG
      have hG1 : upd Hf G (.lst ((seven.take m).map V.str)) G = some (.lst ((seven.take m).map V.str)) := upd_same
      have s12' := s10.trans s11
      have nGa : G ≠ a := (bxe.same s10).ne hG
      have nGF : G ≠ F := ne_at (s10 _ _ hFe) hG
      have nGp : G ≠ p := ne_at (s10 _ _ hpe) hG
      have nGg : G ≠ g := ne_at (s10 _ _ hge) hG
      generalize upd Hf G (.lst ((seven.take m).map V.str)) = Hh at s11 hG1 s12' ⊢
      have bxh := bxe.same s12'
      have hNh := s12' _ _ hNe
      have hLh := s12' _ _ hLe
      have hFh := s12' _ _ hFe
      have hph := s12' _ _ hpe
      have hgh := s12' _ _ hge
      have Bh := Be.trans (But.of s12')
      have lm : (seven.take m).length = m := by
        rw [List.length_take]
        show min m 7 = m
        omega
      refine ⟨G, rfl, ⟨_, SqL.of hG1⟩, ?_⟩
      have own0 : ∀ b, (b = a ∨ b = F ∨ b = p ∨ b = g) → b = N → False := fun b h e => by
        rw [e] at h
        rcases h with h | h | h | h
        · exact n3 h
        · exact nFN h.symm
        · exact npN h.symm
        · exact ngN h.symm
      have ownG : ¬ (G = a ∨ G = F ∨ G = p ∨ G = g) := fun h => by
        rcases h with h | h | h | h
        · exact nGa h
        · exact nGF h
        · exact nGp h
        · exact nGg h
      have ownN : ¬ (N = a ∨ N = F ∨ N = p ∨ N = g) := fun h => own0 N h rfl
      have ownL : ¬ (L = a ∨ L = F ∨ L = p ∨ L = g) := fun h => by
        rcases h with h | h | h | h
        · exact nL h
        · exact nFL h.symm
        · exact npL h.symm
        · exact ngL h.symm
      have l0 : leftL lens [] = lens := by
        refine List.ext_getElem? fun i => ?_
        by_cases hi : i < lens.length
        · rw [leftL_get hi, List.getElem?_eq_getElem hi, List.getD_eq_getElem?_getD, List.getElem?_eq_getElem hi]
          show some (lens[i] - 0) = _
          rw [Int.sub_zero]
        · rw [List.getElem?_eq_none (by rw [leftL_len]; omega), List.getElem?_eq_none (by omega)]
      refine for_it (w := walk_list) (fun t σ H' => ∃ (o4 o9 o10 o11 o12 o13 o14 : Option V) (es : List E3), σ = [some (.ref a), some (.ref N), some (.int (m : Nat)), some (.ref L), o4, some (.ref F), some (.ref p), some (.ref g), some (.int ti), o9, o10, o11, o12, o13, o14] ∧
          BoxAt H' a (n + 9 + 2 * (t : Nat)) ∧ Keep (fun b => b = a ∨ b = F ∨ b = p ∨ b = g) Hh H' ∧ DealI lens t es ∧ H' F = some (.lst ((leftL lens es).map V.int)) ∧ H' p = some (.dK (plE es)) ∧ H' g = some (.dK (psK (psE es))))
        ⟨_, _, _, _, _, _, _, [], rfl, bxh.mono (by omega), Keep.refl _ _, DealI.none lens (fun l hl => by have := hb l hl; omega), by rw [l0]; exact hFh, hph, hgh⟩ (fun t σ H' _ ⟨_, _, _, _, _, _, _, _, _, _, kp, _⟩ => SqL.of (kp _ _ ownG hG1)) ?_ ?_
      · rintro t x σ Hi Hj ht ⟨o4, o9, o10, o11, o12, o13, o14, es, rfl, bxi, ki, I, hFi, hpi, hgi⟩ ⟨rfl, hx⟩
        rw [List.length_map, lm] at ht
        have lpl : (plE es).length = es.length := by
          unfold plE
          rw [List.length_map]
        have les : es.length ≤ 7 := by have := I.n; omega
        rw [List.getElem?_map] at hx
        obtain ⟨z, hz, rfl⟩ := Option.map_eq_some_iff.mp hx
        rw [List.getElem?_take, if_pos ht] at hz
        have hNi := ki _ _ ownN hNh
        refine ⟨_, rfl, _, rfl, N, _, rfl, .inl (SqL.of hNi), a, _, _, rfl, bxi, by omega, by rw [List.length_map, lk]; omega, by rw [List.length_map, lk]; omega, fun r Hk c0 c1 bxk bk => ?_⟩
        rw [List.length_map, lk] at c1
        obtain ⟨j, rfl⟩ : ∃ j : Nat, r = (j : Int) := ⟨r.toNat, by omega⟩
        have jk : j < k := by omega
        have hNk := bk _ _ n3 hNi
        have hFk := bk _ _ nF hFi
        have hpk := bk _ _ np hpi
        have hgk := bk _ _ ng hgi
        have kk := ki.trans (Keep.but bk (.inl rfl))
        -- how many stand there
        refine ⟨p, .dK (plE es), hpk, True.intro, fun od => ⟨_, rfl, p, od, _, rfl, upd_same, fun M1 hM1 => ?_⟩⟩
        have hN1l : upd Hk p (.frz od (.dK (plE es))) N = some (.lst ((three.take k).map V.str)) := by rw [upd_ne (Ne.symm npN)]; exact hNk
        have hp1l := hpk
        refine lc_vals (w := walk_values) (fun i => (es[i]?).bind fun e => if e.2.2 = j then some (V.str (three.getD j "")) else none) hM1 (by rw [lpl]; omega) (fun H' s => s _ _ upd_same) ?_ ?_
        · rintro i x Ha1 Hb1 Y2 N2 hi1 sa1 hnL1 ⟨rfl, kk, hkk⟩ k1 k2
          rw [lpl] at hi1
          have ge : es[i]? = some es[i] := List.getElem?_eq_getElem hi1
          unfold plE at hkk
          rw [List.getElem?_map, ge] at hkk
          cases hkk
          have bi := I.b es[i] (List.getElem_mem hi1)
          have hN1 := sa1 _ _ hN1l
          refine ⟨rfl, ⟨_, rfl, _, rfl, _, rfl, N, _, _, _, rfl, rfl, SqL.of hN1, three_at (i := j) (by omega) k3, rfl, _, rfl, ?_⟩⟩
          show if decide (V.str (three.getD es[i].2.2 "") = V.str (three.getD j "")) = true then _ else _
          by_cases q : es[i].2.2 = j
          · rw [q, decide_eq_true rfl]
            exact iteT ⟨_, rfl, k1 _ _ (by rw [ge]; show (if es[i].2.2 = j then _ else _) = _; rw [if_pos q]) (Same.refl _)⟩
          · rw [decide_eq_false (fun z => q (three_inj (by omega) (by omega) (by injection z)))]
            exact iteF (k2 _ (by rw [ge]; show (if es[i].2.2 = j then _ else _) = _; rw [if_neg q]) (Same.refl _))
        intro Hm sm hm
        rw [lpl, range_bind] at hm
        have lc : (es.filterMap fun e => if e.2.2 = j then some (V.str (three.getD j "")) else none).length = (atE es j).length := fm_len _ _
        have mp : M1 ≠ p := fun q => by
          rw [q, upd_same] at hM1
          cases hM1
        have su1 : Same Hk (upd Hm p (.dK (plE es))) := Same.unlock hp1l sm
        have hmm : upd Hm p (.dK (plE es)) M1 = some (.lst (es.filterMap fun e => if e.2.2 = j then some (V.str (three.getD j "")) else none)) := by rw [upd_ne mp]; exact hm
        refine ⟨sm _ _ upd_same, M1, _, rfl, .inl (SqL.of hmm), ?_⟩
        rw [lc]
        have kl := kk.trans (Keep.of su1)
        have bxl := bxk.same su1
        have hNl := su1 _ _ hNk
        have hFl := su1 _ _ hFk
        have hpl := su1 _ _ hpk
        have hgl := su1 _ _ hgk
        clear hmm hm sm
        generalize upd Hm p (.dK (plE es)) = Hl at su1 kl bxl hNl hFl hpl hgl ⊢
        refine ⟨fun σ H' => H' = Hl ∧ ∃ j2 : Nat, j2 < k ∧ σ = [some (.ref a), some (.ref N), some (.int (m : Nat)), some (.ref L), o4, some (.ref F), some (.ref p), some (.ref g), some (.int ti), some (.str z), some (.int (j2 : Nat)), some (.int ((atE es j).length : Nat)), o12, o13, o14], ?_, ?_⟩
        · refine ⟨_, rfl, rfl, _, rfl, ?_⟩
          show if decide (V.int (((atE es j).length : Nat) : Int) = V.int 6) = true then _ else _
          refine ite_dec (fun c => ?_) (fun c => ⟨rfl, j, jk, rfl⟩)
          refine ⟨_, rfl, _, _, rfl, rfl, .inl ⟨_, rfl, _, rfl, N, _, rfl, .inl (SqL.of hNl), _, _, rfl, rfl, ?_, ?_⟩⟩
          · rw [List.length_map, lk]
            omega
          · rw [List.length_map, lk]
            have h1 := Int.emod_nonneg ((j : Int) + 1) (show (k : Int) ≠ 0 by omega)
            have h2 := Int.emod_lt_of_pos ((j : Int) + 1) (show (0 : Int) < k by omega)
            refine ⟨rfl, (((j : Int) + 1) % (k : Int)).toNat, by omega, ?_⟩
            rw [Int.toNat_of_nonneg h1]
            rfl
        rintro σ H' ⟨rfl, j, jk, rfl⟩
        -- what is left there
        have sum0 : 0 ≤ (atE es j).sum := sum_nonneg fun x hx => by
          obtain ⟨e, he, e2⟩ := List.mem_filterMap.mp hx
          split at e2
          · cases e2
            exact (I.pr e he).1
          · cases e2
        have lv60 : lens.getD j 0 ≤ 60 := by
          rw [List.getD_eq_getElem?_getD, List.getElem?_eq_getElem (by omega)]
          exact (hb _ (List.getElem_mem (by omega))).2
        have lv0 := I.lf j (by omega)
        have hlv : atI ((leftL lens es).map V.int) (j : Nat) = some (.int (lens.getD j 0 - (atE es j).sum)) := atI_nat (by rw [List.getElem?_map, leftL_get (by omega)]; rfl)
        obtain ⟨lv, elv⟩ : ∃ lv, lens.getD j 0 - (atE es j).sum = lv := ⟨_, rfl⟩
        rw [elv] at hlv
        have lvb : 0 ≤ lv ∧ lv ≤ 60 := by omega
        refine ⟨_, rfl, _, rfl, F, _, _, _, rfl, rfl, SqL.of hFl, hlv, _, rfl, _, rfl, F, _, _, _, rfl, rfl, SqL.of hFl, hlv, _, _, rfl, _, rfl, _, rfl, F, _, _, _, rfl, rfl, SqL.of hFl, hlv, _, _, rfl, rfl, _, _, rfl, rfl, wdiv (by decide) (by decide), (show 3 ≤ sizeLine by decide), fun p9 hp9 => ?_⟩
        have s13 : Same H' (upd H' p9 (.lst [.int lv, .int (if 2 < lv then 2 else lv), .int ((lv + 1) / 2)])) := same_new hp9
        have h13 : upd H' p9 (.lst [.int lv, .int (if 2 < lv then 2 else lv), .int ((lv + 1) / 2)]) p9 = some (.lst (([lv, if 2 < lv then 2 else lv, (lv + 1) / 2] : List Int).map V.int)) := upd_same
        generalize upd H' p9 (.lst [.int lv, .int (if 2 < lv then 2 else lv), .int ((lv + 1) / 2)]) = Hn at s13 h13 ⊢
        obtain ⟨mo, hmo, emo⟩ := pick (is := [lv, if 2 < lv then 2 else lv, (lv + 1) / 2]) t0 t1
        have mob : 0 ≤ mo ∧ mo ≤ 60 := by
          simp only [List.mem_cons, List.not_mem_nil, or_false] at hmo
          rcases hmo with h | h | h
          · omega
          · rw [h]
            split <;> omega
          · omega
        refine ⟨_, rfl, p9, _, _, _, rfl, rfl, SqL.of h13, emo, ?_⟩
        have kn := kl.trans (Keep.of s13)
        have bxn := bxl.same s13
        have hNn := s13 _ _ hNl
        have hFn := s13 _ _ hFl
        have hpn := s13 _ _ hpl
        have hgn := s13 _ _ hgl
        refine ⟨p, .dK (plE es), hpn, True.intro, fun od => ⟨_, rfl, p, od, _, rfl, upd_same, fun M2 hM2 => ?_⟩⟩
        have hN2l : upd Hn p (.frz od (.dK (plE es))) N = some (.lst ((three.take k).map V.str)) := by rw [upd_ne (Ne.symm npN)]; exact hNn
        have hp2l := hpn
        refine lc_vals (w := walk_values) (fun i => (es[i]?).bind fun e => if e.2.2 = j then some (V.str (three.getD j "")) else none) hM2 (by rw [lpl]; omega) (fun H' s => s _ _ upd_same) ?_ ?_
        · rintro i x Ha1 Hb1 Y2 N2 hi1 sa1 hnL1 ⟨rfl, kk, hkk⟩ k1 k2
          rw [lpl] at hi1
          have ge : es[i]? = some es[i] := List.getElem?_eq_getElem hi1
          unfold plE at hkk
          rw [List.getElem?_map, ge] at hkk
          cases hkk
          have bi := I.b es[i] (List.getElem_mem hi1)
          have hN1 := sa1 _ _ hN2l
          refine ⟨rfl, ⟨_, rfl, _, rfl, _, rfl, N, _, _, _, rfl, rfl, SqL.of hN1, three_at (i := j) (by omega) k3, rfl, _, rfl, ?_⟩⟩
          show if decide (V.str (three.getD es[i].2.2 "") = V.str (three.getD j "")) = true then _ else _
          by_cases q : es[i].2.2 = j
          · rw [q, decide_eq_true rfl]
            exact iteT ⟨_, rfl, k1 _ _ (by rw [ge]; show (if es[i].2.2 = j then _ else _) = _; rw [if_pos q]) (Same.refl _)⟩
          · rw [decide_eq_false (fun z => q (three_inj (by omega) (by omega) (by injection z)))]
            exact iteF (k2 _ (by rw [ge]; show (if es[i].2.2 = j then _ else _) = _; rw [if_neg q]) (Same.refl _))
        intro Hm sm hm
        rw [lpl, range_bind] at hm
        have lc : (es.filterMap fun e => if e.2.2 = j then some (V.str (three.getD j "")) else none).length = (atE es j).length := fm_len _ _
        have mp : M2 ≠ p := fun q => by
          rw [q, upd_same] at hM2
          cases hM2
        have su2 : Same Hn (upd Hm p (.dK (plE es))) := Same.unlock hp2l sm
        have hmm : upd Hm p (.dK (plE es)) M2 = some (.lst (es.filterMap fun e => if e.2.2 = j then some (V.str (three.getD j "")) else none)) := by rw [upd_ne mp]; exact hm
        refine ⟨sm _ _ upd_same, M2, _, rfl, .inl (SqL.of hmm), _, _, rfl, rfl, _, rfl, ?_⟩
        rw [lc]
        have ko := kn.trans (Keep.of su2)
        have bxo := bxn.same su2
        have hNo := su2 _ _ hNn
        have hFo := su2 _ _ hFn
        have hpo := su2 _ _ hpn
        have hgo := su2 _ _ hgn
        clear hmm hm sm
        generalize upd Hm p (.dK (plE es)) = Ho at su2 ko bxo hNo hFo hpo hgo ⊢
        show if decide (((atE es j).length : Int) < 6) = true then _ else _
        refine ite_dec (fun c => ?_) (fun c => ?_)
        · have c6 : (atE es j).length < 6 := by
            have := of_decide_eq_true c
            omega
          refine ⟨_, rfl, _, rfl, F, _, _, _, rfl, rfl, SqL.of hFo, hlv, _, rfl, _, rfl, _, _, rfl, rfl, a, _, _, rfl, bxo, by omega, by omega, by omega, fun r2' Hp' v0 v1 bxp bp => ?_⟩
          have hNp := bp _ _ n3 hNo
          have hFp := bp _ _ nF hFo
          have hpp := bp _ _ np hpo
          have hgp := bp _ _ ng hgo
          have zn : z ∉ es.map Prod.fst := fun q => by
            obtain ⟨e, he, e2⟩ := List.mem_map.mp q
            have h1 := I.nm e he
            rw [e2] at h1
            obtain ⟨i, hi⟩ := List.mem_iff_getElem?.mp h1
            rw [List.getElem?_take] at hi
            split at hi
            · next lt =>
              have := nd_ix seven_nd hi hz
              omega
            · cases hi
          have fk := fresh_key zn
          have big : 1000 ≤ sizeLine := by decide
          have szg : (psK (psE es)).length < sizeLine := by
            unfold psK psE
            rw [List.length_map, List.length_map]
            omega
          have szp : (plE es).length < sizeLine := by omega
          refine ⟨_, rfl, rfl, _, rfl, ?_⟩
          show if decide (V.int ti = V.int 0) = true then _ else _
          refine ite_dec (fun ct => ?_) (fun ct => ?_)
          · refine ⟨_, rfl, _, rfl, F, _, _, _, rfl, rfl, SqL.of hFp, hlv, _, _, rfl, rfl, .inr ⟨_, rfl, ?_⟩⟩
            refine ⟨_, _, rfl, rfl, _, _, rfl, ?_⟩
            generalize hqq : (if r2' + (if decide (1 < lv) = true then (1 : Int) else 0) < lv then r2' + (if decide (1 < lv) = true then (1 : Int) else 0) else lv) = qv
            have qb : 0 ≤ qv ∧ qv ≤ lv := by
              have u01 : (0 : Int) ≤ (if decide (1 < lv) = true then (1 : Int) else 0) := by split <;> omega
              rw [← hqq]
              split <;> omega
            refine ⟨_, rfl, _, rfl, g, _, rfl, DPut.k (k := .inr z) hgp szg, ?_⟩
            rw [putK_new _ fk.2]
            have kq : Keep (fun b => b = a ∨ b = F ∨ b = p ∨ b = g) Hp' (upd Hp' g (.dK (psK (psE es) ++ [(.inr z, .int qv)]))) := Keep.put (.inr (.inr (.inr rfl)))
            have bxq := bxp.but (But.write (b := g) (o := .dK (psK (psE es) ++ [(.inr z, .int qv)]))) (Ne.symm ng)
            have hgq : upd Hp' g (.dK (psK (psE es) ++ [(.inr z, .int qv)])) g = some (.dK (psK (psE es) ++ [(.inr z, .int qv)])) := upd_same
            have hNq : upd Hp' g (.dK (psK (psE es) ++ [(.inr z, .int qv)])) N = some (.lst ((three.take k).map V.str)) := by rw [upd_ne (Ne.symm ngN)]; exact hNp
            have hFq : upd Hp' g (.dK (psK (psE es) ++ [(.inr z, .int qv)])) F = some (.lst ((leftL lens es).map V.int)) := by rw [upd_ne (Ne.symm ngF)]; exact hFp
            have hpq : upd Hp' g (.dK (psK (psE es) ++ [(.inr z, .int qv)])) p = some (.dK (plE es)) := by rw [upd_ne (Ne.symm ngp)]; exact hpp
            generalize upd Hp' g (.dK (psK (psE es) ++ [(.inr z, .int qv)])) = Hq at kq bxq hgq hNq hFq hpq ⊢
            have vg : valV (psK (psE es) ++ [((.inr z : Key), V.int qv)]) (.inr z) = some (.int qv) := by
              rw [← putK_new _ fk.2, valV_put, if_pos rfl]
            refine ⟨_, rfl, _, rfl, F, _, _, _, rfl, rfl, SqL.of hFq, hlv, _, rfl, _, rfl, g, _, rfl, .inl ⟨_, .inr z, .inl hgq, rfl, vg.symm⟩, _, _, rfl, rfl, _, rfl, _, rfl, F, _, _, j, rfl, rfl, hFq, Evl.ixN_nat (by rw [List.length_map, leftL_len]; omega), ?_⟩
            have eset : ((leftL lens es).map V.int).set j (.int (lv - qv)) = (leftL lens (es ++ [(z, qv, j)])).map V.int := by
              rw [leftL_snoc (by omega), elv, List.map_set]
            rw [eset]
            have kr : Keep (fun b => b = a ∨ b = F ∨ b = p ∨ b = g) Hq (upd Hq F (.lst ((leftL lens (es ++ [(z, qv, j)])).map V.int))) := Keep.put (.inr (.inl rfl))
            have bxr := bxq.but (But.write (b := F) (o := .lst ((leftL lens (es ++ [(z, qv, j)])).map V.int))) (Ne.symm nF)
            have hFr : upd Hq F (.lst ((leftL lens (es ++ [(z, qv, j)])).map V.int)) F = some (.lst ((leftL lens (es ++ [(z, qv, j)])).map V.int)) := upd_same
            have hNr : upd Hq F (.lst ((leftL lens (es ++ [(z, qv, j)])).map V.int)) N = some (.lst ((three.take k).map V.str)) := by rw [upd_ne (Ne.symm nFN)]; exact hNq
            have hpr : upd Hq F (.lst ((leftL lens (es ++ [(z, qv, j)])).map V.int)) p = some (.dK (plE es)) := by rw [upd_ne npF]; exact hpq
            have hgr : upd Hq F (.lst ((leftL lens (es ++ [(z, qv, j)])).map V.int)) g = some (.dK (psK (psE es) ++ [(.inr z, .int qv)])) := by rw [upd_ne ngF]; exact hgq
            generalize upd Hq F (.lst ((leftL lens (es ++ [(z, qv, j)])).map V.int)) = Hr at kr bxr hFr hNr hpr hgr ⊢
            refine ⟨_, rfl, _, rfl, N, _, _, _, rfl, rfl, SqL.of hNr, three_at jk k3, _, rfl, _, rfl, p, _, rfl, DPut.k (k := .inr z) hpr szp, ?_⟩
            rw [putK_new _ fk.1]
            refine ⟨_, _, _, _, _, _, _, es ++ [(z, qv, j)], rfl, ?_, ((ko.trans (Keep.but bp (.inl rfl))).trans (kq.trans kr)).trans (Keep.put (.inr (.inr (.inl rfl)))), I.next hz (by omega) c6 qb.1 (by rw [elv]; exact qb.2) (by omega), ?_, ?_, ?_⟩
            · exact (bxr.mono (by omega)).but But.write (Ne.symm np)
            · rw [upd_ne (Ne.symm npF)]
              exact hFr
            · rw [upd_same]
              unfold plE
              rw [List.map_append]
              rfl
            · rw [upd_ne ngp, hgr]
              unfold psK psE
              rw [List.map_append, List.map_append]
              rfl
          · refine .inr ⟨_, rfl, ?_⟩
            refine ⟨_, _, rfl, rfl, _, _, rfl, ?_⟩
            generalize hqq : (if r2' + (if false = true then (1 : Int) else 0) < lv then r2' + (if false = true then (1 : Int) else 0) else lv) = qv
            have qb : 0 ≤ qv ∧ qv ≤ lv := by
              have u01 : (0 : Int) ≤ (if false = true then (1 : Int) else 0) := by split <;> omega
              rw [← hqq]
              split <;> omega
            refine ⟨_, rfl, _, rfl, g, _, rfl, DPut.k (k := .inr z) hgp szg, ?_⟩
            rw [putK_new _ fk.2]
            have kq : Keep (fun b => b = a ∨ b = F ∨ b = p ∨ b = g) Hp' (upd Hp' g (.dK (psK (psE es) ++ [(.inr z, .int qv)]))) := Keep.put (.inr (.inr (.inr rfl)))
            have bxq := bxp.but (But.write (b := g) (o := .dK (psK (psE es) ++ [(.inr z, .int qv)]))) (Ne.symm ng)
            have hgq : upd Hp' g (.dK (psK (psE es) ++ [(.inr z, .int qv)])) g = some (.dK (psK (psE es) ++ [(.inr z, .int qv)])) := upd_same
            have hNq : upd Hp' g (.dK (psK (psE es) ++ [(.inr z, .int qv)])) N = some (.lst ((three.take k).map V.str)) := by rw [upd_ne (Ne.symm ngN)]; exact hNp
            have hFq : upd Hp' g (.dK (psK (psE es) ++ [(.inr z, .int qv)])) F = some (.lst ((leftL lens es).map V.int)) := by rw [upd_ne (Ne.symm ngF)]; exact hFp
            have hpq : upd Hp' g (.dK (psK (psE es) ++ [(.inr z, .int qv)])) p = some (.dK (plE es)) := by rw [upd_ne (Ne.symm ngp)]; exact hpp
            generalize upd Hp' g (.dK (psK (psE es) ++ [(.inr z, .int qv)])) = Hq at kq bxq hgq hNq hFq hpq ⊢
            have vg : valV (psK (psE es) ++ [((.inr z : Key), V.int qv)]) (.inr z) = some (.int qv) := by
              rw [← putK_new _ fk.2, valV_put, if_pos rfl]
            refine ⟨_, rfl, _, rfl, F, _, _, _, rfl, rfl, SqL.of hFq, hlv, _, rfl, _, rfl, g, _, rfl, .inl ⟨_, .inr z, .inl hgq, rfl, vg.symm⟩, _, _, rfl, rfl, _, rfl, _, rfl, F, _, _, j, rfl, rfl, hFq, Evl.ixN_nat (by rw [List.length_map, leftL_len]; omega), ?_⟩
            have eset : ((leftL lens es).map V.int).set j (.int (lv - qv)) = (leftL lens (es ++ [(z, qv, j)])).map V.int := by
              rw [leftL_snoc (by omega), elv, List.map_set]
            rw [eset]
            have kr : Keep (fun b => b = a ∨ b = F ∨ b = p ∨ b = g) Hq (upd Hq F (.lst ((leftL lens (es ++ [(z, qv, j)])).map V.int))) := Keep.put (.inr (.inl rfl))
            have bxr := bxq.but (But.write (b := F) (o := .lst ((leftL lens (es ++ [(z, qv, j)])).map V.int))) (Ne.symm nF)
            have hFr : upd Hq F (.lst ((leftL lens (es ++ [(z, qv, j)])).map V.int)) F = some (.lst ((leftL lens (es ++ [(z, qv, j)])).map V.int)) := upd_same
            have hNr : upd Hq F (.lst ((leftL lens (es ++ [(z, qv, j)])).map V.int)) N = some (.lst ((three.take k).map V.str)) := by rw [upd_ne (Ne.symm nFN)]; exact hNq
            have hpr : upd Hq F (.lst ((leftL lens (es ++ [(z, qv, j)])).map V.int)) p = some (.dK (plE es)) := by rw [upd_ne npF]; exact hpq
            have hgr : upd Hq F (.lst ((leftL lens (es ++ [(z, qv, j)])).map V.int)) g = some (.dK (psK (psE es) ++ [(.inr z, .int qv)])) := by rw [upd_ne ngF]; exact hgq
            generalize upd Hq F (.lst ((leftL lens (es ++ [(z, qv, j)])).map V.int)) = Hr at kr bxr hFr hNr hpr hgr ⊢
            refine ⟨_, rfl, _, rfl, N, _, _, _, rfl, rfl, SqL.of hNr, three_at jk k3, _, rfl, _, rfl, p, _, rfl, DPut.k (k := .inr z) hpr szp, ?_⟩
            rw [putK_new _ fk.1]
            refine ⟨_, _, _, _, _, _, _, es ++ [(z, qv, j)], rfl, ?_, ((ko.trans (Keep.but bp (.inl rfl))).trans (kq.trans kr)).trans (Keep.put (.inr (.inr (.inl rfl)))), I.next hz (by omega) c6 qb.1 (by rw [elv]; exact qb.2) (by omega), ?_, ?_, ?_⟩
            · exact (bxr.mono (by omega)).but But.write (Ne.symm np)
            · rw [upd_ne (Ne.symm npF)]
              exact hFr
            · rw [upd_same]
              unfold plE
              rw [List.map_append]
              rfl
            · rw [upd_ne ngp, hgr]
              unfold psK psE
              rw [List.map_append, List.map_append]
              rfl
        · exact ⟨_, _, _, _, _, _, _, es, rfl, bxo.mono (by omega), ko, I.skip, hFo, hpo, hgo⟩
      · rintro σ Hi ⟨o4, o9, o10, o11, o12, o13, o14, es, rfl, bxi, ki, I, hFi, hpi, hgi⟩
        rw [List.length_map, lm] at bxi I
        have hNi := ki _ _ ownN hNh
        have hLi := ki _ _ ownL hLh
        have LF := deal_ok I m7 k1 k3 ll hb
        have Bi : But a H Hi := fun b o nb e => by
          have f1 : ∀ {q : Addr}, q ≠ a → Ha q = none → H q = none := fun nq h => Ba.free nq h
          have nbF : b ≠ F := fun q => by
            have := f1 nF hF
            rw [← q, e] at this
            cases this
          have nbp : b ≠ p := fun q => by
            have := f1 np (sF.free hp)
            rw [← q, e] at this
            cases this
          have nbg : b ≠ g := fun q => by
            have := f1 ng (sF.free (sp.free hg))
            rw [← q, e] at this
            cases this
          exact ki b o (fun h => by rcases h with h | h | h | h <;> contradiction) (Bh b o nb e)
        refine ⟨_, rfl, _, rfl, N, L, _, _, rfl, SqL.of hNi, SqL.of hLi, fun M hM => ?_⟩
        have lz : k = min ((three.take k).map V.str).length (lens.map V.int).length := by
          rw [List.length_map, List.length_map, lk, ll]
          exact (Nat.min_self k).symm
        have lzz : ((three.take k).zip lens).length = k := by
          rw [List.length_zip, lk, ll, Nat.min_self]
        have at_z : ∀ {i : Nat}, i < k → ∃ l, ((three.take k).zip lens)[i]? = some (three.getD i "", l) ∧ lens[i]? = some l := fun {i} hi => by
          have h1 : i < lens.length := by omega
          have h2 : (three.take k)[i]? = some (three.getD i "") := by
            rw [List.getElem?_take, if_pos hi, List.getD_eq_getElem?_getD, List.getElem?_eq_getElem (by show i < 3; omega)]
            rfl
          refine ⟨lens[i], ?_, List.getElem?_eq_getElem h1⟩
          rw [List.getElem?_zip_eq_some]
          exact ⟨h2, List.getElem?_eq_getElem h1⟩
        refine lc_reps (K := K) (w := walk_zip lz) (R := fun _ => none) (fun i => ((three.take k).zip lens)[i]?.map hD) hM (by omega) (fun _ _ h => nomatch h) Plain.none (fun H1 s1 => ⟨SqL.of (s1 _ _ hNi), SqL.of (s1 _ _ hLi)⟩) ?_ ?_
        · rintro i x H1 H2 R1 Y2 N2 hi s1 hnL gr pl sr ⟨t2, v1, v2, rfl, ht2, rfl, g1, g2⟩ k3' k4'
          obtain ⟨l, z1, z2⟩ := at_z hi
          have g3 : v1 = .str (three.getD i "") := by
            have h := (three_at (i := i) hi k3)
            have h' : ((three.take k).map V.str)[i]? = some (.str (three.getD i "")) := by
              rw [List.getElem?_map, List.getElem?_take, if_pos hi, List.getD_eq_getElem?_getD, List.getElem?_eq_getElem (by show i < 3; omega)]
              rfl
            exact Option.some.inj ((show some v1 = ((three.take k).map V.str)[i]? from g1.symm).trans h')
          have g4 : v2 = .int l := Option.some.inj ((show some v2 = (lens.map V.int)[i]? from g2.symm).trans (by rw [List.getElem?_map, z2]; rfl))
          subst g3 g4
          have s2 : Same H1 (upd H1 t2 (.tup [.str (three.getD i ""), .int l])) := same_new ht2
          have szn : (three.getD i "").length ≤ sizeLine := by
            have h3 : i < 3 := by omega
            have : ∀ i, i < 3 → (three.getD i "").length ≤ 2 := by decide +kernel
            have := this i h3
            have : 2 ≤ sizeLine := by decide
            omega
          refine ⟨t2, _, rfl, SqT.of upd_same, rfl, _, _, rfl, _, _, rfl, rfl, ?_⟩
          refine ⟨rfl, ⟨_, rfl, _, rfl, (show 2 ≤ sizeLine by decide), fun T3 hT3 => ?_⟩⟩
          have sr2 := sr.trans s2
          exact k3' _ _ (upd R1 T3 (.tup [.str (three.getD i ""), .int l])) (hD (three.getD i "", l)) (by rw [z1]; rfl) (s2.trans (same_new hT3)) ((Grow.refl _ _).put (s2.free hT3) (sr2.out hT3)) (pl.put (fun _ _ z => nomatch z)) sr2.put
            (.tup (SqT.of upd_same) (.cons (.str _ szn) (.cons (.int _) .nil)))
        · intro H1 R1 zs s1 gr pl sr hRM hMz rz
          rw [show (List.range k).filterMap (fun i => ((three.take k).zip lens)[i]?.map hD) = ((three.take k).zip lens).map hD from by
            have h := range_all hD ((three.take k).zip lens)
            rw [lzz] at h
            exact h] at rz
          have hg1' := s1 _ _ hgi
          have hp1'' := s1 _ _ hpi
          have bx1' := bxi.same s1
          have nMa : M ≠ a := bxi.ne hM
          refine ⟨_, rfl, (show 2 ≤ sizeLine by decide), fun f hf => ?_⟩
          have sf : Same H1 (upd H1 f (.tup [.ref M, .ref g])) := same_new hf
          have hf1 : upd H1 f (.tup [.ref M, .ref g]) f = some (.tup [.ref M, .ref g]) := upd_same
          have nfa : f ≠ a := bx1'.ne hf
          generalize upd H1 f (.tup [.ref M, .ref g]) = H2 at sf hf1 ⊢
          refine ⟨_, rfl, (show 2 ≤ sizeLine by decide), fun t ht => ?_⟩
          have st : Same H2 (upd H2 t (.tup [.ref f, .ref p])) := same_new ht
          have ht1 : upd H2 t (.tup [.ref f, .ref p]) t = some (.tup [.ref f, .ref p]) := upd_same
          generalize upd H2 t (.tup [.ref f, .ref p]) = H3 at st ht1 ⊢
          have s3 := sf.trans st
          have sR3 := sr.trans s3
          obtain ⟨a1, a2, a3⟩ := know pl sR3 (s3 _ _ hMz) (fun _ _ z => nomatch z)
          obtain ⟨b1, b2, b3⟩ := know a2 a3 (s3 _ _ hg1') (fun _ _ z => nomatch z)
          obtain ⟨c1, c2, c3⟩ := know b2 b3 (s3 _ _ hp1'') (fun _ _ z => nomatch z)
          obtain ⟨d1, d2, d3⟩ := know c2 c3 (st _ _ hf1) (fun _ _ z => nomatch z)
          have hM5 : upd (upd (upd (upd R1 M (.lst zs)) g (.dK (psK (psE es)))) p (.dK (plE es))) f (.tup [.ref M, .ref g]) M = some (.lst zs) := d1 _ _ (c1 _ _ (b1 _ _ upd_same))
          have hg5 : upd (upd (upd (upd R1 M (.lst zs)) g (.dK (psK (psE es)))) p (.dK (plE es))) f (.tup [.ref M, .ref g]) g = some (.dK (psK (psE es))) := d1 _ _ (c1 _ _ upd_same)
          have hp5 : upd (upd (upd (upd R1 M (.lst zs)) g (.dK (psK (psE es)))) p (.dK (plE es))) f (.tup [.ref M, .ref g]) p = some (.dK (plE es)) := d1 _ _ upd_same
          have hf5 : upd (upd (upd (upd R1 M (.lst zs)) g (.dK (psK (psE es)))) p (.dK (plE es))) f (.tup [.ref M, .ref g]) f = some (.tup [.ref M, .ref g]) := upd_same
          have rz5 := rz.same (a1.trans (b1.trans (c1.trans d1)))
          refine hq t f p M g zs H3 _ _ _ _ LF ((bx1'.same s3).mono (by omega)) (Bi.trans (But.of (s1.trans s3))) (SqT.of ht1) d2 d3 ?_ hf5 hM5 rz5 hg5 ?_
          · have hR1a : R1 a = none := by
              obtain ⟨x1, x2, x3, e, _⟩ := bxi
              exact gr.old a (by rw [e]; exact fun z => nomatch z)
            rw [upd_ne (Ne.symm nfa), upd_ne (Ne.symm np), upd_ne (Ne.symm ng), upd_ne (Ne.symm nMa)]
            exact hR1a
          · rw [plK_E (by rw [lzz]; exact fun e he => by have := I.b e he; omega) (fun i hi => by
              rw [lzz] at hi
              obtain ⟨l, z1, _⟩ := at_z hi
              unfold nmOf
              rw [List.getD_eq_getElem?_getD, z1]
              rfl)]
            exact hp5
end
end K89

set_option Elab.async false
set_option linter.all false
set_option maxRecDepth 100000
set_option maxHeartbeats 1000000
namespace K89
open PySem PySem.Spec PyProof.Rows L2 RP
/-- a fleet whose guests may be locked -/
structure FlRd (K : PySem.W.Frag) (R : Hp) (a ha pa : Addr) (xs : List V) (hs ps : List (Str × Int)) : Prop where
  t : SqT K R a [.ref ha, .ref pa]
  s : SqL K R ha xs
  n : xs.length = hs.length
  h : ∀ (i : Nat) (e : Str × Int), hs[i]? = some e → ∃ c : Addr, xs[i]? = some (.ref c) ∧ SqT K R c [.str e.1, .int e.2]
  p : Rd R pa (.dK (psK ps))
theorem FlRd.mono {K : PySem.W.Frag} {R H : Hp} {a ha pa : Addr} {xs : List V} {hs ps : List (Str × Int)} (f : FlRd K R a ha pa xs hs ps) (s : Lq R H) : FlRd K H a ha pa xs hs ps :=
  ⟨s.tup f.t, s.seq f.s, f.n, fun i e he => by
    obtain ⟨c, h1, h2⟩ := f.h i e he
    exact ⟨c, h1, s.tup h2⟩, s _ _ f.p⟩
theorem FlAt.rd {K : PySem.W.Frag} {R : Hp} {a ha pa : Addr} {xs : List V} {hs ps : List (Str × Int)} (f : FlAt K R a ha pa xs true hs ps) : FlRd K R a ha pa xs hs ps := ⟨f.t, f.s, f.n, f.h, .inl f.p⟩
theorem psK_at {ps : List (Str × Int)} (nd : (ps.map Prod.fst).Nodup) {k : Nat} (h : k < ps.length) : valV (psK ps) (.inr (nmOf ps k)) = some (.int (prAt ps k)) := by
  refine valV_mem ?_ (List.mem_of_getElem? (i := k) ?_)
  · unfold psK
    rw [List.map_map]
    show (ps.map fun e => (Sum.inr e.1 : Key)).Nodup
    rw [show (ps.map fun e => (Sum.inr e.1 : Key)) = (ps.map Prod.fst).map Sum.inr from by rw [List.map_map]; rfl]
    unfold List.Nodup
    rw [List.pairwise_map]
    exact nd.imp fun q e => q (by injection e)
  · unfold psK nmOf prAt
    rw [List.getElem?_map, List.getD_eq_getElem?_getD, List.getElem?_eq_getElem h]
    rfl
theorem plK_at {hs ps : List (Str × Int)} {row : List Nat} (nd : (ps.map Prod.fst).Nodup) {k : Nat} (h : k < ps.length) : valV (plK hs ps row) (.inr (nmOf ps k)) = some (.str (nmOf hs (row.getD k 0))) := by
  refine valV_mem (plK_nd nd) (List.mem_of_getElem? (i := k) ?_)
  unfold plK
  rw [List.getElem?_map, List.getElem?_range h]
  rfl
theorem nm_inj {l : List (Str × Int)} (nd : (l.map Prod.fst).Nodup) {i k : Nat} (hi : i < l.length) (hk : k < l.length) (e : nmOf l i = nmOf l k) : i = k := by
  have h1 := nmOf_get hi
  rw [e] at h1
  exact nd_ix nd h1 (nmOf_get hk)
theorem plK_len (hs ps : List (Str × Int)) (row : List Nat) : (plK hs ps row).length = ps.length := by
  unfold plK
  rw [List.length_map, List.length_range]
theorem plK_get {hs ps : List (Str × Int)} {row : List Nat} {k : Nat} (h : k < ps.length) : (plK hs ps row)[k]? = some (.inr (nmOf ps k), .str (nmOf hs (row.getD k 0))) := by
  unfold plK
  rw [List.getElem?_map, List.getElem?_range h]
  rfl
section
variable {P : Program} {w : World} {K : PySem.W.Frag} {mg : Str → Option Value} {base : Heap}
/-! ### _law_fits -/
theorem sc__law_fits : FnScope ["fleet", "place", "name", "length", "inside", "guest"] ["fleet", "place"] (defScope s__law_fits) := ⟨rfl, rfl, rfl, by decide +kernel, rfl, by decide +kernel, by decide +kernel⟩
def spLFits (K : PySem.W.Frag) : Sp := fun vs H Q _ => ∃ (a ha pa q : Addr) (xs : List V) (hs ps : List (Str × Int)) (row : List Nat), vs = [.ref a, .ref q] ∧ FlRd K H a ha pa xs hs ps ∧ ps.length ≤ 7 ∧ hs.length ≤ 3 ∧ (hs.map Prod.fst).Nodup ∧ (ps.map Prod.fst).Nodup ∧
  H q = some (.dK (plK hs ps row)) ∧ row.length = ps.length ∧ (∀ i ∈ row, i < hs.length) ∧ ∀ H', Same H H' → Q (.bl (fitsB hs ps row)) H'
theorem ok__law_fits (T : Txt K mg) : Def P w K mg base 1 "_law_fits" ["fleet", "place"] (spLFits K) := by
  obtain ⟨f, fd, F⟩ := T.a__law_fits
  refine Def.mk F sc__law_fits (fun _ _ _ _ _ _ us hl => match us, hl with | [_, _], _ => rfl) (fun vs H Q E h => ?_) (fun cdv A outer s H vs Q E hr h => ?_)
  · obtain ⟨a, ha, pa, q, xs, hs, ps, row, rfl, _⟩ := h
    rfl
  · obtain ⟨a, ha, pa, q, xs, hs, ps, row, rfl, fH, n7, n3, hnd, pnd, hpl, nrow, hin, hq⟩ := h
    refine ⟨_, (pss_cons (ps_for (passes_of rfl) rfl (kpi_list K rfl (pe_ix (kix_tup K rfl) (pv 0) pe_int (fun _ _ => rfl))) (kpg_tup K rfl (n := 2) rfl (pgs_cons (pg_name (i := 2) sc__law_fits.nd rfl (Or.inr rfl)) (pgs_cons (pg_name (i := 3) sc__law_fits.nd rfl (Or.inl rfl)) pgs_nil)))
        (pss_cons (ps_lock (ps_setLc (i := 4) (own := [("guest", 5)]) rfl sc__law_fits.nd rfl rfl (sw_true rfl rfl rfl (by decide +kernel)) (pi_keys (pv 1)) (blkOk_by (own := [("guest", 5)]) (N := ["fleet", "place", "name", "length", "inside", "guest"]) (sc := defScope s__law_fits) (by decide +kernel)) (fun _ _ _ _ _ => (pg_name (i := 5) sc__law_fits.nd rfl (Or.inl rfl))) (fun _ _ _ _ _ => (pts_one (pt_cmpR op_eq (pe_dget (hu_of hr) (pv 1) (pv 5) (fun _ _ => rfl)) (pv 2) (nomark _)))) (fun _ _ _ _ _ => (pe_dget (hu_of hr) (pe_ix (kix_tup K rfl) (pv 0) pe_int (fun _ _ => rfl)) (pv 5) (fun _ _ => rfl)))))
      (pss_one (ps_if (PW.pt (pw_or (pt_cmpR op_gt (pe_callB (kcall_len_seq K rfl) (by rfl) T.b_len (by decide +kernel) (pa_cons (pv 4) pa_nil)) pe_int (nomark _)) (pw_or1 (pt_cmpR op_gt (pe_callB (kcr_sum K rfl rfl) (by rfl) T.b_sum (by decide +kernel) (pa_cons (pv 4) pa_nil)) (pv 3) (nomark _))))) (pss_one (ps_ret pe_bl)) pss_nil))))
      (pss_one (ps_ret pe_bl))), ?_⟩
    refine ⟨_, rfl, a, _, 0, _, rfl, rfl, fH.t, rfl, ha, rfl, ⟨_, fH.s⟩, ?_⟩
    refine for_it (w := walk_list) (fun i σ H' => ∃ (o2 o3 o4 o5 : Option V), σ = [some (.ref a), some (.ref q), o2, o3, o4, o5] ∧ (∀ k, k < i → fit1 hs ps row k = true) ∧ Same H H')
      ⟨_, _, _, _, rfl, (fun k hk => absurd hk (Nat.not_lt_zero _)), Same.refl _⟩ (fun i σ H' _ ⟨_, _, _, _, _, _, s⟩ => (Lq.of s).seq fH.s) ?_ ?_
    · rintro i x σ H2 H3 hi ⟨o2, o3, o4, o5, rfl, hall, s2⟩ ⟨rfl, hx⟩
      rw [fH.n] at hi
      obtain ⟨⟨nm, len⟩, he⟩ : ∃ e, hs[i]? = some e := ⟨_, List.getElem?_eq_getElem hi⟩
      obtain ⟨c, h1, h2⟩ := fH.h i _ he
      rw [h1] at hx
      cases hx
      have en : nm = nmOf hs i := by
        unfold nmOf
        rw [List.getD_eq_getElem?_getD, he]
        rfl
      have e5 : lnAt hs i = len := by
        unfold lnAt
        rw [List.getD_eq_getElem?_getD, he]
        rfl
      subst en
      refine ⟨c, _, rfl, (Lq.of s2).tup h2, rfl, _, _, rfl, _, _, rfl, rfl, ?_⟩
      have hpl2 := s2 _ _ hpl
      refine ⟨q, .dK (plK hs ps row), hpl2, True.intro, fun od => ⟨_, rfl, q, od, rfl, .inl ⟨_, upd_same, fun L hL => ?_⟩⟩⟩
      have Lq' : L ≠ q := fun e => by
        rw [e, upd_same] at hL
        cases hL
      have lqL : Lq H (upd _ q (.frz od (.dK (plK hs ps row)))) := (Lq.of s2).lock hpl2 True.intro
      have nlen := plK_len hs ps row
      refine lc_vals (w := walk_keys) (fun k => if row.getD k 0 = i then some (V.int (prAt ps k)) else none) hL (by omega) (fun H' s => s _ _ upd_same) ?_ ?_
      · rintro k x H4 H5 Y2 N2 hk s4 hnL ⟨rfl, key, v, hkv, rfl⟩ k1 k2
        rw [nlen] at hk
        rw [plK_get hk] at hkv
        cases hkv
        have lq5 := lqL.trans (Lq.of s4)
        have f5 := fH.mono lq5
        have hrk : row.getD k 0 < hs.length := by
          rw [List.getD_eq_getElem?_getD, List.getElem?_eq_getElem (by omega)]
          exact hin _ (List.getElem_mem (by omega))
        refine ⟨rfl, ⟨_, rfl, _, rfl, q, _, rfl, .inl ⟨_, .inr (nmOf ps k), .inr ⟨od, s4 _ _ upd_same⟩, rfl, (plK_at pnd hk).symm⟩, _, rfl, rfl, _, rfl, ?_⟩⟩
        show if decide (V.str (nmOf hs (row.getD k 0)) = V.str (nmOf hs i)) = true then _ else _
        by_cases e : row.getD k 0 = i
        · rw [decide_eq_true (by rw [e])]
          exact iteT ⟨_, rfl, a, _, 1, _, rfl, rfl, f5.t, rfl, _, rfl, pa, _, rfl, .inl ⟨_, .inr (nmOf ps k), f5.p, rfl, (psK_at pnd hk).symm⟩, k1 _ _ (if_pos e) (Same.refl _)⟩
        · rw [decide_eq_false (fun z => e (nm_inj hnd hrk hi (by injection z)))]
          exact iteF (k2 _ (if_neg e) (Same.refl _))
      · intro H4 s4 h4
        have e4 : ((List.range ps.length).filterMap fun k => if row.getD k 0 = i then some (V.int (prAt ps k)) else none) = (inS ps row i).map V.int := by
          unfold inS
          rw [List.map_filterMap]
          congr 1
          funext k
          split <;> rfl
        rw [nlen, e4] at h4
        have nin := inS_len ps row i
        have s5 := (Same.unlock hpl2 s4)
        have h5 : upd H4 q (.dK (plK hs ps row)) L = some (.lst ((inS ps row i).map V.int)) := by rw [upd_ne Lq']; exact h4
        refine ⟨s4 _ _ upd_same, ?_⟩
        generalize upd H4 q (.dK (plK hs ps row)) = H5 at s5 h5 ⊢
        refine ⟨_, rfl, L, _, rfl, .inl (SqL.of h5), _, _, rfl, rfl, _, rfl, ?_⟩
        rw [List.length_map]
        have no : fit1 hs ps row i = false → Q (.bl false) H5 := fun e => by
          have z := hq H5 (s2.trans s5)
          have e2 : fitsB hs ps row = false := by
            cases q : fitsB hs ps row with
            | false => rfl
            | true =>
              have := List.all_eq_true.mp q i (List.mem_range.mpr hi)
              rw [e] at this
              cases this
          rw [e2] at z
          exact z
        show if decide ((6 : Int) < ((inS ps row i).length : Int)) = true then _ else _
        refine ite_dec (fun c1 => ?_) (fun c1 => ?_)
        · refine no ?_
          have q := of_decide_eq_true c1
          unfold fit1
          rw [decide_eq_false (by omega), Bool.false_and]
        · have q6 := of_decide_eq_false c1
          refine ⟨_, rfl, L, _, rfl, SqL.of h5, _, rfl, _, _, rfl, rfl, _, rfl, ?_⟩
          show if decide (len < (inS ps row i).sum) = true then _ else _
          refine ite_dec (fun c2 => ?_) (fun c2 => ?_)
          · refine no ?_
            have q := of_decide_eq_true c2
            unfold fit1
            rw [e5, decide_eq_false (by omega : ¬ (inS ps row i).sum ≤ len), Bool.and_false]
          · have q := of_decide_eq_false c2
            refine ⟨_, _, _, _, rfl, fun k hk => ?_, s2.trans s5⟩
            by_cases ek : k = i
            · rw [ek]
              unfold fit1
              rw [e5, decide_eq_true (by omega), decide_eq_true (by omega : (inS ps row i).sum ≤ len)]
              rfl
            · exact hall k (by omega)
    · rintro σ H2 ⟨o2, o3, o4, o5, rfl, hall, s2⟩
      rw [fH.n] at hall
      have z := hq H2 s2
      rw [show fitsB hs ps row = true from List.all_eq_true.mpr fun k hk => hall k (List.mem_range.mp hk)] at z
      exact z
/-! ### _law_moves -/
theorem sc__law_moves : FnScope ["fleet", "place", "found", "guest", "name", "length", "after"] ["fleet", "place"] (defScope s__law_moves) := ⟨rfl, rfl, rfl, by decide +kernel, rfl, by decide +kernel, by decide +kernel⟩
def MnAt (hs ps : List (Str × Int)) (H : Hp) (m : Nat × Nat × List Nat) (z : V) : Prop := ∃ t : Addr, z = .ref t ∧ H t = some (.tup [.str (nmOf ps m.1), .str (nmOf hs m.2.1)])
theorem MnAt.same {hs ps : List (Str × Int)} {H H' : Hp} {m : Nat × Nat × List Nat} {z : V} (s : Same H H') (h : MnAt hs ps H m z) : MnAt hs ps H' m z := by
  obtain ⟨t, e, h1⟩ := h
  exact ⟨t, e, s _ _ h1⟩
theorem MnAt.write {hs ps : List (Str × Int)} {H : Hp} {L : Addr} {zs ys : List V} {m : Nat × Nat × List Nat} {z : V} (hL : H L = some (.lst zs)) (h : MnAt hs ps H m z) : MnAt hs ps (upd H L (.lst ys)) m z := by
  obtain ⟨t, e, h1⟩ := h
  exact ⟨t, e, by rw [upd_ne (fun e => by rw [e, hL] at h1; cases h1)]; exact h1⟩
theorem plK_set {hs ps : List (Str × Int)} {row : List Nat} (nd : (ps.map Prod.fst).Nodup) {g h : Nat} (hg : g < ps.length) (nr : row.length = ps.length) : putK (plK hs ps row) (.inr (nmOf ps g)) (.str (nmOf hs h)) = plK hs ps (row.set g h) := by
  unfold putK
  have ha : ((plK hs ps row).any fun kv => decide (kv.1 = .inr (nmOf ps g))) = true := List.any_eq_true.mpr ⟨_, List.mem_of_getElem? (plK_get (hs := hs) (row := row) hg), decide_eq_true rfl⟩
  rw [if_pos ha]
  refine List.ext_getElem? fun i => ?_
  rw [List.getElem?_map]
  by_cases hi : i < ps.length
  · rw [plK_get hi, plK_get hi]
    show some (if (Sum.inr (nmOf ps i) : Key) = .inr (nmOf ps g) then _ else _) = _
    by_cases e : i = g
    · subst e
      have e1 : (row.set i h).getD i 0 = h := by
        rw [List.getD_eq_getElem?_getD, List.getElem?_set, if_pos rfl, if_pos (by omega)]
        rfl
      rw [if_pos rfl, e1]
    · have e1 : (row.set g h).getD i 0 = row.getD i 0 := by
        rw [List.getD_eq_getElem?_getD, List.getElem?_set, if_neg (fun z => e z.symm), ← List.getD_eq_getElem?_getD]
      rw [if_neg (fun z => e (nm_inj nd hi hg (by injection z))), e1]
  · rw [List.getElem?_eq_none (by rw [plK_len]; omega), List.getElem?_eq_none (by rw [plK_len]; omega)]
    rfl
def spLMoves (K : PySem.W.Frag) : Sp := fun vs H Q _ => ∃ (a ha pa q : Addr) (xs : List V) (hs ps : List (Str × Int)) (row : List Nat), vs = [.ref a, .ref q] ∧ FlAt K H a ha pa xs true hs ps ∧ q ≠ pa ∧ ps.length ≤ 7 ∧ hs.length ≤ 3 ∧ (hs.map Prod.fst).Nodup ∧ (ps.map Prod.fst).Nodup ∧
  H q = some (.dK (plK hs ps row)) ∧ row.length = ps.length ∧ (∀ i ∈ row, i < hs.length) ∧ ∀ L H' zs, Same H H' → H L = none → H' L = some (.lst zs) → Paired (MnAt hs ps H') (movesR hs ps row) zs → Q (.ref L) H'
theorem ok__law_moves (T : Txt K mg) (G__law_fits : Def P w K mg base 1 "_law_fits" ["fleet", "place"] (spLFits K)) : Def P w K mg base 2 "_law_moves" ["fleet", "place"] (spLMoves K) := by
  obtain ⟨f, fd, F⟩ := T.a__law_moves
  refine Def.mk F sc__law_moves (fun _ _ _ _ _ _ us hl => match us, hl with | [_, _], _ => rfl) (fun vs H Q E h => ?_) (fun cdv A outer s H vs Q E hr h => ?_)
  · obtain ⟨a, ha, pa, q, xs, hs, ps, row, rfl, _⟩ := h
    rfl
  · obtain ⟨a, ha, pa, q, xs, hs, ps, row, rfl, fH, qpa, n7, n3, hnd, pnd, hpl, nrow, hin, hq⟩ := h
    refine ⟨_, (pss_cons (ps_set (i := 2) sc__law_moves.nd rfl (Or.inl rfl) (pe_lst pa_nil))
      (pss_cons (ps_lock (ps_for (passes_of rfl) rfl (pi_keys (pe_ix (kix_tup K rfl) (pv 0) pe_int (fun _ _ => rfl))) (pg_name (i := 3) sc__law_moves.nd rfl (Or.inl rfl))
        (pss_one (ps_for (passes_of rfl) rfl (kpi_list K rfl (pe_ix (kix_tup K rfl) (pv 0) pe_int (fun _ _ => rfl))) (kpg_tup K rfl (n := 2) rfl (pgs_cons (pg_name (i := 4) sc__law_moves.nd rfl (Or.inl rfl)) (pgs_cons (pg_name (i := 5) sc__law_moves.nd rfl (Or.inl rfl)) pgs_nil)))
        (pss_cons (ps_set (i := 6) sc__law_moves.nd rfl (Or.inl rfl) (pe_callTy call_dictD (by rfl) T.b_dict (by decide +kernel) (pa_cons (pv 1) pa_nil)))
      (pss_cons (ps_dput (hu_of hr) (pv 6) (pv 3) (pv 4) rfl)
      (pss_one (ps_if (PW.pt (pw_and (pt_cmpR op_ne (pv 4) (pe_dget (hu_of hr) (pv 1) (pv 3) (fun _ _ => rfl)) (nomark _)) (pw_and1 (pt_val (pe_d G__law_fits (hr.mono (by decide)) (by rfl) (pa_cons (pv 0) (pa_cons (pv 6) pa_nil))))))) (pss_one (ps_expr (kpe_bm K rfl (pe_bm PySem.F.plainAttrs_list PySem.F.slot_list_append PySem.F.type_list_append mt_append (pv 2) (pa_cons (pe_tup (pa_cons (pv 3) (pa_cons (pv 4) pa_nil))) pa_nil))))) pss_nil))))))))
      (pss_one (ps_ret (pv 2))))), ?_⟩
    refine ⟨Nat.zero_le _, fun L hL => ?_⟩
    have sL : Same H (upd H L (.lst [])) := same_new hL
    have hL1 : upd H L (.lst []) L = some (.lst []) := upd_same
    generalize upd H L (.lst []) = H1 at sL hL1 ⊢
    have f1 := fH.same sL
    refine ⟨pa, .dK (psK ps), f1.p, True.intro, fun od => ⟨_, rfl, a, _, 1, _, rfl, rfl, ((Lq.of (Same.refl H1)).lock f1.p True.intro).tup f1.t, rfl, pa, od, rfl, .inl ⟨psK ps, upd_same, ?_⟩⟩⟩
    have nps : (psK ps).length = ps.length := by
      unfold psK
      rw [List.length_map]
    have lq1 : Lq H (upd H1 pa (.frz od (.dK (psK ps)))) := (Lq.of sL).lock f1.p True.intro
    have Lpa : L ≠ pa := fun e => by
      rw [e, f1.p] at hL1
      cases hL1
    have Lq2 : L ≠ q := fun e => by
      rw [e, hpl] at hL
      cases hL
    have hL2 : upd H1 pa (.frz od (.dK (psK ps))) L = some (.lst []) := by rw [upd_ne Lpa]; exact hL1
    have hq2 : upd H1 pa (.frz od (.dK (psK ps))) q = some (.dK (plK hs ps row)) := by rw [upd_ne qpa]; exact sL _ _ hpl
    -- what stays
    have bse : ∀ {H' : Hp}, But L (upd H1 pa (.frz od (.dK (psK ps)))) H' → FlRd K H' a ha pa xs hs ps ∧ H' q = some (.dK (plK hs ps row)) ∧ H' pa = some (.frz od (.dK (psK ps))) := fun {H'} b => by
      have lq : Lq H H' := fun x u r => by
        have xL : x ≠ L := fun e => by
          rw [e, Rd, hL] at r
          rcases r with r | ⟨_, r⟩ <;> cases r
        rcases lq1 x u r with r | ⟨o, r⟩
        · exact .inl (b x _ xL r)
        · exact .inr ⟨o, b x _ xL r⟩
      exact ⟨fH.rd.mono lq, b _ _ (Ne.symm Lq2) hq2, b _ _ (Ne.symm Lpa) upd_same⟩
    refine for_it (w := walk_keys) (fun g σ H' => ∃ (o3 o4 o5 o6 : Option V) (zs : List V), σ = [some (.ref a), some (.ref q), some (.ref L), o3, o4, o5, o6] ∧ But L (upd H1 pa (.frz od (.dK (psK ps)))) H' ∧ H' L = some (.lst zs) ∧ Paired (MnAt hs ps H') ((List.range g).flatMap (mvG hs ps row hs.length)) zs)
      ⟨_, _, _, _, [], rfl, But.refl _ _, hL2, .nil⟩ (fun _ _ _ _ ⟨_, _, _, _, _, _, b, _⟩ => (bse b).2.2) ?_ ?_
    · rintro g x σ H3 H4 hg ⟨o3, o4, o5, o6, zs, rfl, b3, hL3, pz⟩ ⟨rfl, key, v, hkv, rfl⟩
      rw [nps] at hg
      have hkv2 : (psK ps)[g]? = some (.inr (nmOf ps g), .int (prAt ps g)) := by
        unfold psK nmOf prAt
        rw [List.getElem?_map, List.getD_eq_getElem?_getD, List.getElem?_eq_getElem hg]
        rfl
      rw [hkv2] at hkv
      cases hkv
      obtain ⟨f3, hq3, hpa3⟩ := bse b3
      refine ⟨_, rfl, a, _, 0, _, rfl, rfl, f3.t, rfl, ha, rfl, ⟨_, f3.s⟩, ?_⟩
      refine for_it (w := walk_list) (fun h σ H' => ∃ (o4 o5 o6 : Option V) (zs : List V), σ = [some (.ref a), some (.ref q), some (.ref L), some (.str (nmOf ps g)), o4, o5, o6] ∧ But L (upd H1 pa (.frz od (.dK (psK ps)))) H' ∧ H' L = some (.lst zs) ∧ Paired (MnAt hs ps H') ((List.range g).flatMap (mvG hs ps row hs.length) ++ mvG hs ps row h g) zs)
        ⟨_, _, _, zs, rfl, b3, hL3, by rw [show mvG hs ps row 0 g = [] from rfl, List.append_nil]; exact pz⟩ (fun _ _ _ _ ⟨_, _, _, _, _, b, _⟩ => (bse b).1.s) ?_ ?_
      · rintro h x σ H5 H6 hh ⟨o4, o5, o6, zs, rfl, b5, hL5, pz5⟩ ⟨rfl, hx⟩
        rw [f3.n] at hh
        obtain ⟨f5, hq5, hpa5⟩ := bse b5
        obtain ⟨⟨nm, len⟩, he⟩ : ∃ e, hs[h]? = some e := ⟨_, List.getElem?_eq_getElem hh⟩
        obtain ⟨c, h1, h2⟩ := f5.h h _ he
        rw [h1] at hx
        cases hx
        have en : nm = nmOf hs h := by
          unfold nmOf
          rw [List.getD_eq_getElem?_getD, he]
          rfl
        subst en
        refine ⟨c, _, rfl, h2, rfl, _, _, rfl, _, _, rfl, rfl, ?_⟩
        -- the placement after
        refine ⟨_, rfl, q, _, rfl, .inl hq5, fun d hd => ?_⟩
        have dL : d ≠ L := ne_at hL5 hd
        have s6 : Same H6 (upd H6 d (.dK (plK hs ps row))) := same_new hd
        have hd6 : upd H6 d (.dK (plK hs ps row)) d = some (.dK (plK hs ps row)) := upd_same
        have szp : (plK hs ps row).length < sizeLine := by
          rw [plK_len]
          have : 1000 ≤ sizeLine := by decide
          omega
        refine ⟨_, rfl, _, rfl, _, rfl, d, _, rfl, DPut.k (k := .inr (nmOf ps g)) hd6 szp, ?_⟩
        rw [plK_set pnd hg nrow]
        have s7 : Same H6 (upd (upd H6 d (.dK (plK hs ps row))) d (.dK (plK hs ps (row.set g h)))) := s6.skip hd
        have hd7 : upd (upd H6 d (.dK (plK hs ps row))) d (.dK (plK hs ps (row.set g h))) d = some (.dK (plK hs ps (row.set g h))) := upd_same
        generalize upd (upd H6 d (.dK (plK hs ps row))) d (.dK (plK hs ps (row.set g h))) = H7 at s7 hd7 ⊢
        have b7 := b5.trans (But.of s7)
        obtain ⟨f7, hq7, hpa7⟩ := bse b7
        have hL7 := s7 _ _ hL5
        have pz7 := paired_mono (fun _ _ => MnAt.same s7) pz5
        have hrg : row.getD g 0 < hs.length := by
          rw [List.getD_eq_getElem?_getD, List.getElem?_eq_getElem (by omega)]
          exact hin _ (List.getElem_mem (by omega))
        have hinS : ∀ i ∈ row.set g h, i < hs.length := fun i hi => by
          rcases List.mem_or_eq_of_mem_set hi with q | q
          · exact hin i q
          · rw [q]
            exact hh
        have lz : zs.length ≤ 24 := by
          have h1 := pz5.length
          rw [List.length_append] at h1
          have h2 := flat_len (mvG hs ps row hs.length) hs.length (mvG_len hs ps row hs.length) g
          have h3 : hs.length * g ≤ 3 * 7 := Nat.mul_le_mul n3 (by omega)
          have h4 := mvG_len hs ps row h g
          omega
        have nx : mvAt hs ps row g h = none → ∀ H', Same H7 H' → ∃ (o4 o5 o6 : Option V) (zs : List V), [some (V.ref a), some (.ref q), some (.ref L), some (.str (nmOf ps g)), some (.str (nmOf hs h)), some (.int len), some (.ref d)] = [some (.ref a), some (.ref q), some (.ref L), some (.str (nmOf ps g)), o4, o5, o6] ∧ But L (upd H1 pa (.frz od (.dK (psK ps)))) H' ∧ H' L = some (.lst zs) ∧ Paired (MnAt hs ps H') ((List.range g).flatMap (mvG hs ps row hs.length) ++ mvG hs ps row (h + 1) g) zs := fun e H' s => by
          refine ⟨_, _, _, zs, rfl, b7.trans (But.of s), s _ _ hL7, ?_⟩
          unfold mvG
          rw [range_succ_filterMap, e, List.append_nil]
          exact paired_mono (fun _ _ => MnAt.same s) pz7
        refine ⟨_, rfl, _, rfl, _, rfl, q, _, rfl, .inl ⟨_, .inr (nmOf ps g), .inl hq7, rfl, (plK_at pnd hg).symm⟩, rfl, _, rfl, ?_⟩
        show if (!decide (V.str (nmOf hs h) = V.str (nmOf hs (row.getD g 0)))) = true then _ else _
        by_cases e1 : h = row.getD g 0
        · rw [decide_eq_true (by rw [← e1])]
          exact iteF (nx (if_neg (fun z => z.1 e1)) H7 (Same.refl _))
        · rw [decide_eq_false (fun z => e1 (nm_inj hnd hh hrg (by injection z)))]
          refine iteT ⟨_, rfl, _, rfl, a, ha, pa, d, xs, hs, ps, row.set g h, rfl, f7, n7, n3, hnd, pnd, hd7, by rw [List.length_set]; exact nrow, hinS, fun H8 s8 => ⟨_, rfl, ?_⟩⟩
          show if fitsB hs ps (row.set g h) = true then _ else _
          cases c : fitsB hs ps (row.set g h) with
          | false => exact iteF (nx (if_neg (fun z => by rw [c] at z; cases z.2)) H8 s8)
          | true =>
            have hL8 := s8 _ _ hL7
            refine iteT ⟨_, rfl, .inl ⟨rfl, _, SqL.of hL8⟩, _, rfl, _, rfl, (show 2 ≤ sizeLine by decide), fun t ht => ?_⟩
            have s9 : Same H8 (upd H8 t (.tup [.str (nmOf ps g), .str (nmOf hs h)])) := same_new ht
            have ht9 : upd H8 t (.tup [.str (nmOf ps g), .str (nmOf hs h)]) t = some (.tup [.str (nmOf ps g), .str (nmOf hs h)]) := upd_same
            generalize upd H8 t (.tup [.str (nmOf ps g), .str (nmOf hs h)]) = H9 at s9 ht9 ⊢
            have hL9 := s9 _ _ hL8
            refine ⟨L, _, _, rfl, rfl, hL9, (by have : 1000 ≤ sizeLine := by decide
                                                omega), ?_⟩
            have s79 := s8.trans s9
            refine ⟨_, _, _, zs ++ [.ref t], rfl, (b7.trans (But.of s79)).trans But.write, upd_same, ?_⟩
            have e : mvAt hs ps row g h = some (g, h, row.set g h) := if_pos ⟨e1, c⟩
            unfold mvG
            rw [range_succ_filterMap, e, ← List.append_assoc]
            refine (paired_mono (fun _ _ h => MnAt.write hL9 (MnAt.same s79 h)) pz7).snoc ?_
            exact ⟨t, rfl, by rw [upd_ne (fun e => by rw [e, hL9] at ht9; cases ht9)]; exact ht9⟩
      · rintro σ H5 ⟨o4, o5, o6, zs, rfl, b5, hL5, pz5⟩
        refine ⟨_, _, _, _, zs, rfl, b5, hL5, ?_⟩
        rw [flat_next]
        rw [f3.n] at pz5
        exact pz5
    · rintro σ H3 ⟨o3, o4, o5, o6, zs, rfl, b3, hL3, pz⟩
      rw [nps] at pz
      obtain ⟨f3, hq3, hpa3⟩ := bse b3
      have sU : Same H (upd H3 pa (.dK (psK ps))) := fun x o e => by
        by_cases c : x = pa
        · rw [c, fH.p] at e
          rw [c, upd_same]
          exact e
        · rw [upd_ne c]
          refine b3 x o (fun q => by rw [q, hL] at e; cases e) ?_
          rw [upd_ne c]
          exact sL _ _ e
      refine ⟨hpa3, _, rfl, hq L _ zs sU hL (by rw [upd_ne Lpa]; exact hL3) (paired_mono (fun m z h => ?_) pz)⟩
      obtain ⟨t, e, h1⟩ := h
      refine ⟨t, e, ?_⟩
      rw [upd_ne (fun e => by rw [e, hpa3] at h1; cases h1)]
      exact h1
end
end K89

set_option Elab.async false
set_option linter.all false
set_option maxRecDepth 100000
set_option maxHeartbeats 1000000
namespace K89
open PySem PySem.Spec PyProof.Rows L2 RP
theorem tf1 {x y : D} (h : x.houses = false) : (D.tup [x, y]).fleet = false := by
  show (x.houses && y.proms) = false
  rw [h]
  rfl
theorem tf2 {x y : D} (h : y.proms = false) : (D.tup [x, y]).fleet = false := by
  show (x.houses && y.proms) = false
  rw [h, Bool.and_false]
theorem dup_houses {hs : List (Str × Int)} (oh : HsOk hs) : (D.lst (hs.map hD ++ hs.map hD)).houses = false := by
  rw [houses_some (l := hs.map hD ++ hs.map hD) rfl]
  have : ¬ ((hs.map hD ++ hs.map hD).map hnm).Nodup := fun nd => by
    rw [List.map_append, map_hnm] at nd
    obtain ⟨e, he⟩ : ∃ e, e ∈ hs.map Prod.fst := by
      have h1 := oh.n1
      exact ⟨_, List.getElem_mem (l := hs.map Prod.fst) (n := 0) (by rw [List.length_map]; omega)⟩
    exact (List.nodup_append.mp nd).2.2 e he e he rfl
  rw [decide_eq_false this, Bool.and_false, Bool.and_false]
theorem all_nil {n : Nat} : ∀ e ∈ ([] : List D), Fit n e := fun e he => by cases he
theorem all_cons {n : Nat} {d : D} {r : List D} (h : Fit n d) (t : ∀ e ∈ r, Fit n e) : ∀ e ∈ d :: r, Fit n e := fun e he => by
  rcases List.mem_cons.mp he with rfl | he
  · exact h
  · exact t e he
theorem nm_th {z : Str} (h : okName z = true) : z.length ≤ 1000 := by
  unfold okName at h
  rw [Bool.and_eq_true, Bool.and_eq_true] at h
  have h2 := of_decide_eq_true h.2.1
  omega
theorem fit_hd {n : Nat} {e : Str × Int} (h : okName e.1 = true) : Fit (n + 2) (hD e) := ⟨Nat.le_of_ble_eq_true rfl, all_cons (nm_th h) (all_cons True.intro all_nil)⟩
theorem fit_hs {n : Nat} {hs : List (Str × Int)} (oh : HsOk hs) : Fit (n + 3) (.lst (hs.map hD)) := by
  refine ⟨by rw [List.length_map]; have := oh.n3; omega, fun e he => ?_⟩
  obtain ⟨x, hx, rfl⟩ := List.mem_map.mp he
  exact fit_hd (oh.nm x hx)
theorem fit_hh {n : Nat} {hs : List (Str × Int)} (oh : HsOk hs) : Fit (n + 3) (.lst (hs.map hD ++ hs.map hD)) := by
  refine ⟨by rw [List.length_append, List.length_map]; have := oh.n3; omega, fun e he => ?_⟩
  rcases List.mem_append.mp he with h | h <;>
  · obtain ⟨x, hx, rfl⟩ := List.mem_map.mp h
    exact fit_hd (oh.nm x hx)
theorem fit_ps {n : Nat} {ps : List (Str × Int)} (op : PsOk ps) : Fit (n + 4) (.dct (ps.map pD)) := by
  refine ⟨by rw [List.length_map, List.length_map]; have := op.n7; omega, fun e he => ?_⟩
  obtain ⟨x, hx, rfl⟩ := List.mem_map.mp he
  obtain ⟨y, hy, rfl⟩ := List.mem_map.mp hx
  exact ⟨Nat.le_of_ble_eq_true rfl, all_cons (nm_th (op.nm y hy)) (all_cons True.intro all_nil)⟩
def eightD : List (Str × D) := [("a", .int 0), ("b", .int 0), ("c", .int 0), ("d", .int 0), ("e", .int 0), ("f", .int 0), ("g", .int 0), ("h", .int 0)]
def fourD : List D := [.tup [.str "ha", .int 9], .tup [.str "hb", .int 9], .tup [.str "hc", .int 9], .tup [.str "hd", .int 9]]
theorem fit_eight {n : Nat} : Fit (n + 4) (.dct eightD) := by
  refine ⟨Nat.le_of_ble_eq_true rfl, ?_⟩
  show ∀ e ∈ [D.tup [.str "a", .int 0], .tup [.str "b", .int 0], .tup [.str "c", .int 0], .tup [.str "d", .int 0], .tup [.str "e", .int 0], .tup [.str "f", .int 0], .tup [.str "g", .int 0], .tup [.str "h", .int 0]], Fit (n + 2) e
  exact (all_cons ⟨Nat.le_of_ble_eq_true rfl, all_cons (show Str.length "a" ≤ 1000 by decide +kernel) (all_cons True.intro all_nil)⟩ (all_cons ⟨Nat.le_of_ble_eq_true rfl, all_cons (show Str.length "b" ≤ 1000 by decide +kernel) (all_cons True.intro all_nil)⟩ (all_cons ⟨Nat.le_of_ble_eq_true rfl, all_cons (show Str.length "c" ≤ 1000 by decide +kernel) (all_cons True.intro all_nil)⟩ (all_cons ⟨Nat.le_of_ble_eq_true rfl, all_cons (show Str.length "d" ≤ 1000 by decide +kernel) (all_cons True.intro all_nil)⟩ (all_cons ⟨Nat.le_of_ble_eq_true rfl, all_cons (show Str.length "e" ≤ 1000 by decide +kernel) (all_cons True.intro all_nil)⟩ (all_cons ⟨Nat.le_of_ble_eq_true rfl, all_cons (show Str.length "f" ≤ 1000 by decide +kernel) (all_cons True.intro all_nil)⟩ (all_cons ⟨Nat.le_of_ble_eq_true rfl, all_cons (show Str.length "g" ≤ 1000 by decide +kernel) (all_cons True.intro all_nil)⟩ (all_cons ⟨Nat.le_of_ble_eq_true rfl, all_cons (show Str.length "h" ≤ 1000 by decide +kernel) (all_cons True.intro all_nil)⟩ all_nil))))))))
theorem fit_four {n : Nat} : Fit (n + 4) (.lst fourD) := ⟨Nat.le_of_ble_eq_true rfl, (all_cons ⟨Nat.le_of_ble_eq_true rfl, (all_cons (show Str.length "ha" ≤ 1000 by decide +kernel) (all_cons True.intro all_nil))⟩ (all_cons ⟨Nat.le_of_ble_eq_true rfl, (all_cons (show Str.length "hb" ≤ 1000 by decide +kernel) (all_cons True.intro all_nil))⟩ (all_cons ⟨Nat.le_of_ble_eq_true rfl, (all_cons (show Str.length "hc" ≤ 1000 by decide +kernel) (all_cons True.intro all_nil))⟩ (all_cons ⟨Nat.le_of_ble_eq_true rfl, (all_cons (show Str.length "hd" ≤ 1000 by decide +kernel) (all_cons True.intro all_nil))⟩ all_nil))))⟩
def odd1 (hs ps : List (Str × Int)) : List D := [.non, .int 3, .lst [], .dct [], .lst [.lst (hs.map hD), .dct (ps.map pD)], .tup [.lst (hs.map hD)], .tup [.lst (hs.map hD), .dct (ps.map pD), .int 1], .tup [.lst [], .dct (ps.map pD)], .tup [.lst (hs.map hD ++ hs.map hD), .dct (ps.map pD)]]
def odd2 (hs ps : List (Str × Int)) : List D := [.tup [.lst [.tup [.str "ha", .int 3]], .dct (ps.map pD)], .tup [.lst [.tup [.str "ha", .int 61]], .dct (ps.map pD)], .tup [.lst [.tup [.str "Ha", .int 9]], .dct (ps.map pD)], .tup [.lst [.lst [.str "ha", .int 9]], .dct (ps.map pD)]]
def odd3 (hs ps : List (Str × Int)) : List D := [.tup [.lst (hs.map hD), .dct eightD], .tup [.lst (hs.map hD), .dct [("a", .int 61)]], .tup [.lst (hs.map hD), .dct [("a", .int (-1))]], .tup [.lst (hs.map hD), .dct [("A", .int 1)]], .tup [.lst (hs.map hD), .dct [("a", .bl true)]]]
def odd4 (hs ps : List (Str × Int)) : List D := [.tup [.lst (hs.map hD), .lst [.tup [.str "a", .int 1]]], .tup [.lst fourD, .dct (ps.map pD)], .tup [.lst [.tup [.str "ha", .int 9], .tup [.str "ha", .int 8]], .dct (ps.map pD)]]
theorem odd_bad {hs ps : List (Str × Int)} (oh : HsOk hs) (op : PsOk ps) : ∀ d ∈ odd1 hs ps ++ odd2 hs ps ++ odd3 hs ps ++ odd4 hs ps, d.fleet = false ∧ Fit 8 d := by
  intro d hd
  simp only [odd1, odd2, odd3, odd4, List.cons_append, List.nil_append, List.mem_cons, List.not_mem_nil, or_false] at hd
  rcases hd with rfl | rfl | rfl | rfl | rfl | rfl | rfl | rfl | rfl | rfl | rfl | rfl | rfl | rfl | rfl | rfl | rfl | rfl | rfl | rfl | rfl
  · exact ⟨rfl, True.intro⟩
  · exact ⟨rfl, True.intro⟩
  · exact ⟨rfl, ⟨Nat.le_of_ble_eq_true rfl, all_nil⟩⟩
  · exact ⟨rfl, ⟨Nat.zero_le _, all_nil⟩⟩
  · exact ⟨rfl, ⟨Nat.le_of_ble_eq_true rfl, (all_cons (fit_hs oh) (all_cons (fit_ps op) all_nil))⟩⟩
  · exact ⟨rfl, ⟨Nat.le_of_ble_eq_true rfl, (all_cons (fit_hs oh) all_nil)⟩⟩
  · exact ⟨rfl, ⟨Nat.le_of_ble_eq_true rfl, (all_cons (fit_hs oh) (all_cons (fit_ps op) (all_cons True.intro all_nil)))⟩⟩
  · exact ⟨(tf1 (by decide +kernel)), ⟨Nat.le_of_ble_eq_true rfl, (all_cons ⟨Nat.le_of_ble_eq_true rfl, all_nil⟩ (all_cons (fit_ps op) all_nil))⟩⟩
  · exact ⟨(tf1 (dup_houses oh)), ⟨Nat.le_of_ble_eq_true rfl, (all_cons (fit_hh oh) (all_cons (fit_ps op) all_nil))⟩⟩
  · exact ⟨(tf1 (by decide +kernel)), ⟨Nat.le_of_ble_eq_true rfl, (all_cons ⟨Nat.le_of_ble_eq_true rfl, (all_cons ⟨Nat.le_of_ble_eq_true rfl, (all_cons (show Str.length "ha" ≤ 1000 by decide +kernel) (all_cons True.intro all_nil))⟩ all_nil)⟩ (all_cons (fit_ps op) all_nil))⟩⟩
  · exact ⟨(tf1 (by decide +kernel)), ⟨Nat.le_of_ble_eq_true rfl, (all_cons ⟨Nat.le_of_ble_eq_true rfl, (all_cons ⟨Nat.le_of_ble_eq_true rfl, (all_cons (show Str.length "ha" ≤ 1000 by decide +kernel) (all_cons True.intro all_nil))⟩ all_nil)⟩ (all_cons (fit_ps op) all_nil))⟩⟩
  · exact ⟨(tf1 (by decide +kernel)), ⟨Nat.le_of_ble_eq_true rfl, (all_cons ⟨Nat.le_of_ble_eq_true rfl, (all_cons ⟨Nat.le_of_ble_eq_true rfl, (all_cons (show Str.length "Ha" ≤ 1000 by decide +kernel) (all_cons True.intro all_nil))⟩ all_nil)⟩ (all_cons (fit_ps op) all_nil))⟩⟩
  · exact ⟨(tf1 (by decide +kernel)), ⟨Nat.le_of_ble_eq_true rfl, (all_cons ⟨Nat.le_of_ble_eq_true rfl, (all_cons ⟨Nat.le_of_ble_eq_true rfl, (all_cons (show Str.length "ha" ≤ 1000 by decide +kernel) (all_cons True.intro all_nil))⟩ all_nil)⟩ (all_cons (fit_ps op) all_nil))⟩⟩
  · exact ⟨(tf2 (by decide +kernel)), ⟨Nat.le_of_ble_eq_true rfl, (all_cons (fit_hs oh) (all_cons fit_eight all_nil))⟩⟩
  · exact ⟨(tf2 (by decide +kernel)), ⟨Nat.le_of_ble_eq_true rfl, (all_cons (fit_hs oh) (all_cons ⟨Nat.le_of_ble_eq_true rfl, all_cons ⟨Nat.le_of_ble_eq_true rfl, all_cons (show Str.length "a" ≤ 1000 by decide +kernel) (all_cons True.intro all_nil)⟩ all_nil⟩ all_nil))⟩⟩
  · exact ⟨(tf2 (by decide +kernel)), ⟨Nat.le_of_ble_eq_true rfl, (all_cons (fit_hs oh) (all_cons ⟨Nat.le_of_ble_eq_true rfl, all_cons ⟨Nat.le_of_ble_eq_true rfl, all_cons (show Str.length "a" ≤ 1000 by decide +kernel) (all_cons True.intro all_nil)⟩ all_nil⟩ all_nil))⟩⟩
  · exact ⟨(tf2 (by decide +kernel)), ⟨Nat.le_of_ble_eq_true rfl, (all_cons (fit_hs oh) (all_cons ⟨Nat.le_of_ble_eq_true rfl, all_cons ⟨Nat.le_of_ble_eq_true rfl, all_cons (show Str.length "A" ≤ 1000 by decide +kernel) (all_cons True.intro all_nil)⟩ all_nil⟩ all_nil))⟩⟩
  · exact ⟨(tf2 (by decide +kernel)), ⟨Nat.le_of_ble_eq_true rfl, (all_cons (fit_hs oh) (all_cons ⟨Nat.le_of_ble_eq_true rfl, all_cons ⟨Nat.le_of_ble_eq_true rfl, all_cons (show Str.length "a" ≤ 1000 by decide +kernel) (all_cons True.intro all_nil)⟩ all_nil⟩ all_nil))⟩⟩
  · exact ⟨(tf2 rfl), ⟨Nat.le_of_ble_eq_true rfl, (all_cons (fit_hs oh) (all_cons ⟨Nat.le_of_ble_eq_true rfl, (all_cons ⟨Nat.le_of_ble_eq_true rfl, (all_cons (show Str.length "a" ≤ 1000 by decide +kernel) (all_cons True.intro all_nil))⟩ all_nil)⟩ all_nil))⟩⟩
  · exact ⟨(tf1 (by decide +kernel)), ⟨Nat.le_of_ble_eq_true rfl, (all_cons fit_four (all_cons (fit_ps op) all_nil))⟩⟩
  · exact ⟨(tf1 (by decide +kernel)), ⟨Nat.le_of_ble_eq_true rfl, (all_cons ⟨Nat.le_of_ble_eq_true rfl, (all_cons ⟨Nat.le_of_ble_eq_true rfl, (all_cons (show Str.length "ha" ≤ 1000 by decide +kernel) (all_cons True.intro all_nil))⟩ (all_cons ⟨Nat.le_of_ble_eq_true rfl, (all_cons (show Str.length "ha" ≤ 1000 by decide +kernel) (all_cons True.intro all_nil))⟩ all_nil))⟩ (all_cons (fit_ps op) all_nil))⟩⟩
end K89

set_option Elab.async false
set_option linter.all false
set_option maxRecDepth 100000
set_option maxHeartbeats 1000000
/-! LY: expressions that lay plain data. -/
namespace RP
open PySem PySem.Spec PyProof.Rows L2
theorem pe_box {X : Cx} {e : Expr} {te : TE} (h : PE X e te) : PE X e (fun σ H Q => Box (te σ H Q)) := ⟨fun pins s σ H Q I b => h.run pins s σ H Q I b.out⟩
def Lays (K : PySem.W.Frag) (R0 : Hp) (σ : L2.St) (te : TE) (d : D) : Prop := ∀ (H R : Hp) (Q : VK), Same R0 R → Plain R → Same R H → (∀ R' H' v, Grow H R R' → Plain R' → Same R' H' → Same H H' → Rep K R' v d → Q v H') → te σ H Q
def LaysA (K : PySem.W.Frag) (R0 : Hp) (σ : L2.St) (ta : TA) (ds : List D) : Prop := ∀ (H R : Hp) (Q : List V → Hp → Prop), Same R0 R → Plain R → Same R H → (∀ R' H' vs, Grow H R R' → Plain R' → Same R' H' → Same H H' → Reps K R' vs ds → Q vs H') → ta σ H Q
def LaysP (K : PySem.W.Frag) (R0 : Hp) (σ : L2.St) (trs : List (TE × TE)) (es : List (Str × D)) : Prop := ∀ (H R : Hp) (Q : List (V × V) → Hp → Prop), Same R0 R → Plain R → Same R H →
  (∀ R' H' kvs, Grow H R R' → Plain R' → Same R' H' → Same H H' → RepK K R' kvs es → Q (kvs.map fun kv => (kV kv.1, kv.2)) H') → tPairs trs σ H Q
section
variable {K : PySem.W.Frag} {R0 : Hp} {σ : L2.St} {te : TE} {ta : TA} {d : D} {ds : List D} {v : V}
theorem same_live {H H' : Hp} (s : Same H H') : ∀ x, H x ≠ none → H' x ≠ none := fun x h q => by
  cases e : H x with
  | none => exact h e
  | some o =>
    rw [s _ _ e] at q
    cases q
theorem lays_pure (r : Rep K R0 v d) (h : ∀ (H : Hp) (Q : VK), Q v H → te σ H Q) : Lays K R0 σ te d := fun H R Q s0 pR sR k => h H Q (k R H v (Grow.refl _ _) pR sR (Same.refl H) (r.same s0))
theorem lays_nil : LaysA K R0 σ tNil [] := fun H R Q s0 pR sR k => k R H [] (Grow.refl _ _) pR sR (Same.refl H) .nil
theorem lays_cons (h : Lays K R0 σ te d) (t : LaysA K R0 σ ta ds) : LaysA K R0 σ (tCons te ta) (d :: ds) := fun H R Q s0 pR sR k =>
  h H R _ s0 pR sR fun R1 H1 v g1 p1 s1 u1 r1 => t H1 R1 _ (s0.trans g1.same) p1 s1 fun R2 H2 vs g2 p2 s2 u2 r2 =>
    k R2 H2 (v :: vs) (g1.trans g2 (same_live u1)) p2 s2 (u1.trans u2) (.cons (r1.same g2.same) r2)
theorem lays_lst (h : LaysA K R0 σ ta ds) (hl : ds.length ≤ 1000) : Lays K R0 σ (tLst ta) (.lst ds) := fun H R Q s0 pR sR k =>
  h H R _ s0 pR sR fun R1 H1 vs g1 p1 s1 u1 r1 => ⟨by have h1 := r1.len; have : 1000 ≤ sizeLine := by decide
                                                      omega, fun p hp =>
    k (upd R1 p (.lst vs)) _ (.ref p) (g1.put (u1.free hp) (s1.out hp)) (p1.put (fun _ _ z => nomatch z)) s1.put (u1.trans (same_new hp)) (.lst (SqL.of upd_same) (r1.same (same_new (s1.out hp))))⟩
theorem lays_tup (h : LaysA K R0 σ ta ds) (hl : ds.length ≤ 1000) : Lays K R0 σ (tTup ta) (.tup ds) := fun H R Q s0 pR sR k =>
  h H R _ s0 pR sR fun R1 H1 vs g1 p1 s1 u1 r1 => ⟨by have h1 := r1.len; have : 1000 ≤ sizeLine := by decide
                                                      omega, fun p hp =>
    k (upd R1 p (.tup vs)) _ (.ref p) (g1.put (u1.free hp) (s1.out hp)) (p1.put (fun _ _ z => nomatch z)) s1.put (u1.trans (same_new hp)) (.tup (SqT.of upd_same) (r1.same (same_new (s1.out hp))))⟩
theorem lays_dnew : Lays K R0 σ tDNewK (.dct []) := fun H R Q s0 pR sR k p hp =>
  k (upd R p (.dK [])) _ (.ref p) ((Grow.refl _ _).put hp (sR.out hp)) (pR.put (fun _ _ z => nomatch z)) sR.put (same_new hp) (.dct (.inl upd_same) .nil)
theorem laysP_nil : LaysP K R0 σ [] [] := fun H R Q s0 pR sR k => k R H [] (Grow.refl _ _) pR sR (Same.refl H) .nil
theorem laysP_cons {x : Str} {trs : List (TE × TE)} {es : List (Str × D)} (hx : x.length ≤ sizeLine) (h : Lays K R0 σ te d) (t : LaysP K R0 σ trs es) : LaysP K R0 σ ((tC (.str x), te) :: trs) ((x, d) :: es) := fun H R Q s0 pR sR k =>
  h H R _ s0 pR sR fun R1 H1 v g1 p1 s1 u1 r1 => t H1 R1 _ (s0.trans g1.same) p1 s1 fun R2 H2 kvs g2 p2 s2 u2 r2 =>
    k R2 H2 ((.inr x, v) :: kvs) (g1.trans g2 (same_live u1)) p2 s2 (u1.trans u2) (.cons hx (r1.same g2.same) r2)
theorem lays_dct {trs : List (TE × TE)} {es : List (Str × D)} (h : LaysP K R0 σ trs es) (nd : (es.map (·.1)).Nodup) (hl : es.length ≤ 15) : Lays K R0 σ (tDisp trs) (.dct es) := fun H R Q s0 pR sR k p hp => by
  have nR := sR.out hp
  refine h (upd H p (.dK [])) R _ s0 pR (sR.skip nR) fun R1 H1 kvs g1 p1 s1 u1 r1 => ?_
  have n1 : R1 p = none := g1.off upd_same nR
  refine ⟨u1 _ _ upd_same, kvs, rfl, by have := r1.len; omega, ?_⟩
  rw [r1.merge nd]
  refine k (upd R1 p (.dK kvs)) _ (.ref p) ?_ (p1.put (fun _ _ z => nomatch z)) s1.put (((same_new hp).trans u1).skip hp) (.dct (.inl upd_same) (r1.same (same_new n1)))
  refine ⟨g1.same.trans (same_new n1), fun x hx => ?_⟩
  have ne : x ≠ p := fun e => hx (by rw [e]; exact hp)
  rw [upd_ne ne]
  exact g1.old x (by rw [upd_ne ne]; exact hx)
theorem rep_flat2 {α : Type} (x : α) : ∀ n, (List.replicate n [x]).flatten = List.replicate n x
  | 0 => rfl
  | n + 1 => by
    rw [List.replicate_succ, List.flatten_cons, rep_flat2 x n, List.replicate_succ]
    rfl
theorem reps_rep {R : Hp} (r : Rep K R v d) : ∀ n, Reps K R (List.replicate n v) (List.replicate n d)
  | 0 => .nil
  | n + 1 => .cons r (reps_rep r n)
theorem lays_rep {k : Nat} (h : Lays K R0 σ te d) (hk : k ≤ 1000) : Lays K R0 σ (tOp rRep (tLst (tCons te tNil)) (tC (.int (k : Nat)))) (.lst (List.replicate k d)) := fun H R Q s0 pR sR q =>
  h H R _ s0 pR sR fun R1 H1 v g1 p1 s1 u1 r1 => ⟨(show 1 ≤ sizeLine by decide), fun p hp => by
    refine ⟨p, k, [v], rfl, rfl, upd_same, by omega, by omega, ?_, fun p2 hp2 => ?_⟩
    · have : 1000 ≤ sizeLine := by decide
      show 1 * ((k : Nat) : Int).toNat ≤ sizeLine
      omega
    · rw [rep_flat2, Int.toNat_natCast]
      have s2 : Same R1 (upd H1 p (.lst [v])) := s1.skip (s1.out hp)
      have u2 : Same H (upd H1 p (.lst [v])) := u1.trans (same_new hp)
      exact q (upd R1 p2 (.lst (List.replicate k v))) _ (.ref p2) (g1.put (u2.free hp2) (s2.out hp2)) (p1.put (fun _ _ z => nomatch z)) s2.put (u2.trans (same_new hp2)) (.lst (SqL.of upd_same) ((reps_rep r1 k).same (same_new (s2.out hp2))))⟩
end
end RP

set_option Elab.async false
set_option linter.all false
set_option maxRecDepth 100000
set_option maxHeartbeats 1000000
namespace RP
open PySem PySem.Spec PyProof.Rows L2
theorem reps_app {K : PySem.W.Frag} {R : Hp} {zs ys : List V} {ds es : List D} (r : Reps K R zs ds) (q : Reps K R ys es) : Reps K R (zs ++ ys) (ds ++ es) := by
  induction zs generalizing ds with
  | nil =>
    cases r
    exact q
  | cons z zs ih =>
    cases r with
    | cons h t => exact .cons h (ih t)
/-- x + x, a list of data -/
theorem lays_cat2 {K : PySem.W.Frag} {R0 : Hp} {σ : L2.St} {i : Nat} {l : Addr} {xs : List V} {ds : List D} (hi : σ[i]? = some (some (.ref l))) (h : R0 l = some (.lst xs)) (r : Reps K R0 xs ds) (hl : ds.length ≤ 100 := by omega) : Lays K R0 σ (tOp rCat (tVar i) (tVar i)) (.lst (ds ++ ds)) := fun H R Q s0 pR sR k => by
  have hH : H l = some (.lst xs) := sR _ _ (s0 _ _ h)
  have hx := r.len
  have sz : xs.length + xs.length ≤ sizeLine := by
    have : 1000 ≤ sizeLine := by decide
    omega
  refine ⟨_, hi, _, hi, l, l, xs, xs, rfl, rfl, hH, hH, sz, fun p hp => ?_⟩
  have r2 := r.same s0
  exact k (upd R p (.lst (xs ++ xs))) _ (.ref p) ((Grow.refl _ _).put hp (sR.out hp)) (pR.put (fun _ _ z => nomatch z)) sR.put (same_new hp) (.lst (SqL.of upd_same) ((reps_app r2 r2).same (same_new (sR.out hp))))
/-- a list laid, with where it lies -/
theorem box_lst {K : PySem.W.Frag} {R0 R H : Hp} {σ : L2.St} {ta : TA} {ds : List D} {Q : VK} (h : LaysA K R0 σ ta ds) (s0 : Same R0 R) (pR : Plain R) (sR : Same R H) (hl : ds.length ≤ 1000)
    (k : ∀ R' H' p vs, Grow H R R' → Plain R' → Same R' H' → Same H H' → R' p = some (.lst vs) → Reps K R' vs ds → Q (.ref p) H') : Box (tLst ta σ H Q) :=
  ⟨h H R _ s0 pR sR fun R1 H1 vs g1 p1 s1 u1 r1 => ⟨by have h1 := r1.len; have : 1000 ≤ sizeLine := by decide
                                                       omega, fun p hp =>
    k (upd R1 p (.lst vs)) _ p vs (g1.put (u1.free hp) (s1.out hp)) (p1.put (fun _ _ z => nomatch z)) s1.put (u1.trans (same_new hp)) upd_same (r1.same (same_new (s1.out hp)))⟩⟩
theorem _root_.L2.Same.off {R U : Hp} {a : Addr} (s : Same R U) (n : R a = none) : Same R (Off a U) := fun b o e => by
  rw [off_ne (fun q => by rw [q, n] at e; cases e)]
  exact s b o e
theorem nd_one {a : Str} {d : D} : (([(a, d)] : List (Str × D)).map (·.1)).Nodup := by
  simp
end RP
namespace K89
open PySem PySem.Spec PyProof.Rows L2 RP
def ascii8 : Str := "abcdefgh"
theorem eight_list : (ascii8.cps.toList.map fun c => D.tup [.str ⟨#[c]⟩, .int 0]) = eightD.map fun e => D.tup [.str e.1, e.2] := by
  have h : ascii8.cps.toList = [97, 98, 99, 100, 101, 102, 103, 104] := by decide +kernel
  rw [h]
  rfl
theorem arr_all {α : Type} (F : Nat → α) (a : Array Nat) : (List.range a.size).filterMap (fun i => a[i]?.map F) = a.toList.map F := by
  have h := range_all F a.toList
  simpa using h
section
variable {P : Program} {w : World} {K : PySem.W.Frag} {mg : Str → Option Value} {base : Heap}
/-! ### _law_odd_fleet -/
theorem sc__law_odd_fleet : FnScope ["box", "fleet", "houses", "guests", "eight", "name", "some", "four"] ["box", "fleet"] (defScope s__law_odd_fleet) := ⟨rfl, rfl, rfl, by decide +kernel, rfl, by decide +kernel, by decide +kernel⟩
def spOddF (K : PySem.W.Frag) : Sp := fun vs H Q _ => ∃ (R : Hp) (a f ha pa : Addr) (n : Int) (xs : List V) (hs ps : List (Str × Int)), vs = [.ref a, .ref f] ∧ BoxAt H a n ∧ n ≤ 100000 ∧ Same R H ∧ Plain R ∧ R a = none ∧ HsOk hs ∧ PsOk ps ∧
  SqT K R f [.ref ha, .ref pa] ∧ R ha = some (.lst xs) ∧ Reps K R xs (hs.map hD) ∧ R pa = some (.dK (psK ps)) ∧
  ∀ (R' H' : Hp) (v : V) (d : D), BoxAt H' a (n + 1) → But a H H' → Same R R' → Plain R' → Same R' H' → R' a = none → Rep K R' v d → d.fleet = false → Fit 8 d → Q v H'
theorem ok__law_odd_fleet (T : Txt K mg) (G__law_take : Def P w K mg base 1 "_law_take" ["box", "many"] (spTake K)) : Def P w K mg base 2 "_law_odd_fleet" ["box", "fleet"] (spOddF K) := by
  obtain ⟨f, fd, F⟩ := T.a__law_odd_fleet
  refine Def.mk F sc__law_odd_fleet (fun _ _ _ _ _ _ us hl => match us, hl with | [_, _], _ => rfl) (fun vs H Q E h => ?_) (fun cdv A outer s H vs Q E hr h => ?_)
  · obtain ⟨R, a, f, ha, pa, n, xs, hs, ps, rfl, _⟩ := h
    rfl
  · obtain ⟨R, a, f, ha, pa, n, xs, hs, ps, rfl, bx, hn, sR, pR, nRa, oh, op, ht, hHa, rHs, hPa, hq⟩ := h
    have live : H a ≠ none := by
      obtain ⟨x, y, k, e, _⟩ := bx
      rw [e]
      exact fun h => nomatch h
    have lh : (hs.map hD).length ≤ 100 := by rw [List.length_map]; have := oh.n3; omega
    refine ⟨_, (pss_cons (ps_asg (pv 1) (kpg_tup K rfl (n := 2) rfl (pgs_cons (pg_name (i := 2) sc__law_odd_fleet.nd rfl (Or.inl rfl)) (pgs_cons (pg_name (i := 3) sc__law_odd_fleet.nd rfl (Or.inl rfl)) pgs_nil))))
      (pss_cons (ps_set (i := 4) sc__law_odd_fleet.nd rfl (Or.inl rfl) (pe_callTy (kcall_dictP K rfl rfl) (by rfl) T.b_dict (by decide +kernel) (pa_cons (pe_lc (own := [("name", 5)]) rfl sc__law_odd_fleet.nd (pi_str pe_str) (blkOk_by (own := [("name", 5)]) (N := ["box", "fleet", "houses", "guests", "eight", "name", "some", "four"]) (sc := defScope s__law_odd_fleet) (by decide +kernel)) (fun _ _ _ _ _ => (pg_name (i := 5) sc__law_odd_fleet.nd rfl (Or.inl rfl))) (fun _ _ _ _ _ => pts_nil) (fun _ _ _ _ _ => (pe_tup (pa_cons (pv 5) (pa_cons pe_int pa_nil))))) pa_nil)))
      (pss_cons (ps_set (i := 6) sc__law_odd_fleet.nd rfl (Or.inl rfl) (pe_box (pe_lst (pa_cons pe_non (pa_cons pe_int (pa_cons (pe_lst pa_nil) (pa_cons pe_dnewK (pa_cons (pe_lst (pa_cons (pv 2) (pa_cons (pv 3) pa_nil))) (pa_cons (pe_tup (pa_cons (pv 2) pa_nil)) (pa_cons (pe_tup (pa_cons (pv 2) (pa_cons (pv 3) (pa_cons pe_int pa_nil)))) (pa_cons (pe_tup (pa_cons (pe_lst pa_nil) (pa_cons (pv 3) pa_nil))) (pa_cons (pe_tup (pa_cons (pe_op op_cat (pv 2) (pv 2)) (pa_cons (pv 3) pa_nil))) pa_nil))))))))))))
      (pss_cons (ps_set (i := 6) sc__law_odd_fleet.nd rfl (Or.inl rfl) (pe_op op_cat (pv 6) (pe_box (pe_lst (pa_cons (pe_tup (pa_cons (pe_lst (pa_cons (pe_tup (pa_cons pe_str (pa_cons pe_int pa_nil))) pa_nil)) (pa_cons (pv 3) pa_nil))) (pa_cons (pe_tup (pa_cons (pe_lst (pa_cons (pe_tup (pa_cons pe_str (pa_cons pe_int pa_nil))) pa_nil)) (pa_cons (pv 3) pa_nil))) (pa_cons (pe_tup (pa_cons (pe_lst (pa_cons (pe_tup (pa_cons pe_str (pa_cons pe_int pa_nil))) pa_nil)) (pa_cons (pv 3) pa_nil))) (pa_cons (pe_tup (pa_cons (pe_lst (pa_cons (pe_lst (pa_cons pe_str (pa_cons pe_int pa_nil))) pa_nil)) (pa_cons (pv 3) pa_nil))) pa_nil))))))))
      (pss_cons (ps_set (i := 6) sc__law_odd_fleet.nd rfl (Or.inl rfl) (pe_op op_cat (pv 6) (pe_box (pe_lst (pa_cons (pe_tup (pa_cons (pv 2) (pa_cons (pv 4) pa_nil))) (pa_cons (pe_tup (pa_cons (pv 2) (pa_cons (pe_disp (pps_cons pe_str pe_int pps_nil) (by rfl) (by rfl) (fun z => by cases z) (by decide)) pa_nil))) (pa_cons (pe_tup (pa_cons (pv 2) (pa_cons (pe_disp (pps_cons pe_str (pe_un un_neg pe_int) pps_nil) (by rfl) (by rfl) (fun z => by cases z) (by decide)) pa_nil))) (pa_cons (pe_tup (pa_cons (pv 2) (pa_cons (pe_disp (pps_cons pe_str pe_int pps_nil) (by rfl) (by rfl) (fun z => by cases z) (by decide)) pa_nil))) (pa_cons (pe_tup (pa_cons (pv 2) (pa_cons (pe_disp (pps_cons pe_str pe_bl pps_nil) (by rfl) (by rfl) (fun z => by cases z) (by decide)) pa_nil))) pa_nil)))))))))
      (pss_cons (ps_set (i := 7) sc__law_odd_fleet.nd rfl (Or.inl rfl) (pe_box (pe_lst (pa_cons (pe_tup (pa_cons pe_str (pa_cons pe_int pa_nil))) (pa_cons (pe_tup (pa_cons pe_str (pa_cons pe_int pa_nil))) (pa_cons (pe_tup (pa_cons pe_str (pa_cons pe_int pa_nil))) (pa_cons (pe_tup (pa_cons pe_str (pa_cons pe_int pa_nil))) pa_nil)))))))
      (pss_cons (ps_set (i := 6) sc__law_odd_fleet.nd rfl (Or.inl rfl) (pe_op op_cat (pv 6) (pe_box (pe_lst (pa_cons (pe_tup (pa_cons (pv 2) (pa_cons (pe_lst (pa_cons (pe_tup (pa_cons pe_str (pa_cons pe_int pa_nil))) pa_nil)) pa_nil))) (pa_cons (pe_tup (pa_cons (pv 7) (pa_cons (pv 3) pa_nil))) (pa_cons (pe_tup (pa_cons (pe_lst (pa_cons (pe_tup (pa_cons pe_str (pa_cons pe_int pa_nil))) (pa_cons (pe_tup (pa_cons pe_str (pa_cons pe_int pa_nil))) pa_nil))) (pa_cons (pv 3) pa_nil))) pa_nil)))))))
      (pss_one (ps_ret (pe_ix (kix_list K rfl) (pv 6) (pe_d G__law_take (hr.mono (by decide)) (by rfl) (pa_cons (pv 0) (pa_cons (pe_callB (kcall_len_seq K rfl) (by rfl) T.b_len (by decide +kernel) (pa_cons (pv 6) pa_nil)) pa_nil))) (fun _ _ => rfl))))))))))), ?_⟩
    refine ⟨_, rfl, f, _, rfl, (Lq.of sR).tup ht, rfl, _, _, rfl, _, _, rfl, rfl, ?_⟩
    -- eight guests
    refine ⟨_, rfl, fun L hL => ?_⟩
    refine lc_reps (K := K) (w := walk_str) (R := fun _ => none) (fun i => ascii8.cps[i]?.map fun c => D.tup [.str ⟨#[c]⟩, .int 0]) hL (show ascii8.cps.size ≤ 1000000 by decide +kernel) (fun _ _ h => nomatch h) Plain.none (fun _ _ => True.intro) ?_ ?_
    · rintro i x H1 H2 R1 Y2 N2 hi s1 hnL gr pl sr ⟨rfl, c, hc, rfl⟩ k3 k4
      refine ⟨rfl, ⟨_, rfl, (show 2 ≤ sizeLine by decide), fun T3 hT3 => ?_⟩⟩
      have s1z : (⟨#[c]⟩ : Str).length ≤ sizeLine := by
        show 1 ≤ sizeLine
        decide
      exact k3 _ _ (upd R1 T3 (.tup [.str ⟨#[c]⟩, .int 0])) _ (by rw [show ascii8.cps[i]? = some c from hc]; rfl) (same_new hT3) ((Grow.refl _ _).put hT3 (sr.out hT3)) (pl.put (fun _ _ z => nomatch z)) sr.put (.tup (SqT.of upd_same) (.cons (.str _ s1z) (.cons (.int _) .nil)))
    intro H1 R1 zs s1 gr pl sr hRL hLz rz
    rw [show (List.range (Str.cps "abcdefgh").size).filterMap (fun i => ascii8.cps[i]?.map fun c => D.tup [.str ⟨#[c]⟩, .int 0]) = eightD.map fun e => D.tup [.str e.1, e.2] from (arr_all _ ascii8.cps).trans eight_list] at rz
    obtain ⟨as, kvs, rfl, pp, rk⟩ := pairs_of rz
    have em : mergeK [] kvs = kvs := rk.merge (by decide +kernel)
    refine ⟨L, as, kvs, rfl, SqL.of hLz, paired_mono (fun _ _ h => (Lq.of sr).tup h) pp, fun ei hei => ?_⟩
    rw [em]
    have s2 : Same H1 (upd H1 ei (.dK kvs)) := same_new hei
    have he2 : upd H1 ei (.dK kvs) ei = some (.dK kvs) := upd_same
    generalize upd H1 ei (.dK kvs) = H2 at s2 he2 ⊢
    have s02 := s1.trans s2
    obtain ⟨U0, j1, j2, j3, j4⟩ := join pR (sR.trans s02) pl (sr.trans s2)
    have nR1 : R1 a = none := gr.old a live
    replace j1 := j1.off (a := a) nRa
    replace j2 := j2.off (a := a) nR1
    replace j3 : Plain (Off a U0) := Off.plain j3
    replace j4 : Same (Off a U0) H2 := Off.same.trans j4
    have nU : Off a U0 a = none := off_at
    generalize Off a U0 = U at j1 j2 j3 j4 nU
    obtain ⟨d1, d2, d3⟩ := know j3 j4 he2 (fun _ _ z => nomatch z)
    have neia : ei ≠ a := (bx.same s1).ne hei
    have nV : upd U ei (.dK kvs) a = none := by
      rw [upd_ne (Ne.symm neia)]
      exact nU
    have rE0 : Rep K (upd U ei (.dK kvs)) (.ref ei) (.dct eightD) := .dct (.inl upd_same) (rk.same (j2.trans d1))
    have s0U := j1.trans d1
    generalize upd U ei (.dK kvs) = R0 at d2 d3 nV rE0 s0U
    have bx2 := bx.same s02
    have hHa : R0 ha = some (.lst xs) := s0U _ _ hHa
    have rHs : Reps K R0 xs (hs.map hD) := rHs.same s0U
    have rH : Rep K R0 (.ref ha) (.lst (hs.map hD)) := .lst (SqL.of hHa) rHs
    have rG : Rep K R0 (.ref pa) (.dct (ps.map pD)) := .dct (.inl (s0U _ _ hPa)) (repK_ps op)
    have rE := rE0
    have liveOf : ∀ {H' : Hp}, Same H2 H' → H' a ≠ none := fun {H'} s => by
      obtain ⟨x, y, k, e, _⟩ := bx2
      rw [s _ _ e]
      exact fun h => nomatch h
    -- the lists
    refine box_lst ((lays_cons (lays_pure .non (fun _ _ h => h)) (lays_cons (lays_pure (v := .int 3) (.int _) (fun _ _ h => h)) (lays_cons (lays_lst lays_nil (Nat.le_of_ble_eq_true rfl)) (lays_cons lays_dnew (lays_cons (lays_lst (lays_cons (lays_pure (v := .ref ha) rH (fun _ _ h => ⟨_, rfl, h⟩)) (lays_cons (lays_pure (v := .ref pa) rG (fun _ _ h => ⟨_, rfl, h⟩)) lays_nil)) (Nat.le_of_ble_eq_true rfl)) (lays_cons (lays_tup (lays_cons (lays_pure (v := .ref ha) rH (fun _ _ h => ⟨_, rfl, h⟩)) lays_nil) (Nat.le_of_ble_eq_true rfl)) (lays_cons (lays_tup (lays_cons (lays_pure (v := .ref ha) rH (fun _ _ h => ⟨_, rfl, h⟩)) (lays_cons (lays_pure (v := .ref pa) rG (fun _ _ h => ⟨_, rfl, h⟩)) (lays_cons (lays_pure (v := .int 1) (.int _) (fun _ _ h => h)) lays_nil))) (Nat.le_of_ble_eq_true rfl)) (lays_cons (lays_tup (lays_cons (lays_lst lays_nil (Nat.le_of_ble_eq_true rfl)) (lays_cons (lays_pure (v := .ref pa) rG (fun _ _ h => ⟨_, rfl, h⟩)) lays_nil)) (Nat.le_of_ble_eq_true rfl)) (lays_cons (lays_tup (lays_cons (lays_cat2 (i := 2) rfl hHa rHs) (lays_cons (lays_pure (v := .ref pa) rG (fun _ _ h => ⟨_, rfl, h⟩)) lays_nil)) (Nat.le_of_ble_eq_true rfl)) lays_nil))))))))) : LaysA K R0 _ _ (odd1 hs ps)) (Same.refl _) d2 d3 (Nat.le_of_ble_eq_true rfl) fun R1 H3 p1 vs1 g1 q1 t1 u1 hp1 r1 => ?_
    have m1 : R1 a = none := (g1.old a (liveOf (Same.refl _))).trans nV
    refine ⟨_, rfl, box_lst ((lays_cons (lays_tup (lays_cons (lays_lst (lays_cons (lays_tup (lays_cons (lays_pure (v := .str "ha") (.str _ (by decide +kernel)) (fun _ _ h => h)) (lays_cons (lays_pure (v := .int 3) (.int _) (fun _ _ h => h)) lays_nil)) (Nat.le_of_ble_eq_true rfl)) lays_nil) (Nat.le_of_ble_eq_true rfl)) (lays_cons (lays_pure (v := .ref pa) rG (fun _ _ h => ⟨_, rfl, h⟩)) lays_nil)) (Nat.le_of_ble_eq_true rfl)) (lays_cons (lays_tup (lays_cons (lays_lst (lays_cons (lays_tup (lays_cons (lays_pure (v := .str "ha") (.str _ (by decide +kernel)) (fun _ _ h => h)) (lays_cons (lays_pure (v := .int 61) (.int _) (fun _ _ h => h)) lays_nil)) (Nat.le_of_ble_eq_true rfl)) lays_nil) (Nat.le_of_ble_eq_true rfl)) (lays_cons (lays_pure (v := .ref pa) rG (fun _ _ h => ⟨_, rfl, h⟩)) lays_nil)) (Nat.le_of_ble_eq_true rfl)) (lays_cons (lays_tup (lays_cons (lays_lst (lays_cons (lays_tup (lays_cons (lays_pure (v := .str "Ha") (.str _ (by decide +kernel)) (fun _ _ h => h)) (lays_cons (lays_pure (v := .int 9) (.int _) (fun _ _ h => h)) lays_nil)) (Nat.le_of_ble_eq_true rfl)) lays_nil) (Nat.le_of_ble_eq_true rfl)) (lays_cons (lays_pure (v := .ref pa) rG (fun _ _ h => ⟨_, rfl, h⟩)) lays_nil)) (Nat.le_of_ble_eq_true rfl)) (lays_cons (lays_tup (lays_cons (lays_lst (lays_cons (lays_lst (lays_cons (lays_pure (v := .str "ha") (.str _ (by decide +kernel)) (fun _ _ h => h)) (lays_cons (lays_pure (v := .int 9) (.int _) (fun _ _ h => h)) lays_nil)) (Nat.le_of_ble_eq_true rfl)) lays_nil) (Nat.le_of_ble_eq_true rfl)) (lays_cons (lays_pure (v := .ref pa) rG (fun _ _ h => ⟨_, rfl, h⟩)) lays_nil)) (Nat.le_of_ble_eq_true rfl)) lays_nil)))) : LaysA K R0 _ _ (odd2 hs ps)) g1.same q1 t1 (Nat.le_of_ble_eq_true rfl) fun R2 H4 p2 vs2 g2 q2 t2 u2 hp2 r2 => ?_⟩
    have u24 := u1.trans u2
    have m2 : R2 a = none := (g2.old a (liveOf u1)).trans m1
    have sz2 : vs1.length + vs2.length ≤ sizeLine := by
      have h1 : vs1.length = (odd1 hs ps).length := r1.len
      have h2 : vs2.length = (odd2 hs ps).length := r2.len
      have h3 : 1000 ≤ sizeLine := by decide
      have h4 : (odd1 hs ps).length ≤ 500 := Nat.le_of_ble_eq_true rfl
      have h5 : (odd2 hs ps).length ≤ 500 := Nat.le_of_ble_eq_true rfl
      omega
    refine ⟨p1, p2, vs1, vs2, rfl, rfl, t2 _ _ (g2.same _ _ hp1), t2 _ _ hp2, sz2, fun c2 hc2 => ?_⟩
    have rc2 := reps_app (r1.same g2.same) r2
    have nc2 := t2.out hc2
    have hc2' : upd R2 c2 (.lst (vs1 ++ vs2)) c2 = some (.lst (vs1 ++ vs2)) := upd_same
    replace rc2 := rc2.same (same_new (o := .lst (vs1 ++ vs2)) nc2)
    have tc2 : Same (upd R2 c2 (.lst (vs1 ++ vs2))) (upd H4 c2 (.lst (vs1 ++ vs2))) := t2.put
    have qc2 : Plain (upd R2 c2 (.lst (vs1 ++ vs2))) := q2.put (fun _ _ z => nomatch z)
    have sc2 : Same R2 (upd R2 c2 (.lst (vs1 ++ vs2))) := same_new nc2
    have uc2 : Same H4 (upd H4 c2 (.lst (vs1 ++ vs2))) := same_new hc2
    have mc2 : upd R2 c2 (.lst (vs1 ++ vs2)) a = none := by
      rw [upd_ne (fun e => liveOf u24 (by rw [e]; exact hc2))]
      exact m2
    generalize upd H4 c2 (.lst (vs1 ++ vs2)) = Hc2 at tc2 uc2 ⊢
    generalize upd R2 c2 (.lst (vs1 ++ vs2)) = Rc2 at tc2 qc2 sc2 mc2 rc2 hc2'
    have b2 := (g1.same.trans g2.same).trans sc2
    have w2 := u24.trans uc2
    refine ⟨_, rfl, box_lst ((lays_cons (lays_tup (lays_cons (lays_pure (v := .ref ha) rH (fun _ _ h => ⟨_, rfl, h⟩)) (lays_cons (lays_pure (v := .ref ei) rE (fun _ _ h => ⟨_, rfl, h⟩)) lays_nil)) (Nat.le_of_ble_eq_true rfl)) (lays_cons (lays_tup (lays_cons (lays_pure (v := .ref ha) rH (fun _ _ h => ⟨_, rfl, h⟩)) (lays_cons (lays_dct (laysP_cons (by decide +kernel) (lays_pure (v := .int 61) (.int _) (fun _ _ h => h)) laysP_nil) nd_one (Nat.le_of_ble_eq_true rfl)) lays_nil)) (Nat.le_of_ble_eq_true rfl)) (lays_cons (lays_tup (lays_cons (lays_pure (v := .ref ha) rH (fun _ _ h => ⟨_, rfl, h⟩)) (lays_cons (lays_dct (laysP_cons (by decide +kernel) (lays_pure (v := .int (-1)) (.int _) (fun _ _ h => ⟨_, rfl, h⟩)) laysP_nil) nd_one (Nat.le_of_ble_eq_true rfl)) lays_nil)) (Nat.le_of_ble_eq_true rfl)) (lays_cons (lays_tup (lays_cons (lays_pure (v := .ref ha) rH (fun _ _ h => ⟨_, rfl, h⟩)) (lays_cons (lays_dct (laysP_cons (by decide +kernel) (lays_pure (v := .int 1) (.int _) (fun _ _ h => h)) laysP_nil) nd_one (Nat.le_of_ble_eq_true rfl)) lays_nil)) (Nat.le_of_ble_eq_true rfl)) (lays_cons (lays_tup (lays_cons (lays_pure (v := .ref ha) rH (fun _ _ h => ⟨_, rfl, h⟩)) (lays_cons (lays_dct (laysP_cons (by decide +kernel) (lays_pure (.bl true) (fun _ _ h => h)) laysP_nil) nd_one (Nat.le_of_ble_eq_true rfl)) lays_nil)) (Nat.le_of_ble_eq_true rfl)) lays_nil))))) : LaysA K R0 _ _ (odd3 hs ps)) b2 qc2 tc2 (Nat.le_of_ble_eq_true rfl) fun R3 H5 p3 vs3 g3 q3 t3 u3 hp3 r3 => ?_⟩
    have u25 := w2.trans u3
    have m3 : R3 a = none := (g3.old a (liveOf w2)).trans mc2
    have sz3 : (vs1 ++ vs2).length + vs3.length ≤ sizeLine := by
      have h1 : (vs1 ++ vs2).length = (odd1 hs ps ++ odd2 hs ps).length := rc2.len
      have h2 : vs3.length = (odd3 hs ps).length := r3.len
      have h3 : 1000 ≤ sizeLine := by decide
      have h4 : (odd1 hs ps ++ odd2 hs ps).length ≤ 500 := Nat.le_of_ble_eq_true rfl
      have h5 : (odd3 hs ps).length ≤ 500 := Nat.le_of_ble_eq_true rfl
      omega
    refine ⟨c2, p3, (vs1 ++ vs2), vs3, rfl, rfl, t3 _ _ (g3.same _ _ hc2'), t3 _ _ hp3, sz3, fun c3 hc3 => ?_⟩
    have rc3 := reps_app (rc2.same g3.same) r3
    have nc3 := t3.out hc3
    have hc3' : upd R3 c3 (.lst ((vs1 ++ vs2) ++ vs3)) c3 = some (.lst ((vs1 ++ vs2) ++ vs3)) := upd_same
    replace rc3 := rc3.same (same_new (o := .lst ((vs1 ++ vs2) ++ vs3)) nc3)
    have tc3 : Same (upd R3 c3 (.lst ((vs1 ++ vs2) ++ vs3))) (upd H5 c3 (.lst ((vs1 ++ vs2) ++ vs3))) := t3.put
    have qc3 : Plain (upd R3 c3 (.lst ((vs1 ++ vs2) ++ vs3))) := q3.put (fun _ _ z => nomatch z)
    have sc3 : Same R3 (upd R3 c3 (.lst ((vs1 ++ vs2) ++ vs3))) := same_new nc3
    have uc3 : Same H5 (upd H5 c3 (.lst ((vs1 ++ vs2) ++ vs3))) := same_new hc3
    have mc3 : upd R3 c3 (.lst ((vs1 ++ vs2) ++ vs3)) a = none := by
      rw [upd_ne (fun e => liveOf u25 (by rw [e]; exact hc3))]
      exact m3
    generalize upd H5 c3 (.lst ((vs1 ++ vs2) ++ vs3)) = Hc3 at tc3 uc3 ⊢
    generalize upd R3 c3 (.lst ((vs1 ++ vs2) ++ vs3)) = Rc3 at tc3 qc3 sc3 mc3 rc3 hc3'
    have b3 := (b2.trans g3.same).trans sc3
    have w3 := u25.trans uc3
    refine box_lst ((lays_cons (lays_tup (lays_cons (lays_pure (v := .str "ha") (.str _ (by decide +kernel)) (fun _ _ h => h)) (lays_cons (lays_pure (v := .int 9) (.int _) (fun _ _ h => h)) lays_nil)) (Nat.le_of_ble_eq_true rfl)) (lays_cons (lays_tup (lays_cons (lays_pure (v := .str "hb") (.str _ (by decide +kernel)) (fun _ _ h => h)) (lays_cons (lays_pure (v := .int 9) (.int _) (fun _ _ h => h)) lays_nil)) (Nat.le_of_ble_eq_true rfl)) (lays_cons (lays_tup (lays_cons (lays_pure (v := .str "hc") (.str _ (by decide +kernel)) (fun _ _ h => h)) (lays_cons (lays_pure (v := .int 9) (.int _) (fun _ _ h => h)) lays_nil)) (Nat.le_of_ble_eq_true rfl)) (lays_cons (lays_tup (lays_cons (lays_pure (v := .str "hd") (.str _ (by decide +kernel)) (fun _ _ h => h)) (lays_cons (lays_pure (v := .int 9) (.int _) (fun _ _ h => h)) lays_nil)) (Nat.le_of_ble_eq_true rfl)) lays_nil)))) : LaysA K R0 _ _ fourD) b3 qc3 tc3 (Nat.le_of_ble_eq_true rfl) fun R4 H6 pf vsf g4 q4 t4 u4 hpf rf => ?_
    have u26 := w3.trans u4
    have m4 : R4 a = none := (g4.old a (liveOf w3)).trans mc3
    have b4 := b3.trans g4.same
    have rf4 : Rep K R4 (.ref pf) (.lst fourD) := .lst (SqL.of hpf) rf
    have rH4 := rH.same b4
    have rG4 := rG.same b4
    refine ⟨_, rfl, box_lst ((lays_cons (lays_tup (lays_cons (lays_pure (v := .ref ha) rH4 (fun _ _ h => ⟨_, rfl, h⟩)) (lays_cons (lays_lst (lays_cons (lays_tup (lays_cons (lays_pure (v := .str "a") (.str _ (by decide +kernel)) (fun _ _ h => h)) (lays_cons (lays_pure (v := .int 1) (.int _) (fun _ _ h => h)) lays_nil)) (Nat.le_of_ble_eq_true rfl)) lays_nil) (Nat.le_of_ble_eq_true rfl)) lays_nil)) (Nat.le_of_ble_eq_true rfl)) (lays_cons (lays_tup (lays_cons (lays_pure (v := .ref pf) rf4 (fun _ _ h => ⟨_, rfl, h⟩)) (lays_cons (lays_pure (v := .ref pa) rG4 (fun _ _ h => ⟨_, rfl, h⟩)) lays_nil)) (Nat.le_of_ble_eq_true rfl)) (lays_cons (lays_tup (lays_cons (lays_lst (lays_cons (lays_tup (lays_cons (lays_pure (v := .str "ha") (.str _ (by decide +kernel)) (fun _ _ h => h)) (lays_cons (lays_pure (v := .int 9) (.int _) (fun _ _ h => h)) lays_nil)) (Nat.le_of_ble_eq_true rfl)) (lays_cons (lays_tup (lays_cons (lays_pure (v := .str "ha") (.str _ (by decide +kernel)) (fun _ _ h => h)) (lays_cons (lays_pure (v := .int 8) (.int _) (fun _ _ h => h)) lays_nil)) (Nat.le_of_ble_eq_true rfl)) lays_nil)) (Nat.le_of_ble_eq_true rfl)) (lays_cons (lays_pure (v := .ref pa) rG4 (fun _ _ h => ⟨_, rfl, h⟩)) lays_nil)) (Nat.le_of_ble_eq_true rfl)) lays_nil))) : LaysA K R4 _ _ (odd4 hs ps)) (Same.refl _) q4 t4 (Nat.le_of_ble_eq_true rfl) fun R5 H7 p5 vs5 g5 q5 t5 u5 hp5 r5 => ?_⟩
    have u27 := u26.trans u5
    have m5 : R5 a = none := (g5.old a (liveOf u26)).trans m4
    have rc34 := rc3.same g4.same
    have hc34 := g4.same _ _ hc3'
    have sz4 : (vs1 ++ vs2 ++ vs3).length + vs5.length ≤ sizeLine := by
      have h1 : (vs1 ++ vs2 ++ vs3).length = (odd1 hs ps ++ odd2 hs ps ++ odd3 hs ps).length := rc34.len
      have h2 : vs5.length = (odd4 hs ps).length := r5.len
      have h3 : 1000 ≤ sizeLine := by decide
      have h4 : (odd1 hs ps ++ odd2 hs ps ++ odd3 hs ps).length ≤ 500 := Nat.le_of_ble_eq_true rfl
      have h5 : (odd4 hs ps).length ≤ 500 := Nat.le_of_ble_eq_true rfl
      omega
    refine ⟨c3, p5, (vs1 ++ vs2 ++ vs3), vs5, rfl, rfl, t5 _ _ (g5.same _ _ hc34), t5 _ _ hp5, sz4, fun c4 hc4 => ?_⟩
    have rc4 := reps_app (rc34.same g5.same) r5
    have nc4 := t5.out hc4
    have hc4' : upd R5 c4 (.lst ((vs1 ++ vs2 ++ vs3) ++ vs5)) c4 = some (.lst ((vs1 ++ vs2 ++ vs3) ++ vs5)) := upd_same
    replace rc4 := rc4.same (same_new (o := .lst ((vs1 ++ vs2 ++ vs3) ++ vs5)) nc4)
    have tc4 : Same (upd R5 c4 (.lst ((vs1 ++ vs2 ++ vs3) ++ vs5))) (upd H7 c4 (.lst ((vs1 ++ vs2 ++ vs3) ++ vs5))) := t5.put
    have qc4 : Plain (upd R5 c4 (.lst ((vs1 ++ vs2 ++ vs3) ++ vs5))) := q5.put (fun _ _ z => nomatch z)
    have sc4 : Same R5 (upd R5 c4 (.lst ((vs1 ++ vs2 ++ vs3) ++ vs5))) := same_new nc4
    have uc4 : Same H7 (upd H7 c4 (.lst ((vs1 ++ vs2 ++ vs3) ++ vs5))) := same_new hc4
    have mc4 : upd R5 c4 (.lst ((vs1 ++ vs2 ++ vs3) ++ vs5)) a = none := by
      rw [upd_ne (fun e => liveOf u27 (by rw [e]; exact hc4))]
      exact m5
    generalize upd H7 c4 (.lst ((vs1 ++ vs2 ++ vs3) ++ vs5)) = Hc4 at tc4 uc4 ⊢
    generalize upd R5 c4 (.lst ((vs1 ++ vs2 ++ vs3) ++ vs5)) = Rc4 at tc4 qc4 sc4 mc4 rc4 hc4'
    have b5 := (b4.trans g5.same).trans sc4
    have w5 := u27.trans uc4
    have bx8 := bx2.same w5
    have ln : (vs1 ++ vs2 ++ vs3 ++ vs5).length = (odd1 hs ps ++ odd2 hs ps ++ odd3 hs ps ++ odd4 hs ps).length := rc4.len
    have ln2 : (odd1 hs ps ++ odd2 hs ps ++ odd3 hs ps ++ odd4 hs ps).length = 21 := rfl
    refine ⟨_, rfl, _, rfl, _, rfl, c4, _, rfl, .inl (SqL.of (tc4 _ _ hc4')), a, n, _, rfl, bx8, by omega, by omega, by omega, fun r H9 r0 r1' bx9 b9 => ?_⟩
    have s9 : Same Rc4 H9 := b9.same mc4 tc4
    obtain ⟨d, hd⟩ : ∃ d, (odd1 hs ps ++ odd2 hs ps ++ odd3 hs ps ++ odd4 hs ps)[r.toNat]? = some d := ⟨_, List.getElem?_eq_getElem (by omega)⟩
    obtain ⟨v, hv, rv⟩ := rc4.at hd
    have e := atI_nat hv
    rw [show ((r.toNat : Nat) : Int) = r by omega] at e
    obtain ⟨bad, ft⟩ := odd_bad oh op d (List.mem_of_getElem? hd)
    exact ⟨c4, _, r, v, rfl, rfl, SqL.of (s9 _ _ hc4'), e, hq Rc4 H9 v d bx9 ((But.of (s02.trans w5)).trans b9) (s0U.trans b5) qc4 s9 mc4 rv bad ft⟩
end
end K89

set_option Elab.async false
set_option linter.all false
set_option maxRecDepth 100000
set_option maxHeartbeats 1000000
namespace K89
open PySem PySem.Spec PyProof.Rows L2 RP
theorem paired_drop {α β : Type} {F : α → β → Prop} : ∀ (n : Nat) {l : List α} {m : List β}, Paired F l m → Paired F (l.drop n) (m.drop n)
  | 0, _, _, h => h
  | _ + 1, _, _, .nil => .nil
  | n + 1, _, _, .cons _ t => paired_drop n t
theorem same_off {R H : Hp} {a : Addr} (s : Same R (Off a H)) : Same R H ∧ R a = none := by
  refine ⟨s.trans Off.same, ?_⟩
  cases h : R a with
  | none => rfl
  | some o =>
    have := s _ _ h
    rw [off_at] at this
    cases this
theorem nobody_not : ("nobody" : Str) ∉ seven := by decide +kernel
theorem hz_not : ("hz" : Str) ∉ three := by decide +kernel
theorem repK_plK {K : PySem.W.Frag} {R : Hp} {hs ps : List (Str × Int)} {row : List Nat} (oh : HsOk hs) (op : PsOk ps) (nr : row.length = ps.length) (hb : ∀ i ∈ row, i < hs.length) : RepK K R (plK hs ps row) (plD hs ps row) := by
  unfold plK plD
  have key : ∀ l : List Nat, (∀ k ∈ l, k < ps.length) → RepK K R (l.map fun k => ((.inr (nmOf ps k) : Key), V.str (nmOf hs (row.getD k 0)))) (l.map fun k => (nmOf ps k, D.str (nmOf hs (row.getD k 0)))) := by
    intro l
    induction l with
    | nil => exact fun _ => .nil
    | cons k l ih =>
      intro h
      have hk := h k List.mem_cons_self
      have hr : row.getD k 0 < hs.length := by
        rw [List.getD_eq_getElem?_getD, List.getElem?_eq_getElem (by omega)]
        exact hb _ (List.getElem_mem (by omega))
      exact .cons (nm_size op.nm hk) (.str _ (nm_size oh.nm hr)) (ih fun x hx => h x (List.mem_cons_of_mem _ hx))
  exact key _ fun k hk => List.mem_range.mp hk
theorem plD_len (hs ps : List (Str × Int)) (row : List Nat) : (plD hs ps row).length = ps.length := by
  unfold plD
  rw [List.length_map, List.length_range]
theorem plD_cons {hs ps : List (Str × Int)} {row : List Nat} (h : 0 < ps.length) : plD hs ps row = (nmOf ps 0, .str (nmOf hs (row.getD 0 0))) :: (plD hs ps row).drop 1 := by
  have e : 0 < (plD hs ps row).length := by rw [plD_len]; exact h
  have h1 := List.drop_eq_getElem_cons e
  rw [List.drop_zero] at h1
  conv => lhs; rw [h1]
  congr 1
  unfold plD
  simp
theorem fit_plD {n : Nat} {hs ps : List (Str × Int)} {row : List Nat} (oh : HsOk hs) (op : PsOk ps) (nr : row.length = ps.length) (hb : ∀ i ∈ row, i < hs.length) : ∀ e ∈ plD hs ps row, Fit (n + 2) (pairD e) := fun e he => by
  obtain ⟨k, hk, rfl⟩ := List.mem_map.mp he
  have hk2 := List.mem_range.mp hk
  have hr : row.getD k 0 < hs.length := by
    rw [List.getD_eq_getElem?_getD, List.getElem?_eq_getElem (by omega)]
    exact hb _ (List.getElem_mem (by omega))
  exact ⟨Nat.le_of_ble_eq_true rfl, all_cons (nm_th (nm_ok op.nm hk2)) (all_cons (nm_th (nm_ok oh.nm hr)) all_nil)⟩
theorem fit_up : ∀ {n : Nat} {d : D}, Fit n d → Fit (n + 1) d
  | 0, _, h => h.elim
  | _ + 1, .non, _ => True.intro
  | _ + 1, .bl _, _ => True.intro
  | _ + 1, .int _, _ => True.intro
  | _ + 1, .str _, h => h
  | n + 1, .lst l, h => ⟨h.1, fun e he => fit_up (n := n) (h.2 e he)⟩
  | n + 1, .tup l, h => ⟨h.1, fun e he => fit_up (n := n) (h.2 e he)⟩
  | n + 1, .dct l, h => fit_up (n := n) (d := .lst (l.map pairD)) h
theorem fit_dct {n : Nat} {l : List (Str × D)} (h : ∀ e ∈ l, Fit (n + 2) (pairD e)) (hl : l.length ≤ 1000) : Fit (n + 4) (.dct l) := by
  refine ⟨by rw [List.length_map]; exact hl, fun e he => ?_⟩
  obtain ⟨x, hx, rfl⟩ := List.mem_map.mp he
  exact h x hx
theorem row_len {hs ps : List (Str × Int)} {l : List (Str × D)} (h : l.length ≠ ps.length) : rowOf hs ps (.dct l) = none := if_neg fun z => h z.1
theorem row_bad {hs ps : List (Str × Int)} {l : List (Str × D)} {e : Str × Int} (he : e ∈ ps) (h : plOk hs l e.1 = false) : rowOf hs ps (.dct l) = none := if_neg fun z => by
  have := List.all_eq_true.mp z.2.1 e he
  rw [h] at this
  cases this
theorem paired_mem_mono {α β : Type} {F G : α → β → Prop} : ∀ {l : List α} {m : List β}, (∀ x ∈ l, ∀ y, F x y → G x y) → Paired F l m → Paired G l m
  | _, _, _, .nil => .nil
  | _, _, h, .cons k t => .cons (h _ List.mem_cons_self _ k) (paired_mem_mono (fun x hx => h x (List.mem_cons_of_mem _ hx)) t)
theorem repK_app {K : PySem.W.Frag} {R : Hp} : ∀ {kvs lvs : List (Key × V)} {es fs : List (Str × D)}, RepK K R kvs es → RepK K R lvs fs → RepK K R (kvs ++ lvs) (es ++ fs)
  | _, _, _, _, .nil, r => r
  | _, _, _, _, .cons hx h t, r => .cons hx h (repK_app t r)
theorem repK_drop {K : PySem.W.Frag} {R : Hp} : ∀ (n : Nat) {kvs : List (Key × V)} {es : List (Str × D)}, RepK K R kvs es → RepK K R (kvs.drop n) (es.drop n)
  | 0, _, _, h => h
  | _ + 1, _, _, .nil => .nil
  | n + 1, _, _, .cons _ _ t => repK_drop n t
theorem plK_put0 {hs ps : List (Str × Int)} {row : List Nat} {v : V} (nd : (ps.map Prod.fst).Nodup) (h : 0 < ps.length) : putK (plK hs ps row) (.inr (nmOf ps 0)) v = (.inr (nmOf ps 0), v) :: (plK hs ps row).drop 1 := by
  unfold putK
  have ha : ((plK hs ps row).any fun kv => decide (kv.1 = .inr (nmOf ps 0))) = true := List.any_eq_true.mpr ⟨_, List.mem_of_getElem? (plK_get (hs := hs) (row := row) h), decide_eq_true rfl⟩
  rw [if_pos ha]
  refine List.ext_getElem? fun i => ?_
  rw [List.getElem?_map]
  by_cases hi : i < ps.length
  · rw [plK_get hi]
    show some (if (Sum.inr (nmOf ps i) : Key) = .inr (nmOf ps 0) then _ else _) = _
    cases i with
    | zero =>
      rw [if_pos rfl]
      rfl
    | succ i =>
      rw [if_neg (fun z => by have := nm_inj nd hi h (by injection z); omega), List.getElem?_cons_succ, List.getElem?_drop, show 1 + i = i + 1 from Nat.add_comm 1 i, plK_get hi]
  · rw [List.getElem?_eq_none (by rw [plK_len]; omega), List.getElem?_eq_none (by rw [List.length_cons, List.length_drop, plK_len]; omega)]
    rfl
theorem lost_bad {K : PySem.W.Frag} {R : Hp} {hs ps : List (Str × Int)} {row : List Nat} {l : List (Str × D)} {v : V} (LF : LawFl hs ps row) (h : 0 < ps.length) (hv : v ∈ [V.str "hz", .non, .int 3]) :
    ∃ x, Rep K R v x ∧ rowOf hs ps (.dct ((nmOf ps 0, x) :: l)) = none ∧ Fit 5 x := by
  have look : ∀ x, dlook ((nmOf ps 0, x) :: l) (nmOf ps 0) = some x := fun x => by
    unfold dlook
    rw [List.find?_cons, decide_eq_true rfl]
    rfl
  obtain ⟨e, he, en⟩ : ∃ e ∈ ps, e.1 = nmOf ps 0 := by
    obtain ⟨e, he, e2⟩ := List.mem_map.mp (List.mem_of_getElem? (nmOf_get h))
    exact ⟨e, he, e2⟩
  have bad : ∀ x, (x.name && inHs hs x) = false → rowOf hs ps (.dct ((nmOf ps 0, x) :: l)) = none := fun x hx => by
    refine row_bad he ?_
    rw [en]
    unfold plOk
    rw [look]
    exact hx
  simp only [List.mem_cons, List.not_mem_nil, or_false] at hv
  rcases hv with rfl | rfl | rfl
  · refine ⟨.str "hz", .str _ (by decide +kernel), bad _ ?_, show Str.length "hz" ≤ 1000 by decide +kernel⟩
    have : inHs hs (.str "hz") = false := decide_eq_false fun q => by
      obtain ⟨k, hk⟩ := LF.hn
      rw [hk] at q
      exact hz_not (List.mem_of_mem_take q)
    rw [this, Bool.and_false]
  · exact ⟨.non, .non, bad _ rfl, True.intro⟩
  · exact ⟨.int 3, .int 3, bad _ rfl, True.intro⟩
section
variable {P : Program} {w : World} {K : PySem.W.Frag} {mg : Str → Option Value} {base : Heap}
/-! ### _law_odd_place -/
theorem sc__law_odd_place : FnScope ["box", "fleet", "place", "short", "more", "lost", "some"] ["box", "fleet", "place"] (defScope s__law_odd_place) := ⟨rfl, rfl, rfl, by decide +kernel, rfl, by decide +kernel, by decide +kernel⟩
def OddQ (hs ps : List (Str × Int)) (d : D) : Prop := rowOf hs ps d = none ∧ Fit 8 d
def spOddP (K : PySem.W.Frag) : Sp := fun vs H Q _ => ∃ (R : Hp) (a f ha pa q : Addr) (n : Int) (xs : List V) (hs ps : List (Str × Int)) (row : List Nat), vs = [.ref a, .ref f, .ref q] ∧ BoxAt H a n ∧ n ≤ 100000 ∧ Same R H ∧ Plain R ∧ R a = none ∧ LawFl hs ps row ∧
  FlAt K R f ha pa xs true hs ps ∧ R q = some (.dK (plK hs ps row)) ∧
  ∀ (R' H' : Hp) (v : V) (d : D), BoxAt H' a (n + 2) → But a H H' → Same R R' → Plain R' → Same R' H' → R' a = none → Rep K R' v d → OddQ hs ps d → Q v H'
theorem ok__law_odd_place (T : Txt K mg) (G__law_take : Def P w K mg base 1 "_law_take" ["box", "many"] (spTake K)) : Def P w K mg base 2 "_law_odd_place" ["box", "fleet", "place"] (spOddP K) := by
  obtain ⟨f, fd, F⟩ := T.a__law_odd_place
  refine Def.mk F sc__law_odd_place (fun _ _ _ _ _ _ us hl => match us, hl with | [_, _, _], _ => rfl) (fun vs H Q E h => ?_) (fun cdv A outer s H vs Q E hr h => ?_)
  · obtain ⟨R, a, f, ha, pa, q, n, xs, hs, ps, row, rfl, _⟩ := h
    rfl
  · obtain ⟨R, a, f, ha, pa, q, n, xs, hs, ps, row, rfl, bx, hn, sR, pR, nRa, LF, fR, hRq, hq⟩ := h
    have oh := LF.oh
    have op := LF.op
    have n7 := op.n7
    have nr := LF.ok.n
    have hb := LF.ok.b
    have rk : ∀ {R : Hp}, RepK K R (plK hs ps row) (plD hs ps row) := repK_plK oh op nr hb
    refine ⟨_, (pss_cons (ps_par3 (i := 3) (j := 4) (l := 5) rfl sc__law_odd_place.nd rfl rfl rfl (by decide) (by decide) (by decide) rfl rfl rfl (pa_cons (pe_callTy (kcall_dictP K rfl rfl) (by rfl) T.b_dict (by decide +kernel) (pa_cons (pe_slice (ksl_list K rfl) (LiI.pe_listItems rfl (pv 2) (by rfl) T.b_list (by decide +kernel)) (po_some pe_int) po_none) pa_nil)) (pa_cons (pe_callTy call_dictD (by rfl) T.b_dict (by decide +kernel) (pa_cons (pv 2) pa_nil)) (pa_cons (pe_callTy call_dictD (by rfl) T.b_dict (by decide +kernel) (pa_cons (pv 2) pa_nil)) pa_nil))) (by rfl))
      (pss_cons (ps_dput (hu_of hr) (pv 4) pe_str (pe_ix (kix_tup K rfl) (pe_ix (kix_list K rfl) (pe_ix (kix_tup K rfl) (pv 1) pe_int (fun _ _ => rfl)) pe_int (fun _ _ => rfl)) pe_int (fun _ _ => rfl)) rfl)
      (pss_cons (ps_set (i := 6) sc__law_odd_place.nd rfl (Or.inl rfl) (pe_lst (pa_cons pe_non (pa_cons pe_int (pa_cons (pe_lst pa_nil) (pa_cons (LiI.pe_listItems rfl (pv 2) (by rfl) T.b_list (by decide +kernel)) (pa_cons (pv 4) (pa_cons pe_str pa_nil))))))))
      (C8.pss_cut (ps_if (pt_cmpR (op_neD0 hr.units) (pv 2) pe_dnewK (nomark _)) (pss_cons (ps_dput (hu_of hr) (pv 5) (pe_ix (kix_list K rfl) (pe_callTy (call_listD rfl) (by rfl) T.b_list (by decide +kernel) (pa_cons (pv 2) pa_nil)) pe_int (fun _ _ => rfl)) (pe_ix (kix_list K rfl) (pe_lst (pa_cons pe_str (pa_cons pe_non (pa_cons pe_int pa_nil)))) (pe_d G__law_take (hr.mono (by decide)) (by rfl) (pa_cons (pv 0) (pa_cons pe_int pa_nil))) (fun _ _ => rfl)) rfl)
      (pss_one (ps_set (i := 6) sc__law_odd_place.nd rfl (Or.inl rfl) (pe_op op_cat (pv 6) (pe_lst (pa_cons (pv 3) (pa_cons (pv 5) pa_nil))))))) pss_nil)
      (pss_one (ps_ret (pe_ix (kix_list K rfl) (pv 6) (pe_d G__law_take (hr.mono (by decide)) (by rfl) (pa_cons (pv 0) (pa_cons (pe_callB (kcall_len_seq K rfl) (by rfl) T.b_len (by decide +kernel) (pa_cons (pv 6) pa_nil)) pa_nil))) (fun _ _ => rfl)))))))), ?_⟩
    -- short
    refine ⟨_, rfl, q, _, rfl, sR _ _ hRq, fun H1 p1 ts1 keep1 hp1 hts1 hpt1 hl1 pp1 => ?_⟩
    refine ⟨_, rfl, p1, _, rfl, SqL.of hl1, fun p2 hp2 => ?_⟩
    rw [show (some (1 : Int)) = some ((1 : Nat) : Int) from rfl, cut_right, ← List.map_drop]
    have s2 : Same H1 (upd H1 p2 (.lst ((ts1.drop 1).map V.ref))) := same_new hp2
    have h2 : upd H1 p2 (.lst ((ts1.drop 1).map V.ref)) p2 = some (.lst ((ts1.drop 1).map V.ref)) := upd_same
    generalize upd H1 p2 (.lst ((ts1.drop 1).map V.ref)) = H2 at s2 h2 ⊢
    have s01 : Same H H1 := keep1
    have s02 := s01.trans s2
    have nd1 : ((plK hs ps row).map Prod.fst).Nodup := plK_nd LF.nd
    have em : mergeK [] ((plK hs ps row).drop 1) = (plK hs ps row).drop 1 := by
      have := merge_nodup (kvs := (plK hs ps row).drop 1) (acc := []) (by
        rw [List.nil_append, List.map_drop]
        exact nd1.sublist (List.drop_sublist _ _))
      rw [this, List.nil_append]
    refine ⟨p2, ts1.drop 1, (plK hs ps row).drop 1, rfl, SqL.of h2, paired_mono (fun t kv h => SqT.of (s2 _ _ h)) (paired_drop 1 pp1), fun sh hsh => ?_⟩
    rw [em]
    have s3 : Same H2 (upd H2 sh (.dK ((plK hs ps row).drop 1))) := same_new hsh
    have h3 : upd H2 sh (.dK ((plK hs ps row).drop 1)) sh = some (.dK ((plK hs ps row).drop 1)) := upd_same
    have nsh : sh ≠ a := (bx.same s02).ne hsh
    generalize upd H2 sh (.dK ((plK hs ps row).drop 1)) = H3 at s3 h3 ⊢
    have s03 := s02.trans s3
    have hq3 : H3 q = some (.dK (plK hs ps row)) := s03 _ _ (sR _ _ hRq)
    refine ⟨_, rfl, q, _, rfl, .inl hq3, fun m hm => ?_⟩
    have s4 : Same H3 (upd H3 m (.dK (plK hs ps row))) := same_new hm
    have h4 : upd H3 m (.dK (plK hs ps row)) m = some (.dK (plK hs ps row)) := upd_same
    have nm' : m ≠ a := (bx.same s03).ne hm
    generalize upd H3 m (.dK (plK hs ps row)) = H4 at s4 h4 ⊢
    have s04 := s03.trans s4
    refine ⟨_, rfl, q, _, rfl, .inl (s4 _ _ hq3), fun l hl => ?_⟩
    have s5 : Same H4 (upd H4 l (.dK (plK hs ps row))) := same_new hl
    have h5 : upd H4 l (.dK (plK hs ps row)) l = some (.dK (plK hs ps row)) := upd_same
    have nl : l ≠ a := (bx.same s04).ne hl
    have nlm : l ≠ m := ne_at h4 hl
    generalize upd H4 l (.dK (plK hs ps row)) = H5 at s5 h5 ⊢
    have s05 := s04.trans s5
    have f5 := fR.same (sR.trans s05)
    have big : 1000 ≤ sizeLine := by decide
    have szp : (plK hs ps row).length < sizeLine := by
      rw [plK_len]
      omega
    -- more
    have h0 : 0 < hs.length := oh.n1
    obtain ⟨⟨nm0, ln0⟩, e0⟩ : ∃ e, hs[0]? = some e := ⟨_, List.getElem?_eq_getElem h0⟩
    obtain ⟨c, x1, x2⟩ := f5.h 0 _ e0
    have en0 : nm0 = nmOf hs 0 := by
      unfold nmOf
      rw [List.getD_eq_getElem?_getD, e0]
      rfl
    subst en0
    have a0 : atI xs ((0 : Nat) : Int) = some (.ref c) := atI_nat x1
    refine ⟨_, _, _, rfl, ?_⟩
    refine ⟨_, rfl, f, _, 0, _, rfl, rfl, f5.t, rfl, ha, xs, 0, .ref c, rfl, rfl, f5.s, a0, c, _, 0, _, rfl, rfl, x2, rfl, _, rfl, m, _, rfl, DPut.k (k := .inr "nobody") (s5 _ _ h4) szp, ?_⟩
    have nob : valV (plK hs ps row) (.inr "nobody") = none := valV_none fun z => by
      unfold plK at z
      rw [List.map_map] at z
      obtain ⟨k, hk, e⟩ := List.mem_map.mp z
      have hk2 := List.mem_range.mp hk
      have e2 : nmOf ps k = "nobody" := by injection e
      refine nobody_not ?_
      rw [← e2]
      have := nmOf_get hk2
      obtain ⟨y, hy, e3⟩ := List.mem_map.mp (List.mem_of_getElem? this)
      rw [← e3]
      exact LF.pn y hy
    rw [putK_new _ nob]
    have B5 : But a H H5 := But.of s05
    have b6 : But m H5 (upd H5 m (.dK (plK hs ps row ++ [(.inr "nobody", .str (nmOf hs 0))]))) := But.write
    have h6 : upd H5 m (.dK (plK hs ps row ++ [(.inr "nobody", .str (nmOf hs 0))])) m = some (.dK (plK hs ps row ++ [(.inr "nobody", .str (nmOf hs 0))])) := upd_same
    have nH0m : H m = none := s03.free hm
    have s06 : Same H (upd H5 m (.dK (plK hs ps row ++ [(.inr "nobody", .str (nmOf hs 0))]))) := s05.skip nH0m
    have hl6 : upd H5 m (.dK (plK hs ps row ++ [(.inr "nobody", .str (nmOf hs 0))])) l = some (.dK (plK hs ps row)) := by rw [upd_ne nlm]; exact h5
    have nshm : sh ≠ m := fun e => by
      rw [← e, h3] at hm
      cases hm
    have nshl : sh ≠ l := fun e => by
      rw [← e, s4 _ _ h3] at hl
      cases hl
    have hs6 : upd H5 m (.dK (plK hs ps row ++ [(.inr "nobody", .str (nmOf hs 0))])) sh = some (.dK ((plK hs ps row).drop 1)) := by rw [upd_ne nshm]; exact s5 _ _ (s4 _ _ h3)
    generalize upd H5 m (.dK (plK hs ps row ++ [(.inr "nobody", .str (nmOf hs 0))])) = H6 at h6 s06 hl6 hs6 ⊢
    have sR6 := sR.trans s06
    have bx6 := bx.same s06
    have hq6 : H6 q = some (.dK (plK hs ps row)) := sR6 _ _ hRq
    -- some
    refine ⟨Nat.zero_le _, fun e hE => ?_⟩
    have s7 : Same H6 (upd H6 e (.lst [])) := same_new hE
    have h7 : upd H6 e (.lst []) e = some (.lst []) := upd_same
    have ne : e ≠ a := bx6.ne hE
    generalize upd H6 e (.lst []) = H7 at s7 h7 ⊢
    have sR7 := sR6.trans s7
    have bx7 := bx6.same s7
    refine ⟨_, rfl, q, _, rfl, s7 _ _ hq6, fun H8 p8 ts8 keep8 hp8 hts8 hpt8 hl8 pp8 => ?_⟩
    have s8 : Same H7 H8 := keep8
    have np8 : p8 ≠ a := bx7.ne hp8
    have hl7 := s7 _ _ hl6
    have nRl : R l = none := (sR.trans s04).out hl
    have offs : ∀ {H : Hp} {b : Addr} {o : HO}, Off l (Off a H) b = some o → b ≠ a ∧ b ≠ l ∧ H b = some o := fun {H b o} h => by
      by_cases c : b = l
      · rw [c, off_at] at h
        cases h
      · rw [off_ne c] at h
        by_cases c2 : b = a
        · rw [c2, off_at] at h
          cases h
        · rw [off_ne c2] at h
          exact ⟨c2, c, h⟩
    have off2 : ∀ {H : Hp} {b : Addr}, b ≠ a → b ≠ l → Off l (Off a H) b = H b := fun {H b} h1 h2 => by rw [off_ne h2, off_ne h1]
    have nOff : ∀ {b : Addr}, H7 b = none → Off l (Off a H7) b = none := fun {b} h => by
      cases c : Off l (Off a H7) b with
      | none => rfl
      | some o =>
        have := (offs c).2.2
        rw [h] at this
        cases this
    obtain ⟨R1, r1, r2, r3, r4⟩ := items_rep (K := K) (R := R) (H := Off l (Off a H7)) (H' := Off l (Off a H8)) (kvs := plK hs ps row) (es := plD hs ps row) (p := p8) (ts := ts8) ((sR7.off nRa).off nRl) pR rk
      (fun b o h => by
        obtain ⟨c1, c2, h⟩ := offs h
        rw [off2 c1 c2]
        exact keep8 b o h)
      (nOff hp8) (fun t ht => nOff (hts8 t ht)) (by rw [off2 np8 (ne_at hl7 hp8)]; exact hl8)
      (paired_mem_mono (fun t ht kv h => by
        rw [off2 (bx7.ne (hts8 t ht)) (ne_at hl7 (hts8 t ht))]
        exact h) pp8)
    obtain ⟨r3a, nR1l⟩ := same_off r3
    obtain ⟨r3', nR1⟩ := same_off r3a
    refine ⟨_, rfl, (show 6 ≤ sizeLine by decide), fun S hS => ?_⟩
    have s9 : Same H8 (upd H8 S (.lst [.non, .int 3, .ref e, .ref p8, .ref m, .str "ha"])) := same_new hS
    have h9 : upd H8 S (.lst [.non, .int 3, .ref e, .ref p8, .ref m, .str "ha"]) S = some (.lst [.non, .int 3, .ref e, .ref p8, .ref m, .str "ha"]) := upd_same
    have nS : S ≠ a := (bx7.same s8).ne hS
    generalize upd H8 S (.lst [.non, .int 3, .ref e, .ref p8, .ref m, .str "ha"]) = H9 at s9 h9 ⊢
    have s69 := s7.trans (s8.trans s9)
    have s09 := s06.trans s69
    have bx9 := bx.same s09
    have h69m := s69 _ _ h6
    have h69l := s69 _ _ hl6
    have h69s := s69 _ _ hs6
    obtain ⟨k1, k2, k3⟩ := know r2 (r3'.trans s9) (s9 _ _ (s8 _ _ h7)) (fun _ _ z => nomatch z)
    obtain ⟨k4, k5, k6⟩ := know k2 k3 h69m (fun _ _ z => nomatch z)
    obtain ⟨k7, k8, k9⟩ := know k5 k6 h9 (fun _ _ z => nomatch z)
    have nK : upd (upd (upd R1 e (.lst [])) m (.dK (plK hs ps row ++ [(.inr "nobody", .str (nmOf hs 0))]))) S (.lst [.non, .int 3, .ref e, .ref p8, .ref m, .str "ha"]) a = none := by
      rw [upd_ne (Ne.symm nS), upd_ne (Ne.symm nm'), upd_ne (Ne.symm ne)]
      exact nR1
    have nKl : upd (upd (upd R1 e (.lst [])) m (.dK (plK hs ps row ++ [(.inr "nobody", .str (nmOf hs 0))]))) S (.lst [.non, .int 3, .ref e, .ref p8, .ref m, .str "ha"]) l = none := by
      rw [upd_ne (Ne.symm (ne_at (s8 _ _ hl7) hS)), upd_ne nlm, upd_ne (Ne.symm (ne_at hl6 hE))]
      exact nR1l
    have rp8 := (r4.same k1).same (k4.trans k7)
    have he9 : upd (upd (upd R1 e (.lst [])) m (.dK (plK hs ps row ++ [(.inr "nobody", .str (nmOf hs 0))]))) S (.lst [.non, .int 3, .ref e, .ref p8, .ref m, .str "ha"]) e = some (.lst []) := k7 _ _ (k4 _ _ upd_same)
    have hm9 : upd (upd (upd R1 e (.lst [])) m (.dK (plK hs ps row ++ [(.inr "nobody", .str (nmOf hs 0))]))) S (.lst [.non, .int 3, .ref e, .ref p8, .ref m, .str "ha"]) m = some (.dK (plK hs ps row ++ [(.inr "nobody", .str (nmOf hs 0))])) := k7 _ _ upd_same
    have hS9 : upd (upd (upd R1 e (.lst [])) m (.dK (plK hs ps row ++ [(.inr "nobody", .str (nmOf hs 0))]))) S (.lst [.non, .int 3, .ref e, .ref p8, .ref m, .str "ha"]) S = some (.lst [.non, .int 3, .ref e, .ref p8, .ref m, .str "ha"]) := upd_same
    have sRK := (r1.trans k1).trans (k4.trans k7)
    generalize upd (upd (upd R1 e (.lst [])) m (.dK (plK hs ps row ++ [(.inr "nobody", .str (nmOf hs 0))]))) S (.lst [.non, .int 3, .ref e, .ref p8, .ref m, .str "ha"]) = RK at k8 k9 nK nKl rp8 he9 hm9 hS9 sRK
    have nm0s : (nmOf hs 0).length ≤ sizeLine := nm_size oh.nm h0
    have rm : RepK K RK (plK hs ps row ++ [(.inr "nobody", .str (nmOf hs 0))]) (plD hs ps row ++ [(("nobody" : Str), D.str (nmOf hs 0))]) := repK_app rk (.cons (by decide +kernel) (.str _ nm0s) .nil)
    have reps : Reps K RK [.non, .int 3, .ref e, .ref p8, .ref m, .str "ha"] [.non, .int 3, .lst [], .lst ((plD hs ps row).map pairD), .dct (plD hs ps row ++ [(("nobody" : Str), D.str (nmOf hs 0))]), .str "ha"] :=
      .cons .non (.cons (.int 3) (.cons (.lst (SqL.of he9) .nil) (.cons rp8 (.cons (.dct (.inl hm9) rm) (.cons (.str _ (by decide +kernel)) .nil)))))
    have odd : ∀ d ∈ [D.non, .int 3, .lst [], .lst ((plD hs ps row).map pairD), .dct (plD hs ps row ++ [(("nobody" : Str), D.str (nmOf hs 0))]), .str "ha"], OddQ hs ps d := by
      intro d hd
      simp only [List.mem_cons, List.not_mem_nil, or_false] at hd
      rcases hd with rfl | rfl | rfl | rfl | rfl | rfl
      · exact ⟨rfl, True.intro⟩
      · exact ⟨rfl, True.intro⟩
      · exact ⟨rfl, Nat.zero_le _, all_nil⟩
      · refine ⟨rfl, by rw [List.length_map, plD_len]; omega, fun e he => ?_⟩
        obtain ⟨x, hx, rfl⟩ := List.mem_map.mp he
        exact fit_plD (n := 5) oh op nr hb x hx
      · refine ⟨row_len (by rw [List.length_append, plD_len]; show ps.length + 1 ≠ _; omega), fit_dct (fun x hx => ?_) (by rw [List.length_append, plD_len]; show ps.length + 1 ≤ _; omega)⟩
        rcases List.mem_append.mp hx with h | h
        · exact fit_plD oh op nr hb x h
        · rw [List.mem_singleton.mp h]
          exact ⟨Nat.le_of_ble_eq_true rfl, all_cons (show Str.length "nobody" ≤ 1000 by decide +kernel) (all_cons (nm_th (nm_ok oh.nm h0)) all_nil)⟩
      · exact ⟨rfl, show Str.length "ha" ≤ 1000 by decide +kernel⟩
    refine ⟨fun σ H' => ∃ (S : Addr) (vs : List V) (ds : List D) (R' : Hp), σ = [some (.ref a), some (.ref f), some (.ref q), some (.ref sh), some (.ref m), some (.ref l), some (.ref S)] ∧ BoxAt H' a (n + 1) ∧ But a H H' ∧ Same R R' ∧ Plain R' ∧ Same R' H' ∧ R' a = none ∧ R' S = some (.lst vs) ∧ Reps K R' vs ds ∧ (∀ d ∈ ds, OddQ hs ps d) ∧ 1 ≤ ds.length ∧ ds.length ≤ 100, ?_, ?_⟩
    · refine ⟨_, rfl, fun z hz => ⟨q, z, _, rfl, rfl, same_new hz _ _ (s69 _ _ hq6), upd_same, _, rfl, ?_⟩⟩
      have s10 : Same H9 (upd H9 z (.dK [])) := same_new hz
      generalize upd H9 z (.dK []) = H10 at s10 ⊢
      have bx10 := bx9.same s10
      have k10 := k9.trans s10
      cases ep : (plK hs ps row).isEmpty with
      | true => exact iteF ⟨S, _, _, RK, rfl, bx10.mono (by omega), But.of (s09.trans s10), sRK, k8, k10, nK, hS9, reps, odd, (Nat.le_of_ble_eq_true rfl), (Nat.le_of_ble_eq_true rfl)⟩
      | false =>
        refine iteT ?_
        have p0 : 0 < ps.length := by
          cases c : ps with
          | nil =>
            rw [c] at ep
            cases ep
          | cons _ _ => exact Nat.succ_pos _
        have h10l := s10 _ _ h69l
        have h10s := s10 _ _ h69s
        have h10q := s10 _ _ (s69 _ _ hq6)
        refine ⟨(show 3 ≤ sizeLine by decide), fun g hg => ?_⟩
        have s11 : Same H10 (upd H10 g (.lst [.str "hz", .non, .int 3])) := same_new hg
        have h11 : upd H10 g (.lst [.str "hz", .non, .int 3]) g = some (.lst [.str "hz", .non, .int 3]) := upd_same
        have ng : g ≠ a := bx10.ne hg
        generalize upd H10 g (.lst [.str "hz", .non, .int 3]) = H11 at s11 h11 ⊢
        refine ⟨_, rfl, a, _, 3, rfl, bx10.same s11, by omega, by omega, by omega, fun r H12 r0 r1' bx12 b12 => ?_⟩
        have k12 : Same RK H12 := b12.same nK (k10.trans s11)
        have B12 : But a H H12 := (But.of (s09.trans (s10.trans s11))).trans b12
        have h12l := b12 _ _ nl (s11 _ _ h10l)
        have h12s := b12 _ _ nsh (s11 _ _ h10s)
        have nqa : q ≠ a := fun e => by
          rw [e, nRa] at hRq
          cases hRq
        have h12q := b12 _ _ nqa (s11 _ _ h10q)
        obtain ⟨v, ev, hv⟩ := atI_lt (xs := [V.str "hz", .non, .int 3]) r0 r1'
        refine ⟨g, _, r, v, rfl, rfl, SqL.of (b12 _ _ ng h11), ev, _, rfl, _, rfl, q, _, rfl, .inl h12q, fun w hw => ?_⟩
        have s13 : Same H12 (upd H12 w (.lst ((plK hs ps row).map fun kv => kV kv.1))) := same_new hw
        have h13 : upd H12 w (.lst ((plK hs ps row).map fun kv => kV kv.1)) w = some (.lst ((plK hs ps row).map fun kv => kV kv.1)) := upd_same
        have nw : w ≠ a := bx12.ne hw
        generalize upd H12 w (.lst ((plK hs ps row).map fun kv => kV kv.1)) = H13 at s13 h13 ⊢
        have a0' : atI ((plK hs ps row).map fun kv => kV kv.1) ((0 : Nat) : Int) = some (.str (nmOf ps 0)) := atI_nat (by rw [List.getElem?_map, plK_get p0]; rfl)
        refine ⟨w, _, 0, _, rfl, rfl, SqL.of h13, a0', l, _, rfl, DPut.k (k := .inr (nmOf ps 0)) (s13 _ _ h12l) szp, ?_⟩
        rw [plK_put0 LF.nd p0]
        have b14 : But l H13 (upd H13 l (.dK ((.inr (nmOf ps 0), v) :: (plK hs ps row).drop 1))) := But.write
        have h14 : upd H13 l (.dK ((.inr (nmOf ps 0), v) :: (plK hs ps row).drop 1)) l = some (.dK ((.inr (nmOf ps 0), v) :: (plK hs ps row).drop 1)) := upd_same
        generalize upd H13 l (.dK ((.inr (nmOf ps 0), v) :: (plK hs ps row).drop 1)) = H14 at b14 h14 ⊢
        have k14 : Same RK H14 := b14.same nKl (k12.trans s13)
        have bx14 : BoxAt H14 a (n + 1) := (bx12.same s13).but b14 (Ne.symm nl)
        have B14 : But a H H14 := fun b o nb e => b14 b o (fun c => by
          rw [c, s04.free hl] at e
          cases e) (s13 _ _ (B12 b o nb e))
        have h14s := b14 _ _ nshl (s13 _ _ h12s)
        refine ⟨_, rfl, _, rfl, _, rfl, (show 2 ≤ sizeLine by decide), fun u hu => ?_⟩
        have s15 : Same H14 (upd H14 u (.lst [.ref sh, .ref l])) := same_new hu
        have h15 : upd H14 u (.lst [.ref sh, .ref l]) u = some (.lst [.ref sh, .ref l]) := upd_same
        generalize upd H14 u (.lst [.ref sh, .ref l]) = H15 at s15 h15 ⊢
        refine ⟨S, u, _, _, rfl, rfl, s15 _ _ (k14 _ _ hS9), h15, (show 6 + 2 ≤ sizeLine by decide), fun S2 hS2 => ?_⟩
        have s16 : Same H15 (upd H15 S2 (.lst ([.non, .int 3, .ref e, .ref p8, .ref m, .str "ha"] ++ [.ref sh, .ref l]))) := same_new hS2
        have h16 : upd H15 S2 (.lst ([.non, .int 3, .ref e, .ref p8, .ref m, .str "ha"] ++ [.ref sh, .ref l])) S2 = some (.lst ([.non, .int 3, .ref e, .ref p8, .ref m, .str "ha"] ++ [.ref sh, .ref l])) := upd_same
        have nS2 : S2 ≠ a := (bx14.same s15).ne hS2
        generalize upd H15 S2 (.lst ([.non, .int 3, .ref e, .ref p8, .ref m, .str "ha"] ++ [.ref sh, .ref l])) = H16 at s16 h16 ⊢
        have s46 := s15.trans s16
        obtain ⟨y1, y2, y3⟩ := know k8 (k14.trans s46) (s46 _ _ h14s) (fun _ _ z => nomatch z)
        obtain ⟨y4, y5, y6⟩ := know y2 y3 (s46 _ _ h14) (fun _ _ z => nomatch z)
        obtain ⟨y7, y8, y9⟩ := know y5 y6 h16 (fun _ _ z => nomatch z)
        have nY : upd (upd (upd RK sh (.dK ((plK hs ps row).drop 1))) l (.dK ((.inr (nmOf ps 0), v) :: (plK hs ps row).drop 1))) S2 (.lst ([.non, .int 3, .ref e, .ref p8, .ref m, .str "ha"] ++ [.ref sh, .ref l])) a = none := by
          rw [upd_ne (Ne.symm nS2), upd_ne (Ne.symm nl), upd_ne (Ne.symm nsh)]
          exact nK
        have hshY : upd (upd (upd RK sh (.dK ((plK hs ps row).drop 1))) l (.dK ((.inr (nmOf ps 0), v) :: (plK hs ps row).drop 1))) S2 (.lst ([.non, .int 3, .ref e, .ref p8, .ref m, .str "ha"] ++ [.ref sh, .ref l])) sh = some (.dK ((plK hs ps row).drop 1)) := y7 _ _ (y4 _ _ upd_same)
        have hlY : upd (upd (upd RK sh (.dK ((plK hs ps row).drop 1))) l (.dK ((.inr (nmOf ps 0), v) :: (plK hs ps row).drop 1))) S2 (.lst ([.non, .int 3, .ref e, .ref p8, .ref m, .str "ha"] ++ [.ref sh, .ref l])) l = some (.dK ((.inr (nmOf ps 0), v) :: (plK hs ps row).drop 1)) := y7 _ _ upd_same
        have hS2Y : upd (upd (upd RK sh (.dK ((plK hs ps row).drop 1))) l (.dK ((.inr (nmOf ps 0), v) :: (plK hs ps row).drop 1))) S2 (.lst ([.non, .int 3, .ref e, .ref p8, .ref m, .str "ha"] ++ [.ref sh, .ref l])) S2 = some (.lst ([.non, .int 3, .ref e, .ref p8, .ref m, .str "ha"] ++ [.ref sh, .ref l])) := upd_same
        have repsY := reps.same (y1.trans (y4.trans y7))
        have sRY := sRK.trans (y1.trans (y4.trans y7))
        generalize upd (upd (upd RK sh (.dK ((plK hs ps row).drop 1))) l (.dK ((.inr (nmOf ps 0), v) :: (plK hs ps row).drop 1))) S2 (.lst ([.non, .int 3, .ref e, .ref p8, .ref m, .str "ha"] ++ [.ref sh, .ref l])) = RY at y8 y9 nY hshY hlY hS2Y repsY sRY
        obtain ⟨x, rx, bad, ft⟩ := lost_bad (K := K) (R := RY) (l := (plD hs ps row).drop 1) LF p0 hv
        have rkd : RepK K RY ((plK hs ps row).drop 1) ((plD hs ps row).drop 1) := repK_drop 1 rk
        have rl : RepK K RY ((.inr (nmOf ps 0), v) :: (plK hs ps row).drop 1) ((nmOf ps 0, x) :: (plD hs ps row).drop 1) := .cons (nm_size op.nm p0) rx rkd
        refine ⟨S2, _, _, RY, rfl, bx14.same s46, B14.trans (But.of s46), sRY, y8, y9, nY, hS2Y, reps_app repsY (.cons (.dct (.inl hshY) rkd) (.cons (.dct (.inl hlY) rl) .nil)), fun d hd => ?_, (Nat.le_of_ble_eq_true rfl), (Nat.le_of_ble_eq_true rfl)⟩
        rcases List.mem_append.mp hd with h | h
        · exact odd d h
        · have fd : ∀ y ∈ (plD hs ps row).drop 1, Fit 6 (pairD y) := fun y hy => fit_plD (n := 4) oh op nr hb y (List.mem_of_mem_drop hy)
          rcases List.mem_cons.mp h with rfl | h
          · exact ⟨row_len (by rw [List.length_drop, plD_len]; omega), fit_dct (n := 4) fd (by rw [List.length_drop, plD_len]; omega)⟩
          · rw [List.mem_singleton.mp h]
            refine ⟨bad, fit_dct (n := 4) (fun y hy => ?_) (by rw [List.length_cons, List.length_drop, plD_len]; omega)⟩
            rcases List.mem_cons.mp hy with rfl | hy
            · exact ⟨Nat.le_of_ble_eq_true rfl, all_cons (nm_th (nm_ok op.nm p0)) (all_cons ft all_nil)⟩
            · exact fd y hy
    · rintro σ H' ⟨S, vs, ds, R', rfl, bxe, Be, z1, z2, z3, z4, z5, z6, z7, z8, z9⟩
      have lv := z6.len
      refine ⟨_, rfl, _, rfl, _, rfl, S, _, rfl, .inl (SqL.of (z3 _ _ z5)), a, _, _, rfl, bxe, by omega, by omega, by omega, fun r He r0 r1' bxf bf => ?_⟩
      have sE : Same R' He := bf.same z4 z3
      obtain ⟨d, hd⟩ : ∃ d, ds[r.toNat]? = some d := ⟨_, List.getElem?_eq_getElem (by omega)⟩
      obtain ⟨v, hv, rv⟩ := z6.at hd
      have e := atI_nat hv
      rw [show ((r.toNat : Nat) : Int) = r by omega] at e
      exact ⟨S, _, r, v, rfl, rfl, SqL.of (sE _ _ z5), e, hq R' He v d (bxf.mono (by omega)) (Be.trans bf) z1 z2 sE z4 rv (z7 d (List.mem_of_getElem? hd))⟩
end
end K89

set_option Elab.async false
set_option linter.all false
set_option maxRecDepth 100000
set_option maxHeartbeats 1000000
namespace K89
open PySem PySem.Spec PyProof.Rows L2 RP
/-! moves one after the other -/
def mvD (hs ps : List (Str × Int)) (m : Nat × Nat × List Nat) : D := .tup [.str (nmOf ps m.1), .str (nmOf hs m.2.1)]
section
variable {hs ps : List (Str × Int)} {row : List Nat}
theorem step_of (hnd : (hs.map Prod.fst).Nodup) (pnd : (ps.map Prod.fst).Nodup) {m : Nat × Nat × List Nat} (h : m ∈ movesR hs ps row) : ∃ rest, stepL hs ps row (mvD hs ps m) = m.2.2 :: rest := by
  obtain ⟨a1, a2, a3, a4, a5⟩ := movesR_mem.mp h
  have all : ∀ r ∈ stepL hs ps row (mvD hs ps m), r = m.2.2 := fun r hr => by
    obtain ⟨m', hm, e⟩ := List.mem_filterMap.mp hr
    split at e
    · next c =>
      cases e
      obtain ⟨b1, b2, b3, b4, b5⟩ := movesR_mem.mp hm
      have c2 : some (nmOf ps m.1, nmOf hs m.2.1) = some (nmOf ps m'.1, nmOf hs m'.2.1) := of_decide_eq_true c
      have c3 := Prod.mk.inj (Option.some.inj c2)
      have e1 := nm_inj pnd a1 b1 c3.1
      have e2 := nm_inj hnd a2 b2 c3.2
      rw [b3, a3, e1, e2]
    · cases e
  have mem : m.2.2 ∈ stepL hs ps row (mvD hs ps m) := List.mem_filterMap.mpr ⟨m, h, if_pos (decide_eq_true rfl)⟩
  cases c : stepL hs ps row (mvD hs ps m) with
  | nil =>
    rw [c] at mem
    cases mem
  | cons x r =>
    have := all x (by rw [c]; exact List.mem_cons_self)
    exact ⟨r, by rw [this]⟩
theorem runM_cons {d : D} {ds : List D} {n : Nat} : runM hs ps row n (d :: ds) = match stepL hs ps row d with
    | [] => .inl n
    | r :: _ => runM hs ps r (n + 1) ds := by
  rfl
theorem runM_app : ∀ (ds es : List D) (row : List Nat) (n : Nat), runM hs ps row n (ds ++ es) = match runM hs ps row n ds with
    | .inl k => .inl k
    | .inr r => runM hs ps r (n + ds.length) es
  | [], es, row, n => rfl
  | d :: ds, es, row, n => by
    rw [List.cons_append, runM_cons, runM_cons]
    cases c : stepL hs ps row d with
    | nil => rfl
    | cons r rest =>
      show runM hs ps r (n + 1) (ds ++ es) = match runM hs ps r (n + 1) ds with
        | .inl k => .inl k
        | .inr r => runM hs ps r (n + (ds.length + 1)) es
      rw [runM_app ds es r (n + 1), show n + (ds.length + 1) = n + 1 + ds.length from by omega]
theorem run_snoc (hnd : (hs.map Prod.fst).Nodup) (pnd : (ps.map Prod.fst).Nodup) {ds : List D} {row2 : List Nat} {m : Nat × Nat × List Nat} (h : runM hs ps row 0 ds = .inr row2) (hm : m ∈ movesR hs ps row2) : runM hs ps row 0 (ds ++ [mvD hs ps m]) = .inr m.2.2 := by
  rw [runM_app, h]
  obtain ⟨rest, e⟩ := step_of hnd pnd hm
  show runM hs ps row2 _ [mvD hs ps m] = _
  unfold runM
  rw [e]
  rfl
theorem run_wrong {ds es : List D} {row2 : List Nat} {d : D} (h : runM hs ps row 0 (ds ++ es) = .inr row2) (hd : ∀ r, stepL hs ps r d = []) : runM hs ps row 0 (ds ++ [d] ++ es) = .inl ds.length := by
  rw [runM_app] at h
  rw [List.append_assoc, runM_app]
  cases c : runM hs ps row 0 ds with
  | inl k =>
    rw [c] at h
    cases h
  | inr r =>
    show runM hs ps r (0 + ds.length) (d :: es) = _
    unfold runM
    rw [hd r, Nat.zero_add]
theorem step_none {d : D} (h : ∀ m ∈ movesR hs ps row, d.two ≠ some (nmOf ps m.1, nmOf hs m.2.1)) : stepL hs ps row d = [] := by
  cases c : stepL hs ps row d with
  | nil => rfl
  | cons x r =>
    have hx : x ∈ stepL hs ps row d := by rw [c]; exact List.mem_cons_self
    obtain ⟨m, hm, e⟩ := List.mem_filterMap.mp hx
    split at e
    · next q => exact absurd (of_decide_eq_true q) (h m hm)
    · cases e
theorem run_stay (pnd : (ps.map Prod.fst).Nodup) (hnd : (hs.map Prod.fst).Nodup) (p0 : 0 < ps.length) (hr : row.getD 0 0 < hs.length) : runM hs ps row 0 [.tup [.str (nmOf ps 0), .str (nmOf hs (row.getD 0 0))]] = .inl 0 := by
  have e : stepL hs ps row (.tup [.str (nmOf ps 0), .str (nmOf hs (row.getD 0 0))]) = [] := step_none fun m hm q => by
    obtain ⟨a1, a2, a3, a4, a5⟩ := movesR_mem.mp hm
    have c3 := Prod.mk.inj (Option.some.inj q)
    have e1 := nm_inj pnd p0 a1 c3.1
    have e2 := nm_inj hnd hr a2 c3.2
    rw [← e1, ← e2] at a4
    exact a4 rfl
  unfold runM
  rw [e]
/-- values that are no move -/
def wrongD : List D := [.non, .int 3, .tup [.str "nobody", .str "ha"], .lst [], .tup [.str "a", .str "hz"], .tup [.str "a"], .str "a"]
theorem wrong_step {row0 : List Nat} (LF : LawFl hs ps row0) {d : D} (hd : d ∈ wrongD) (r : List Nat) : stepL hs ps r d = [] := by
  refine step_none fun m hm q => ?_
  obtain ⟨a1, a2, a3, a4, a5⟩ := movesR_mem.mp hm
  have g1 : nmOf ps m.1 ∈ seven := by
    obtain ⟨e, he, e2⟩ := List.mem_map.mp (List.mem_of_getElem? (nmOf_get a1))
    rw [← e2]
    exact LF.pn e he
  have g2 : nmOf hs m.2.1 ∈ three := by
    obtain ⟨k, hk⟩ := LF.hn
    have := List.mem_of_getElem? (nmOf_get a2)
    rw [hk] at this
    exact List.mem_of_mem_take this
  simp only [wrongD, List.mem_cons, List.not_mem_nil, or_false] at hd
  rcases hd with rfl | rfl | rfl | rfl | rfl | rfl | rfl
  · cases q
  · cases q
  · have c3 := Prod.mk.inj (Option.some.inj q)
    rw [← c3.1] at g1
    exact nobody_not g1
  · cases q
  · have c3 := Prod.mk.inj (Option.some.inj q)
    rw [← c3.2] at g2
    exact hz_not g2
  · cases q
  · cases q
/-- the law's placement has its row -/
theorem rowOf_plD (LF : LawFl hs ps row) : rowOf hs ps (.dct (plD hs ps row)) = some row := by
  have look : ∀ {k : Nat}, k < ps.length → dlook (plD hs ps row) (nmOf ps k) = some (.str (nmOf hs (row.getD k 0))) := fun {k} hk => by
    unfold dlook
    have hm : (nmOf ps k, D.str (nmOf hs (row.getD k 0))) ∈ plD hs ps row := List.mem_map.mpr ⟨k, List.mem_range.mpr hk, rfl⟩
    cases c : (plD hs ps row).find? fun e => decide (e.1 = nmOf ps k) with
    | none =>
      have := List.find?_eq_none.mp c _ hm
      exact absurd (decide_eq_true rfl) this
    | some e =>
      have h1 := List.find?_some c
      have h2 := List.mem_of_find?_eq_some c
      obtain ⟨j, hj, rfl⟩ := List.mem_map.mp h2
      have h3 := nm_inj LF.nd (List.mem_range.mp hj) hk (of_decide_eq_true h1)
      rw [h3]
      rfl
  have nr := LF.ok.n
  have at_ : ∀ {k : Nat}, k < ps.length → row.getD k 0 < hs.length := fun {k} hk => by
    rw [List.getD_eq_getElem?_getD, List.getElem?_eq_getElem (by omega)]
    exact LF.ok.b _ (List.getElem_mem (by omega))
  have ix : ∀ {k : Nat}, k < ps.length → plIx hs (plD hs ps row) (nmOf ps k) = row.getD k 0 := fun {k} hk => by
    unfold plIx
    rw [look hk]
    exact ixS_of LF.oh.nd (nmOf_get (at_ hk))
  have e1 : (ps.all fun e => plOk hs (plD hs ps row) e.1) = true := List.all_eq_true.mpr fun e he => by
    obtain ⟨k, hk⟩ := List.mem_iff_getElem?.mp he
    have hk2 : k < ps.length := (List.getElem?_eq_some_iff.mp hk).1
    have en : e.1 = nmOf ps k := by
      unfold nmOf
      rw [List.getD_eq_getElem?_getD, hk]
      rfl
    unfold plOk
    rw [en, look hk2]
    show (okName (nmOf hs (row.getD k 0)) && decide (nmOf hs (row.getD k 0) ∈ hs.map Prod.fst)) = true
    rw [nm_ok LF.oh.nm (at_ hk2), decide_eq_true (List.mem_of_getElem? (nmOf_get (at_ hk2)))]
    rfl
  have e2 : rowL hs ps (plD hs ps row) = row := by
    refine List.ext_getElem? fun k => ?_
    unfold rowL
    rw [List.getElem?_map]
    by_cases hk : k < ps.length
    · have en : (ps[k]'hk).1 = nmOf ps k := by
        unfold nmOf
        rw [List.getD_eq_getElem?_getD, List.getElem?_eq_getElem hk]
        rfl
      rw [List.getElem?_eq_getElem hk]
      show some (plIx hs (plD hs ps row) (ps[k]'hk).1) = _
      rw [en, ix hk, List.getD_eq_getElem?_getD, List.getElem?_eq_getElem (by omega)]
      rfl
    · rw [List.getElem?_eq_none (by omega), List.getElem?_eq_none (by omega)]
      rfl
  have e3 : (plD hs ps row).length = ps.length := plD_len hs ps row
  show (if (plD hs ps row).length = ps.length ∧ (ps.all fun e => plOk hs (plD hs ps row) e.1) = true ∧ fitsB hs ps (rowL hs ps (plD hs ps row)) = true then some (rowL hs ps (plD hs ps row)) else none) = some row
  rw [e2, if_pos ⟨e3, e1, LF.ok.f⟩]
end
end K89

set_option Elab.async false
set_option linter.all false
set_option maxRecDepth 100000
set_option maxHeartbeats 1000000
namespace K89
open PySem PySem.Spec PyProof.Rows L2 RP
/-! a house just full -/
def hsF (len : Int) : List (Str × Int) := [("ha", len), ("hb", 60)]
def psT (len : Int) : List (Str × Int) := [("a", len - 1), ("b", 1), ("c", 1)]
def psM : List (Str × Int) := [("a", 0), ("b", 0), ("c", 0), ("d", 0), ("e", 0), ("f", 0), ("g", 0)]
def plT (c : Str) : List (Str × D) := [("a", .str "ha"), ("b", .str "ha"), ("c", .str c)]
def plM (c : Str) : List (Str × D) := [("a", .str "ha"), ("b", .str "ha"), ("c", .str "ha"), ("d", .str "ha"), ("e", .str "ha"), ("f", .str "ha"), ("g", .str c)]
theorem hsF_ok {len : Int} (h : 4 ≤ len ∧ len ≤ 60) : HsOk (hsF len) := by
  refine ⟨Nat.le_of_ble_eq_true rfl, Nat.le_of_ble_eq_true rfl, fun e he => ?_, fun e he => ?_, ?_⟩
  · rcases List.mem_cons.mp he with rfl | he
    · show okName "ha" = true
      decide +kernel
    · rw [List.mem_singleton.mp he]
      show okName "hb" = true
      decide +kernel
  · rcases List.mem_cons.mp he with rfl | he
    · exact h
    · rw [List.mem_singleton.mp he]
      exact ⟨by decide, by decide⟩
  · show (["ha", "hb"] : List Str).Nodup
    decide +kernel
theorem psT_ok {len : Int} (h : 4 ≤ len ∧ len ≤ 60) : PsOk (psT len) := by
  refine ⟨Nat.le_of_ble_eq_true rfl, fun e he => ?_, fun e he => ?_⟩
  · have hm : e.1 ∈ (["a", "b", "c"] : List Str) := List.mem_map_of_mem (f := Prod.fst) he
    exact (by decide +kernel : ∀ z ∈ (["a", "b", "c"] : List Str), okName z = true) _ hm
  · rcases List.mem_cons.mp he with rfl | he
    · show 0 ≤ len - 1 ∧ len - 1 ≤ 60
      omega
    · rcases List.mem_cons.mp he with rfl | he
      · exact ⟨by decide, by decide⟩
      · rw [List.mem_singleton.mp he]
        exact ⟨by decide, by decide⟩
theorem psM_ok : PsOk psM := ⟨Nat.le_of_ble_eq_true rfl, by decide +kernel, by decide +kernel⟩
def inN (ns : List Str) : D → Bool
  | .str z => decide (z ∈ ns)
  | _ => false
def plOkN (ns : List Str) (l : List (Str × D)) (g : Str) : Bool := match dlook l g with
  | some d => d.name && inN ns d
  | none => false
def plIxN (ns : List Str) (l : List (Str × D)) (g : Str) : Nat := match dlook l g with
  | some (.str z) => ixS ns z
  | _ => 0
theorem plOk_N (hs : List (Str × Int)) (l : List (Str × D)) (g : Str) : plOk hs l g = plOkN (hs.map Prod.fst) l g := by
  unfold plOk plOkN
  cases dlook l g with
  | none => rfl
  | some d => cases d <;> rfl
theorem plIx_N (hs : List (Str × Int)) (l : List (Str × D)) (g : Str) : plIx hs l g = plIxN (hs.map Prod.fst) l g := rfl
theorem row_isSome {hs ps : List (Str × Int)} {l : List (Str × D)} {row : List Nat} (h1 : l.length = ps.length) (h2 : (ps.map Prod.fst).all (plOkN (hs.map Prod.fst) l) = true) (h3 : (ps.map Prod.fst).map (plIxN (hs.map Prod.fst) l) = row) :
    (rowOf hs ps (.dct l)).isSome = fitsB hs ps row := by
  have e1 : (ps.all fun e => plOk hs l e.1) = true := by
    rw [List.all_map] at h2
    rw [← h2]
    refine congrArg (fun f => ps.all f) ?_
    funext e
    exact plOk_N hs l e.1
  have e2 : rowL hs ps l = row := by
    rw [← h3, List.map_map]
    rfl
  show (if l.length = ps.length ∧ (ps.all fun e => plOk hs l e.1) = true ∧ fitsB hs ps (rowL hs ps l) = true then some (rowL hs ps l) else none).isSome = _
  rw [e2]
  cases c : fitsB hs ps row with
  | true => rw [if_pos ⟨h1, e1, rfl⟩]; rfl
  | false => rw [if_neg (fun z => nomatch z.2.2)]; rfl
theorem fits_two {hs ps : List (Str × Int)} {row : List Nat} (h : hs.length = 2) : fitsB hs ps row = (fit1 hs ps row 0 && fit1 hs ps row 1) := by
  unfold fitsB
  rw [h]
  show (fit1 hs ps row 0 && (fit1 hs ps row 1 && true)) = _
  rw [Bool.and_true]
section
variable {len : Int}
theorem full1 (h : 4 ≤ len ∧ len ≤ 60) : (rowOf (hsF len) (psT len) (.dct (plT "hb"))).isSome = true := by
  rw [row_isSome (hs := hsF len) (ps := psT len) (l := plT "hb") (row := [0, 0, 1]) rfl (show (["a", "b", "c"] : List Str).all (plOkN ["ha", "hb"] (plT "hb")) = true by decide +kernel) (show (["a", "b", "c"] : List Str).map (plIxN ["ha", "hb"] (plT "hb")) = [0, 0, 1] by decide +kernel), fits_two rfl]
  have a1 : fit1 (hsF len) (psT len) [0, 0, 1] 0 = true := by
    show (decide (2 ≤ 6) && decide ((len - 1) + (1 + 0) ≤ len)) = true
    rw [decide_eq_true (by omega : (len - 1) + (1 + 0) ≤ len)]
    rfl
  have a2 : fit1 (hsF len) (psT len) [0, 0, 1] 1 = true := rfl
  rw [a1, a2]
  rfl
theorem full2 (h : 4 ≤ len ∧ len ≤ 60) : (rowOf (hsF len) (psT len) (.dct (plT "ha"))).isSome = false := by
  rw [row_isSome (hs := hsF len) (ps := psT len) (l := plT "ha") (row := [0, 0, 0]) rfl (show (["a", "b", "c"] : List Str).all (plOkN ["ha", "hb"] (plT "ha")) = true by decide +kernel) (show (["a", "b", "c"] : List Str).map (plIxN ["ha", "hb"] (plT "ha")) = [0, 0, 0] by decide +kernel), fits_two rfl]
  have a1 : fit1 (hsF len) (psT len) [0, 0, 0] 0 = false := by
    show (decide (3 ≤ 6) && decide ((len - 1) + (1 + (1 + 0)) ≤ len)) = false
    rw [decide_eq_false (by omega : ¬ (len - 1) + (1 + (1 + 0)) ≤ len)]
    rfl
  rw [a1]
  rfl
theorem full3 (h : 4 ≤ len ∧ len ≤ 60) : (rowOf (hsF len) psM (.dct (plM "hb"))).isSome = true := by
  rw [row_isSome (hs := hsF len) (ps := psM) (l := plM "hb") (row := [0, 0, 0, 0, 0, 0, 1]) rfl (show (["a", "b", "c", "d", "e", "f", "g"] : List Str).all (plOkN ["ha", "hb"] (plM "hb")) = true by decide +kernel) (show (["a", "b", "c", "d", "e", "f", "g"] : List Str).map (plIxN ["ha", "hb"] (plM "hb")) = [0, 0, 0, 0, 0, 0, 1] by decide +kernel), fits_two rfl]
  have a1 : fit1 (hsF len) psM [0, 0, 0, 0, 0, 0, 1] 0 = true := by
    show (decide (6 ≤ 6) && decide ((0 : Int) ≤ len)) = true
    rw [decide_eq_true (by omega : (0 : Int) ≤ len)]
    rfl
  have a2 : fit1 (hsF len) psM [0, 0, 0, 0, 0, 0, 1] 1 = true := rfl
  rw [a1, a2]
  rfl
theorem full4 : (rowOf (hsF len) psM (.dct (plM "ha"))).isSome = false := by
  rw [row_isSome (hs := hsF len) (ps := psM) (l := plM "ha") (row := [0, 0, 0, 0, 0, 0, 0]) rfl (show (["a", "b", "c", "d", "e", "f", "g"] : List Str).all (plOkN ["ha", "hb"] (plM "ha")) = true by decide +kernel) (show (["a", "b", "c", "d", "e", "f", "g"] : List Str).map (plIxN ["ha", "hb"] (plM "ha")) = [0, 0, 0, 0, 0, 0, 0] by decide +kernel), fits_two rfl]
  have a1 : fit1 (hsF len) psM [0, 0, 0, 0, 0, 0, 0] 0 = false := rfl
  rw [a1]
  rfl
end
end K89

set_option Elab.async false
set_option linter.all false
set_option maxRecDepth 100000
set_option maxHeartbeats 1000000
/-! G1: two lists that hold the same. -/
namespace RP
open PySem PySem.Spec PyProof.Rows L2
/-- what stands at two places -/
def two (p q : Addr) (o : HO) : Hp := fun a => if a = p ∨ a = q then some o else none
theorem two_same {H : Hp} {p q : Addr} {o : HO} (h1 : H p = some o) (h2 : H q = some o) : Same (two p q o) H := fun a u e => by
  have e2 : (if a = p ∨ a = q then some o else none) = some u := e
  by_cases c : a = p ∨ a = q
  · rw [if_pos c] at e2
    cases e2
    rcases c with rfl | rfl
    · exact h1
    · exact h2
  · rw [if_neg c] at e2
    cases e2
theorem two_plain {p q : Addr} {xs : List V} : Plain (two p q (.lst xs)) := fun a o u e => by
  have e2 : (if a = p ∨ a = q then some (HO.lst xs) else none) = some (.frz o u) := e
  split at e2 <;> cases e2
theorem two_rep {K : PySem.W.Frag} {p q : Addr} {xs : List V} {ds : List D} (r : ∀ R : Hp, Reps K R xs ds) : Rep K (two p q (.lst xs)) (.ref p) (.lst ds) ∧ Rep K (two p q (.lst xs)) (.ref q) (.lst ds) :=
  ⟨.lst (SqL.of (if_pos (.inl rfl))) (r _), .lst (SqL.of (if_pos (.inr rfl))) (r _)⟩
theorem reps_map {K : PySem.W.Frag} {R : Hp} {α : Type} {f : α → V} {g : α → D} : ∀ {l : List α}, (∀ a ∈ l, Rep K R (f a) (g a)) → Reps K R (l.map f) (l.map g)
  | [], _ => .nil
  | a :: l, h => .cons (h a List.mem_cons_self) (reps_map fun b hb => h b (List.mem_cons_of_mem _ hb))
end RP

set_option Elab.async false
set_option linter.all false
set_option maxRecDepth 100000
set_option maxHeartbeats 1000000
/-! NB: a comprehension within a comprehension: the inner block's scope. -/
namespace RP
open PySem PySem.Spec PyProof.Rows L2
theorem blkOk_nest {N : List Str} {env : Env} {outer inner S : Scope} {own : List (Str × Nat)} {cl : List (Str × Addr)} {C : Addr} (hs : env.scope = S) (h : blkC N (relS outer S) inner own = true) : BlkOk N (compEnvC outer cl C env).scope inner own := by
  subst hs
  exact blkOk_by h
end RP

set_option Elab.async false
set_option linter.all false
set_option maxRecDepth 100000
set_option maxHeartbeats 1000000
namespace K89
open PySem PySem.Spec PyProof.Rows L2 RP
def ascii7 : Str := "abcdefg"
theorem zero_list : (ascii7.cps.toList.map fun c => D.tup [.str ⟨#[c]⟩, .int 0]) = (psM.map pD).map fun e => D.tup [.str e.1, e.2] := by
  have h : ascii7.cps.toList = [97, 98, 99, 100, 101, 102, 103] := by decide +kernel
  rw [h]
  rfl
def sixH : List (Str × Str) := [("a", "ha"), ("b", "ha"), ("c", "ha"), ("d", "ha"), ("e", "ha"), ("f", "ha")]
def haS (z : Str) (c : Nat) : Str := if decide (c ∈ z.cps.toList) = true then "ha" else "hb"
theorem pl_list {z w : Str} (h : (ascii7.cps.toList.map fun c => ((⟨#[c]⟩ : Str), haS z c)) = (sixH ++ [(("g" : Str), w)])) :
    (ascii7.cps.toList.map fun c => D.tup [.str ⟨#[c]⟩, .str (haS z c)]) = (plM w).map fun e => D.tup [.str e.1, e.2] := by
  have h2 := congrArg (List.map fun e : Str × Str => D.tup [.str e.1, .str e.2]) h
  rw [List.map_map] at h2
  exact h2
theorem someF : (ascii7.cps.toList.map fun c => ((⟨#[c]⟩ : Str), haS "abcdef" c)) = sixH ++ [(("g" : Str), ("hb" : Str))] := by decide +kernel
theorem someG : (ascii7.cps.toList.map fun c => ((⟨#[c]⟩ : Str), haS "abcdefg" c)) = sixH ++ [(("g" : Str), ("ha" : Str))] := by decide +kernel
section
variable {P : Program} {w : World} {K : PySem.W.Frag} {mg : Str → Option Value} {base : Heap}
/-- is_placement asked of a known fleet -/
theorem isP_ask {R H : Hp} {v vp : V} {pd : D} {hs ps : List (Str × Int)} {Q : VK} {E : XK} {b : Bool} (oh : HsOk hs) (op : PsOk ps) (s : Same R H) (p : Plain R) (rv : Rep K R v (fD true hs ps)) (rp : Rep K R vp pd) (hb : (rowOf hs ps pd).isSome = b) (q : ∀ H', Same H H' → Q (.bl b) H') :
    spIsP K [v, vp] H Q E := ⟨R, v, vp, fD true hs ps, pd, rfl, s, p, rv, rp, (fun h => by rw [fleet_ok oh op] at h; cases h), fun _ b2 hs2 ps2 e H' s' => by
  obtain ⟨rfl, rfl, rfl⟩ := fD_inj e
  rw [hb]
  exact q H' s'⟩
/-! ### _law_full_right -/
theorem sc__law_full_right : FnScope ["box", "length", "guests", "tight", "many", "name", "told", "place", "places", "some"] ["box"] (defScope s__law_full_right) := ⟨rfl, rfl, rfl, by decide +kernel, rfl, by decide +kernel, by decide +kernel⟩
def spFull (K : PySem.W.Frag) : Sp := fun vs H Q _ => ∃ (a : Addr) (n : Int), vs = [.ref a] ∧ BoxAt H a n ∧ n ≤ 100000 ∧ ∀ H', BoxAt H' a (n + 1) → But a H H' → Q (.bl true) H'
theorem ok__law_full_right (T : Txt K mg) (G__law_take : Def P w K mg base 1 "_law_take" ["box", "many"] (spTake K)) (G_is_placement : Def P w K mg base 6 "is_placement" ["fleet", "thing"] (spIsP K)) (G__law_same : Def P w K mg base 11 "_law_same" ["told", "due"] (spSame 10 K)) :
    Def P w K mg base 12 "_law_full_right" ["box"] (spFull K) := by
  obtain ⟨f, fd, F⟩ := T.a__law_full_right
  refine Def.mk F sc__law_full_right (fun _ _ _ _ _ _ us hl => match us, hl with | [_], _ => rfl) (fun vs H Q E h => ?_) (fun cdv A outer s H vs Q E hr h => ?_)
  · obtain ⟨a, n, rfl, _⟩ := h
    rfl
  · obtain ⟨a, n, rfl, bx, hn, hq⟩ := h
    refine ⟨_, (pss_cons (ps_set (i := 1) sc__law_full_right.nd rfl (Or.inl rfl) (pe_op op_add pe_int (pe_d G__law_take (hr.mono (by decide)) (by rfl) (pa_cons (pv 0) (pa_cons pe_int pa_nil)))))
      (pss_cons (ps_set (i := 2) sc__law_full_right.nd rfl (Or.inl rfl) (pe_box (pe_disp (pps_cons pe_str (pe_op op_sub (pv 1) pe_int) (pps_cons pe_str pe_int (pps_cons pe_str pe_int pps_nil))) (by rfl) (by rfl) (fun z => by cases z) (by decide))))
      (pss_cons (ps_set (i := 3) sc__law_full_right.nd rfl (Or.inr rfl) (pe_tup (pa_cons (pe_box (pe_lst (pa_cons (pe_tup (pa_cons pe_str (pa_cons (pv 1) pa_nil))) (pa_cons (pe_tup (pa_cons pe_str (pa_cons pe_int pa_nil))) pa_nil)))) (pa_cons (pv 2) pa_nil))))
      (pss_cons (ps_set (i := 4) sc__law_full_right.nd rfl (Or.inr rfl) (pe_tup (pa_cons (pe_box (pe_lst (pa_cons (pe_tup (pa_cons pe_str (pa_cons (pv 1) pa_nil))) (pa_cons (pe_tup (pa_cons pe_str (pa_cons pe_int pa_nil))) pa_nil)))) (pa_cons (pe_callTy (kcall_dictP K rfl rfl) (by rfl) T.b_dict (by decide +kernel) (pa_cons (pe_lc (own := [("name", 5)]) rfl sc__law_full_right.nd (pi_str pe_str) (blkOk_by (own := [("name", 5)]) (N := ["box", "length", "guests", "tight", "many", "name", "told", "place", "places", "some"]) (sc := defScope s__law_full_right) (by decide +kernel)) (fun _ _ _ _ _ => (pg_name (i := 5) sc__law_full_right.nd rfl (Or.inl rfl))) (fun _ _ _ _ _ => pts_nil) (fun _ _ _ _ _ => (pe_tup (pa_cons (pv 5) (pa_cons pe_int pa_nil))))) pa_nil)) pa_nil))))
      (pss_cons (ps_setLc (i := 6) (own := [("place", 7)]) rfl sc__law_full_right.nd rfl rfl (sw_true rfl rfl rfl (by decide +kernel)) (kpi_list K rfl (pe_lst (pa_cons pe_str (pa_cons pe_str pa_nil)))) (blkOk_by (own := [("place", 7)]) (N := ["box", "length", "guests", "tight", "many", "name", "told", "place", "places", "some"]) (sc := defScope s__law_full_right) (by decide +kernel)) (fun _ _ _ _ _ => (pg_name (i := 7) sc__law_full_right.nd rfl (Or.inl rfl))) (fun _ _ _ _ _ => pts_nil) (fun _ _ _ _ _ => (pe_d G_is_placement (hr.mono (by decide)) (by rfl) (pa_cons (pv 3) (pa_cons (pe_box (pe_disp (pps_cons pe_str pe_str (pps_cons pe_str pe_str (pps_cons pe_str (pv 7) pps_nil))) (by rfl) (by rfl) (fun z => by cases z) (by decide))) pa_nil)))))
      (pss_cons (ps_setLc (i := 8) (own := [("some", 9)]) rfl sc__law_full_right.nd rfl rfl (sw_true rfl rfl rfl (by decide +kernel)) (kpi_list K rfl (pe_lst (pa_cons pe_str (pa_cons pe_str pa_nil)))) (blkOk_by (own := [("some", 9)]) (N := ["box", "length", "guests", "tight", "many", "name", "told", "place", "places", "some"]) (sc := defScope s__law_full_right) (by decide +kernel)) (fun _ _ _ _ _ => (pg_name (i := 9) sc__law_full_right.nd rfl (Or.inr rfl))) (fun _ _ _ _ _ => pts_nil) (fun _ _ _ _ _ => (pe_callTy (kcall_dictP K rfl rfl) (by rfl) T.b_dict (by decide +kernel) (pa_cons (pe_lc (own := [("name", 5)]) rfl sc__law_full_right.nd (pi_str pe_str) (blkOk_nest (own := [("name", 5)]) (N := ["box", "length", "guests", "tight", "many", "name", "told", "place", "places", "some"]) (S := defScope s__law_full_right) rfl (by decide +kernel)) (fun _ _ _ _ _ => (pg_name (i := 5) sc__law_full_right.nd rfl (Or.inl rfl))) (fun _ _ _ _ _ => pts_nil) (fun _ _ _ _ _ => (pe_tup (pa_cons (pv 5) (pa_cons (pe_ifExp (pt_cmpR op_inS (pv 5) (pv 9) (by rfl)) pe_str pe_str) pa_nil))))) pa_nil))))
      (pss_cons (ps_set (i := 6) sc__law_full_right.nd rfl (Or.inl rfl) (pe_op op_cat (pv 6) (pe_lc (own := [("place", 7)]) rfl sc__law_full_right.nd (kpi_list K rfl (pv 8)) (blkOk_by (own := [("place", 7)]) (N := ["box", "length", "guests", "tight", "many", "name", "told", "place", "places", "some"]) (sc := defScope s__law_full_right) (by decide +kernel)) (fun _ _ _ _ _ => (pg_name (i := 7) sc__law_full_right.nd rfl (Or.inl rfl))) (fun _ _ _ _ _ => pts_nil) (fun _ _ _ _ _ => (pe_d G_is_placement (hr.mono (by decide)) (by rfl) (pa_cons (pv 4) (pa_cons (pv 7) pa_nil)))))))
      (pss_one (ps_ret (pe_d G__law_same (hr.mono (by decide)) (by rfl) (pa_cons (pv 6) (pa_cons (pe_lst (pa_cons pe_bl (pa_cons pe_bl (pa_cons pe_bl (pa_cons pe_bl pa_nil))))) pa_nil)))))))))))), ?_⟩
    refine ⟨_, rfl, a, n, 57, rfl, bx, by omega, by omega, by omega, fun r H1 r0 r1 bx1 b1 => ⟨_, _, rfl, rfl, ?_⟩⟩
    have hl : 4 ≤ 4 + r ∧ 4 + r ≤ 60 := by omega
    generalize hlen : 4 + r = len at hl
    have oh := hsF_ok hl
    refine Box.mk ((lays_dct (laysP_cons (show Str.length "a" ≤ sizeLine by decide +kernel) (lays_pure (v := .int (len - 1)) (.int _) (fun _ _ h => ⟨_, rfl, _, _, rfl, rfl, (by rw [← hlen] at h; exact h)⟩)) (laysP_cons (by decide +kernel) (lays_pure (v := .int 1) (.int _) (fun _ _ h => h)) (laysP_cons (by decide +kernel) (lays_pure (v := .int 1) (.int _) (fun _ _ h => h)) laysP_nil)))
      (show (["a", "b", "c"] : List Str).Nodup by decide +kernel) (Nat.le_of_ble_eq_true rfl) : Lays K (fun _ => none) _ _ (.dct ((psT len).map pD))) H1 (fun _ => none) _ (Same.refl _) Plain.none (fun _ _ h => nomatch h) fun R2 H2 v2 g2 p2 s2 u2 r2 => ?_)
    refine Box.mk ((lays_lst (lays_cons (lays_tup (lays_cons (lays_pure (v := .str "ha") (.str _ (by decide +kernel)) (fun _ _ h => h)) (lays_cons (lays_pure (v := .int len) (.int _) (fun _ _ h => ⟨.int len, by rw [← hlen]; rfl, h⟩)) lays_nil)) (Nat.le_of_ble_eq_true rfl)) (lays_cons (lays_tup (lays_cons (lays_pure (v := .str "hb") (.str _ (by decide +kernel)) (fun _ _ h => h)) (lays_cons (lays_pure (v := .int 60) (.int _) (fun _ _ h => h)) lays_nil)) (Nat.le_of_ble_eq_true rfl)) lays_nil)) (Nat.le_of_ble_eq_true rfl) : Lays K (fun _ => none) _ _ (.lst ((hsF len).map hD))) H2 R2 _ (fun _ _ h => nomatch h) p2 s2 fun R3 H3 v3 g3 p3 s3 u3 r3 => ?_)
    refine ⟨_, rfl, (show 2 ≤ sizeLine by decide), fun t ht => ?_⟩
    have s4 : Same H3 (upd H3 t (.tup [v3, v2])) := same_new ht
    have h4 : upd H3 t (.tup [v3, v2]) t = some (.tup [v3, v2]) := upd_same
    generalize upd H3 t (.tup [v3, v2]) = H4 at s4 h4 ⊢
    obtain ⟨c1, c2, c3⟩ := know p3 (s3.trans s4) h4 (fun _ _ z => nomatch z)
    have rT : Rep K (upd R3 t (.tup [v3, v2])) (.ref t) (fD true (hsF len) (psT len)) := .tup (SqT.of upd_same) (.cons (r3.same c1) (.cons ((r2.same g3.same).same c1) .nil))
    generalize upd R3 t (.tup [v3, v2]) = R4 at c2 c3 rT
    -- many
    refine Box.mk ((lays_lst (lays_cons (lays_tup (lays_cons (lays_pure (v := .str "ha") (.str _ (by decide +kernel)) (fun _ _ h => h)) (lays_cons (lays_pure (v := .int len) (.int _) (fun _ _ h => ⟨.int len, by rw [← hlen]; rfl, h⟩)) lays_nil)) (Nat.le_of_ble_eq_true rfl)) (lays_cons (lays_tup (lays_cons (lays_pure (v := .str "hb") (.str _ (by decide +kernel)) (fun _ _ h => h)) (lays_cons (lays_pure (v := .int 60) (.int _) (fun _ _ h => h)) lays_nil)) (Nat.le_of_ble_eq_true rfl)) lays_nil)) (Nat.le_of_ble_eq_true rfl) : Lays K R4 _ _ (.lst ((hsF len).map hD))) H4 R4 _ (Same.refl _) c2 c3 fun R5 H5 v5 g5 p5 s5 u5 r5 => ?_)
    refine ⟨_, rfl, fun L hL => ?_⟩
    refine lc_reps (K := K) (w := walk_str) (R := R5) (fun i => ascii7.cps[i]?.map fun c => D.tup [.str ⟨#[c]⟩, .int 0]) hL (show ascii7.cps.size ≤ 1000000 by decide +kernel) s5 p5 (fun _ _ => True.intro) ?_ ?_
    · rintro i x Ha Hb Ra Y2 N2 hi sa hnL gr pl sr ⟨rfl, c, hc, rfl⟩ k3 k4
      refine ⟨rfl, ⟨_, rfl, (show 2 ≤ sizeLine by decide), fun T3 hT3 => ?_⟩⟩
      have s1z : (⟨#[c]⟩ : Str).length ≤ sizeLine := by
        show 1 ≤ sizeLine
        decide
      exact k3 _ _ (upd Ra T3 (.tup [.str ⟨#[c]⟩, .int 0])) _ (by rw [show ascii7.cps[i]? = some c from hc]; rfl) (same_new hT3) ((Grow.refl _ _).put hT3 (sr.out hT3)) (pl.put (fun _ _ z => nomatch z)) sr.put (.tup (SqT.of upd_same) (.cons (.str _ s1z) (.cons (.int _) .nil)))
    intro H6 R6 zs s6 g6 p6 sr6 hRL6 hLz rz
    rw [show (List.range (Str.cps "abcdefg").size).filterMap (fun i => ascii7.cps[i]?.map fun c => D.tup [.str ⟨#[c]⟩, .int 0]) = (psM.map pD).map fun e => D.tup [.str e.1, e.2] from (arr_all _ ascii7.cps).trans zero_list] at rz
    obtain ⟨as, kvs, rfl, pp, rk⟩ := pairs_of rz
    have em : mergeK [] kvs = kvs := rk.merge (show ((psM.map pD).map (·.1)).Nodup by show (["a", "b", "c", "d", "e", "f", "g"] : List Str).Nodup; decide +kernel)
    refine ⟨L, as, kvs, rfl, SqL.of hLz, paired_mono (fun _ _ h => (Lq.of sr6).tup h) pp, fun ei hei => ?_⟩
    rw [em]
    have s7 : Same H6 (upd H6 ei (.dK kvs)) := same_new hei
    have h7 : upd H6 ei (.dK kvs) ei = some (.dK kvs) := upd_same
    generalize upd H6 ei (.dK kvs) = H7 at s7 h7 ⊢
    refine ⟨(show 2 ≤ sizeLine by decide), fun m hm => ?_⟩
    have s8 : Same H7 (upd H7 m (.tup [v5, .ref ei])) := same_new hm
    have h8 : upd H7 m (.tup [v5, .ref ei]) m = some (.tup [v5, .ref ei]) := upd_same
    generalize upd H7 m (.tup [v5, .ref ei]) = H8 at s8 h8 ⊢
    obtain ⟨d1, d2, d3⟩ := know p6 (sr6.trans (s7.trans s8)) (s8 _ _ h7) (fun _ _ z => nomatch z)
    obtain ⟨e1, e2, e3⟩ := know d2 d3 h8 (fun _ _ z => nomatch z)
    have rM : Rep K (upd (upd R6 ei (.dK kvs)) m (.tup [v5, .ref ei])) (.ref m) (fD true (hsF len) psM) := .tup (SqT.of upd_same) (.cons ((r5.same (g6.same.trans d1)).same e1) (.cons ((Rep.dct (.inl upd_same) (rk.same d1)).same e1) .nil))
    have rT8 := rT.same (g5.same.trans (g6.same.trans (d1.trans e1)))
    generalize upd (upd R6 ei (.dK kvs)) m (.tup [v5, .ref ei]) = R8 at e2 e3 rM rT8
    have u18 := u2.trans (u3.trans (s4.trans (u5.trans (s6.trans (s7.trans s8)))))
    -- told
    refine ⟨(show 2 ≤ sizeLine by decide), fun q hq' => ?_⟩
    have s9 : Same H8 (upd H8 q (.lst [.str "hb", .str "ha"])) := same_new hq'
    have h9 : upd H8 q (.lst [.str "hb", .str "ha"]) q = some (.lst [.str "hb", .str "ha"]) := upd_same
    generalize upd H8 q (.lst [.str "hb", .str "ha"]) = H9 at s9 h9 ⊢
    have e9 := e3.trans s9
    refine ⟨q, rfl, ⟨_, SqL.of h9⟩, fun M hM => ?_⟩
    refine lc_vals (w := walk_list (xs := [.str "hb", .str "ha"])) (fun i => some (.bl (decide (i = 0)))) hM (show 2 ≤ 1000000 by decide) (fun H' s => SqL.of (s _ _ h9)) ?_ ?_
    · rintro i x Ha Hb Y2 N2 hi sa hnL ⟨rfl, hx⟩ k1 k2
      obtain ⟨c, rfl, hc, hrow⟩ : ∃ c : Str, x = .str c ∧ c.length ≤ sizeLine ∧ (rowOf (hsF len) (psT len) (.dct (plT c))).isSome = decide (i = 0) := by
        match i, hi, hx with
        | 0, _, hx =>
          cases hx
          exact ⟨"hb", rfl, by decide +kernel, full1 hl⟩
        | 1, _, hx =>
          cases hx
          exact ⟨"ha", rfl, by decide +kernel, full2 hl⟩
      exact ⟨rfl, ⟨_, rfl, Box.mk ((lays_dct (laysP_cons (by decide +kernel) (lays_pure (v := .str "ha") (.str _ (by decide +kernel)) (fun _ _ h => h)) (laysP_cons (by decide +kernel) (lays_pure (v := .str "ha") (.str _ (by decide +kernel)) (fun _ _ h => h)) (laysP_cons (show Str.length "c" ≤ sizeLine by decide +kernel) (lays_pure (v := .str c) (.str _ hc) (fun _ _ h => ⟨_, rfl, h⟩)) laysP_nil)))
          (show (["a", "b", "c"] : List Str).Nodup by decide +kernel) (Nat.le_of_ble_eq_true rfl) : Lays K R8 _ _ (.dct (plT c))) Hb R8 _ (Same.refl _) e2 (e9.trans sa) fun Rx Hx vx gx px sx ux rx => isP_ask (hsF_ok hl) (psT_ok hl) sx px (rT8.same gx.same) rx hrow fun H' s' => k1 _ _ rfl (ux.trans s'))⟩⟩
    intro H10 s10 h10
    replace h10 : H10 M = some (.lst [.bl true, .bl false]) := h10
    have e10 := e9.trans s10
    -- the places
    refine ⟨(show 2 ≤ sizeLine by decide), fun q2 hq2 => ?_⟩
    have s11 : Same H10 (upd H10 q2 (.lst [.str "abcdef", .str "abcdefg"])) := same_new hq2
    have h11 : upd H10 q2 (.lst [.str "abcdef", .str "abcdefg"]) q2 = some (.lst [.str "abcdef", .str "abcdefg"]) := upd_same
    generalize upd H10 q2 (.lst [.str "abcdef", .str "abcdefg"]) = H11 at s11 h11 ⊢
    have e11 := e10.trans s11
    refine ⟨q2, rfl, ⟨_, SqL.of h11⟩, fun L2 hL2 => ?_⟩
    refine lc_reps (K := K) (w := walk_list (xs := [.str "abcdef", .str "abcdefg"])) (R := R8) (fun i => some (.dct (plM (if i = 0 then "hb" else "ha")))) hL2 (show 2 ≤ 1000000 by decide) e11 e2 (fun H' s => SqL.of (s _ _ h11)) ?_ ?_
    · rintro i x Ha Hb R1 Y2 N2 hi sa hnL gr pl sr ⟨rfl, hx⟩ k3 k4
      obtain ⟨z, rfl, hz, hlist⟩ : ∃ z : Str, x = .str z ∧ z.length ≤ sizeLine ∧ (ascii7.cps.toList.map fun c => D.tup [.str ⟨#[c]⟩, .str (haS z c)]) = (plM (if i = 0 then "hb" else "ha")).map fun e => D.tup [.str e.1, e.2] := by
        match i, hi, hx with
        | 0, _, hx =>
          cases hx
          exact ⟨"abcdef", rfl, by decide +kernel, pl_list someF⟩
        | 1, _, hx =>
          cases hx
          exact ⟨"abcdefg", rfl, by decide +kernel, pl_list someG⟩
      refine ⟨rfl, ⟨_, rfl, fun L3 hL3 => ?_⟩⟩
      refine lc_reps (K := K) (w := walk_str) (R := R1) (fun i => ascii7.cps[i]?.map fun c => D.tup [.str ⟨#[c]⟩, .str (haS z c)]) hL3 (show ascii7.cps.size ≤ 1000000 by decide +kernel) sr pl (fun _ _ => True.intro) ?_ ?_
      · rintro j x Hc Hd Ra Y3 N3 hj sc hnL3 gr3 pl3 sr3 ⟨rfl, c, hc, rfl⟩ k5 k6
        refine ⟨rfl, ⟨_, rfl, _, rfl, _, rfl, c, z, rfl, rfl, _, rfl, ?_⟩⟩
        have s1z : (⟨#[c]⟩ : Str).length ≤ sizeLine := by
          show 1 ≤ sizeLine
          decide
        have fin : ∀ y : Str, y.length ≤ sizeLine → haS z c = y → ∀ T3, Hd T3 = none → Y3 (.ref T3) (upd Hd T3 (.tup [.str ⟨#[c]⟩, .str y])) := fun y hy ey T3 hT3 =>
          k5 _ _ (upd Ra T3 (.tup [.str ⟨#[c]⟩, .str y])) (.tup [.str ⟨#[c]⟩, .str y]) (by rw [show ascii7.cps[j]? = some c from hc, ← ey]; rfl) (same_new hT3) ((Grow.refl _ _).put hT3 (sr3.out hT3)) (pl3.put (fun _ _ z => nomatch z)) sr3.put (.tup (SqT.of upd_same) (.cons (.str _ s1z) (.cons (.str _ hy) .nil)))
        refine ite_dec (fun h => ?_) (fun h => ?_)
        · exact ⟨(show 2 ≤ sizeLine by decide), fin "ha" (by decide +kernel) (by unfold haS; rw [if_pos h])⟩
        · exact ⟨(show 2 ≤ sizeLine by decide), fin "hb" (by decide +kernel) (by unfold haS; rw [if_neg (by rw [h]; exact fun z => nomatch z)])⟩
      intro He Re zs2 se ge pe sre hRe hLe2 rze
      rw [show (List.range (Str.cps "abcdefg").size).filterMap (fun i => ascii7.cps[i]?.map fun c => D.tup [.str ⟨#[c]⟩, .str (haS z c)]) = (plM (if i = 0 then "hb" else "ha")).map fun e => D.tup [.str e.1, e.2] from (arr_all _ ascii7.cps).trans hlist] at rze
      obtain ⟨as2, kvs2, rfl, pp2, rk2⟩ := pairs_of rze
      have em2 : mergeK [] kvs2 = kvs2 := rk2.merge (show ((plM (if i = 0 then "hb" else "ha")).map (·.1)).Nodup by show (["a", "b", "c", "d", "e", "f", "g"] : List Str).Nodup; decide +kernel)
      refine ⟨L3, as2, kvs2, rfl, SqL.of hLe2, paired_mono (fun _ _ h => (Lq.of sre).tup h) pp2, fun dq hdq => ?_⟩
      rw [em2]
      have nRe := sre.out hdq
      exact k3 _ _ (upd Re dq (.dK kvs2)) (.dct (plM (if i = 0 then "hb" else "ha"))) rfl (se.trans (same_new hdq)) (ge.put (se.free hdq) nRe) (pe.put (fun _ _ z => nomatch z)) sre.put (.dct (.inl upd_same) (rk2.same (same_new nRe)))
    intro H12 R12 zs3 s12 g12 p12 sr12 hR12 hL12 rz12
    replace rz12 : Reps K R12 zs3 [.dct (plM "hb"), .dct (plM "ha")] := rz12
    have l12 := rz12.len
    -- asked of them
    refine ⟨_, rfl, _, rfl, L2, rfl, ⟨_, SqL.of hL12⟩, fun M2 hM2 => ?_⟩
    refine lc_vals (w := walk_list (xs := zs3)) (fun i => some (.bl (decide (i = 0)))) hM2 (by rw [l12]; exact Nat.le_of_ble_eq_true rfl) (fun H' s => SqL.of (s _ _ hL12)) ?_ ?_
    · rintro i x Ha Hb Y2 N2 hi sa hnL ⟨rfl, hx⟩ k1 k2
      obtain ⟨d, hd, rx⟩ := rz12.get hx
      obtain ⟨c, rfl, hrow⟩ : ∃ c : Str, d = .dct (plM c) ∧ (rowOf (hsF len) psM (.dct (plM c))).isSome = decide (i = 0) := by
        rw [l12] at hi
        match i, hi, hd with
        | 0, _, hd =>
          cases hd
          exact ⟨"hb", rfl, full3 hl⟩
        | 1, _, hd =>
          cases hd
          exact ⟨"ha", rfl, full4⟩
      exact ⟨rfl, ⟨_, rfl, _, rfl, isP_ask (hsF_ok hl) psM_ok (sr12.trans sa) p12 (rM.same g12.same) rx hrow fun H' s' => k1 _ _ rfl s'⟩⟩
    intro H13 s13 h13
    rw [l12] at h13
    replace h13 : H13 M2 = some (.lst [.bl true, .bl false]) := h13
    have m13 : H13 M = some (.lst [.bl true, .bl false]) := s13 _ _ (s12 _ _ (s11 _ _ h10))
    refine ⟨M, M2, _, _, rfl, rfl, m13, h13, (show 2 + 2 ≤ sizeLine by decide), fun N hN => ?_⟩
    have s14 : Same H13 (upd H13 N (.lst ([.bl true, .bl false] ++ [.bl true, .bl false]))) := same_new hN
    have h14 : upd H13 N (.lst ([.bl true, .bl false] ++ [.bl true, .bl false])) N = some (.lst [.bl true, .bl false, .bl true, .bl false]) := upd_same
    generalize upd H13 N (.lst ([.bl true, .bl false] ++ [.bl true, .bl false])) = H14 at s14 h14 ⊢
    refine ⟨_, rfl, (show 4 ≤ sizeLine by decide), fun O hO => ?_⟩
    have s15 : Same H14 (upd H14 O (.lst [.bl true, .bl false, .bl true, .bl false])) := same_new hO
    have rt := two_rep (K := K) (p := N) (q := O) (xs := [.bl true, .bl false, .bl true, .bl false]) (ds := [.bl true, .bl false, .bl true, .bl false]) fun R => .cons (.bl _) (.cons (.bl _) (.cons (.bl _) (.cons (.bl _) .nil)))
    refine ⟨_, .ref N, .ref O, _, rfl, two_same (s15 _ _ h14) upd_same, two_plain, rt.1, rt.2, ⟨Nat.le_of_ble_eq_true rfl, all_cons True.intro (all_cons True.intro (all_cons True.intro (all_cons True.intro all_nil)))⟩, fun H' s' => ?_⟩
    have s99 : Same H1 H' := u18.trans (s9.trans (s10.trans (s11.trans (s12.trans (s13.trans (s14.trans (s15.trans s')))))))
    exact hq H' (bx1.same s99) (b1.trans (But.of s99))
end
end K89

set_option Elab.async false
set_option linter.all false
set_option maxRecDepth 100000
set_option maxHeartbeats 1000000
namespace RP
open PySem PySem.Spec PyProof.Rows L2
/-- an expression that is not come to -/
theorem pe_never {X : Cx} {e : Expr} : PE X e (fun _ _ _ => False) := ⟨fun _ _ _ _ _ _ h => h.elim⟩
end RP
namespace K89
open PySem PySem.Spec PyProof.Rows L2 RP
/-- a house of a fleet by its name -/
def hOk (hs : List (Str × Int)) (d : D) : Bool := d.name && inHs hs d
section
variable {P : Program} {w : World} {K : PySem.W.Frag} {mg : Str → Option Value} {base : Heap}
/-- the first door: no fleet -/
def NoF (K : PySem.W.Frag) (d : D) (v : V) (H : Hp) (E : XK) : Prop := d.fleet = false → Errs K "NoFleet" "found" v H E
def NoP (K : PySem.W.Frag) (d pd : D) (vp : V) (H : Hp) (E : XK) : Prop := d.fleet = true → ∀ b hs ps, d = fD b hs ps → rowOf hs ps pd = none ∧ Errs K "NoPlace" "found" vp H E
/-! ### moves_from -/
theorem sc_moves_from : FnScope ["fleet", "place", "row", "names", "guest", "house", "after"] ["fleet", "place"] (defScope s_moves_from) := ⟨rfl, rfl, rfl, by decide +kernel, rfl, by decide +kernel, by decide +kernel⟩
def spMovF (K : PySem.W.Frag) : Sp := fun vs H Q E => ∃ (R : Hp) (v vp : V) (d pd : D), vs = [v, vp] ∧ Same R H ∧ Plain R ∧ Rep K R v d ∧ Rep K R vp pd ∧ NoF K d v H E ∧ NoP K d pd vp H E
theorem NoP.need {d pd : D} {vp : V} {H H1 : Hp} {E : XK} {Q : VK} (h : NoP K d pd vp H E) (hf : d.fleet = true) (s : Same H H1) : ∀ b hs ps, d = fD b hs ps → NeedQ K vp H1 Q E (rowOf hs ps pd) := fun b hs ps e => by
  obtain ⟨h1, h2⟩ := h hf b hs ps e
  rw [h1]
  exact h2.same s
theorem ok_moves_from (T : Txt K mg) (G_need_fleet : Def P w K mg base 5 "need_fleet" ["fleet"] (spNeedF K)) (G_needed_row : Def P w K mg base 5 "needed_row" ["fleet", "place"] (spNeedR K)) : Def P w K mg base 6 "moves_from" ["fleet", "place"] (spMovF K) := by
  obtain ⟨f, fd, F⟩ := T.a_moves_from
  refine Def.mk F sc_moves_from (fun _ _ _ _ _ _ us hl => match us, hl with | [_, _], _ => rfl) (fun vs H Q E h => ?_) (fun cdv A outer s H vs Q E hr h => ?_)
  · obtain ⟨R, v, vp, d, pd, rfl, _⟩ := h
    rfl
  · obtain ⟨R, v, vp, d, pd, rfl, sR, pR, hv, hp, h1, h2⟩ := h
    refine ⟨_, (pss_cons (ps_expr (pe_dX G_need_fleet (hr.mono (by decide)) (by rfl) tkB (pa_cons (pv 0) pa_nil)))
      (pss_cons (ps_set (i := 2) sc_moves_from.nd rfl (Or.inl rfl) (pe_dX G_needed_row (hr.mono (by decide)) (by rfl) tkB (pa_cons (pv 0) (pa_cons (pv 1) pa_nil))))
      (pss_cons ps_never
      (pss_one ps_never)))), ?_⟩
    refine ⟨_, rfl, R, v, d, rfl, sR, pR, hv, h1, fun hf H1 s1 => ?_⟩
    refine ⟨_, rfl, _, rfl, R, v, vp, d, pd, rfl, sR.trans s1, pR, hv, hp, hf, fun b hs ps e => ?_⟩
    obtain ⟨c, h3⟩ := h2 hf b hs ps e
    rw [c]
    exact h3.same s1
/-! ### spread is not come to -/
theorem sc_spread : FnScope ["fleet", "row", "is_goal", "ahead", "work", "done", "one", "guest", "house", "after"] ["fleet", "row", "is_goal"] (defScope s_spread) := ⟨rfl, rfl, rfl, by decide +kernel, rfl, by decide +kernel, by decide +kernel⟩
def spSpread : Sp := fun _ _ _ _ => False
theorem ok_spread (T : Txt K mg) : Def P w K mg base 1 "spread" ["fleet", "row", "is_goal"] spSpread := by
  obtain ⟨f, fd, F⟩ := T.a_spread
  refine Def.mk F sc_spread (fun _ _ _ _ _ _ us hl => match us, hl with | [_, _, _], _ => rfl) (fun vs H Q E h => ?_) (fun cdv A outer s H vs Q E hr h => ?_)
  · exact h.elim
  · exact h.elim
/-! ### reachable -/
theorem sc_reachable : FnScope ["fleet", "now", "ahead", "found", "row"] ["fleet", "now"] (defScope s_reachable) := ⟨rfl, rfl, rfl, by decide +kernel, rfl, by decide +kernel, by decide +kernel⟩
theorem ok_reachable (T : Txt K mg) (G_need_fleet : Def P w K mg base 5 "need_fleet" ["fleet"] (spNeedF K)) (G_needed_row : Def P w K mg base 5 "needed_row" ["fleet", "place"] (spNeedR K)) (G_spread : Def P w K mg base 1 "spread" ["fleet", "row", "is_goal"] spSpread) : Def P w K mg base 6 "reachable" ["fleet", "now"] (spMovF K) := by
  obtain ⟨fd, F⟩ := T.a_reachable
  refine Def.mkC F rfl sc_reachable (fun _ _ _ _ _ _ us hl => match us, hl with | [_, _], _ => rfl) (fun vs H Q E h => ?_) (fun A outer s H vs Q E hr h => ?_)
  · obtain ⟨R, v, vp, d, pd, rfl, _⟩ := h
    rfl
  · obtain ⟨R, v, vp, d, pd, rfl, sR, pR, hv, hp, h1, h2⟩ := h
    refine ⟨_, (pss_cons (ps_expr (pe_dX G_need_fleet (hr.mono (by decide)) (by rfl) tkB (pa_cons (pv 0) pa_nil)))
      (pss_cons (ps_asg (pe_d G_spread (hr.mono (by decide)) (by rfl) (pa_cons (pv 0) (pa_cons (pe_dX G_needed_row (hr.mono (by decide)) (by rfl) tkB (pa_cons (pv 0) (pa_cons (pv 1) pa_nil))) (pa_cons pe_never pa_nil)))) (kpg_tup K rfl (n := 2) rfl (pgs_cons (pg_name (i := 2) sc_reachable.nd rfl (Or.inl rfl)) (pgs_cons (pg_name (i := 3) sc_reachable.nd rfl (Or.inl rfl)) pgs_nil))))
      (pss_one ps_never))), ?_⟩
    refine ⟨_, rfl, R, v, d, rfl, sR, pR, hv, h1, fun hf H1 s1 => ?_⟩
    refine ⟨_, rfl, _, rfl, _, rfl, R, v, vp, d, pd, rfl, sR.trans s1, pR, hv, hp, hf, fun b hs ps e => ?_⟩
    obtain ⟨c, h3⟩ := h2 hf b hs ps e
    rw [c]
    exact h3.same s1
/-! ### is_closed -/
theorem sc_is_closed : FnScope ["fleet", "now", "thing", "first", "rows", "place", "known", "row", "guest", "house", "after"] ["fleet", "now", "thing"] (defScope s_is_closed) := ⟨rfl, rfl, rfl, by decide +kernel, rfl, by decide +kernel, by decide +kernel⟩
def spClosed (K : PySem.W.Frag) : Sp := fun vs H Q E => ∃ (R : Hp) (v vp vl : V) (d pd : D), vs = [v, vp, vl] ∧ Same R H ∧ Plain R ∧ Rep K R v d ∧ Rep K R vp pd ∧ NoF K d v H E ∧ NoP K d pd vp H E
theorem ok_is_closed (T : Txt K mg) (G_need_fleet : Def P w K mg base 5 "need_fleet" ["fleet"] (spNeedF K)) (G_needed_row : Def P w K mg base 5 "needed_row" ["fleet", "place"] (spNeedR K)) : Def P w K mg base 6 "is_closed" ["fleet", "now", "thing"] (spClosed K) := by
  obtain ⟨f, fd, F⟩ := T.a_is_closed
  refine Def.mk F sc_is_closed (fun _ _ _ _ _ _ us hl => match us, hl with | [_, _, _], _ => rfl) (fun vs H Q E h => ?_) (fun cdv A outer s H vs Q E hr h => ?_)
  · obtain ⟨R, v, vp, vl, d, pd, rfl, _⟩ := h
    rfl
  · obtain ⟨R, v, vp, vl, d, pd, rfl, sR, pR, hv, hp, h1, h2⟩ := h
    refine ⟨_, (pss_cons (ps_expr (pe_dX G_need_fleet (hr.mono (by decide)) (by rfl) tkB (pa_cons (pv 0) pa_nil)))
      (pss_cons (ps_set (i := 3) sc_is_closed.nd rfl (Or.inl rfl) (pe_dX G_needed_row (hr.mono (by decide)) (by rfl) tkB (pa_cons (pv 0) (pa_cons (pv 1) pa_nil))))
      (pss_cons ps_never
      (pss_cons ps_never
      (pss_cons ps_never
      (pss_cons ps_never
      (pss_one ps_never))))))), ?_⟩
    refine ⟨_, rfl, R, v, d, rfl, sR, pR, hv, h1, fun hf H1 s1 => ?_⟩
    refine ⟨_, rfl, _, rfl, R, v, vp, d, pd, rfl, sR.trans s1, pR, hv, hp, hf, fun b hs ps e => ?_⟩
    obtain ⟨c, h3⟩ := h2 hf b hs ps e
    rw [c]
    exact h3.same s1
/-! ### plan -/
theorem sc_plan : FnScope ["fleet", "now", "goal", "first", "last", "ahead", "found"] ["fleet", "now", "goal"] (defScope s_plan) := ⟨rfl, rfl, rfl, by decide +kernel, rfl, by decide +kernel, by decide +kernel⟩
def spPlan (K : PySem.W.Frag) : Sp := fun vs H Q E => ∃ (R : Hp) (v vp vl : V) (d pd dl : D), vs = [v, vp, vl] ∧ Same R H ∧ Plain R ∧ Rep K R v d ∧ Rep K R vp pd ∧ Rep K R vl dl ∧ NoF K d v H E ∧
  (d.fleet = true → ∀ b hs ps, d = fD b hs ps → (rowOf hs ps pd = none → Errs K "NoPlace" "found" vp H E) ∧ (∀ row, rowOf hs ps pd = some row → rowOf hs ps dl = none ∧ Errs K "NoPlace" "found" vl H E))
theorem ok_plan (T : Txt K mg) (G_need_fleet : Def P w K mg base 5 "need_fleet" ["fleet"] (spNeedF K)) (G_needed_row : Def P w K mg base 5 "needed_row" ["fleet", "place"] (spNeedR K)) : Def P w K mg base 6 "plan" ["fleet", "now", "goal"] (spPlan K) := by
  obtain ⟨fd, F⟩ := T.a_plan
  refine Def.mkC F rfl sc_plan (fun _ _ _ _ _ _ us hl => match us, hl with | [_, _, _], _ => rfl) (fun vs H Q E h => ?_) (fun A outer s H vs Q E hr h => ?_)
  · obtain ⟨R, v, vp, vl, d, pd, dl, rfl, _⟩ := h
    rfl
  · obtain ⟨R, v, vp, vl, d, pd, dl, rfl, sR, pR, hv, hp, hl, h1, h2⟩ := h
    refine ⟨_, (pss_cons (ps_expr (pe_dX G_need_fleet (hr.mono (by decide)) (by rfl) tkB (pa_cons (pv 0) pa_nil)))
      (pss_cons (ps_asg (pe_tup (pa_cons (pe_dX G_needed_row (hr.mono (by decide)) (by rfl) tkB (pa_cons (pv 0) (pa_cons (pv 1) pa_nil))) (pa_cons (pe_dX G_needed_row (hr.mono (by decide)) (by rfl) tkB (pa_cons (pv 0) (pa_cons (pv 2) pa_nil))) pa_nil))) (kpg_tup K rfl (n := 2) rfl (pgs_cons (pg_name (i := 3) sc_plan.nd rfl (Or.inl rfl)) (pgs_cons (pg_name (i := 4) sc_plan.nd rfl (Or.inr rfl)) pgs_nil))))
      (pss_cons ps_never
      (pss_one ps_never)))), ?_⟩
    refine ⟨_, rfl, R, v, d, rfl, sR, pR, hv, h1, fun hf H1 s1 => ?_⟩
    refine ⟨_, rfl, _, rfl, R, v, vp, d, pd, rfl, sR.trans s1, pR, hv, hp, hf, fun b hs ps e => ?_⟩
    obtain ⟨h3, h4⟩ := h2 hf b hs ps e
    cases c : rowOf hs ps pd with
    | none => exact (h3 c).same s1
    | some row =>
      obtain ⟨c2, h5⟩ := h4 row c
      intro H2 ra s2 hra
      refine ⟨_, rfl, _, rfl, R, v, vl, d, dl, rfl, (sR.trans s1).trans s2, pR, hv, hl, hf, fun b2 hs2 ps2 e2 => ?_⟩
      obtain ⟨c3, h6⟩ := (h2 hf b2 hs2 ps2 e2).2 row (by
        obtain ⟨rfl, rfl, rfl⟩ := fD_inj (e.symm.trans e2)
        exact c)
      rw [c3]
      exact h6.same (s1.trans s2)
/-! ### drained -/
theorem sc_drained : FnScope ["fleet", "now", "house", "first", "names", "name", "length", "at", "ahead", "found"] ["fleet", "now", "house"] (defScope s_drained) := ⟨rfl, rfl, rfl, by decide +kernel, rfl, by decide +kernel, by decide +kernel⟩
def spDrained (K : PySem.W.Frag) : Sp := fun vs H Q E => ∃ (R : Hp) (v vp vl : V) (d pd dl : D), vs = [v, vp, vl] ∧ Same R H ∧ Plain R ∧ Rep K R v d ∧ Rep K R vp pd ∧ Rep K R vl dl ∧ NoF K d v H E ∧
  (d.fleet = true → ∀ b hs ps, d = fD b hs ps → (rowOf hs ps pd = none → Errs K "NoPlace" "found" vp H E) ∧ (∀ row, rowOf hs ps pd = some row → hOk hs dl = false ∧ Errs K "NoHouse" "found" vl H E))
theorem ok_drained (T : Txt K mg) (G_is_name : Def P w K mg base 1 "is_name" ["thing"] (spName K)) (G_need_fleet : Def P w K mg base 5 "need_fleet" ["fleet"] (spNeedF K)) (G_needed_row : Def P w K mg base 5 "needed_row" ["fleet", "place"] (spNeedR K)) : Def P w K mg base 6 "drained" ["fleet", "now", "house"] (spDrained K) := by
  obtain ⟨fd, F⟩ := T.a_drained
  refine Def.mkC F rfl sc_drained (fun _ _ _ _ _ _ us hl => match us, hl with | [_, _, _], _ => rfl) (fun vs H Q E h => ?_) (fun A outer s H vs Q E hr h => ?_)
  · obtain ⟨R, v, vp, vl, d, pd, dl, rfl, _⟩ := h
    rfl
  · obtain ⟨R, v, vp, vl, d, pd, dl, rfl, sR, pR, hv, hp, hl, h1, h2⟩ := h
    refine ⟨_, (pss_cons (ps_expr (pe_dX G_need_fleet (hr.mono (by decide)) (by rfl) tkB (pa_cons (pv 0) pa_nil)))
      (pss_cons (ps_par (i := 3) (j := 4) rfl sc_drained.nd rfl rfl (by decide) rfl rfl (pa_cons (pe_dX G_needed_row (hr.mono (by decide)) (by rfl) tkB (pa_cons (pv 0) (pa_cons (pv 1) pa_nil))) (pa_cons (pe_lc (own := [("name", 5), ("length", 6)]) rfl sc_drained.nd (kpi_seq K rfl (pe_ix (kix_tup K rfl) (pv 0) pe_int (fun _ _ => rfl))) (blkOk_by (own := [("name", 5), ("length", 6)]) (N := ["fleet", "now", "house", "first", "names", "name", "length", "at", "ahead", "found"]) (sc := defScope s_drained) (by decide +kernel)) (fun _ _ _ _ _ => (kpg_tup K rfl (n := 2) rfl (pgs_cons (pg_name (i := 5) sc_drained.nd rfl (Or.inl rfl)) (pgs_cons (pg_name (i := 6) sc_drained.nd rfl (Or.inl rfl)) pgs_nil)))) (fun _ _ _ _ _ => pts_nil) (fun _ _ _ _ _ => (pv 5))) pa_nil)) (by rfl))
      (pss_cons (ps_if (PW.pt (pw_or (pt_not (pt_val (pe_d G_is_name (hr.mono (by decide)) (by rfl) (pa_cons (pv 2) pa_nil)))) (pw_or1 (pt_cmpR (kop_notIn_seq K rfl) (pv 2) (pv 4) (by rfl))))) (pss_one (ps_raise rfl tkB (pmk_NoHouse hr T (pa_cons (pv 2) pa_nil)))) pss_nil)
      (pss_cons ps_never
      (pss_cons ps_never
      (pss_one ps_never)))))), ?_⟩
    refine ⟨_, rfl, R, v, d, rfl, sR, pR, hv, h1, fun hf H1 s1 => ?_⟩
    obtain ⟨b, hs, ps, rfl, oh, op⟩ := fleet_of hf
    obtain ⟨a, ha, pa, xs, rfl, fa⟩ := flAt pR hv
    obtain ⟨h3, h4⟩ := h2 hf b hs ps rfl
    refine ⟨_, rfl, _, rfl, R, .ref a, vp, _, pd, rfl, sR.trans s1, pR, hv, hp, hf, fun b2 hs2 ps2 e2 => ?_⟩
    obtain ⟨rfl, rfl, rfl⟩ := fD_inj e2
    have n3 := oh.n3
    cases c : rowOf hs ps pd with
    | none => exact (h3 c).same s1
    | some row =>
      obtain ⟨c2, h5⟩ := h4 row c
      intro H2 ra s2 hra
      have s12 := s1.trans s2
      have f2 := fa.same (sR.trans s12)
      refine ⟨_, rfl, a, _, 0, _, rfl, rfl, f2.t, rfl, ha, b, rfl, ⟨_, f2.s⟩, fun N hN => ?_⟩
      refine lc_vals (w := walk_seq) (fun i => hs[i]?.map fun e => V.str e.1) hN (by rw [fa.n]; omega) (fun H' s => f2.s.mono (Lq.of s)) ?_ ?_
      · rintro i x H3 H4 Y2 N2 hi s3 hnL ⟨rfl, hx⟩ k1 k2
        obtain ⟨e, he⟩ : ∃ e, hs[i]? = some e := ⟨_, List.getElem?_eq_getElem (by rw [fa.n] at hi; exact hi)⟩
        obtain ⟨c, g2, g3⟩ := f2.h i e he
        rw [g2] at hx
        cases hx
        exact ⟨c, _, rfl, (Lq.of s3).tup g3, rfl, _, _, rfl, _, _, rfl, rfl, ⟨rfl, ⟨_, rfl, k1 _ _ (by rw [he]; rfl) (Same.refl _)⟩⟩⟩
      · intro H3 s3 h3'
        rw [fa.n, range_all] at h3'
        have en : (hs.map fun e => V.str e.1) = (hs.map Prod.fst).map V.str := by rw [List.map_map]; rfl
        rw [en] at h3'
        have s13 := s12.trans s3
        have no : ∀ {H' : Hp}, Same H3 H' → ∀ dd, H' dd = none → E (.ref (He.ga K "NoHouse")) (some dd) (upd H' dd (.xd [("found", vl)])) := fun {H'} s dd hd => h5.same (s13.trans s) _ dd (same_new hd) hd upd_same
        refine ⟨_, _, rfl, _, rfl, vl, dl, rfl, hl.same (sR.trans s13), fun H4 s4 => ⟨_, rfl, ?_⟩⟩
        show if (!dl.name) = true then _ else _
        unfold hOk at c2
        cases c3 : dl.name with
        | false => exact iteT ⟨_, rfl, no s4⟩
        | true =>
          rw [c3] at c2
          obtain ⟨z, rfl, hz⟩ := name_str c3
          cases hl
          refine iteF ⟨_, rfl, _, rfl, N, _, rfl, .inl (SqL.of (s4 _ _ h3')), rfl, flat_strs _, _, rfl, ?_⟩
          rw [inV_strs]
          rw [show decide (z ∈ hs.map Prod.fst) = false from c2]
          exact iteT ⟨_, rfl, no s4⟩
end
end K89

set_option Elab.async false
set_option linter.all false
set_option maxRecDepth 100000
set_option maxHeartbeats 1000000
namespace K89
open PySem PySem.Spec PyProof.Rows L2 RP
/-- which class is which -/
structure Exm (K : PySem.W.Frag) : Prop where
  f_f : PySem.W.exmOne K (.ref (He.ga K "NoFleet")) (.ref (He.ga K "NoFleet")) = some true
  p_f : PySem.W.exmOne K (.ref (He.ga K "NoPlace")) (.ref (He.ga K "NoFleet")) = some false
  p_p : PySem.W.exmOne K (.ref (He.ga K "NoPlace")) (.ref (He.ga K "NoPlace")) = some true
  h_f : PySem.W.exmOne K (.ref (He.ga K "NoHouse")) (.ref (He.ga K "NoFleet")) = some false
  h_p : PySem.W.exmOne K (.ref (He.ga K "NoHouse")) (.ref (He.ga K "NoPlace")) = some false
  h_h : PySem.W.exmOne K (.ref (He.ga K "NoHouse")) (.ref (He.ga K "NoHouse")) = some true
  n_f : PySem.W.exmOne K (.ref (He.ga K "NoPlan")) (.ref (He.ga K "NoFleet")) = some false
  n_p : PySem.W.exmOne K (.ref (He.ga K "NoPlan")) (.ref (He.ga K "NoPlace")) = some false
  n_h : PySem.W.exmOne K (.ref (He.ga K "NoPlan")) (.ref (He.ga K "NoHouse")) = some false
  n_n : PySem.W.exmOne K (.ref (He.ga K "NoPlan")) (.ref (He.ga K "NoPlan")) = some true
section
variable {K : PySem.W.Frag} {mg : Str → Option Value}
theorem xc_NoFleet (T : Txt K mg) : GX.XC K GX.bVE (He.ga K "NoFleet") "found" := by obtain ⟨_, _, F⟩ := T.x_NoFleet; exact F.xc
theorem xc_NoPlace (T : Txt K mg) : GX.XC K GX.bVE (He.ga K "NoPlace") "found" := by obtain ⟨_, _, F⟩ := T.x_NoPlace; exact F.xc
theorem xc_NoHouse (T : Txt K mg) : GX.XC K GX.bVE (He.ga K "NoHouse") "found" := by obtain ⟨_, _, F⟩ := T.x_NoHouse; exact F.xc
theorem xc_NoPlan (T : Txt K mg) : GX.XC K GX.bVE (He.ga K "NoPlan") "found" := by obtain ⟨_, _, F⟩ := T.x_NoPlan; exact F.xc
theorem mg_NoFleet (T : Txt K mg) : mg "NoFleet" = some (.ref (He.ga K "NoFleet")) := by obtain ⟨_, _, F⟩ := T.x_NoFleet; exact F.g
theorem mg_NoPlace (T : Txt K mg) : mg "NoPlace" = some (.ref (He.ga K "NoPlace")) := by obtain ⟨_, _, F⟩ := T.x_NoPlace; exact F.g
theorem mg_NoHouse (T : Txt K mg) : mg "NoHouse" = some (.ref (He.ga K "NoHouse")) := by obtain ⟨_, _, F⟩ := T.x_NoHouse; exact F.g
theorem mg_NoPlan (T : Txt K mg) : mg "NoPlan" = some (.ref (He.ga K "NoPlan")) := by obtain ⟨_, _, F⟩ := T.x_NoPlan; exact F.g
end
def tsW (C : Addr) (word : Str) : Addr → Value → Option Addr → TS := fun a cls d => tRet (tLst (tCons (tC (.str word)) (tCons (GX.tXfld C "found" a cls d (tVar 4)) tNil)))
def tsO : Addr → Value → Option Addr → TS := fun _ _ _ => tRet (tLst (tCons (tC (.str "other")) (tCons (tC .non) tNil)))
def clW (K : PySem.W.Frag) : List GX.Cl := [(.ref (He.ga K "NoFleet"), some 4, tsW (He.ga K "NoFleet") "fleet"), (.ref (He.ga K "NoPlace"), some 4, tsW (He.ga K "NoPlace") "place"), (.ref (He.ga K "NoHouse"), some 4, tsW (He.ga K "NoHouse") "house"),
  (.ref (He.ga K "NoPlan"), some 4, tsW (He.ga K "NoPlan") "plan"), (.ref (He.ga K "GuestError"), none, tsO)]
section
variable {K : PySem.W.Frag} {H : Hp} {Wout : WX} {D : Ends} {σ : L2.St} {v : V}
theorem suite_ok {x word : Str} (hl : σ.length = 5) (hq : ∀ q H', Same H H' → H' q = some (.lst [.str word, v]) → D.rt (.ref q) H') {H' : Hp} {d a : Addr} (s : Same H H') (e : H' d = some (.xd [("found", v)])) :
    GX.enter D (some 4) (tsW (He.ga K x) word a (.ref (He.ga K x)) (some d)) a σ H' := by
  have h5 : (σ.set 4 (some (.ref a)))[4]? = some (some (.ref a)) := by
    rw [List.getElem?_set_self (by omega)]
  refine ⟨_, h5, rfl, rfl, d, v, rfl, e, (show 2 ≤ sizeLine by decide), fun q hq' => ?_⟩
  exact hq q _ (s.trans (same_new hq')) upd_same
theorem err_f (X : Exm K) (hl : σ.length = 5) (hq : ∀ q H', Same H H' → H' q = some (.lst [.str "fleet", v]) → D.rt (.ref q) H') : Errs K "NoFleet" "found" v H (fun cls d H' => GX.wMA K Wout D (clW K) cls d σ H') :=
  fun H' d s hd e => ⟨true, X.f_f, fun _ a ha => suite_ok hl hq s e, fun h => nomatch h⟩
theorem err_p (X : Exm K) (hl : σ.length = 5) (hq : ∀ q H', Same H H' → H' q = some (.lst [.str "place", v]) → D.rt (.ref q) H') : Errs K "NoPlace" "found" v H (fun cls d H' => GX.wMA K Wout D (clW K) cls d σ H') :=
  fun H' d s hd e => ⟨false, X.p_f, (fun h => nomatch h), fun _ => ⟨true, X.p_p, fun _ a ha => suite_ok hl hq s e, fun h => nomatch h⟩⟩
theorem err_h (X : Exm K) (hl : σ.length = 5) (hq : ∀ q H', Same H H' → H' q = some (.lst [.str "house", v]) → D.rt (.ref q) H') : Errs K "NoHouse" "found" v H (fun cls d H' => GX.wMA K Wout D (clW K) cls d σ H') :=
  fun H' d s hd e => ⟨false, X.h_f, (fun h => nomatch h), fun _ => ⟨false, X.h_p, (fun h => nomatch h), fun _ => ⟨true, X.h_h, fun _ a ha => suite_ok hl hq s e, fun h => nomatch h⟩⟩⟩
theorem err_n (X : Exm K) (hl : σ.length = 5) (hq : ∀ q H', Same H H' → H' q = some (.lst [.str "plan", v]) → D.rt (.ref q) H') : Errs K "NoPlan" "found" v H (fun cls d H' => GX.wMA K Wout D (clW K) cls d σ H') :=
  fun H' d s hd e => ⟨false, X.n_f, (fun h => nomatch h), fun _ => ⟨false, X.n_p, (fun h => nomatch h), fun _ => ⟨false, X.n_h, (fun h => nomatch h), fun _ => ⟨true, X.n_n, fun _ a ha => suite_ok hl hq s e, fun h => nomatch h⟩⟩⟩⟩
end
/-- what is asked, what is answered -/
def AnsG (way : Int) (hs ps : List (Str × Int)) (pd dl : D) (vp vl : V) (word : Str) (rv : V) : Prop :=
  (rowOf hs ps pd = none ∧ way < 6 ∧ word = "place" ∧ rv = vp) ∨ ((∃ row, rowOf hs ps pd = some row) ∧
    ((way = 1 ∧ rowOf hs ps dl = none ∧ word = "place" ∧ rv = vl) ∨ (way = 2 ∧ hOk hs dl = false ∧ word = "house" ∧ rv = vl) ∨ (way = 5 ∧ dl.seq = none ∧ word = "plan" ∧ rv = vl)))
def Ans (way : Int) (d pd dl : D) (v vp vl : V) (word : Str) (rv : V) : Prop := (d.fleet = false → word = "fleet" ∧ rv = v) ∧ (d.fleet = true → ∀ b hs ps, d = fD b hs ps → AnsG way hs ps pd dl vp vl word rv)
section
variable {P : Program} {w : World} {K : PySem.W.Frag} {mg : Str → Option Value} {base : Heap}
/-! ### _law_asked -/
theorem sc__law_asked : FnScope ["way", "fleet", "place", "last", "e"] ["way", "fleet", "place", "last"] (defScope s__law_asked) := ⟨rfl, rfl, rfl, by decide +kernel, rfl, by decide +kernel, by decide +kernel⟩
def spAsked (K : PySem.W.Frag) : Sp := fun vs H Q _ => ∃ (R : Hp) (way : Int) (v vp vl : V) (d pd dl : D) (word : Str) (rv : V), vs = [.int way, v, vp, vl] ∧ Same R H ∧ Plain R ∧ Rep K R v d ∧ Rep K R vp pd ∧ Rep K R vl dl ∧ 0 ≤ way ∧ way ≤ 6 ∧
  Ans way d pd dl v vp vl word rv ∧ ∀ q H', Same H H' → H' q = some (.lst [.str word, rv]) → Q (.ref q) H'
theorem ok__law_asked (T : Txt K mg) (X : Exm K) (G_moves_from : Def P w K mg base 6 "moves_from" ["fleet", "place"] (spMovF K)) (G_plan : Def P w K mg base 6 "plan" ["fleet", "now", "goal"] (spPlan K)) (G_drained : Def P w K mg base 6 "drained" ["fleet", "now", "house"] (spDrained K))
    (G_reachable : Def P w K mg base 6 "reachable" ["fleet", "now"] (spMovF K)) (G_is_closed : Def P w K mg base 6 "is_closed" ["fleet", "now", "thing"] (spClosed K)) (G_after_moves : Def P w K mg base 6 "after_moves" ["fleet", "now", "moves"] (spAft K))
    (G_is_placement : Def P w K mg base 6 "is_placement" ["fleet", "thing"] (spIsP K)) : Def P w K mg base 8 "_law_asked" ["way", "fleet", "place", "last"] (spAsked K) := by
  obtain ⟨f, fd, F⟩ := T.a__law_asked
  refine Def.mk F sc__law_asked (fun _ _ _ _ _ _ us hl => match us, hl with | [_, _, _, _], _ => rfl) (fun vs H Q E h => ?_) (fun cdv A outer s H vs Q E hr h => ?_)
  · obtain ⟨R, way, v, vp, vl, d, pd, dl, word, rv, rfl, _⟩ := h
    rfl
  · obtain ⟨R, way, v, vp, vl, d, pd, dl, word, rv, rfl, sR, pR, hv, hp, hl, w0, w6, ⟨a0, a1⟩, hq⟩ := h
    refine ⟨_, (pss_cons (GX.ps_try_ma rfl rfl sc__law_asked.nd tkB (fun W pn xe tk po => (pss_one (ps_if (pt_cmpR op_eq (pv 0) pe_int (nomark _)) (pss_one (ps_expr (pe_dX G_moves_from (hr.mono (by decide)) (by rfl) tk (pa_cons (pv 1) (pa_cons (pv 2) pa_nil))))) (pss_one (ps_if (pt_cmpR op_eq (pv 0) pe_int (nomark _)) (pss_one (ps_expr (pe_dX G_plan (hr.mono (by decide)) (by rfl) tk (pa_cons (pv 1) (pa_cons (pv 2) (pa_cons (pv 3) pa_nil)))))) (pss_one (ps_if (pt_cmpR op_eq (pv 0) pe_int (nomark _)) (pss_one (ps_expr (pe_dX G_drained (hr.mono (by decide)) (by rfl) tk (pa_cons (pv 1) (pa_cons (pv 2) (pa_cons (pv 3) pa_nil)))))) (pss_one (ps_if (pt_cmpR op_eq (pv 0) pe_int (nomark _)) (pss_one (ps_expr (pe_dX G_reachable (hr.mono (by decide)) (by rfl) tk (pa_cons (pv 1) (pa_cons (pv 2) pa_nil))))) (pss_one (ps_if (pt_cmpR op_eq (pv 0) pe_int (nomark _)) (pss_one (ps_expr (pe_dX G_is_closed (hr.mono (by decide)) (by rfl) tk (pa_cons (pv 1) (pa_cons (pv 2) (pa_cons (pv 3) pa_nil)))))) (pss_one (ps_if (pt_cmpR op_eq (pv 0) pe_int (nomark _)) (pss_one (ps_expr (pe_dX G_after_moves (hr.mono (by decide)) (by rfl) tk (pa_cons (pv 1) (pa_cons (pv 2) (pa_cons (pv 3) pa_nil)))))) (pss_one (ps_expr (pe_dX G_is_placement (hr.mono (by decide)) (by rfl) tk (pa_cons (pv 1) (pa_cons (pv 2) pa_nil)))))))))))))))))) (GX.HdA.named (i := 4) rfl rfl ⟨by rfl, by decide, .inl (mg_NoFleet T)⟩ (fun a oe cls d pn hz hf => (pss_one (ps_ret (pe_lst (pa_cons pe_str (pa_cons (GX.pe_xfld (xc_NoFleet T) hz hf (pv 4)) pa_nil)))))) (GX.HdA.named (i := 4) rfl rfl ⟨by rfl, by decide, .inl (mg_NoPlace T)⟩ (fun a oe cls d pn hz hf => (pss_one (ps_ret (pe_lst (pa_cons pe_str (pa_cons (GX.pe_xfld (xc_NoPlace T) hz hf (pv 4)) pa_nil)))))) (GX.HdA.named (i := 4) rfl rfl ⟨by rfl, by decide, .inl (mg_NoHouse T)⟩ (fun a oe cls d pn hz hf => (pss_one (ps_ret (pe_lst (pa_cons pe_str (pa_cons (GX.pe_xfld (xc_NoHouse T) hz hf (pv 4)) pa_nil)))))) (GX.HdA.named (i := 4) rfl rfl ⟨by rfl, by decide, .inl (mg_NoPlan T)⟩ (fun a oe cls d pn hz hf => (pss_one (ps_ret (pe_lst (pa_cons pe_str (pa_cons (GX.pe_xfld (xc_NoPlan T) hz hf (pv 4)) pa_nil)))))) (GX.HdA.bare ⟨by rfl, by decide, .inl T.g_GuestError.g⟩ (fun a oe cls d pn hz hf => (pss_one (ps_ret (pe_lst (pa_cons pe_str (pa_cons pe_non pa_nil)))))) GX.HdA.nil))))))
      (pss_one (ps_ret (pe_lst (pa_cons pe_str (pa_cons pe_non pa_nil)))))), ?_⟩
    have qw : ∀ {x : Str} {u : V}, word = x ∧ rv = u → ∀ q H', Same H H' → H' q = some (.lst [.str x, u]) → Q (.ref q) H' := fun {x u} e q H' s h => by
      obtain ⟨rfl, rfl⟩ := e
      exact hq q H' s h
    have hw : way = 0 ∨ way = 1 ∨ way = 2 ∨ way = 3 ∨ way = 4 ∨ way = 5 ∨ way = 6 := by omega
    have noP : way ≠ 1 → way ≠ 2 → way ≠ 5 → d.fleet = true → ∀ b hs ps, d = fD b hs ps → rowOf hs ps pd = none ∧ (word = "place" ∧ rv = vp) := fun n1 n2 n5 hf b hs ps e => by
      rcases a1 hf b hs ps e with h | ⟨_, h | h | h⟩
      · exact ⟨h.1, h.2.2⟩
      · exact absurd h.1 n1
      · exact absurd h.1 n2
      · exact absurd h.1 n5
    rcases hw with rfl | rfl | rfl | rfl | rfl | rfl | rfl
    · refine ⟨_, rfl, rfl, _, rfl, iteT ?_⟩
      refine ⟨_, rfl, _, rfl, R, v, vp, d, pd, rfl, sR, pR, hv, hp, fun c => err_f X rfl (qw (a0 c)), fun hf b hs ps e => ?_⟩
      obtain ⟨c, z⟩ := noP (by decide) (by decide) (by decide) hf b hs ps e
      exact ⟨c, err_p X rfl (qw z)⟩
    · refine ⟨_, rfl, rfl, _, rfl, iteF ⟨_, rfl, rfl, _, rfl, iteT ?_⟩⟩
      refine ⟨_, rfl, _, rfl, _, rfl, R, v, vp, vl, d, pd, dl, rfl, sR, pR, hv, hp, hl, fun c => err_f X rfl (qw (a0 c)), fun hf b hs ps e => ⟨fun c => err_p X rfl (qw ?_), fun row c => ?_⟩⟩
      · rcases a1 hf b hs ps e with h | ⟨⟨row, h⟩, _⟩
        · exact h.2.2
        · rw [c] at h
          cases h
      · rcases a1 hf b hs ps e with h | ⟨_, h | h | h⟩
        · rw [c] at h
          cases h.1
        · exact ⟨h.2.1, err_p X rfl (qw h.2.2)⟩
        · exact absurd h.1 (by decide)
        · exact absurd h.1 (by decide)
    · refine ⟨_, rfl, rfl, _, rfl, iteF ⟨_, rfl, rfl, _, rfl, iteF ⟨_, rfl, rfl, _, rfl, iteT ?_⟩⟩⟩
      refine ⟨_, rfl, _, rfl, _, rfl, R, v, vp, vl, d, pd, dl, rfl, sR, pR, hv, hp, hl, fun c => err_f X rfl (qw (a0 c)), fun hf b hs ps e => ⟨fun c => err_p X rfl (qw ?_), fun row c => ?_⟩⟩
      · rcases a1 hf b hs ps e with h | ⟨⟨row, h⟩, _⟩
        · exact h.2.2
        · rw [c] at h
          cases h
      · rcases a1 hf b hs ps e with h | ⟨_, h | h | h⟩
        · rw [c] at h
          cases h.1
        · exact absurd h.1 (by decide)
        · exact ⟨h.2.1, err_h X rfl (qw h.2.2)⟩
        · exact absurd h.1 (by decide)
    · refine ⟨_, rfl, rfl, _, rfl, iteF ⟨_, rfl, rfl, _, rfl, iteF ⟨_, rfl, rfl, _, rfl, iteF ⟨_, rfl, rfl, _, rfl, iteT ?_⟩⟩⟩⟩
      refine ⟨_, rfl, _, rfl, R, v, vp, d, pd, rfl, sR, pR, hv, hp, fun c => err_f X rfl (qw (a0 c)), fun hf b hs ps e => ?_⟩
      obtain ⟨c, z⟩ := noP (by decide) (by decide) (by decide) hf b hs ps e
      exact ⟨c, err_p X rfl (qw z)⟩
    · refine ⟨_, rfl, rfl, _, rfl, iteF ⟨_, rfl, rfl, _, rfl, iteF ⟨_, rfl, rfl, _, rfl, iteF ⟨_, rfl, rfl, _, rfl, iteF ⟨_, rfl, rfl, _, rfl, iteT ?_⟩⟩⟩⟩⟩
      refine ⟨_, rfl, _, rfl, _, rfl, R, v, vp, vl, d, pd, rfl, sR, pR, hv, hp, fun c => err_f X rfl (qw (a0 c)), fun hf b hs ps e => ?_⟩
      obtain ⟨c, z⟩ := noP (by decide) (by decide) (by decide) hf b hs ps e
      exact ⟨c, err_p X rfl (qw z)⟩
    · refine ⟨_, rfl, rfl, _, rfl, iteF ⟨_, rfl, rfl, _, rfl, iteF ⟨_, rfl, rfl, _, rfl, iteF ⟨_, rfl, rfl, _, rfl, iteF ⟨_, rfl, rfl, _, rfl, iteF ⟨_, rfl, rfl, _, rfl, iteT ?_⟩⟩⟩⟩⟩⟩
      refine ⟨_, rfl, _, rfl, _, rfl, R, v, vp, vl, d, pd, dl, rfl, sR, pR, hv, hp, hl, fun c => err_f X rfl (qw (a0 c)), fun hf b hs ps e => ?_⟩
      unfold AftP
      rcases a1 hf b hs ps e with h | ⟨⟨row, h0⟩, h | h | h⟩
      · rw [h.1]
        exact err_p X rfl (qw h.2.2)
      · exact absurd h.1 (by decide)
      · exact absurd h.1 (by decide)
      · rw [h0, h.2.1]
        exact err_n X rfl (qw h.2.2)
    · refine ⟨_, rfl, rfl, _, rfl, iteF ⟨_, rfl, rfl, _, rfl, iteF ⟨_, rfl, rfl, _, rfl, iteF ⟨_, rfl, rfl, _, rfl, iteF ⟨_, rfl, rfl, _, rfl, iteF ⟨_, rfl, rfl, _, rfl, iteF ?_⟩⟩⟩⟩⟩⟩
      refine ⟨_, rfl, _, rfl, R, v, vp, d, pd, rfl, sR, pR, hv, hp, fun c => err_f X rfl (qw (a0 c)), fun hf b hs ps e => ?_⟩
      exfalso
      rcases a1 hf b hs ps e with h | ⟨_, h | h | h⟩
      · exact absurd h.2.1 (by decide)
      · exact absurd h.1 (by decide)
      · exact absurd h.1 (by decide)
      · exact absurd h.1 (by decide)
end
end K89

set_option Elab.async false
set_option linter.all false
set_option maxRecDepth 100000
set_option maxHeartbeats 1000000
namespace K89
open PySem PySem.Spec PyProof.Rows L2 RP
theorem okN_th {z : Str} (h : okName z = true) : z.length ≤ 1000 := nm_th h
section
variable {K : PySem.W.Frag} {R H : Hp} {v vp vm : V} {pd dm : D} {hs ps : List (Str × Int)} {row : List Nat} {ds : List D} {Q : VK} {E : XK}
theorem aft_ask (oh : HsOk hs) (op : PsOk ps) (nd : (ps.map Prod.fst).Nodup) (s : Same R H) (p : Plain R) (rv : Rep K R v (fD true hs ps)) (rp : Rep K R vp pd) (rm : Rep K R vm dm) (h1 : rowOf hs ps pd = some row) (h2 : dm.seq = some ds) (h3 : ds.length ≤ 1000) (h4 : ∀ e ∈ ds, Lo 9 e)
    (h6 : AftQ H Q hs ps (runM hs ps row 0 ds)) : spAft K [v, vp, vm] H Q E := ⟨R, v, vp, vm, fD true hs ps, pd, dm, rfl, s, p, rv, rp, rm, (fun h => by rw [fleet_ok oh op] at h; cases h), fun _ b2 hs2 ps2 e => by
  obtain ⟨rfl, rfl, rfl⟩ := fD_inj e
  unfold AftP
  rw [h1, h2]
  exact ⟨h3, h4, nd, h6⟩⟩
theorem aft_inr {row2 : List Nat} (hrun : runM hs ps row 0 ds = .inr row2) (k : ∀ q H', Same H H' → H q = none → H' q = some (.dK (plK hs ps row2)) → Q (.ref q) H') : AftQ H Q hs ps (runM hs ps row 0 ds) := by
  rw [hrun]
  exact k
theorem aft_inl {m : Nat} (hrun : runM hs ps row 0 ds = .inl m) (k : ∀ H', Same H H' → Q (.int (m : Nat)) H') : AftQ H Q hs ps (runM hs ps row 0 ds) := by
  rw [hrun]
  exact k
theorem reps_take : ∀ (n : Nat) {vs : List V} {ds : List D}, Reps K R vs ds → Reps K R (vs.take n) (ds.take n)
  | 0, _, _, _ => .nil
  | _ + 1, _, _, .nil => .nil
  | n + 1, _, _, .cons h t => .cons h (reps_take n t)
theorem reps_drop : ∀ (n : Nat) {vs : List V} {ds : List D}, Reps K R vs ds → Reps K R (vs.drop n) (ds.drop n)
  | 0, _, _, h => h
  | _ + 1, _, _, .nil => .nil
  | n + 1, _, _, .cons _ t => reps_drop n t
end
theorem wrong_lo {d : D} (h : d ∈ wrongD) : Lo 9 d := by
  simp only [wrongD, List.mem_cons, List.not_mem_nil, or_false] at h
  rcases h with rfl | rfl | rfl | rfl | rfl | rfl | rfl
  · exact True.intro
  · exact True.intro
  · intro e he
    rcases List.mem_cons.mp he with rfl | he
    · show PyData.strOk "nobody" = true
      decide +kernel
    · rw [List.mem_singleton.mp he]
      show PyData.strOk "ha" = true
      decide +kernel
  · intro e he
    cases he
  · intro e he
    rcases List.mem_cons.mp he with rfl | he
    · show PyData.strOk "a" = true
      decide +kernel
    · rw [List.mem_singleton.mp he]
      show PyData.strOk "hz" = true
      decide +kernel
  · intro e he
    rw [List.mem_singleton.mp he]
    show PyData.strOk "a" = true
    decide +kernel
  · show PyData.strOk "a" = true
    decide +kernel
section
variable {P : Program} {w : World} {K : PySem.W.Frag} {mg : Str → Option Value} {base : Heap}
/-! ### _law_moves_right -/
theorem sc__law_moves_right : FnScope ["box", "fleet", "place", "moves", "now", "turn", "some", "move", "at", "wrong", "stay", "guest"] ["box", "fleet", "place"] (defScope s__law_moves_right) := ⟨rfl, rfl, rfl, by decide +kernel, rfl, by decide +kernel, by decide +kernel⟩
def spMR (K : PySem.W.Frag) : Sp := fun vs H Q _ => ∃ (R : Hp) (a f ha pa q : Addr) (n : Int) (xs : List V) (hs ps : List (Str × Int)) (row : List Nat), vs = [.ref a, .ref f, .ref q] ∧ BoxAt H a n ∧ n ≤ 100000 ∧ Same R H ∧ Plain R ∧ R a = none ∧ LawFl hs ps row ∧
  FlAt K R f ha pa xs true hs ps ∧ Rep K R (.ref f) (fD true hs ps) ∧ R q = some (.dK (plK hs ps row)) ∧ ∀ H', BoxAt H' a (n + 20) → But a H H' → Q (.bl true) H'
theorem ok__law_moves_right (T : Txt K mg) (G__law_take : Def P w K mg base 1 "_law_take" ["box", "many"] (spTake K)) (G__law_moves : Def P w K mg base 2 "_law_moves" ["fleet", "place"] (spLMoves K)) (G_after_moves : Def P w K mg base 6 "after_moves" ["fleet", "now", "moves"] (spAft K))
    (G__law_same : Def P w K mg base 11 "_law_same" ["told", "due"] (spSame 10 K)) : Def P w K mg base 12 "_law_moves_right" ["box", "fleet", "place"] (spMR K) := by
  obtain ⟨f, fd, F⟩ := T.a__law_moves_right
  refine Def.mk F sc__law_moves_right (fun _ _ _ _ _ _ us hl => match us, hl with | [_, _, _], _ => rfl) (fun vs H Q E h => ?_) (fun cdv A outer s H vs Q E hr h => ?_)
  · obtain ⟨R, a, f, ha, pa, q, n, xs, hs, ps, row, rfl, _⟩ := h
    rfl
  · obtain ⟨R, a, f, ha, pa, q, n, xs, hs, ps, row, rfl, bx, hn, sR, pR, nRa, LF, fR, rF, hRq, hq⟩ := h
    have oh := LF.oh
    have op := LF.op
    have n7 := op.n7
    have n3 := oh.n3
    refine ⟨_, (pss_cons (ps_par (i := 3) (j := 4) rfl sc__law_moves_right.nd rfl rfl (by decide) rfl rfl (pa_cons (pe_lst pa_nil) (pa_cons (pe_callTy call_dictD (by rfl) T.b_dict (by decide +kernel) (pa_cons (pv 2) pa_nil)) pa_nil)) (by rfl))
      (pss_cons (ps_for (passes_of rfl) rfl (pi_range1 (by rfl) T.b_range (pa_cons (pe_d G__law_take (hr.mono (by decide)) (by rfl) (pa_cons (pv 0) (pa_cons pe_int pa_nil))) pa_nil)) (pg_name (i := 5) sc__law_moves_right.nd rfl (Or.inl rfl))
        (pss_cons (ps_set (i := 6) sc__law_moves_right.nd rfl (Or.inl rfl) (pe_d G__law_moves (hr.mono (by decide)) (by rfl) (pa_cons (pv 1) (pa_cons (pv 4) pa_nil))))
      (pss_one (ps_if (pt_cmpR (kop_neD K rfl hr.units) (pv 6) (pe_lst pa_nil) (nomark _)) (pss_cons (ps_set (i := 7) sc__law_moves_right.nd rfl (Or.inl rfl) (pe_ix (kix_list K rfl) (pv 6) (pe_d G__law_take (hr.mono (by decide)) (by rfl) (pa_cons (pv 0) (pa_cons (pe_callB (kcall_len_seq K rfl) (by rfl) T.b_len (by decide +kernel) (pa_cons (pv 6) pa_nil)) pa_nil))) (fun _ _ => rfl)))
      (pss_cons (ps_expr (kpe_bm K rfl (pe_bm PySem.F.plainAttrs_list PySem.F.slot_list_append PySem.F.type_list_append mt_append (pv 3) (pa_cons (pv 7) pa_nil))))
      (pss_one (ps_dput (hu_of hr) (pv 4) (pe_ix (kix_tup K rfl) (pv 7) pe_int (fun _ _ => rfl)) (pe_ix (kix_tup K rfl) (pv 7) pe_int (fun _ _ => rfl)) rfl)))) pss_nil))))
      (pss_cons (ps_if (pt_not (pt_val (pe_d G__law_same (hr.mono (by decide)) (by rfl) (pa_cons (pe_lst (pa_cons (pe_d G_after_moves (hr.mono (by decide)) (by rfl) (pa_cons (pv 1) (pa_cons (pv 2) (pa_cons (pv 3) pa_nil)))) (pa_cons (pe_d G_after_moves (hr.mono (by decide)) (by rfl) (pa_cons (pv 1) (pa_cons (pv 2) (pa_cons (pe_callTy (kcall_tuple_of K rfl) (by rfl) T.b_tuple (by decide +kernel) (pa_cons (pv 3) pa_nil)) pa_nil)))) pa_nil))) (pa_cons (pe_lst (pa_cons (pv 4) (pa_cons (pv 4) pa_nil))) pa_nil))))) (pss_one (ps_ret pe_bl)) pss_nil)
      (pss_cons (ps_set (i := 8) sc__law_moves_right.nd rfl (Or.inl rfl) (pe_d G__law_take (hr.mono (by decide)) (by rfl) (pa_cons (pv 0) (pa_cons (pe_op op_add (pe_callB (kcall_len_seq K rfl) (by rfl) T.b_len (by decide +kernel) (pa_cons (pv 3) pa_nil)) pe_int) pa_nil))))
      (pss_cons (ps_set (i := 9) sc__law_moves_right.nd rfl (Or.inl rfl) (pe_ix (kix_list K rfl) (pe_box (pe_lst (pa_cons pe_non (pa_cons pe_int (pa_cons (pe_tup (pa_cons pe_str (pa_cons pe_str pa_nil))) (pa_cons (pe_lst pa_nil) (pa_cons (pe_tup (pa_cons pe_str (pa_cons pe_str pa_nil))) (pa_cons (pe_tup (pa_cons pe_str pa_nil)) (pa_cons pe_str pa_nil))))))))) (pe_d G__law_take (hr.mono (by decide)) (by rfl) (pa_cons (pv 0) (pa_cons pe_int pa_nil))) (fun _ _ => rfl)))
      (pss_cons (ps_if (pt_not (pt_val (pe_d G__law_same (hr.mono (by decide)) (by rfl) (pa_cons (pe_d G_after_moves (hr.mono (by decide)) (by rfl) (pa_cons (pv 1) (pa_cons (pv 2) (pa_cons (pe_op op_cat (pe_op op_cat (pe_slice (ksl_list K rfl) (pv 3) po_none (po_some (pv 8))) (pe_lst (pa_cons (pv 9) pa_nil))) (pe_slice (ksl_list K rfl) (pv 3) (po_some (pv 8)) po_none)) pa_nil)))) (pa_cons (pv 8) pa_nil))))) (pss_one (ps_ret pe_bl)) pss_nil)
      (pss_cons (ps_set (i := 10) sc__law_moves_right.nd rfl (Or.inl rfl) (pe_slice (ksl_list K rfl) (pe_lock (pe_lc (own := [("guest", 11)]) rfl sc__law_moves_right.nd (pi_keys (pv 2)) (blkOk_by (own := [("guest", 11)]) (N := ["box", "fleet", "place", "moves", "now", "turn", "some", "move", "at", "wrong", "stay", "guest"]) (sc := defScope s__law_moves_right) (by decide +kernel)) (fun _ _ _ _ _ => (pg_name (i := 11) sc__law_moves_right.nd rfl (Or.inl rfl))) (fun _ _ _ _ _ => pts_nil) (fun _ _ _ _ _ => (pe_tup (pa_cons (pv 11) (pa_cons (pe_dget (hu_of hr) (pv 2) (pv 11) (fun _ _ => rfl)) pa_nil)))))) po_none (po_some pe_int)))
      (pss_one (ps_ret (pe_or (pe_not (pe_cmpR (kop_neD K rfl hr.units) (pv 10) (pe_lst pa_nil) (nomark _))) (pe_one (pe_d G__law_same (hr.mono (by decide)) (by rfl) (pa_cons (pe_d G_after_moves (hr.mono (by decide)) (by rfl) (pa_cons (pv 1) (pa_cons (pv 2) (pa_cons (pv 10) pa_nil)))) (pa_cons pe_int pa_nil)))))))))))))), ?_⟩
    have nqa : q ≠ a := fun e => by
      rw [e, nRa] at hRq
      cases hRq
    refine ⟨Nat.zero_le _, fun mv hmv => ?_⟩
    have s1 : Same H (upd H mv (.lst [])) := same_new hmv
    have h1 : upd H mv (.lst []) mv = some (.lst []) := upd_same
    have nmva : mv ≠ a := bx.ne hmv
    generalize upd H mv (.lst []) = H1 at s1 h1 ⊢
    refine ⟨_, rfl, q, _, rfl, .inl (s1 _ _ (sR _ _ hRq)), fun nw hnw => ⟨_, _, rfl, ?_⟩⟩
    have s2 : Same H1 (upd H1 nw (.dK (plK hs ps row))) := same_new hnw
    have h2 : upd H1 nw (.dK (plK hs ps row)) nw = some (.dK (plK hs ps row)) := upd_same
    have nnwa : nw ≠ a := (bx.same s1).ne hnw
    have nnm : nw ≠ mv := ne_at h1 hnw
    have hnw0 : H nw = none := s1.free hnw
    generalize upd H1 nw (.dK (plK hs ps row)) = H2 at s2 h2 ⊢
    have s02 := s1.trans s2
    refine ⟨_, rfl, a, n, 6, rfl, bx.same s02, by omega, by omega, by omega, fun r H3 r0 r1 bx3 b3 => ⟨_, rfl, by omega, by omega, ?_⟩⟩
    have szp : ∀ row', (plK hs ps row').length < sizeLine := fun row' => by
      rw [plK_len]
      have : 1000 ≤ sizeLine := by decide
      omega
    refine for_it (w := walk_range) (fun t σ H' => ∃ (o5 o6 o7 o8 o9 o10 o11 : Option V) (rw' : List Nat) (zs : List V) (ds : List D) (RK : Hp), σ = [some (.ref a), some (.ref f), some (.ref q), some (.ref mv), some (.ref nw), o5, o6, o7, o8, o9, o10, o11] ∧ BoxAt H' a (n + 1 + (t : Nat)) ∧ But a H H' ∧ Same R RK ∧ Plain RK ∧ Same RK H' ∧
        RK a = none ∧ RK mv = none ∧ RK nw = none ∧ H' mv = some (.lst zs) ∧ H' nw = some (.dK (plK hs ps rw')) ∧ Reps K RK zs ds ∧ ds.length ≤ t ∧ RowOk hs ps rw' ∧ runM hs ps row 0 ds = .inr rw' ∧ ∀ d ∈ ds, Lo 9 d)
      ⟨_, _, _, _, _, _, _, row, [], [], R, rfl, bx3.mono (by omega), (But.of s02).trans b3, Same.refl R, pR, b3.same nRa (sR.trans s02), nRa, sR.out hmv, (sR.trans s1).out hnw, b3 _ _ nmva (s2 _ _ h1), b3 _ _ nnwa h2, .nil, Nat.le_refl 0, LF.ok, rfl, fun d hd => by cases hd⟩ (fun _ _ _ _ _ => True.intro) ?_ ?_
    · rintro t x σ Hx H4 ht ⟨o5, o6, o7, o8, o9, o10, o11, rw', zs, ds, RK, rfl, bx4, B4, k1, k2, k3, k4, k5, k6, k7, k8, k9, k10, k11, k12, k13⟩ ⟨rfl, hx⟩
      have ht5 : t < 6 := by omega
      have f4 := fR.same (k1.trans k3)
      have npa : nw ≠ pa := fun e => by
        rw [e, k1 _ _ fR.p] at k6
        cases k6
      refine ⟨_, rfl, _, rfl, f, ha, pa, nw, xs, hs, ps, rw', rfl, f4, npa, n7, n3, oh.nd, LF.nd, k8, k11.n, k11.b, fun L H5 ms s5 hL0 hL pm => ?_⟩
      have nLa : L ≠ a := bx4.ne hL0
      have bx5 := bx4.same s5
      have k35 := k3.trans s5
      have lm := mvs_len hs ps rw' n7 n3
      have lms := pm.length
      refine ⟨_, rfl, Nat.zero_le _, fun E hE => ?_⟩
      have s6 : Same H5 (upd H5 E (.lst [])) := same_new hE
      have h6 : upd H5 E (.lst []) E = some (.lst []) := upd_same
      generalize upd H5 E (.lst []) = H6 at s6 h6 ⊢
      have pm6 := paired_mono (fun _ _ => MnAt.same s6) pm
      have sz : ∀ {m : Nat × Nat × List Nat}, m ∈ movesR hs ps rw' → okName (nmOf ps m.1) = true ∧ okName (nmOf hs m.2.1) = true := fun {m} hm => by
        obtain ⟨a1, a2, _⟩ := movesR_mem.mp hm
        exact ⟨nm_ok op.nm a1, nm_ok oh.nm a2⟩
      have rL : Rep K H6 (.ref L) (.lst ((movesR hs ps rw').map (mvD hs ps))) := by
        refine .lst (SqL.of (s6 _ _ hL)) ?_
        have key : ∀ {ms' : List (Nat × Nat × List Nat)} {zs' : List V}, (∀ m ∈ ms', m ∈ movesR hs ps rw') → Paired (MnAt hs ps H6) ms' zs' → Reps K H6 zs' (ms'.map (mvD hs ps)) := by
          intro ms' zs' hin pp
          induction pp with
          | nil => exact .nil
          | @cons m z l1 l2 h _ ih =>
            obtain ⟨t, rfl, h⟩ := h
            obtain ⟨o1, o2⟩ := sz (hin m List.mem_cons_self)
            exact .cons (.tup (SqT.of h) (.cons (.str _ (nm_sz o1)) (.cons (.str _ (nm_sz o2)) .nil))) (ih fun x hx => hin x (List.mem_cons_of_mem _ hx))
        exact key (fun _ h => h) pm6
      have lo2 : ∀ {m : Nat × Nat × List Nat}, m ∈ movesR hs ps rw' → ∀ k, Lo (k + 2) (mvD hs ps m) := fun {m} hm k => by
        obtain ⟨o1, o2⟩ := sz hm
        intro e he
        rcases List.mem_cons.mp he with rfl | he
        · exact ok_strOk o1
        · rw [List.mem_singleton.mp he]
          exact ok_strOk o2
      have lo3 : Lo 3 (.lst ((movesR hs ps rw').map (mvD hs ps))) := fun e he => by
        obtain ⟨m, hm, rfl⟩ := List.mem_map.mp he
        exact lo2 hm 0
      refine ⟨(D.lst ((movesR hs ps rw').map (mvD hs ps))).py, .list [], rL.dp lo3, .lst (SqL.of h6) .nil, lo3.shaped, by decide, _, rfl, ?_⟩
      rw [eqv_nil, List.isEmpty_map]
      have k36 := k35.trans s6
      have bx6 := bx5.same s6
      have s46 := s5.trans s6
      have B6 : But a H H6 := B4.trans (But.of s46)
      have k7' := s46 _ _ k7
      have k8' := s46 _ _ k8
      cases em : (movesR hs ps rw').isEmpty with
      | true => exact iteF ⟨_, _, _, _, _, _, _, rw', zs, ds, RK, rfl, bx6.mono (by omega), B6, k1, k2, k36, k4, k5, k6, k7', k8', k9, by omega, k11, k12, k13⟩
      | false =>
        have lpos : 0 < ms.length := by
          cases c : movesR hs ps rw' with
          | nil =>
            rw [c] at em
            cases em
          | cons x r =>
            rw [c] at lms
            rw [← lms]
            exact Nat.succ_pos _
        refine iteT ⟨_, rfl, _, rfl, _, rfl, L, _, rfl, .inl (SqL.of (s6 _ _ hL)), a, _, _, rfl, bx6, by omega, by omega, by omega, fun r2 H7 v0 v1 bx7 b7 => ?_⟩
        obtain ⟨z, hz⟩ : ∃ z, ms[r2.toNat]? = some z := ⟨_, List.getElem?_eq_getElem (by omega)⟩
        obtain ⟨m, hm, tm, rfl, htm⟩ := pm6.get' hz
        have hmm := List.mem_of_getElem? hm
        have e := atI_nat hz
        rw [show ((r2.toNat : Nat) : Int) = r2 by omega] at e
        have k37 := b7.same k4 k36
        have B7 := B6.trans b7
        have ntm : tm ≠ a := fun e => by
          obtain ⟨x1, x2, x3, e2, _⟩ := bx6
          rw [e, e2] at htm
          cases htm
        have htm7 := b7 _ _ ntm htm
        have k7'' := b7 _ _ nmva k7'
        have k8'' := b7 _ _ nnwa k8'
        obtain ⟨a1, a2, a3, a4, a5⟩ := movesR_mem.mp hmm
        obtain ⟨o1, o2⟩ := sz hmm
        have lz := k9.len
        refine ⟨L, _, r2, _, rfl, rfl, SqL.of (b7 _ _ nLa (s6 _ _ hL)), e, ?_⟩
        have szz : zs.length < sizeLine := by
          have : 1000 ≤ sizeLine := by decide
          omega
        refine ⟨_, rfl, .inl ⟨rfl, _, SqL.of k7''⟩, _, rfl, mv, _, _, rfl, rfl, k7'', szz, ?_⟩
        have ntmv : tm ≠ mv := fun e => by
          rw [e, k7''] at htm7
          cases htm7
        have ntnw : tm ≠ nw := fun e => by
          rw [e, k8''] at htm7
          cases htm7
        have htm8 : upd H7 mv (.lst (zs ++ [.ref tm])) tm = some (.tup [.str (nmOf ps m.1), .str (nmOf hs m.2.1)]) := by rw [upd_ne ntmv]; exact htm7
        have hnw8 : upd H7 mv (.lst (zs ++ [.ref tm])) nw = some (.dK (plK hs ps rw')) := by rw [upd_ne nnm]; exact k8''
        have hmv8 : upd H7 mv (.lst (zs ++ [.ref tm])) mv = some (.lst (zs ++ [.ref tm])) := upd_same
        have k38 : Same RK (upd H7 mv (.lst (zs ++ [.ref tm]))) := k37.skip k5
        have B8 : But a H (upd H7 mv (.lst (zs ++ [.ref tm]))) := fun b o nb e => by
          rw [upd_ne (fun c => by rw [c, hmv] at e; cases e)]
          exact B7 b o nb e
        have bx8 := bx7.but (But.write (b := mv) (o := .lst (zs ++ [.ref tm]))) (Ne.symm nmva)
        generalize upd H7 mv (.lst (zs ++ [.ref tm])) = H8 at htm8 hnw8 hmv8 k38 B8 bx8 ⊢
        refine ⟨_, rfl, tm, _, 1, _, rfl, rfl, SqT.of htm8, rfl, _, rfl, _, rfl, tm, _, 0, _, rfl, rfl, SqT.of htm8, rfl, nw, _, rfl, DPut.k (k := .inr (nmOf ps m.1)) hnw8 (szp _), ?_⟩
        rw [plK_set LF.nd a1 k11.n, ← a3]
        have htm9 : upd H8 nw (.dK (plK hs ps m.2.2)) tm = some (.tup [.str (nmOf ps m.1), .str (nmOf hs m.2.1)]) := by rw [upd_ne ntnw]; exact htm8
        have hmv9 : upd H8 nw (.dK (plK hs ps m.2.2)) mv = some (.lst (zs ++ [.ref tm])) := by rw [upd_ne (Ne.symm nnm)]; exact hmv8
        have hnw9 : upd H8 nw (.dK (plK hs ps m.2.2)) nw = some (.dK (plK hs ps m.2.2)) := upd_same
        have k39 : Same RK (upd H8 nw (.dK (plK hs ps m.2.2))) := k38.skip k6
        have B9 : But a H (upd H8 nw (.dK (plK hs ps m.2.2))) := fun b o nb e => by
          rw [upd_ne (fun c => by rw [c, hnw0] at e; cases e)]
          exact B8 b o nb e
        have bx9 := bx8.but (But.write (b := nw) (o := .dK (plK hs ps m.2.2))) (Ne.symm nnwa)
        generalize upd H8 nw (.dK (plK hs ps m.2.2)) = H9 at htm9 hmv9 hnw9 k39 B9 bx9 ⊢
        obtain ⟨y1, y2, y3⟩ := know k2 k39 htm9 (fun _ _ z => nomatch z)
        refine ⟨_, _, _, _, _, _, _, m.2.2, zs ++ [.ref tm], ds ++ [mvD hs ps m], _, rfl, bx9.mono (by omega), B9, k1.trans y1, y2, y3, ?_, ?_, ?_, hmv9, hnw9, reps_app (k9.same y1) (.cons (.tup (SqT.of upd_same) (.cons (.str _ (nm_sz o1)) (.cons (.str _ (nm_sz o2)) .nil))) .nil), by rw [List.length_append]; show ds.length + 1 ≤ t + 1; omega, k11.step hmm, run_snoc oh.nd LF.nd k12 hmm, fun d hd => ?_⟩
        · rw [upd_ne (Ne.symm ntm)]
          exact k4
        · rw [upd_ne (Ne.symm ntmv)]
          exact k5
        · rw [upd_ne (Ne.symm ntnw)]
          exact k6
        · rcases List.mem_append.mp hd with h | h
          · exact k13 d h
          · rw [List.mem_singleton.mp h]
            exact lo2 hmm 7
    · rintro σ H4 ⟨o5, o6, o7, o8, o9, o10, o11, rw', zs, ds, RK, rfl, bx4, B4, k1, k2, k3, k4, k5, k6, k7, k8, k9, k10, k11, k12, k13⟩
      have rwn := k11.n
      have rwb := k11.b
      have ld := k9.len
      have rk : ∀ {R : Hp}, RepK K R (plK hs ps rw') (plD hs ps rw') := repK_plK oh op rwn rwb
      have rk0 : ∀ {R : Hp}, RepK K R (plK hs ps row) (plD hs ps row) := repK_plK oh op LF.ok.n LF.ok.b
      have hrow := rowOf_plD LF
      obtain ⟨y1, y2, y3⟩ := know k2 k3 k7 (fun _ _ z => nomatch z)
      have nYa : upd RK mv (.lst zs) a = none := by
        rw [upd_ne (Ne.symm nmva)]
        exact k4
      have hYm : upd RK mv (.lst zs) mv = some (.lst zs) := upd_same
      have rz := k9.same y1
      have sY := k1.trans y1
      generalize upd RK mv (.lst zs) = KM at y1 y2 y3 nYa hYm rz sY
      have rFm := rF.same sY
      have rPm : Rep K KM (.ref q) (.dct (plD hs ps row)) := .dct (.inl (sY _ _ hRq)) rk0
      have rMm : Rep K KM (.ref mv) (.lst ds) := .lst (SqL.of hYm) rz
      have d1000 : ds.length ≤ 1000 := by omega
      -- what is told of the moves
      refine ⟨_, rfl, _, rfl, _, rfl, aft_ask oh op LF.nd y3 y2 rFm rPm rMm hrow rfl d1000 k13 (aft_inr k12 fun q1 H5 s5 nq1 hq1 => ?_)⟩
      refine ⟨_, rfl, _, rfl, _, rfl, mv, _, rfl, .inl ⟨SqL.of (s5 _ _ k7), fun tt htt => ?_⟩⟩
      have s6 : Same H5 (upd H5 tt (.tup zs)) := same_new htt
      have h6 : upd H5 tt (.tup zs) tt = some (.tup zs) := upd_same
      generalize upd H5 tt (.tup zs) = H6 at s6 h6 ⊢
      have s46 := s5.trans s6
      obtain ⟨z1, z2, z3⟩ := know y2 (y3.trans s46) h6 (fun _ _ z => nomatch z)
      refine aft_ask oh op LF.nd z3 z2 (rFm.same z1) (rPm.same z1) (.tup (SqT.of upd_same) (rz.same z1)) hrow rfl d1000 k13 (aft_inr k12 fun q2 H7 s7 nq2 hq2 => ?_)
      refine ⟨(show 2 ≤ sizeLine by decide), fun l1 hl1 => ⟨_, rfl, _, rfl, (show 2 ≤ sizeLine by decide), fun l2 hl2 => ?_⟩⟩
      have s8 : Same H7 (upd H7 l1 (.lst [.ref q1, .ref q2])) := same_new hl1
      have h8 : upd H7 l1 (.lst [.ref q1, .ref q2]) l1 = some (.lst [.ref q1, .ref q2]) := upd_same
      generalize upd H7 l1 (.lst [.ref q1, .ref q2]) = H8 at s8 h8 hl2 ⊢
      have s9 : Same H8 (upd H8 l2 (.lst [.ref nw, .ref nw])) := same_new hl2
      have h9 : upd H8 l2 (.lst [.ref nw, .ref nw]) l2 = some (.lst [.ref nw, .ref nw]) := upd_same
      generalize upd H8 l2 (.lst [.ref nw, .ref nw]) = H9 at s9 h9 ⊢
      have s59 := s6.trans (s7.trans (s8.trans s9))
      have s49 := s5.trans s59
      have pl : (plD hs ps rw').length ≤ 1000 := by rw [plD_len]; omega
      have fd : Fit 9 (.dct (plD hs ps rw')) := fit_dct (n := 5) (fun x hx => fit_plD (n := 5) oh op rwn rwb x hx) pl
      obtain ⟨w1, w2, w3⟩ := know (H := H9) Plain.none (fun _ _ h => nomatch h) (s59 _ _ hq1) (fun _ _ z => nomatch z)
      obtain ⟨w4, w5, w6⟩ := know w2 w3 (s8.trans s9 _ _ hq2) (fun _ _ z => nomatch z)
      obtain ⟨w7, w8, w9⟩ := know w5 w6 (s49 _ _ k8) (fun _ _ z => nomatch z)
      obtain ⟨x1, x2, x3⟩ := know w8 w9 (s9 _ _ h8) (fun _ _ z => nomatch z)
      obtain ⟨x4, x5, x6⟩ := know x2 x3 h9 (fun _ _ z => nomatch z)
      have t34 := x1.trans x4
      have rA1 := (Rep.dct (K := K) (.inl upd_same) (rk (R := upd (fun _ => none) q1 (.dK (plK hs ps rw'))))).same (w4.trans (w7.trans t34))
      have rA2 := (Rep.dct (K := K) (.inl upd_same) (rk (R := upd (upd (fun _ => none) q1 (.dK (plK hs ps rw'))) q2 (.dK (plK hs ps rw'))))).same (w7.trans t34)
      have rA3 := (Rep.dct (K := K) (.inl upd_same) (rk (R := upd (upd (upd (fun _ => none) q1 (.dK (plK hs ps rw'))) q2 (.dK (plK hs ps rw'))) nw (.dK (plK hs ps rw'))))).same t34
      have hl1 := x4 _ _ (upd_same (H := upd (upd (upd (fun _ => none) q1 (.dK (plK hs ps rw'))) q2 (.dK (plK hs ps rw'))) nw (.dK (plK hs ps rw'))) (a := l1) (o := .lst [.ref q1, .ref q2]))
      refine ⟨_, .ref l1, .ref l2, .lst [.dct (plD hs ps rw'), .dct (plD hs ps rw')], rfl, x6, x5, .lst (SqL.of hl1) (.cons rA1 (.cons rA2 .nil)), .lst (SqL.of upd_same) (.cons rA3 (.cons rA3 .nil)), ⟨Nat.le_of_ble_eq_true rfl, all_cons fd (all_cons fd all_nil)⟩, fun H10 s10 => ⟨_, rfl, iteF ?_⟩⟩
      clear w1 w2 w3 w4 w5 w6 w7 w8 w9 x1 x2 x3 x4 x5 x6 t34 rA1 rA2 rA3 hl1
      have s4t := s49.trans s10
      have y3t := y3.trans s4t
      have bx10 := bx4.same s4t
      have B10 := B4.trans (But.of s4t)
      have k7t := s4t _ _ k7
      -- a place for the wrong one
      refine ⟨_, rfl, _, rfl, mv, _, rfl, .inl (SqL.of k7t), _, _, rfl, rfl, a, _, _, rfl, bx10, by omega, by omega, by omega, fun at' H11 a0 a1 bx11 b11 => ?_⟩
      obtain ⟨k, rfl⟩ : ∃ k : Nat, at' = (k : Int) := ⟨at'.toNat, by omega⟩
      have kle : k ≤ ds.length := by omega
      have y11 := b11.same nYa y3t
      have B11 := B10.trans b11
      refine box_lst ((lays_cons (lays_pure .non (fun _ _ h => h)) (lays_cons (lays_pure (v := .int 3) (.int _) (fun _ _ h => h)) (lays_cons (lays_tup (lays_cons (lays_pure (v := .str "nobody") (.str _ (by decide +kernel)) (fun _ _ h => h)) (lays_cons (lays_pure (v := .str "ha") (.str _ (by decide +kernel)) (fun _ _ h => h)) lays_nil)) (Nat.le_of_ble_eq_true rfl)) (lays_cons (lays_lst lays_nil (Nat.le_of_ble_eq_true rfl)) (lays_cons (lays_tup (lays_cons (lays_pure (v := .str "a") (.str _ (by decide +kernel)) (fun _ _ h => h)) (lays_cons (lays_pure (v := .str "hz") (.str _ (by decide +kernel)) (fun _ _ h => h)) lays_nil)) (Nat.le_of_ble_eq_true rfl)) (lays_cons (lays_tup (lays_cons (lays_pure (v := .str "a") (.str _ (by decide +kernel)) (fun _ _ h => h)) lays_nil) (Nat.le_of_ble_eq_true rfl)) (lays_cons (lays_pure (v := .str "a") (.str _ (by decide +kernel)) (fun _ _ h => h)) lays_nil))))))) : LaysA K KM _ _ wrongD) (Same.refl _) y2 y11 (Nat.le_of_ble_eq_true rfl) fun R12 H12 pw vw g12 p12 s12 u12 hpw rw12 => ?_
      have live11 : H11 a ≠ none := by
        obtain ⟨x1, x2, x3, e2, _⟩ := bx11
        rw [e2]
        exact fun h => nomatch h
      have n12 : R12 a = none := (g12.old a live11).trans nYa
      have lw : vw.length = 7 := rw12.len
      refine ⟨_, rfl, a, _, 7, rfl, bx11.same u12, by omega, by omega, by omega, fun r5 H13 c0 c1 bx13 b13 => ?_⟩
      have s13 := b13.same n12 s12
      have B13 := B11.trans ((But.of u12).trans b13)
      obtain ⟨wd, hwd⟩ : ∃ d, wrongD[r5.toNat]? = some d := ⟨_, List.getElem?_eq_getElem (by show r5.toNat < 7; omega)⟩
      obtain ⟨wv, hwv, rwv⟩ := rw12.at hwd
      have ew := atI_nat hwv
      rw [show ((r5.toNat : Nat) : Int) = r5 by omega] at ew
      have wmem := List.mem_of_getElem? hwd
      refine ⟨pw, _, r5, wv, rfl, rfl, SqL.of (s13 _ _ hpw), ew, ?_⟩
      have sY12 := g12.same
      have k7c : H13 mv = some (.lst zs) := s13 _ _ (sY12 _ _ hYm)
      -- the moves with the wrong one among them
      refine ⟨_, rfl, _, rfl, _, rfl, _, rfl, _, rfl, mv, _, rfl, SqL.of k7c, fun p3 hp3 => ?_⟩
      have big : 1000 ≤ sizeLine := by decide
      rw [cut_left]
      have t3 : Same H13 (upd H13 p3 (.lst (zs.take k))) := same_new hp3
      have i3 : upd H13 p3 (.lst (zs.take k)) p3 = some (.lst (zs.take k)) := upd_same
      generalize upd H13 p3 (.lst (zs.take k)) = H14 at t3 i3 ⊢
      refine ⟨_, rfl, (show 1 ≤ sizeLine by decide), fun p4 hp4 => ?_⟩
      have t4 : Same H14 (upd H14 p4 (.lst [wv])) := same_new hp4
      have i4 : upd H14 p4 (.lst [wv]) p4 = some (.lst [wv]) := upd_same
      generalize upd H14 p4 (.lst [wv]) = H15 at t4 i4 ⊢
      have sz5 : (zs.take k).length + 1 ≤ sizeLine := by rw [List.length_take]; omega
      refine ⟨p3, p4, _, _, rfl, rfl, t4 _ _ i3, i4, sz5, fun p5 hp5 => ?_⟩
      have t5 : Same H15 (upd H15 p5 (.lst (zs.take k ++ [wv]))) := same_new hp5
      have i5 : upd H15 p5 (.lst (zs.take k ++ [wv])) p5 = some (.lst (zs.take k ++ [wv])) := upd_same
      generalize upd H15 p5 (.lst (zs.take k ++ [wv])) = H16 at t5 i5 ⊢
      have t35 := t3.trans (t4.trans t5)
      refine ⟨_, rfl, _, rfl, _, rfl, mv, _, rfl, SqL.of (t35 _ _ k7c), fun p6 hp6 => ?_⟩
      rw [cut_right]
      have t6 : Same H16 (upd H16 p6 (.lst (zs.drop k))) := same_new hp6
      have i6 : upd H16 p6 (.lst (zs.drop k)) p6 = some (.lst (zs.drop k)) := upd_same
      generalize upd H16 p6 (.lst (zs.drop k)) = H17 at t6 i6 ⊢
      have sz7 : (zs.take k ++ [wv]).length + (zs.drop k).length ≤ sizeLine := by
        rw [List.length_append, List.length_take, List.length_drop]
        show min k zs.length + 1 + (zs.length - k) ≤ sizeLine
        omega
      refine ⟨p5, p6, _, _, rfl, rfl, t6 _ _ i5, i6, sz7, fun p7 hp7 => ?_⟩
      have t7 : Same H17 (upd H17 p7 (.lst (zs.take k ++ [wv] ++ zs.drop k))) := same_new hp7
      have i7 : upd H17 p7 (.lst (zs.take k ++ [wv] ++ zs.drop k)) p7 = some (.lst (zs.take k ++ [wv] ++ zs.drop k)) := upd_same
      generalize upd H17 p7 (.lst (zs.take k ++ [wv] ++ zs.drop k)) = H18 at t7 i7 ⊢
      have t38 := t35.trans (t6.trans t7)
      have s18 := s13.trans t38
      obtain ⟨v1, v2, v3⟩ := know p12 s18 i7 (fun _ _ z => nomatch z)
      have rzz : Reps K R12 (zs.take k ++ [wv] ++ zs.drop k) (ds.take k ++ [wd] ++ ds.drop k) := reps_app (reps_app (reps_take k (rz.same sY12)) (.cons rwv .nil)) (reps_drop k (rz.same sY12))
      have lok : ∀ e ∈ ds.take k ++ [wd] ++ ds.drop k, Lo 9 e := fun e he => by
        rcases List.mem_append.mp he with h | h
        · rcases List.mem_append.mp h with h | h
          · exact k13 e (List.mem_of_mem_take h)
          · rw [List.mem_singleton.mp h]
            exact wrong_lo wmem
        · exact k13 e (List.mem_of_mem_drop h)
      have lentot : (ds.take k ++ [wd] ++ ds.drop k).length ≤ 1000 := by
        rw [List.length_append, List.length_append, List.length_take, List.length_drop]
        show min k ds.length + 1 + (ds.length - k) ≤ 1000
        omega
      have run2 : runM hs ps row 0 (ds.take k ++ [wd] ++ ds.drop k) = .inl k := by
        have h := run_wrong (d := wd) (ds := ds.take k) (es := ds.drop k) (row2 := rw') (by rw [List.take_append_drop]; exact k12) (wrong_step LF wmem)
        rw [h, List.length_take, Nat.min_eq_left kle]
      refine aft_ask oh op LF.nd v3 v2 ((rFm.same sY12).same v1) ((rPm.same sY12).same v1) (.lst (SqL.of upd_same) (rzz.same v1)) hrow rfl lentot lok (aft_inl run2 fun H19 s19 => ?_)
      refine ⟨_, rfl, fun _ => none, .int (k : Nat), .int (k : Nat), .int (k : Nat), rfl, (fun _ _ h => nomatch h), Plain.none, .int _, .int _, True.intro, fun H20 s20 => ⟨_, rfl, iteF ?_⟩⟩
      have t320 := t38.trans (s19.trans s20)
      have B20 := B13.trans (But.of t320)
      have bx20 := bx13.same t320
      have s20' := s13.trans t320
      have hq20 : H20 q = some (.dK (plK hs ps row)) := s20' _ _ (sY12 _ _ (sY _ _ hRq))
      -- to stay is no move
      refine ⟨q, .dK (plK hs ps row), hq20, True.intro, fun od => ⟨_, rfl, q, od, rfl, .inl ⟨_, upd_same, fun L hL => ?_⟩⟩⟩
      have Lq' : L ≠ q := fun e => by
        rw [e, upd_same] at hL
        cases hL
      refine lc_reps (K := K) (w := walk_keys) (R := fun _ => none) (fun i => some (.tup [.str (nmOf ps i), .str (nmOf hs (row.getD i 0))])) hL (by rw [plK_len]; omega) (fun _ _ h => nomatch h) Plain.none (fun H' s => s _ _ upd_same) ?_ ?_
      · rintro i x Ha Hb R1 Y2 N2 hi sa hnL gr pl' sr ⟨rfl, key, v, hkv, rfl⟩ j3 j4
        rw [plK_len] at hi
        rw [plK_get hi] at hkv
        cases hkv
        have hr : row.getD i 0 < hs.length := by
          have := LF.ok.n
          rw [List.getD_eq_getElem?_getD, List.getElem?_eq_getElem (by omega)]
          exact LF.ok.b _ (List.getElem_mem (by omega))
        refine ⟨rfl, ⟨_, rfl, _, rfl, _, rfl, q, _, rfl, .inl ⟨_, .inr (nmOf ps i), .inr ⟨od, sa _ _ upd_same⟩, rfl, (plK_at LF.nd hi).symm⟩, (show 2 ≤ sizeLine by decide), fun T3 hT3 => ?_⟩⟩
        exact j3 _ _ (upd R1 T3 (.tup [.str (nmOf ps i), .str (nmOf hs (row.getD i 0))])) _ rfl (same_new hT3) ((Grow.refl _ _).put hT3 (sr.out hT3)) (pl'.put (fun _ _ z => nomatch z)) sr.put (.tup (SqT.of upd_same) (.cons (.str _ (nm_size op.nm hi)) (.cons (.str _ (nm_size oh.nm hr)) .nil)))
      intro H21 R21 ys s21 g21 p21 sr21 hR21 hL21 ry
      rw [plK_len] at ry
      have nR21q : R21 q = none := g21.old q (by rw [upd_same]; exact fun z => nomatch z)
      have s2021 : Same H20 (upd H21 q (.dK (plK hs ps row))) := Same.unlock hq20 s21
      have sr22 : Same R21 (upd H21 q (.dK (plK hs ps row))) := sr21.skip nR21q
      have hL22 : upd H21 q (.dK (plK hs ps row)) L = some (.lst ys) := by rw [upd_ne Lq']; exact hL21
      refine ⟨s21 _ _ upd_same, ?_⟩
      generalize upd H21 q (.dK (plK hs ps row)) = H22 at s2021 sr22 hL22 ⊢
      refine ⟨_, rfl, L, _, rfl, SqL.of hL22, fun p8 hp8 => ?_⟩
      rw [show (some (1 : Int)) = some ((1 : Nat) : Int) from rfl, cut_left]
      have s23 : Same H22 (upd H22 p8 (.lst (ys.take 1))) := same_new hp8
      have h23 : upd H22 p8 (.lst (ys.take 1)) p8 = some (.lst (ys.take 1)) := upd_same
      generalize upd H22 p8 (.lst (ys.take 1)) = H23 at s23 h23 ⊢
      obtain ⟨U, u1, u2, u3, u4⟩ := join p12 (s20'.trans s2021) p21 sr22
      obtain ⟨w1, w2, w3⟩ := know u3 (u4.trans s23) h23 (fun _ _ z => nomatch z)
      have ry1 := (reps_take 1 ry).same (u2.trans w1)
      have r8 : Rep K (upd U p8 (.lst (ys.take 1))) (.ref p8) (.lst (((List.range ps.length).filterMap fun i => some (D.tup [.str (nmOf ps i), .str (nmOf hs (row.getD i 0))])).take 1)) := .lst (SqL.of upd_same) ry1
      have rFu := (rFm.same sY12).same (u1.trans w1)
      have rPu := (rPm.same sY12).same (u1.trans w1)
      generalize upd U p8 (.lst (ys.take 1)) = UU at w2 w3 r8 rFu rPu
      have s2023 := s2021.trans s23
      have fin : ∀ H', Same H23 H' → Q (.bl true) H' := fun H' s => hq H' ((bx20.same (s2023.trans s)).mono (by omega)) (B20.trans (But.of (s2023.trans s)))
      have stl : ∃ sl : List D, ((List.range ps.length).filterMap fun i => some (D.tup [.str (nmOf ps i), .str (nmOf hs (row.getD i 0))])).take 1 = sl ∧ (sl = [] ∨ (sl = [.tup [.str (nmOf ps 0), .str (nmOf hs (row.getD 0 0))]] ∧ 0 < ps.length)) := by
        refine ⟨_, rfl, ?_⟩
        cases c : ps.length with
        | zero => exact .inl rfl
        | succ m =>
          refine .inr ⟨?_, Nat.succ_pos _⟩
          rw [fm_some, List.range_succ_eq_map, List.map_cons]
          rfl
      obtain ⟨sl, esl, hsl⟩ := stl
      rw [esl] at r8
      have hr0 : 0 < ps.length → row.getD 0 0 < hs.length := fun p0 => by
        have := LF.ok.n
        rw [List.getD_eq_getElem?_getD, List.getElem?_eq_getElem (by omega)]
        exact LF.ok.b _ (List.getElem_mem (by omega))
      have losl : ∀ e ∈ sl, ∀ m, Lo (m + 2) e := fun e he m => by
        rcases hsl with rfl | ⟨rfl, p0⟩
        · cases he
        · rw [List.mem_singleton.mp he]
          intro x hx
          rcases List.mem_cons.mp hx with rfl | hx
          · exact ok_strOk (nm_ok op.nm p0)
          · rw [List.mem_singleton.mp hx]
            exact ok_strOk (nm_ok oh.nm (hr0 p0))
      have lo3 : Lo 3 (.lst sl) := fun e he => losl e he 0
      refine ⟨_, rfl, Nat.zero_le _, fun E' hE' => ?_⟩
      have s24 : Same H23 (upd H23 E' (.lst [])) := same_new hE'
      have h24 : upd H23 E' (.lst []) E' = some (.lst []) := upd_same
      generalize upd H23 E' (.lst []) = H24 at s24 h24 ⊢
      refine ⟨(D.lst sl).py, .list [], (r8.same (w3.trans s24)).dp lo3, .lst (SqL.of h24) .nil, lo3.shaped, by decide, _, rfl, _, rfl, ?_⟩
      rw [eqv_nil]
      rcases hsl with rfl | ⟨rfl, p0⟩
      · exact iteT (fin _ s24)
      · refine iteF ⟨_, rfl, _, rfl, _, rfl, aft_ask oh op LF.nd (w3.trans s24) w2 rFu rPu r8 hrow rfl (Nat.le_of_ble_eq_true rfl) (fun e he => losl e he 7) (aft_inl (run_stay LF.nd oh.nd p0 (hr0 p0)) fun H25 s25 => ?_)⟩
        exact ⟨fun _ => none, .int 0, .int 0, .int 0, rfl, (fun _ _ h => nomatch h), Plain.none, .int _, .int _, True.intro, fun H26 s26 => fin _ (s24.trans (s25.trans s26))⟩
end
end K89

set_option Elab.async false
set_option linter.all false
set_option maxRecDepth 100000
set_option maxHeartbeats 1000000
namespace K89
open PySem PySem.Spec PyProof.Rows L2 RP
theorem mkFl {K : PySem.W.Frag} {R : Hp} {f ha pa : Addr} {xs : List V} {hs ps : List (Str × Int)} (h1 : R f = some (.tup [.ref ha, .ref pa])) (h2 : R ha = some (.lst xs)) (h3 : Reps K R xs (hs.map hD)) (h4 : R pa = some (.dK (psK ps))) : FlAt K R f ha pa xs true hs ps := by
  refine ⟨SqT.of h1, SqL.of h2, by rw [h3.len, List.length_map], fun i e he => ?_, h4⟩
  obtain ⟨v, g1, g2⟩ := h3.at (i := i) (d := hD e) (by rw [List.getElem?_map, he]; rfl)
  cases g2 with
  | @tup c _ _ hT rT =>
    cases rT with
    | cons q1 t =>
      cases q1
      cases t with
      | cons q2 t =>
        cases q2
        cases t
        exact ⟨c, g1, hT⟩
section
variable {K : PySem.W.Frag} {R H : Hp} {v : V} {d : D} {Q : VK} {E : XK}
theorem isF_ask {b : Bool} (s : Same R H) (p : Plain R) (r : Rep K R v d) (hb : d.fleet = b) (q : ∀ H', Same H H' → Q (.bl b) H') : spFleet K [v] H Q E := ⟨R, v, d, rfl, s, p, r, fun H' s' => by rw [hb]; exact q H' s'⟩
/-- two flat lists of a word and a value -/
theorem two_words {q q2 : Addr} {word : Str} (s : Same R H) (p : Plain R) (r : Rep K R v d) (hw : word.length ≤ 1000) (h1 : H q = some (.lst [.str word, v])) (h2 : H q2 = some (.lst [.str word, v])) :
    ∃ R', Same R R' ∧ Same R' H ∧ Plain R' ∧ Rep K R' (.ref q) (.lst [.str word, d]) ∧ Rep K R' (.ref q2) (.lst [.str word, d]) := by
  have sz : word.length ≤ sizeLine := Nat.le_trans hw (by decide)
  obtain ⟨a1, a2, a3⟩ := know p s h1 (fun _ _ z => nomatch z)
  obtain ⟨b1, b2, b3⟩ := know a2 a3 h2 (fun _ _ z => nomatch z)
  have hq : upd (upd R q (.lst [.str word, v])) q2 (.lst [.str word, v]) q = some (.lst [.str word, v]) := b1 _ _ upd_same
  have rr := r.same (a1.trans b1)
  exact ⟨_, a1.trans b1, b3, b2, .lst (SqL.of hq) (.cons (.str _ sz) (.cons rr .nil)), .lst (SqL.of upd_same) (.cons (.str _ sz) (.cons rr .nil))⟩
theorem fit_word {n : Nat} {word : Str} (hw : word.length ≤ 1000) (ft : Fit n d) : Fit (n + 1) (.lst [.str word, d]) := by
  cases n with
  | zero => exact ft.elim
  | succ n => exact ⟨Nat.le_of_ble_eq_true rfl, all_cons (show word.length ≤ 1000 from hw) (all_cons ft all_nil)⟩
end
theorem ne_hz {hs ps : List (Str × Int)} {row : List Nat} (LF : LawFl hs ps row) {d : D} (h : d ∈ [D.str "hz", .str "", .non, .int 3, .lst [.str (nmOf hs 0)]]) : hOk hs d = false ∧ Fit 8 d := by
  simp only [List.mem_cons, List.not_mem_nil, or_false] at h
  rcases h with rfl | rfl | rfl | rfl | rfl
  · refine ⟨?_, show Str.length "hz" ≤ 1000 by decide +kernel⟩
    have : inHs hs (.str "hz") = false := decide_eq_false fun q => by
      obtain ⟨k, hk⟩ := LF.hn
      rw [hk] at q
      exact hz_not (List.mem_of_mem_take q)
    unfold hOk
    rw [this, Bool.and_false]
  · refine ⟨?_, show Str.length "" ≤ 1000 by decide +kernel⟩
    unfold hOk
    rw [show (D.str "").name = false from by decide +kernel]
    rfl
  · exact ⟨rfl, True.intro⟩
  · exact ⟨rfl, True.intro⟩
  · exact ⟨rfl, Nat.le_of_ble_eq_true rfl, all_cons (nm_th (nm_ok LF.oh.nm LF.oh.n1)) all_nil⟩
theorem loose_ok {d : D} (h : d ∈ [D.non, .int 3, .dct [], .str "plan"]) : d.seq = none ∧ Fit 8 d := by
  simp only [List.mem_cons, List.not_mem_nil, or_false] at h
  rcases h with rfl | rfl | rfl | rfl
  · exact ⟨rfl, True.intro⟩
  · exact ⟨rfl, True.intro⟩
  · exact ⟨rfl, Nat.zero_le _, all_nil⟩
  · exact ⟨rfl, show Str.length "plan" ≤ 1000 by decide +kernel⟩
section
variable {P : Program} {w : World} {K : PySem.W.Frag} {mg : Str → Option Value} {base : Heap}
/-! ### law -/
theorem sc_law : FnScope ["script", "k", "box", "fleet", "place", "odd", "lost", "told", "way", "nowhere", "loose", "found"] ["script"] (defScope s_law) := ⟨rfl, rfl, rfl, by decide +kernel, rfl, by decide +kernel, by decide +kernel⟩
def spLaw (K : PySem.W.Frag) : Sp := fun vs H Q _ => ∃ (a : Addr) (ns : List Int), vs = [.ref a] ∧ SqL K H a (ns.map V.int) ∧ ∀ H', Q (.bl true) H'
theorem ok_law (T : Txt K mg) (G__law_cell : Def P w K mg base 1 "_law_cell" ["script", "k"] (spCell K)) (G__law_box : Def P w K mg base 1 "_law_box" ["cell"] (spBox K)) (G__law_take : Def P w K mg base 1 "_law_take" ["box", "many"] (spTake K))
    (G__law_fleet : Def P w K mg base 2 "_law_fleet" ["box"] (spLFl K)) (G__law_odd_fleet : Def P w K mg base 2 "_law_odd_fleet" ["box", "fleet"] (spOddF K)) (G__law_odd_place : Def P w K mg base 2 "_law_odd_place" ["box", "fleet", "place"] (spOddP K))
    (G_is_fleet : Def P w K mg base 4 "is_fleet" ["thing"] (spFleet K)) (G_is_placement : Def P w K mg base 6 "is_placement" ["fleet", "thing"] (spIsP K)) (G__law_same : Def P w K mg base 11 "_law_same" ["told", "due"] (spSame 10 K)) (G__law_asked : Def P w K mg base 8 "_law_asked" ["way", "fleet", "place", "last"] (spAsked K))
    (G__law_full_right : Def P w K mg base 12 "_law_full_right" ["box"] (spFull K)) (G__law_moves_right : Def P w K mg base 12 "_law_moves_right" ["box", "fleet", "place"] (spMR K)) {f : Addr} {fd : FuncData} (F : At K mg "law" s_law f fd) : FnOk P w K mg base (L2.CX P w) 13 f fd ["script"] (spLaw K) := by
  refine F.fn.ok sc_law (fun vs H Q E h => ?_) (fun cdv A outer s H vs Q E hr h => ?_)
  · obtain ⟨a, ns, rfl, _⟩ := h
    rfl
  · obtain ⟨a, ns, rfl, hS, hq⟩ := h
    refine ⟨_, (pss_cons (ps_for (passes_of rfl) rfl (pi_range1 (by rfl) T.b_range (pa_cons (pe_callB (call_max2 rfl) (by rfl) T.b_max (by decide +kernel) (pa_cons pe_int (pa_cons (pe_callB (call_min2 rfl) (by rfl) T.b_min (by decide +kernel) (pa_cons pe_int (pa_cons (pe_callB (kcall_len_seq K rfl) (by rfl) T.b_len (by decide +kernel) (pa_cons (pv 0) pa_nil)) pa_nil))) pa_nil))) pa_nil)) (pg_name (i := 1) sc_law.nd rfl (Or.inl rfl))
        (pss_cons (ps_set (i := 2) sc_law.nd rfl (Or.inl rfl) (pe_d G__law_box (hr.mono (by decide)) (by rfl) (pa_cons (pe_d G__law_cell (hr.mono (by decide)) (by rfl) (pa_cons (pv 0) (pa_cons (pv 1) pa_nil))) pa_nil)))
      (pss_cons (ps_asg (pe_d G__law_fleet (hr.mono (by decide)) (by rfl) (pa_cons (pv 2) pa_nil)) (kpg_tup K rfl (n := 2) rfl (pgs_cons (pg_name (i := 3) sc_law.nd rfl (Or.inl rfl)) (pgs_cons (pg_name (i := 4) sc_law.nd rfl (Or.inl rfl)) pgs_nil))))
      (pss_cons (ps_par (i := 5) (j := 6) rfl sc_law.nd rfl rfl (by decide) rfl rfl (pa_cons (pe_d G__law_odd_fleet (hr.mono (by decide)) (by rfl) (pa_cons (pv 2) (pa_cons (pv 3) pa_nil))) (pa_cons (pe_d G__law_odd_place (hr.mono (by decide)) (by rfl) (pa_cons (pv 2) (pa_cons (pv 3) (pa_cons (pv 4) pa_nil)))) pa_nil)) (by rfl))
      (pss_cons (ps_set (i := 7) sc_law.nd rfl (Or.inl rfl) (pe_lst (pa_cons (pe_d G_is_fleet (hr.mono (by decide)) (by rfl) (pa_cons (pv 3) pa_nil)) (pa_cons (pe_d G_is_fleet (hr.mono (by decide)) (by rfl) (pa_cons (pe_tup (pa_cons (pe_callTy (kcall_tuple_of K rfl) (by rfl) T.b_tuple (by decide +kernel) (pa_cons (pe_ix (kix_tup K rfl) (pv 3) pe_int (fun _ _ => rfl)) pa_nil)) (pa_cons (pe_ix (kix_tup K rfl) (pv 3) pe_int (fun _ _ => rfl)) pa_nil))) pa_nil)) (pa_cons (pe_d G_is_fleet (hr.mono (by decide)) (by rfl) (pa_cons (pv 5) pa_nil)) (pa_cons (pe_d G_is_placement (hr.mono (by decide)) (by rfl) (pa_cons (pv 3) (pa_cons (pv 4) pa_nil))) pa_nil))))))
      (pss_cons (ps_if (pt_not (pt_val (pe_d G__law_same (hr.mono (by decide)) (by rfl) (pa_cons (pe_op op_cat (pv 7) (pe_lst (pa_cons (pe_d G_is_placement (hr.mono (by decide)) (by rfl) (pa_cons (pv 3) (pa_cons (pv 6) pa_nil))) pa_nil))) (pa_cons (pe_lst (pa_cons pe_bl (pa_cons pe_bl (pa_cons pe_bl (pa_cons pe_bl (pa_cons pe_bl pa_nil)))))) pa_nil))))) (pss_one (ps_ret pe_bl)) pss_nil)
      (pss_cons (ps_for (passes_of rfl) rfl (pi_range1 (by rfl) T.b_range (pa_cons pe_int pa_nil)) (pg_name (i := 8) sc_law.nd rfl (Or.inl rfl))
        (pss_cons (ps_if (pt_not (pt_val (pe_d G__law_same (hr.mono (by decide)) (by rfl) (pa_cons (pe_d G__law_asked (hr.mono (by decide)) (by rfl) (pa_cons (pv 8) (pa_cons (pv 5) (pa_cons (pv 6) (pa_cons pe_non pa_nil))))) (pa_cons (pe_lst (pa_cons pe_str (pa_cons (pv 5) pa_nil))) pa_nil))))) (pss_one (ps_ret pe_bl)) pss_nil)
      (pss_one (ps_if (PW.pt (pw_and (pt_cmpR op_lt (pv 8) pe_int (nomark _)) (pw_and1 (pt_not (pt_val (pe_d G__law_same (hr.mono (by decide)) (by rfl) (pa_cons (pe_d G__law_asked (hr.mono (by decide)) (by rfl) (pa_cons (pv 8) (pa_cons (pv 3) (pa_cons (pv 6) (pa_cons pe_non pa_nil))))) (pa_cons (pe_lst (pa_cons pe_str (pa_cons (pv 6) pa_nil))) pa_nil)))))))) (pss_one (ps_ret pe_bl)) pss_nil))))
      (pss_cons (ps_set (i := 9) sc_law.nd rfl (Or.inl rfl) (pe_ix (kix_list K rfl) (pe_lst (pa_cons pe_str (pa_cons pe_str (pa_cons pe_non (pa_cons pe_int (pa_cons (pe_lst (pa_cons (pe_ix (kix_tup K rfl) (pe_ix (kix_list K rfl) (pe_ix (kix_tup K rfl) (pv 3) pe_int (fun _ _ => rfl)) pe_int (fun _ _ => rfl)) pe_int (fun _ _ => rfl)) pa_nil)) pa_nil)))))) (pe_d G__law_take (hr.mono (by decide)) (by rfl) (pa_cons (pv 2) (pa_cons pe_int pa_nil))) (fun _ _ => rfl)))
      (pss_cons (ps_set (i := 10) sc_law.nd rfl (Or.inl rfl) (pe_ix (kix_list K rfl) (pe_lst (pa_cons pe_non (pa_cons pe_int (pa_cons pe_dnewK (pa_cons pe_str pa_nil))))) (pe_d G__law_take (hr.mono (by decide)) (by rfl) (pa_cons (pv 2) (pa_cons pe_int pa_nil))) (fun _ _ => rfl)))
      (pss_cons (ps_set (i := 11) sc_law.nd rfl (Or.inl rfl) (pe_lst (pa_cons (pe_d G__law_asked (hr.mono (by decide)) (by rfl) (pa_cons pe_int (pa_cons (pv 3) (pa_cons (pv 4) (pa_cons (pv 6) pa_nil))))) (pa_cons (pe_d G__law_asked (hr.mono (by decide)) (by rfl) (pa_cons pe_int (pa_cons (pv 3) (pa_cons (pv 4) (pa_cons (pv 9) pa_nil))))) pa_nil))))
      (pss_cons (ps_expr (kpe_bm K rfl (pe_bm PySem.F.plainAttrs_list PySem.F.slot_list_append PySem.F.type_list_append mt_append (pv 11) (pa_cons (pe_d G__law_asked (hr.mono (by decide)) (by rfl) (pa_cons pe_int (pa_cons (pv 3) (pa_cons (pv 4) (pa_cons (pv 10) pa_nil))))) pa_nil))))
      (pss_cons (ps_if (pt_not (pt_val (pe_d G__law_same (hr.mono (by decide)) (by rfl) (pa_cons (pv 11) (pa_cons (pe_lst (pa_cons (pe_lst (pa_cons pe_str (pa_cons (pv 6) pa_nil))) (pa_cons (pe_lst (pa_cons pe_str (pa_cons (pv 9) pa_nil))) (pa_cons (pe_lst (pa_cons pe_str (pa_cons (pv 10) pa_nil))) pa_nil)))) pa_nil))))) (pss_one (ps_ret pe_bl)) pss_nil)
      (pss_one (ps_if (PW.pt (pw_or (pt_not (pt_val (pe_d G__law_full_right (hr.mono (by decide)) (by rfl) (pa_cons (pv 2) pa_nil)))) (pw_or1 (pt_not (pt_val (pe_d G__law_moves_right (hr.mono (by decide)) (by rfl) (pa_cons (pv 2) (pa_cons (pv 3) (pa_cons (pv 4) pa_nil))))))))) (pss_one (ps_ret pe_bl)) pss_nil))))))))))))))
      (pss_one (ps_ret pe_bl))), ?_⟩
    refine ⟨_, rfl, a, _, rfl, .inl hS, _, _, rfl, _, _, rfl, _, rfl, ?_, ?_, ?_⟩
    · split <;> split <;> omega
    · split <;> split <;> omega
    have hm : ∃ m : Int, (if (if ((List.map V.int ns).length : Int) < 5 then ((List.map V.int ns).length : Int) else 5) > 2 then (if ((List.map V.int ns).length : Int) < 5 then ((List.map V.int ns).length : Int) else 5) else 2) = m ∧ m ≤ 5 := ⟨_, rfl, by split <;> split <;> omega⟩
    obtain ⟨m, em, m5⟩ := hm
    rw [em]
    refine for_it (w := walk_range) (fun t σ H' => ∃ (o1 o2 o3 o4 o5 o6 o7 o8 o9 o10 o11 : Option V), σ = [some (.ref a), o1, o2, o3, o4, o5, o6, o7, o8, o9, o10, o11] ∧ Same H H') ⟨_, _, _, _, _, _, _, _, _, _, _, rfl, Same.refl H⟩ (fun _ _ _ _ _ => True.intro) ?_ ?_
    · rintro t x σ Hx Ha ht ⟨o1, o2, o3, o4, o5, o6, o7, o8, o9, o10, o11, rfl, s0⟩ ⟨rfl, hx⟩
      have ht2 : t < m.toNat := ht
      have hx2 : x = .int ((t : Nat) : Int) := by
        rw [hx]
        show V.int (0 + (t : Int)) = _
        rw [Int.zero_add]
      subst hx2
      refine ⟨_, rfl, _, rfl, .ref a, a, ns, t, rfl, rfl, (Lq.of s0).seq hS, by omega, fun i H1 s1 => ⟨i, rfl, fun b H2 s2 nb bx => ?_⟩⟩
      have s02 := s0.trans (s1.trans s2)
      have nHb : H b = none := (s0.trans s1).free nb
      refine ⟨_, rfl, b, 0, rfl, bx, by omega, fun tp fl pq ha pa xs H3 R hs ps row LF bx3 b3 htp pR sR nRb hf1 hf2 hf3 hf4 hpq => ?_⟩
      have s03 : Same H H3 := b3.same nHb s02
      refine ⟨tp, _, rfl, htp, rfl, _, _, rfl, _, _, rfl, rfl, ?_⟩
      have oh := LF.oh
      have op := LF.op
      have fR : FlAt K R fl ha pa xs true hs ps := mkFl hf1 hf2 hf3 hf4
      refine ⟨_, rfl, _, rfl, R, b, fl, ha, pa, _, xs, hs, ps, rfl, bx3, by omega, sR, pR, nRb, oh, op, SqT.of hf1, hf2, hf3, hf4, fun R1 H4 vo od bx4 b4 q1 p1 s4 n1 ro bado fito => ?_⟩
      refine ⟨_, rfl, _, rfl, _, rfl, R1, b, fl, ha, pa, pq, _, xs, hs, ps, row, rfl, bx4, by omega, s4, p1, n1, LF, fR.same q1, q1 _ _ hpq, fun R2 H5 vl ld bx5 b5 q2 p2 s5 n2 rl oddl => ⟨_, _, rfl, ?_⟩⟩
      have q12 := q1.trans q2
      have fR2 := fR.same q12
      have rF : Rep K R2 (.ref fl) (fD true hs ps) := (Rep.tup (SqT.of hf1) (.cons (.lst (SqL.of hf2) hf3) (.cons (.dct (.inl hf4) (repK_ps op)) .nil)) : Rep K R (.ref fl) (fD true hs ps)).same q12
      have rP : Rep K R2 (.ref pq) (.dct (plD hs ps row)) := (Rep.dct (.inl hpq) (repK_plK oh op LF.ok.n LF.ok.b)).same q12
      have ro2 := ro.same q2
      have s05 : Same H H5 := (b4.trans b5).same nHb s03
      have hrow := rowOf_plD LF
      have hlost := oddl.1
      -- told
      refine ⟨_, rfl, R2, .ref fl, fD true hs ps, rfl, s5, p2, rF, fun H6 s6 => ?_⟩
      rw [fleet_ok oh op]
      have s56 := s5.trans s6
      have f6 := fR2.same s56
      refine ⟨_, rfl, fl, _, 0, _, rfl, rfl, f6.t, rfl, ha, _, rfl, .inl ⟨f6.s, fun th hth => ?_⟩⟩
      have s7 : Same H6 (upd H6 th (.tup xs)) := same_new hth
      have h7 : upd H6 th (.tup xs) th = some (.tup xs) := upd_same
      generalize upd H6 th (.tup xs) = H7 at s7 h7 ⊢
      refine ⟨_, rfl, fl, _, 1, _, rfl, rfl, (f6.same s7).t, rfl, (show 2 ≤ sizeLine by decide), fun tf htf => ?_⟩
      have s8 : Same H7 (upd H7 tf (.tup [.ref th, .ref pa])) := same_new htf
      have h8 : upd H7 tf (.tup [.ref th, .ref pa]) tf = some (.tup [.ref th, .ref pa]) := upd_same
      generalize upd H7 tf (.tup [.ref th, .ref pa]) = H8 at s8 h8 ⊢
      obtain ⟨y1, y2, y3⟩ := know p2 (s56.trans (s7.trans s8)) (s8 _ _ h7) (fun _ _ z => nomatch z)
      obtain ⟨y4, y5, y6⟩ := know y2 y3 h8 (fun _ _ z => nomatch z)
      have rF2 : Rep K (upd (upd R2 th (.tup xs)) tf (.tup [.ref th, .ref pa])) (.ref tf) (fD false hs ps) :=
        .tup (SqT.of upd_same) (.cons (.tup (SqT.of (y4 _ _ upd_same)) ((hf3.same q12).same (y1.trans y4))) (.cons (.dct (.inl (y4 _ _ (y1 _ _ (q12 _ _ hf4)))) (repK_ps op)) .nil))
      refine ⟨_, .ref tf, fD false hs ps, rfl, y6, y5, rF2, fun H9 s9 => ?_⟩
      rw [fleet_ok oh op]
      have s59 := s56.trans (s7.trans (s8.trans s9))
      refine ⟨_, rfl, R2, vo, od, rfl, s59, p2, ro2, fun H10 s10 => ?_⟩
      rw [bado]
      have s5a := s59.trans s10
      have isP1 : (rowOf hs ps (.dct (plD hs ps row))).isSome = true := by
        rw [hrow]
        rfl
      have isP2 : (rowOf hs ps ld).isSome = false := by
        rw [hlost]
        rfl
      refine ⟨_, rfl, _, rfl, R2, .ref fl, .ref pq, fD true hs ps, .dct (plD hs ps row), rfl, s5a, p2, rF, rP, (fun h => by rw [fleet_ok oh op] at h; cases h), fun _ b2 hs2 ps2 e H11 s11 => ?_⟩
      obtain ⟨rfl, rfl, rfl⟩ := fD_inj e
      rw [isP1]
      refine ⟨(show 4 ≤ sizeLine by decide), fun tl htl => ?_⟩
      have s12 : Same H11 (upd H11 tl (.lst [.bl true, .bl true, .bl false, .bl true])) := same_new htl
      have h12 : upd H11 tl (.lst [.bl true, .bl true, .bl false, .bl true]) tl = some (.lst [.bl true, .bl true, .bl false, .bl true]) := upd_same
      generalize upd H11 tl (.lst [.bl true, .bl true, .bl false, .bl true]) = H12 at s12 h12 ⊢
      have s5c := s5a.trans (s11.trans s12)
      refine ⟨_, rfl, _, rfl, _, rfl, R2, .ref fl, vl, fD true hs ps, ld, rfl, s5c, p2, rF, rl, (fun h => by rw [fleet_ok oh op] at h; cases h), fun _ b2 hs2 ps2 e H13 s13 => ?_⟩
      obtain ⟨rfl, rfl, rfl⟩ := fD_inj e
      rw [isP2]
      refine ⟨(show 1 ≤ sizeLine by decide), fun u hu => ?_⟩
      have s14 : Same H13 (upd H13 u (.lst [.bl false])) := same_new hu
      have h14 : upd H13 u (.lst [.bl false]) u = some (.lst [.bl false]) := upd_same
      generalize upd H13 u (.lst [.bl false]) = H14 at s14 h14 ⊢
      refine ⟨tl, u, _, _, rfl, rfl, s14 _ _ (s13 _ _ h12), h14, (show 4 + 1 ≤ sizeLine by decide), fun tu htu => ?_⟩
      have s15 : Same H14 (upd H14 tu (.lst ([.bl true, .bl true, .bl false, .bl true] ++ [.bl false]))) := same_new htu
      have h15 : upd H14 tu (.lst ([.bl true, .bl true, .bl false, .bl true] ++ [.bl false])) tu = some (.lst [.bl true, .bl true, .bl false, .bl true, .bl false]) := upd_same
      generalize upd H14 tu (.lst ([.bl true, .bl true, .bl false, .bl true] ++ [.bl false])) = H15 at s15 h15 ⊢
      refine ⟨(show 5 ≤ sizeLine by decide), fun w5 hw5 => ?_⟩
      have s16 : Same H15 (upd H15 w5 (.lst [.bl true, .bl true, .bl false, .bl true, .bl false])) := same_new hw5
      have rt := two_rep (K := K) (p := tu) (q := w5) (xs := [.bl true, .bl true, .bl false, .bl true, .bl false]) (ds := [.bl true, .bl true, .bl false, .bl true, .bl false]) fun R => .cons (.bl _) (.cons (.bl _) (.cons (.bl _) (.cons (.bl _) (.cons (.bl _) .nil))))
      refine ⟨_, .ref tu, .ref w5, _, rfl, two_same (s16 _ _ h15) upd_same, two_plain, rt.1, rt.2, ⟨Nat.le_of_ble_eq_true rfl, all_cons True.intro (all_cons True.intro (all_cons True.intro (all_cons True.intro (all_cons True.intro all_nil))))⟩, fun H17 s17 => ⟨_, rfl, iteF ?_⟩⟩
      have s5g := s5c.trans (s13.trans (s14.trans (s15.trans (s16.trans s17))))
      have s517 : Same H5 H17 := s6.trans (s7.trans (s8.trans (s9.trans (s10.trans (s11.trans (s12.trans (s13.trans (s14.trans (s15.trans (s16.trans s17))))))))))
      -- by all ways
      refine ⟨7, rfl, by decide, by decide, ?_⟩
      have wl1 : Str.length "fleet" ≤ 1000 := by decide +kernel
      have wl2 : Str.length "place" ≤ 1000 := by decide +kernel
      have wl3 : Str.length "house" ≤ 1000 := by decide +kernel
      have wl4 : Str.length "plan" ≤ 1000 := by decide +kernel
      have fo9 : Fit 9 od := fit_up fito
      have fl9 : Fit 9 ld := fit_up oddl.2
      have okF := fleet_ok (b := true) oh op
      refine for_it (w := walk_range) (fun t' σ H' => ∃ (o8 : Option V), σ = [some (.ref a), some (.int (t : Nat)), some (.ref b), some (.ref fl), some (.ref pq), some vo, some vl, some (.ref tl), o8, o9, o10, o11] ∧ Same H17 H')
        ⟨_, rfl, Same.refl _⟩ (fun _ _ _ _ _ => True.intro) ?_ ?_
      · rintro t' x σ Hy H18 ht' ⟨o8, rfl, s18⟩ ⟨rfl, hx⟩
        have ht7 : t' < 7 := ht'
        have hx2 : x = .int ((t' : Nat) : Int) := by
          rw [hx]
          show V.int (0 + (t' : Int)) = _
          rw [Int.zero_add]
        subst hx2
        have k18 := (s5.trans s517).trans s18
        refine ⟨_, rfl, _, rfl, _, rfl, R2, (t' : Nat), vo, vl, .non, od, ld, .non, "fleet", vo, rfl, k18, p2, ro2, rl, .non, by omega, by omega, ⟨fun _ => ⟨rfl, rfl⟩, fun h => by rw [bado] at h; cases h⟩, fun q H19 s19 h19 => ?_⟩
        refine ⟨_, rfl, (show 2 ≤ sizeLine by decide), fun q2 hq2 => ?_⟩
        have s20 : Same H19 (upd H19 q2 (.lst [.str "fleet", vo])) := same_new hq2
        obtain ⟨R', e0, e1, e2, e3, e4⟩ := two_words (k18.trans (s19.trans s20)) p2 ro2 wl1 (s20 _ _ h19) upd_same
        refine ⟨R', .ref q, .ref q2, _, rfl, e1, e2, e3, e4, fit_word wl1 fo9, fun H21 s21 => ⟨_, rfl, iteF ?_⟩⟩
        have s1821 := s19.trans (s20.trans s21)
        refine ⟨_, rfl, _, _, rfl, rfl, _, rfl, ?_⟩
        show if decide ((t' : Int) < 6) = true then _ else _
        refine ite_dec (fun c => ?_) (fun c => ⟨_, rfl, s18.trans s1821⟩)
        have t6 : (t' : Int) < 6 := of_decide_eq_true c
        have k21 := k18.trans s1821
        refine ⟨_, rfl, _, rfl, _, rfl, R2, (t' : Nat), .ref fl, vl, .non, fD true hs ps, ld, .non, "place", vl, rfl, k21, p2, rF, rl, .non, by omega, by omega, ⟨(fun h => by rw [okF] at h; cases h), fun _ b2 hs2 ps2 e => ?_⟩, fun q H22 s22 h22 => ?_⟩
        · obtain ⟨rfl, rfl, rfl⟩ := fD_inj e
          exact .inl ⟨hlost, t6, rfl, rfl⟩
        refine ⟨_, rfl, (show 2 ≤ sizeLine by decide), fun q2 hq2 => ?_⟩
        have s23 : Same H22 (upd H22 q2 (.lst [.str "place", vl])) := same_new hq2
        obtain ⟨R', e0, e1, e2, e3, e4⟩ := two_words (k21.trans (s22.trans s23)) p2 rl wl2 (s23 _ _ h22) upd_same
        exact ⟨R', .ref q, .ref q2, _, rfl, e1, e2, e3, e4, fit_word wl2 fl9, fun H24 s24 => ⟨_, rfl, iteF ⟨_, rfl, s18.trans (s1821.trans (s22.trans (s23.trans s24)))⟩⟩⟩
      · rintro σ H18 ⟨o8, rfl, s18⟩
        have s518 := s517.trans s18
        have k18 := s5.trans s518
        have bx18 := bx5.same s518
        have f18 := fR2.same k18
        obtain ⟨⟨nm0, ln0⟩, he0⟩ : ∃ e, hs[0]? = some e := ⟨_, List.getElem?_eq_getElem oh.n1⟩
        obtain ⟨c, x1, x2⟩ := f18.h 0 _ he0
        have en0 : nm0 = nmOf hs 0 := by
          unfold nmOf
          rw [List.getD_eq_getElem?_getD, he0]
          rfl
        subst en0
        have a0 : atI xs ((0 : Nat) : Int) = some (.ref c) := atI_nat x1
        have szn : (nmOf hs 0).length ≤ sizeLine := nm_size oh.nm oh.n1
        refine ⟨_, rfl, fl, _, 0, _, rfl, rfl, f18.t, rfl, ha, xs, 0, .ref c, rfl, rfl, f18.s, a0, c, _, 0, _, rfl, rfl, x2, rfl, (show 1 ≤ sizeLine by decide), fun i1 hi1 => ?_⟩
        have s19 : Same H18 (upd H18 i1 (.lst [.str (nmOf hs 0)])) := same_new hi1
        have h19 : upd H18 i1 (.lst [.str (nmOf hs 0)]) i1 = some (.lst [.str (nmOf hs 0)]) := upd_same
        have ni1 : i1 ≠ b := bx18.ne hi1
        generalize upd H18 i1 (.lst [.str (nmOf hs 0)]) = H19 at s19 h19 ⊢
        refine ⟨(show 5 ≤ sizeLine by decide), fun i5 hi5 => ?_⟩
        have s20 : Same H19 (upd H19 i5 (.lst [.str "hz", .str "", .non, .int 3, .ref i1])) := same_new hi5
        have h20 : upd H19 i5 (.lst [.str "hz", .str "", .non, .int 3, .ref i1]) i5 = some (.lst [.str "hz", .str "", .non, .int 3, .ref i1]) := upd_same
        have ni5 : i5 ≠ b := (bx18.same s19).ne hi5
        generalize upd H19 i5 (.lst [.str "hz", .str "", .non, .int 3, .ref i1]) = H20 at s20 h20 ⊢
        obtain ⟨v1, v2, v3⟩ := know p2 (k18.trans (s19.trans s20)) (s20 _ _ h19) (fun _ _ z => nomatch z)
        obtain ⟨v4, v5, v6⟩ := know v2 v3 h20 (fun _ _ z => nomatch z)
        have nV : upd (upd R2 i1 (.lst [.str (nmOf hs 0)])) i5 (.lst [.str "hz", .str "", .non, .int 3, .ref i1]) b = none := by
          rw [upd_ne (Ne.symm ni5), upd_ne (Ne.symm ni1)]
          exact n2
        have rNo : Reps K (upd (upd R2 i1 (.lst [.str (nmOf hs 0)])) i5 (.lst [.str "hz", .str "", .non, .int 3, .ref i1])) [.str "hz", .str "", .non, .int 3, .ref i1] [.str "hz", .str "", .non, .int 3, .lst [.str (nmOf hs 0)]] :=
          .cons (.str _ (by decide +kernel)) (.cons (.str _ (by decide +kernel)) (.cons .non (.cons (.int 3) (.cons (.lst (SqL.of (v4 _ _ upd_same)) (.cons (.str _ szn) .nil)) .nil))))
        have hI5 : upd (upd R2 i1 (.lst [.str (nmOf hs 0)])) i5 (.lst [.str "hz", .str "", .non, .int 3, .ref i1]) i5 = some (.lst [.str "hz", .str "", .non, .int 3, .ref i1]) := upd_same
        have q23 := v1.trans v4
        generalize upd (upd R2 i1 (.lst [.str (nmOf hs 0)])) i5 (.lst [.str "hz", .str "", .non, .int 3, .ref i1]) = R3 at v5 v6 nV rNo hI5 q23
        refine ⟨_, rfl, b, _, 5, rfl, bx18.same (s19.trans s20), by omega, by omega, by omega, fun r5 H21 c0 c1 bx21 b21 => ?_⟩
        obtain ⟨nod, hnod⟩ : ∃ d, ([.str "hz", .str "", .non, .int 3, .lst [.str (nmOf hs 0)]] : List D)[r5.toNat]? = some d := ⟨_, List.getElem?_eq_getElem (by show r5.toNat < 5; omega)⟩
        obtain ⟨nov, hnov, rnov⟩ := rNo.at hnod
        have eno := atI_nat hnov
        rw [show ((r5.toNat : Nat) : Int) = r5 by omega] at eno
        obtain ⟨badno, ftno⟩ := ne_hz LF (List.mem_of_getElem? hnod)
        have k21 := b21.same nV v6
        refine ⟨i5, _, r5, nov, rfl, rfl, SqL.of (k21 _ _ hI5), eno, ?_⟩
        -- loose
        refine fun e hE => ?_
        have s22 : Same H21 (upd H21 e (.dK [])) := same_new hE
        have h22 : upd H21 e (.dK []) e = some (.dK []) := upd_same
        have neb : e ≠ b := bx21.ne hE
        generalize upd H21 e (.dK []) = H22 at s22 h22 ⊢
        refine ⟨(show 4 ≤ sizeLine by decide), fun j4 hj4 => ?_⟩
        have s23 : Same H22 (upd H22 j4 (.lst [.non, .int 3, .ref e, .str "plan"])) := same_new hj4
        have h23 : upd H22 j4 (.lst [.non, .int 3, .ref e, .str "plan"]) j4 = some (.lst [.non, .int 3, .ref e, .str "plan"]) := upd_same
        have nj4 : j4 ≠ b := (bx21.same s22).ne hj4
        generalize upd H22 j4 (.lst [.non, .int 3, .ref e, .str "plan"]) = H23 at s23 h23 ⊢
        obtain ⟨u1, u2, u3⟩ := know v5 (k21.trans (s22.trans s23)) (s23 _ _ h22) (fun _ _ z => nomatch z)
        obtain ⟨u4, u5, u6⟩ := know u2 u3 h23 (fun _ _ z => nomatch z)
        have nU : upd (upd R3 e (.dK [])) j4 (.lst [.non, .int 3, .ref e, .str "plan"]) b = none := by
          rw [upd_ne (Ne.symm nj4), upd_ne (Ne.symm neb)]
          exact nV
        have rLo : Reps K (upd (upd R3 e (.dK [])) j4 (.lst [.non, .int 3, .ref e, .str "plan"])) [.non, .int 3, .ref e, .str "plan"] [.non, .int 3, .dct [], .str "plan"] :=
          .cons .non (.cons (.int 3) (.cons (.dct (.inl (u4 _ _ upd_same)) .nil) (.cons (.str _ (by decide +kernel)) .nil)))
        have hJ4 : upd (upd R3 e (.dK [])) j4 (.lst [.non, .int 3, .ref e, .str "plan"]) j4 = some (.lst [.non, .int 3, .ref e, .str "plan"]) := upd_same
        have q34 := u1.trans u4
        generalize upd (upd R3 e (.dK [])) j4 (.lst [.non, .int 3, .ref e, .str "plan"]) = R4 at u5 u6 nU rLo hJ4 q34
        refine ⟨_, rfl, b, _, 4, rfl, (bx21.same s22).same s23, by omega, by omega, by omega, fun r4 H24 d0 d1 bx24 b24 => ?_⟩
        obtain ⟨lod, hlod⟩ : ∃ d, ([.non, .int 3, .dct [], .str "plan"] : List D)[r4.toNat]? = some d := ⟨_, List.getElem?_eq_getElem (by show r4.toNat < 4; omega)⟩
        obtain ⟨lov, hlov, rlov⟩ := rLo.at hlod
        have elo := atI_nat hlov
        rw [show ((r4.toNat : Nat) : Int) = r4 by omega] at elo
        obtain ⟨badlo, ftlo⟩ := loose_ok (List.mem_of_getElem? hlod)
        have k24 := b24.same nU u6
        refine ⟨j4, _, r4, lov, rfl, rfl, SqL.of (k24 _ _ hJ4), elo, ?_⟩
        have q24 := q23.trans q34
        have rF4 := rF.same q24
        have rP4 := rP.same q24
        have rl4 := rl.same q24
        have rn4 := rnov.same q34
        have s024 : Same H H24 := b24.same nHb ((b21.same nHb (s05.trans (s518.trans (s19.trans s20)))).trans (s22.trans s23))
        have hsome : ∃ row, rowOf hs ps (.dct (plD hs ps row)) = some row := ⟨row, hrow⟩
        have noF : ∀ {P : Prop}, (fD true hs ps).fleet = false → P := fun h => by
          rw [okF] at h
          cases h
        -- three that are refused
        refine ⟨_, rfl, _, rfl, _, rfl, R4, 1, .ref fl, .ref pq, vl, fD true hs ps, .dct (plD hs ps row), ld, "place", vl, rfl, k24, u5, rF4, rP4, rl4, by decide, by decide, ⟨fun h => noF h, fun _ b2 hs2 ps2 e => ?_⟩, fun q1 H25 s25 h25 => ?_⟩
        · obtain ⟨rfl, rfl, rfl⟩ := fD_inj e
          exact .inr ⟨⟨row, hrow⟩, .inl ⟨rfl, hlost, rfl, rfl⟩⟩
        refine ⟨_, rfl, _, rfl, _, rfl, R4, 2, .ref fl, .ref pq, nov, fD true hs ps, .dct (plD hs ps row), nod, "house", nov, rfl, k24.trans s25, u5, rF4, rP4, rn4, by decide, by decide, ⟨fun h => noF h, fun _ b2 hs2 ps2 e => ?_⟩, fun q2 H26 s26 h26 => ?_⟩
        · obtain ⟨rfl, rfl, rfl⟩ := fD_inj e
          exact .inr ⟨⟨row, hrow⟩, .inr (.inl ⟨rfl, badno, rfl, rfl⟩)⟩
        refine ⟨(show 2 ≤ sizeLine by decide), fun fo hfo => ?_⟩
        have s27 : Same H26 (upd H26 fo (.lst [.ref q1, .ref q2])) := same_new hfo
        have h27 : upd H26 fo (.lst [.ref q1, .ref q2]) fo = some (.lst [.ref q1, .ref q2]) := upd_same
        generalize upd H26 fo (.lst [.ref q1, .ref q2]) = H27 at s27 h27 ⊢
        have s2427 := s25.trans (s26.trans s27)
        refine ⟨_, rfl, .inl ⟨rfl, _, SqL.of h27⟩, _, rfl, _, rfl, _, rfl, R4, 5, .ref fl, .ref pq, lov, fD true hs ps, .dct (plD hs ps row), lod, "plan", lov, rfl, k24.trans s2427, u5, rF4, rP4, rlov, by decide, by decide, ⟨fun h => noF h, fun _ b2 hs2 ps2 e => ?_⟩, fun q3 H28 s28 h28 => ?_⟩
        · obtain ⟨rfl, rfl, rfl⟩ := fD_inj e
          exact .inr ⟨⟨row, hrow⟩, .inr (.inr ⟨rfl, badlo, rfl, rfl⟩)⟩
        refine ⟨fo, _, _, rfl, rfl, s28 _ _ h27, (show 2 < sizeLine by decide), ?_⟩
        have nfoq : ∀ {q : Addr} {w : Str} {v : V}, H28 q = some (.lst [.str w, v]) → q ≠ fo := fun {q w v} h e => by
          rw [e, s28 _ _ h27] at h
          cases h
        have g1 := s28 _ _ (s27 _ _ (s26 _ _ h25))
        have g2 := s28 _ _ (s27 _ _ h26)
        have h29 : upd H28 fo (.lst ([.ref q1, .ref q2] ++ [.ref q3])) fo = some (.lst [.ref q1, .ref q2, .ref q3]) := upd_same
        have e1 : upd H28 fo (.lst ([.ref q1, .ref q2] ++ [.ref q3])) q1 = some (.lst [.str "place", vl]) := by rw [upd_ne (nfoq g1)]; exact g1
        have e2 : upd H28 fo (.lst ([.ref q1, .ref q2] ++ [.ref q3])) q2 = some (.lst [.str "house", nov]) := by rw [upd_ne (nfoq g2)]; exact g2
        have e3 : upd H28 fo (.lst ([.ref q1, .ref q2] ++ [.ref q3])) q3 = some (.lst [.str "plan", lov]) := by rw [upd_ne (nfoq h28)]; exact h28
        have s2429 : Same H24 (upd H28 fo (.lst ([.ref q1, .ref q2] ++ [.ref q3]))) := (s2427.trans s28).skip ((s25.trans s26).free hfo)
        generalize upd H28 fo (.lst ([.ref q1, .ref q2] ++ [.ref q3])) = H29 at h29 e1 e2 e3 s2429 ⊢
        have k29 := k24.trans s2429
        refine ⟨_, rfl, _, rfl, (show 2 ≤ sizeLine by decide), fun m1 hm1 => ?_⟩
        have s30 : Same H29 (upd H29 m1 (.lst [.str "place", vl])) := same_new hm1
        have h30 : upd H29 m1 (.lst [.str "place", vl]) m1 = some (.lst [.str "place", vl]) := upd_same
        generalize upd H29 m1 (.lst [.str "place", vl]) = H30 at s30 h30 ⊢
        refine ⟨_, rfl, (show 2 ≤ sizeLine by decide), fun m2 hm2 => ?_⟩
        have s31 : Same H30 (upd H30 m2 (.lst [.str "house", nov])) := same_new hm2
        have h31 : upd H30 m2 (.lst [.str "house", nov]) m2 = some (.lst [.str "house", nov]) := upd_same
        generalize upd H30 m2 (.lst [.str "house", nov]) = H31 at s31 h31 ⊢
        refine ⟨_, rfl, (show 2 ≤ sizeLine by decide), fun m3 hm3 => ?_⟩
        have s32 : Same H31 (upd H31 m3 (.lst [.str "plan", lov])) := same_new hm3
        have h32 : upd H31 m3 (.lst [.str "plan", lov]) m3 = some (.lst [.str "plan", lov]) := upd_same
        generalize upd H31 m3 (.lst [.str "plan", lov]) = H32 at s32 h32 ⊢
        refine ⟨(show 3 ≤ sizeLine by decide), fun M hM => ?_⟩
        have s33 : Same H32 (upd H32 M (.lst [.ref m1, .ref m2, .ref m3])) := same_new hM
        have h33 : upd H32 M (.lst [.ref m1, .ref m2, .ref m3]) M = some (.lst [.ref m1, .ref m2, .ref m3]) := upd_same
        generalize upd H32 M (.lst [.ref m1, .ref m2, .ref m3]) = H33 at s33 h33 ⊢
        have s2933 := s30.trans (s31.trans (s32.trans s33))
        obtain ⟨A1, w1, w2, w3, w4, w5⟩ := two_words (k29.trans s2933) u5 rl4 wl2 (s2933 _ _ e1) (s31.trans (s32.trans s33) _ _ h30)
        obtain ⟨A2, x1', x2', x3, x4, x5⟩ := two_words w2 w3 (rn4.same w1) wl3 (s2933 _ _ e2) (s32.trans s33 _ _ h31)
        obtain ⟨A3, y1', y2', y3', y4', y5'⟩ := two_words x2' x3 ((rlov.same w1).same x1') wl4 (s2933 _ _ e3) (s33 _ _ h32)
        obtain ⟨z1, z2, z3⟩ := know y3' y2' (s2933 _ _ h29) (fun _ _ z => nomatch z)
        obtain ⟨z4, z5, z6⟩ := know z2 z3 h33 (fun _ _ z => nomatch z)
        have t1 := x1'.trans (y1'.trans (z1.trans z4))
        have t2 := y1'.trans (z1.trans z4)
        have t3 := z1.trans z4
        refine ⟨_, .ref fo, .ref M, .lst [.lst [.str "place", ld], .lst [.str "house", nod], .lst [.str "plan", lod]], rfl, z6, z5, .lst (SqL.of (z4 _ _ upd_same)) (.cons (w4.same t1) (.cons (x4.same t2) (.cons (y4'.same t3) .nil))),
          .lst (SqL.of upd_same) (.cons (w5.same t1) (.cons (x5.same t2) (.cons (y5'.same t3) .nil))), ⟨Nat.le_of_ble_eq_true rfl, all_cons (fit_word wl2 oddl.2) (all_cons (fit_word wl3 ftno) (all_cons (fit_word wl4 ftlo) all_nil))⟩, fun H34 s34 => ⟨_, rfl, iteF ?_⟩⟩
        have s2434 := s2429.trans (s2933.trans s34)
        have bx34 := bx24.same s2434
        -- the rest
        refine ⟨_, rfl, b, _, rfl, bx34, by omega, fun H35 bx35 b35 => ⟨_, rfl, iteF ?_⟩⟩
        have s035 : Same H H35 := b35.same nHb (s024.trans s2434)
        have k35 : Same R2 H35 := b35.same n2 (q24.trans (k24.trans s2434))
        refine ⟨_, rfl, _, rfl, _, rfl, R2, b, fl, ha, pa, pq, _, xs, hs, ps, row, rfl, bx35, by omega, k35, p2, n2, LF, fR2, rF, q12 _ _ hpq, fun H36 bx36 b36 => ⟨_, rfl, iteF ?_⟩⟩
        exact ⟨_, _, _, _, _, _, _, _, _, _, _, rfl, b36.same nHb s035⟩
    · rintro σ H2 ⟨o1, o2, o3, o4, o5, o6, o7, o8, o9, o10, o11, rfl, s0⟩
      exact hq H2
end
end K89

set_option Elab.async false
set_option linter.all false
set_option maxRecDepth 100000
set_option maxHeartbeats 0
namespace K89
open PySem PySem.Spec PyProof.Rows L2 RP LamX
def d_NoHouse_init : He.DefD := ⟨("NoHouse", some "__init__"), "__init__", "NoHouse.__init__", defArgs s_NoHouse_init, defBody s_NoHouse_init, defScope s_NoHouse_init, [], []⟩
def d_NoFleet_init : He.DefD := ⟨("NoFleet", some "__init__"), "__init__", "NoFleet.__init__", defArgs s_NoFleet_init, defBody s_NoFleet_init, defScope s_NoFleet_init, [], []⟩
def d_NoPlace_init : He.DefD := ⟨("NoPlace", some "__init__"), "__init__", "NoPlace.__init__", defArgs s_NoPlace_init, defBody s_NoPlace_init, defScope s_NoPlace_init, [], []⟩
def d_NoPlan_init : He.DefD := ⟨("NoPlan", some "__init__"), "__init__", "NoPlan.__init__", defArgs s_NoPlan_init, defBody s_NoPlan_init, defScope s_NoPlan_init, [], []⟩
def d_is_whole : He.DefD := ⟨("is_whole", none), "is_whole", "is_whole", defArgs s_is_whole, defBody s_is_whole, defScope s_is_whole, [], []⟩
def d_is_name : He.DefD := ⟨("is_name", none), "is_name", "is_name", defArgs s_is_name, defBody s_is_name, defScope s_is_name, [], []⟩
def d_are_houses : He.DefD := ⟨("are_houses", none), "are_houses", "are_houses", defArgs s_are_houses, defBody s_are_houses, defScope s_are_houses, [], []⟩
def d_are_promises : He.DefD := ⟨("are_promises", none), "are_promises", "are_promises", defArgs s_are_promises, defBody s_are_promises, defScope s_are_promises, [], []⟩
def d_is_fleet : He.DefD := ⟨("is_fleet", none), "is_fleet", "is_fleet", defArgs s_is_fleet, defBody s_is_fleet, defScope s_is_fleet, [], []⟩
def d_fits : He.DefD := ⟨("fits", none), "fits", "fits", defArgs s_fits, defBody s_fits, defScope s_fits, [], []⟩
def d_row_of : He.DefD := ⟨("row_of", none), "row_of", "row_of", defArgs s_row_of, defBody s_row_of, defScope s_row_of, [], []⟩
def d_place_of : He.DefD := ⟨("place_of", none), "place_of", "place_of", defArgs s_place_of, defBody s_place_of, defScope s_place_of, [], []⟩
def d_need_fleet : He.DefD := ⟨("need_fleet", none), "need_fleet", "need_fleet", defArgs s_need_fleet, defBody s_need_fleet, defScope s_need_fleet, [], []⟩
def d_needed_row : He.DefD := ⟨("needed_row", none), "needed_row", "needed_row", defArgs s_needed_row, defBody s_needed_row, defScope s_needed_row, [], []⟩
def d_is_placement : He.DefD := ⟨("is_placement", none), "is_placement", "is_placement", defArgs s_is_placement, defBody s_is_placement, defScope s_is_placement, [], []⟩
def d_rows_from : He.DefD := ⟨("rows_from", none), "rows_from", "rows_from", defArgs s_rows_from, defBody s_rows_from, defScope s_rows_from, [], []⟩
def d_moves_from : He.DefD := ⟨("moves_from", none), "moves_from", "moves_from", defArgs s_moves_from, defBody s_moves_from, defScope s_moves_from, [], []⟩
def d_spread : He.DefD := ⟨("spread", none), "spread", "spread", defArgs s_spread, defBody s_spread, defScope s_spread, [], []⟩
def d_way_back : He.DefD := ⟨("way_back", none), "way_back", "way_back", defArgs s_way_back, defBody s_way_back, defScope s_way_back, [], []⟩
def d_plan : He.DefD := ⟨("plan", none), "plan", "plan", defArgs s_plan, defBody s_plan, defScope s_plan, [], []⟩
def d_drained : He.DefD := ⟨("drained", none), "drained", "drained", defArgs s_drained, defBody s_drained, defScope s_drained, [], []⟩
def d_reachable : He.DefD := ⟨("reachable", none), "reachable", "reachable", defArgs s_reachable, defBody s_reachable, defScope s_reachable, [], []⟩
def d_is_closed : He.DefD := ⟨("is_closed", none), "is_closed", "is_closed", defArgs s_is_closed, defBody s_is_closed, defScope s_is_closed, [], []⟩
def d_after_moves : He.DefD := ⟨("after_moves", none), "after_moves", "after_moves", defArgs s_after_moves, defBody s_after_moves, defScope s_after_moves, [], []⟩
def d__law_cell : He.DefD := ⟨("_law_cell", none), "_law_cell", "_law_cell", defArgs s__law_cell, defBody s__law_cell, defScope s__law_cell, [], []⟩
def d__law_box : He.DefD := ⟨("_law_box", none), "_law_box", "_law_box", defArgs s__law_box, defBody s__law_box, defScope s__law_box, [], []⟩
def d__law_take : He.DefD := ⟨("_law_take", none), "_law_take", "_law_take", defArgs s__law_take, defBody s__law_take, defScope s__law_take, [], []⟩
def d__law_same : He.DefD := ⟨("_law_same", none), "_law_same", "_law_same", defArgs s__law_same, defBody s__law_same, defScope s__law_same, [], []⟩
def d__law_fleet : He.DefD := ⟨("_law_fleet", none), "_law_fleet", "_law_fleet", defArgs s__law_fleet, defBody s__law_fleet, defScope s__law_fleet, [], []⟩
def d__law_fits : He.DefD := ⟨("_law_fits", none), "_law_fits", "_law_fits", defArgs s__law_fits, defBody s__law_fits, defScope s__law_fits, [], []⟩
def d__law_moves : He.DefD := ⟨("_law_moves", none), "_law_moves", "_law_moves", defArgs s__law_moves, defBody s__law_moves, defScope s__law_moves, [], []⟩
def d__law_odd_fleet : He.DefD := ⟨("_law_odd_fleet", none), "_law_odd_fleet", "_law_odd_fleet", defArgs s__law_odd_fleet, defBody s__law_odd_fleet, defScope s__law_odd_fleet, [], []⟩
def d__law_odd_place : He.DefD := ⟨("_law_odd_place", none), "_law_odd_place", "_law_odd_place", defArgs s__law_odd_place, defBody s__law_odd_place, defScope s__law_odd_place, [], []⟩
def d__law_asked : He.DefD := ⟨("_law_asked", none), "_law_asked", "_law_asked", defArgs s__law_asked, defBody s__law_asked, defScope s__law_asked, [], []⟩
def d__law_full_right : He.DefD := ⟨("_law_full_right", none), "_law_full_right", "_law_full_right", defArgs s__law_full_right, defBody s__law_full_right, defScope s__law_full_right, [], []⟩
def d__law_moves_right : He.DefD := ⟨("_law_moves_right", none), "_law_moves_right", "_law_moves_right", defArgs s__law_moves_right, defBody s__law_moves_right, defScope s__law_moves_right, [], []⟩
def d_law : He.DefD := ⟨("law", none), "law", "law", defArgs s_law, defBody s_law, defScope s_law, [], []⟩
def fnl : List He.DefD := [d_NoHouse_init, d_NoFleet_init, d_NoPlace_init, d_NoPlan_init, d_is_whole, d_is_name, d_are_houses, d_are_promises, d_is_fleet, d_fits, d_row_of, d_place_of, d_need_fleet, d_needed_row, d_is_placement, d_rows_from, d_moves_from, d_spread, d_way_back, d_plan, d_drained, d_reachable, d_is_closed, d_after_moves, d__law_cell, d__law_box, d__law_take, d__law_same, d__law_fleet, d__law_fits, d__law_moves, d__law_odd_fleet, d__law_odd_place, d__law_asked, d__law_full_right, d__law_moves_right, d_law]
def fal : List He.Fa := [.glo "is_whole", .glo "is_name", .glo "are_houses", .glo "are_promises", .glo "is_fleet", .glo "fits", .glo "row_of", .glo "place_of", .glo "need_fleet", .glo "needed_row", .glo "is_placement", .glo "rows_from", .glo "moves_from", .glo "spread", .glo "way_back", .glo "plan", .glo "drained", .glo "reachable", .glo "is_closed", .glo "after_moves", .glo "_law_cell", .glo "_law_box", .glo "_law_take", .glo "_law_same", .glo "_law_fleet", .glo "_law_fits", .glo "_law_moves", .glo "_law_odd_fleet", .glo "_law_odd_place", .glo "_law_asked", .glo "_law_full_right", .glo "_law_moves_right", .glo "law", .glo "GuestError", .glo "NoHouse", .glo "NoFleet", .glo "NoPlace", .glo "NoPlan", .str "LETTERS" "abcdefghijklmnopqrstuvwxyz", .int "LONGEST_NAME" (8), .int "LEAST_LENGTH" (4), .int "MOST_LENGTH" (60), .int "MOST_GUESTS" (6), .int "MOST_HOUSES" (3), .int "MOST_PLACED" (7), .free "ValueError", .free "abs", .free "all", .free "bool", .free "dict", .free "enumerate", .free "int", .free "isinstance", .free "len", .free "list", .free "max", .free "min", .free "range", .free "sorted", .free "str", .free "sum", .free "tuple", .free "zip"]
def tfl : List He.Defn := []
def exL (K : PySem.W.Frag) : List Bool := [GX.gbB K GX.bVE (He.ga K "GuestError"),
  GX.xcB K GX.bVE (He.ga K "NoHouse") "found",
  He.eqO (PySem.W.findIn K (.ref (He.ga K "NoHouse")) "__init__") (some (some (.ref (He.ma K (He.ga K "NoHouse") "__init__")))),
  decide (PySem.W.typeIn K (.ref (He.ma K (He.ga K "NoHouse") "__init__")) = some (.type "function")),
  GX.xcB K GX.bVE (He.ga K "NoFleet") "found",
  He.eqO (PySem.W.findIn K (.ref (He.ga K "NoFleet")) "__init__") (some (some (.ref (He.ma K (He.ga K "NoFleet") "__init__")))),
  decide (PySem.W.typeIn K (.ref (He.ma K (He.ga K "NoFleet") "__init__")) = some (.type "function")),
  GX.xcB K GX.bVE (He.ga K "NoPlace") "found",
  He.eqO (PySem.W.findIn K (.ref (He.ga K "NoPlace")) "__init__") (some (some (.ref (He.ma K (He.ga K "NoPlace") "__init__")))),
  decide (PySem.W.typeIn K (.ref (He.ma K (He.ga K "NoPlace") "__init__")) = some (.type "function")),
  GX.xcB K GX.bVE (He.ga K "NoPlan") "found",
  He.eqO (PySem.W.findIn K (.ref (He.ga K "NoPlan")) "__init__") (some (some (.ref (He.ma K (He.ga K "NoPlan") "__init__")))),
  decide (PySem.W.typeIn K (.ref (He.ma K (He.ga K "NoPlan") "__init__")) = some (.type "function")),
  decide (PySem.W.exmOne K (.ref (He.ga K "NoFleet")) (.ref (He.ga K "NoFleet")) = some true),
  decide (PySem.W.exmOne K (.ref (He.ga K "NoPlace")) (.ref (He.ga K "NoFleet")) = some false),
  decide (PySem.W.exmOne K (.ref (He.ga K "NoPlace")) (.ref (He.ga K "NoPlace")) = some true),
  decide (PySem.W.exmOne K (.ref (He.ga K "NoHouse")) (.ref (He.ga K "NoFleet")) = some false),
  decide (PySem.W.exmOne K (.ref (He.ga K "NoHouse")) (.ref (He.ga K "NoPlace")) = some false),
  decide (PySem.W.exmOne K (.ref (He.ga K "NoHouse")) (.ref (He.ga K "NoHouse")) = some true),
  decide (PySem.W.exmOne K (.ref (He.ga K "NoPlan")) (.ref (He.ga K "NoFleet")) = some false),
  decide (PySem.W.exmOne K (.ref (He.ga K "NoPlan")) (.ref (He.ga K "NoPlace")) = some false),
  decide (PySem.W.exmOne K (.ref (He.ga K "NoPlan")) (.ref (He.ga K "NoHouse")) = some false),
  decide (PySem.W.exmOne K (.ref (He.ga K "NoPlan")) (.ref (He.ga K "NoPlan")) = some true)]
def exl (K : PySem.W.Frag) : Bool := (exL K).all id
def loose : List PySem.Str := (["__name__", "GuestError", "NoHouse", "NoFleet", "NoPlace", "NoPlan", "LETTERS", "LONGEST_NAME", "is_whole", "is_name"] : List PySem.Str) ++ (["LEAST_LENGTH", "MOST_LENGTH", "MOST_GUESTS", "MOST_HOUSES", "MOST_PLACED", "are_houses", "are_promises", "is_fleet", "fits", "row_of"] : List PySem.Str) ++ (["place_of", "need_fleet", "needed_row", "is_placement", "rows_from", "moves_from", "spread", "way_back", "plan", "drained"] : List PySem.Str) ++ (["reachable", "is_closed", "after_moves", "_law_cell", "_law_box", "_law_take", "_law_same", "_law_fleet", "_law_fits", "_law_moves"] : List PySem.Str) ++ (["_law_odd_fleet", "_law_odd_place", "_law_asked", "_law_full_right", "_law_moves_right"] : List PySem.Str)
abbrev Rw : PySem.W.OpenRow := PySem.W.OpenLaw.row PySem.Challenge.rw_guestfleet_k89_placements_refused_and_ju
abbrev hk : PySem.W.Hook := Hk2.hookC 5 fal fnl tfl exl
def ob (s : PySem.W.SharedT) : Hk2.AlC := Hk2.obsC 5 fal fnl tfl exl (HandSHeadRun.getT s)
theorem ob_eq (s : PySem.W.SharedT) : ob s = hk.obs s.abs := Hk2.obsC_eq (HandSHeadRun.getT_eq s)
theorem run (w : World) : HandSHeadRun.RunEq Rw (PySem.W.view Rw.prog [48]) hk ob 6000 loose w := by
  intro os
  kernel_rfl
theorem xat {l : List Bool} (h : l.all id = true) (i : Nat) {b : Bool} (e : l[i]? = some b) : b = true := List.all_eq_true.mp h b (List.mem_of_getElem? e)
section
variable {P : Program} {w : World} {K : PySem.W.Frag} {h : Heap} {mg : Str → Option Value}
theorem txt (X : K.In h) (G : h.Ns mainGlobals mg) (c : Hk2.SaysC fal fnl tfl exl h K) : Txt K mg where
  b_ValueError := He.free_ok X G (c.d.fact 45 (f := .free "ValueError") rfl)
  b_abs := He.free_ok X G (c.d.fact 46 (f := .free "abs") rfl)
  b_all := He.free_ok X G (c.d.fact 47 (f := .free "all") rfl)
  b_bool := He.free_ok X G (c.d.fact 48 (f := .free "bool") rfl)
  b_dict := He.free_ok X G (c.d.fact 49 (f := .free "dict") rfl)
  b_enumerate := He.free_ok X G (c.d.fact 50 (f := .free "enumerate") rfl)
  b_int := He.free_ok X G (c.d.fact 51 (f := .free "int") rfl)
  b_isinstance := He.free_ok X G (c.d.fact 52 (f := .free "isinstance") rfl)
  b_len := He.free_ok X G (c.d.fact 53 (f := .free "len") rfl)
  b_list := He.free_ok X G (c.d.fact 54 (f := .free "list") rfl)
  b_max := He.free_ok X G (c.d.fact 55 (f := .free "max") rfl)
  b_min := He.free_ok X G (c.d.fact 56 (f := .free "min") rfl)
  b_range := He.free_ok X G (c.d.fact 57 (f := .free "range") rfl)
  b_sorted := He.free_ok X G (c.d.fact 58 (f := .free "sorted") rfl)
  b_str := He.free_ok X G (c.d.fact 59 (f := .free "str") rfl)
  b_sum := He.free_ok X G (c.d.fact 60 (f := .free "sum") rfl)
  b_tuple := He.free_ok X G (c.d.fact 61 (f := .free "tuple") rfl)
  b_zip := He.free_ok X G (c.d.fact 62 (f := .free "zip") rfl)
  c_LETTERS := He.str_ok X G (c.d.fact 38 (f := .str "LETTERS" "abcdefghijklmnopqrstuvwxyz") rfl)
  c_LONGEST_NAME := He.int_ok X G (c.d.fact 39 (f := .int "LONGEST_NAME" (8)) rfl)
  c_LEAST_LENGTH := He.int_ok X G (c.d.fact 40 (f := .int "LEAST_LENGTH" (4)) rfl)
  c_MOST_LENGTH := He.int_ok X G (c.d.fact 41 (f := .int "MOST_LENGTH" (60)) rfl)
  c_MOST_GUESTS := He.int_ok X G (c.d.fact 42 (f := .int "MOST_GUESTS" (6)) rfl)
  c_MOST_HOUSES := He.int_ok X G (c.d.fact 43 (f := .int "MOST_HOUSES" (3)) rfl)
  c_MOST_PLACED := He.int_ok X G (c.d.fact 44 (f := .int "MOST_PLACED" (7)) rfl)
  g_GuestError := ⟨GX.gbB_ok (xat c.x 0 rfl), He.glo_ok X G (c.d.fact 33 (f := .glo "GuestError") rfl)⟩
  x_NoHouse := by
    obtain ⟨fd, F⟩ := c.d.def_ 0 (d := d_NoHouse_init) rfl
    exact ⟨_, fd, GX.xcB_ok GX.bVE_ok (xat c.x 1 rfl), He.glo_ok X G (c.d.fact 34 (f := .glo "NoHouse") rfl), He.eqO_ok (xat c.x 2 rfl), of_decide_eq_true (xat c.x 3 rfl), F⟩
  x_NoFleet := by
    obtain ⟨fd, F⟩ := c.d.def_ 1 (d := d_NoFleet_init) rfl
    exact ⟨_, fd, GX.xcB_ok GX.bVE_ok (xat c.x 4 rfl), He.glo_ok X G (c.d.fact 35 (f := .glo "NoFleet") rfl), He.eqO_ok (xat c.x 5 rfl), of_decide_eq_true (xat c.x 6 rfl), F⟩
  x_NoPlace := by
    obtain ⟨fd, F⟩ := c.d.def_ 2 (d := d_NoPlace_init) rfl
    exact ⟨_, fd, GX.xcB_ok GX.bVE_ok (xat c.x 7 rfl), He.glo_ok X G (c.d.fact 36 (f := .glo "NoPlace") rfl), He.eqO_ok (xat c.x 8 rfl), of_decide_eq_true (xat c.x 9 rfl), F⟩
  x_NoPlan := by
    obtain ⟨fd, F⟩ := c.d.def_ 3 (d := d_NoPlan_init) rfl
    exact ⟨_, fd, GX.xcB_ok GX.bVE_ok (xat c.x 10 rfl), He.glo_ok X G (c.d.fact 37 (f := .glo "NoPlan") rfl), He.eqO_ok (xat c.x 11 rfl), of_decide_eq_true (xat c.x 12 rfl), F⟩
  a_is_whole := by
    obtain ⟨fd, F⟩ := c.d.def_ 4 (d := d_is_whole) rfl
    exact ⟨_, fd, F, He.glo_ok X G (c.d.fact 0 (f := .glo "is_whole") rfl)⟩
  a_is_name := by
    obtain ⟨fd, F⟩ := c.d.def_ 5 (d := d_is_name) rfl
    exact ⟨_, fd, F, He.glo_ok X G (c.d.fact 1 (f := .glo "is_name") rfl)⟩
  a_are_houses := by
    obtain ⟨fd, F⟩ := c.d.def_ 6 (d := d_are_houses) rfl
    exact ⟨_, fd, F, He.glo_ok X G (c.d.fact 2 (f := .glo "are_houses") rfl)⟩
  a_are_promises := by
    obtain ⟨fd, F⟩ := c.d.def_ 7 (d := d_are_promises) rfl
    exact ⟨_, fd, F, He.glo_ok X G (c.d.fact 3 (f := .glo "are_promises") rfl)⟩
  a_is_fleet := by
    obtain ⟨fd, F⟩ := c.d.def_ 8 (d := d_is_fleet) rfl
    exact ⟨_, fd, F, He.glo_ok X G (c.d.fact 4 (f := .glo "is_fleet") rfl)⟩
  a_fits := by
    obtain ⟨fd, F⟩ := c.d.def_ 9 (d := d_fits) rfl
    exact ⟨_, fd, F, He.glo_ok X G (c.d.fact 5 (f := .glo "fits") rfl)⟩
  a_row_of := by
    obtain ⟨fd, F⟩ := c.d.def_ 10 (d := d_row_of) rfl
    exact ⟨_, fd, F, He.glo_ok X G (c.d.fact 6 (f := .glo "row_of") rfl)⟩
  a_place_of := by
    obtain ⟨fd, F⟩ := c.d.def_ 11 (d := d_place_of) rfl
    exact ⟨_, fd, F, He.glo_ok X G (c.d.fact 7 (f := .glo "place_of") rfl)⟩
  a_need_fleet := by
    obtain ⟨fd, F⟩ := c.d.def_ 12 (d := d_need_fleet) rfl
    exact ⟨_, fd, F, He.glo_ok X G (c.d.fact 8 (f := .glo "need_fleet") rfl)⟩
  a_needed_row := by
    obtain ⟨fd, F⟩ := c.d.def_ 13 (d := d_needed_row) rfl
    exact ⟨_, fd, F, He.glo_ok X G (c.d.fact 9 (f := .glo "needed_row") rfl)⟩
  a_is_placement := by
    obtain ⟨fd, F⟩ := c.d.def_ 14 (d := d_is_placement) rfl
    exact ⟨_, fd, F, He.glo_ok X G (c.d.fact 10 (f := .glo "is_placement") rfl)⟩
  a_rows_from := by
    obtain ⟨fd, F⟩ := c.d.def_ 15 (d := d_rows_from) rfl
    exact ⟨_, fd, F, He.glo_ok X G (c.d.fact 11 (f := .glo "rows_from") rfl)⟩
  a_moves_from := by
    obtain ⟨fd, F⟩ := c.d.def_ 16 (d := d_moves_from) rfl
    exact ⟨_, fd, F, He.glo_ok X G (c.d.fact 12 (f := .glo "moves_from") rfl)⟩
  a_spread := by
    obtain ⟨fd, F⟩ := c.d.def_ 17 (d := d_spread) rfl
    exact ⟨_, fd, F, He.glo_ok X G (c.d.fact 13 (f := .glo "spread") rfl)⟩
  a_way_back := by
    obtain ⟨fd, F⟩ := c.d.def_ 18 (d := d_way_back) rfl
    exact ⟨_, fd, F, He.glo_ok X G (c.d.fact 14 (f := .glo "way_back") rfl)⟩
  a_plan := by
    obtain ⟨fd, F⟩ := c.d.def_ 19 (d := d_plan) rfl
    exact ⟨fd, F, He.glo_ok X G (c.d.fact 15 (f := .glo "plan") rfl)⟩
  a_drained := by
    obtain ⟨fd, F⟩ := c.d.def_ 20 (d := d_drained) rfl
    exact ⟨fd, F, He.glo_ok X G (c.d.fact 16 (f := .glo "drained") rfl)⟩
  a_reachable := by
    obtain ⟨fd, F⟩ := c.d.def_ 21 (d := d_reachable) rfl
    exact ⟨fd, F, He.glo_ok X G (c.d.fact 17 (f := .glo "reachable") rfl)⟩
  a_is_closed := by
    obtain ⟨fd, F⟩ := c.d.def_ 22 (d := d_is_closed) rfl
    exact ⟨_, fd, F, He.glo_ok X G (c.d.fact 18 (f := .glo "is_closed") rfl)⟩
  a_after_moves := by
    obtain ⟨fd, F⟩ := c.d.def_ 23 (d := d_after_moves) rfl
    exact ⟨_, fd, F, He.glo_ok X G (c.d.fact 19 (f := .glo "after_moves") rfl)⟩
  a__law_cell := by
    obtain ⟨fd, F⟩ := c.d.def_ 24 (d := d__law_cell) rfl
    exact ⟨_, fd, F, He.glo_ok X G (c.d.fact 20 (f := .glo "_law_cell") rfl)⟩
  a__law_box := by
    obtain ⟨fd, F⟩ := c.d.def_ 25 (d := d__law_box) rfl
    exact ⟨_, fd, F, He.glo_ok X G (c.d.fact 21 (f := .glo "_law_box") rfl)⟩
  a__law_take := by
    obtain ⟨fd, F⟩ := c.d.def_ 26 (d := d__law_take) rfl
    exact ⟨_, fd, F, He.glo_ok X G (c.d.fact 22 (f := .glo "_law_take") rfl)⟩
  a__law_same := by
    obtain ⟨fd, F⟩ := c.d.def_ 27 (d := d__law_same) rfl
    exact ⟨_, fd, F, He.glo_ok X G (c.d.fact 23 (f := .glo "_law_same") rfl)⟩
  a__law_fleet := by
    obtain ⟨fd, F⟩ := c.d.def_ 28 (d := d__law_fleet) rfl
    exact ⟨_, fd, F, He.glo_ok X G (c.d.fact 24 (f := .glo "_law_fleet") rfl)⟩
  a__law_fits := by
    obtain ⟨fd, F⟩ := c.d.def_ 29 (d := d__law_fits) rfl
    exact ⟨_, fd, F, He.glo_ok X G (c.d.fact 25 (f := .glo "_law_fits") rfl)⟩
  a__law_moves := by
    obtain ⟨fd, F⟩ := c.d.def_ 30 (d := d__law_moves) rfl
    exact ⟨_, fd, F, He.glo_ok X G (c.d.fact 26 (f := .glo "_law_moves") rfl)⟩
  a__law_odd_fleet := by
    obtain ⟨fd, F⟩ := c.d.def_ 31 (d := d__law_odd_fleet) rfl
    exact ⟨_, fd, F, He.glo_ok X G (c.d.fact 27 (f := .glo "_law_odd_fleet") rfl)⟩
  a__law_odd_place := by
    obtain ⟨fd, F⟩ := c.d.def_ 32 (d := d__law_odd_place) rfl
    exact ⟨_, fd, F, He.glo_ok X G (c.d.fact 28 (f := .glo "_law_odd_place") rfl)⟩
  a__law_asked := by
    obtain ⟨fd, F⟩ := c.d.def_ 33 (d := d__law_asked) rfl
    exact ⟨_, fd, F, He.glo_ok X G (c.d.fact 29 (f := .glo "_law_asked") rfl)⟩
  a__law_full_right := by
    obtain ⟨fd, F⟩ := c.d.def_ 34 (d := d__law_full_right) rfl
    exact ⟨_, fd, F, He.glo_ok X G (c.d.fact 30 (f := .glo "_law_full_right") rfl)⟩
  a__law_moves_right := by
    obtain ⟨fd, F⟩ := c.d.def_ 35 (d := d__law_moves_right) rfl
    exact ⟨_, fd, F, He.glo_ok X G (c.d.fact 31 (f := .glo "_law_moves_right") rfl)⟩
  a_law := by
    obtain ⟨fd, F⟩ := c.d.def_ 36 (d := d_law) rfl
    exact ⟨_, fd, F, He.glo_ok X G (c.d.fact 32 (f := .glo "law") rfl)⟩
theorem exm (c : Hk2.SaysC fal fnl tfl exl h K) : Exm K where
  f_f := of_decide_eq_true (xat c.x 13 rfl)
  p_f := of_decide_eq_true (xat c.x 14 rfl)
  p_p := of_decide_eq_true (xat c.x 15 rfl)
  h_f := of_decide_eq_true (xat c.x 16 rfl)
  h_p := of_decide_eq_true (xat c.x 17 rfl)
  h_h := of_decide_eq_true (xat c.x 18 rfl)
  n_f := of_decide_eq_true (xat c.x 19 rfl)
  n_p := of_decide_eq_true (xat c.x 20 rfl)
  n_h := of_decide_eq_true (xat c.x 21 rfl)
  n_n := of_decide_eq_true (xat c.x 22 rfl)
theorem to0 {base : Heap} {k : Nat} {f : Addr} {fd : FuncData} {ps : List Str} {sp : Sp} (F : FnOk P w K mg base (L2.CX P w) k f fd ps sp) : FnOk P w K mg base CX0 k f fd ps (fun vs H Q _ => sp vs H Q E0) :=
  ⟨fun vs H Q E q => F.len _ _ _ _ q, fun A outer s H args us vs Q E hr he hb hv hs => codeAny_mono (F.run A outer s H args us vs Q E0 hr he hb hv hs) fun r s' z => by
    cases r with
    | ok f => cases f <;> exact z
    | error e =>
      obtain ⟨_, _, _, _, _, _, _, _, _, _, _, _, q⟩ := z
      exact q.elim⟩
theorem law_ok (T : Txt K mg) (X : Exm K) {base : Heap} {f : Addr} {fd : FuncData} (F : At K mg "law" s_law f fd) : FnOk P w K mg base (L2.CX P w) 13 f fd ["script"] (spLaw K) := by
  have G__law_cell := ok__law_cell (P := P) (w := w) (base := base) T 
  have G__law_box := ok__law_box (P := P) (w := w) (base := base) T 
  have G__law_take := ok__law_take (P := P) (w := w) (base := base) T 
  have G__law_fleet := ok__law_fleet (P := P) (w := w) (base := base) T G__law_take
  have G__law_odd_fleet := ok__law_odd_fleet (P := P) (w := w) (base := base) T G__law_take
  have G__law_odd_place := ok__law_odd_place (P := P) (w := w) (base := base) T G__law_take
  have G_is_whole := ok_is_whole (P := P) (w := w) (base := base) T 
  have G_is_name := ok_is_name (P := P) (w := w) (base := base) T 
  have G_are_houses := ok_are_houses (P := P) (w := w) (base := base) T G_is_whole G_is_name
  have G_are_promises := ok_are_promises (P := P) (w := w) (base := base) T G_is_whole G_is_name
  have G_is_fleet := ok_is_fleet (P := P) (w := w) (base := base) T G_are_houses G_are_promises
  have G_need_fleet := ok_need_fleet (P := P) (w := w) (base := base) T G_is_fleet
  have G_fits := ok_fits (P := P) (w := w) (base := base) T 
  have G_row_of := ok_row_of (P := P) (w := w) (base := base) T G_is_name G_fits
  have G_is_placement := ok_is_placement (P := P) (w := w) (base := base) T G_need_fleet G_row_of
  have G__law_same := ok__law_same (P := P) (w := w) (base := base) T 10
  have G_needed_row := ok_needed_row (P := P) (w := w) (base := base) T G_row_of
  have G_moves_from := ok_moves_from (P := P) (w := w) (base := base) T G_need_fleet G_needed_row
  have G_plan := ok_plan (P := P) (w := w) (base := base) T G_need_fleet G_needed_row
  have G_drained := ok_drained (P := P) (w := w) (base := base) T G_is_name G_need_fleet G_needed_row
  have G_spread := ok_spread (P := P) (w := w) (base := base) T 
  have G_reachable := ok_reachable (P := P) (w := w) (base := base) T G_need_fleet G_needed_row G_spread
  have G_is_closed := ok_is_closed (P := P) (w := w) (base := base) T G_need_fleet G_needed_row
  have G_rows_from := ok_rows_from (P := P) (w := w) (base := base) T G_fits
  have G_place_of := ok_place_of (P := P) (w := w) (base := base) T 
  have G_after_moves := ok_after_moves (P := P) (w := w) (base := base) T G_need_fleet G_needed_row G_rows_from G_place_of
  have G__law_asked := ok__law_asked (P := P) (w := w) (base := base) T X G_moves_from G_plan G_drained G_reachable G_is_closed G_after_moves G_is_placement
  have G__law_full_right := ok__law_full_right (P := P) (w := w) (base := base) T G__law_take G_is_placement G__law_same
  have G__law_fits := ok__law_fits (P := P) (w := w) (base := base) T 
  have G__law_moves := ok__law_moves (P := P) (w := w) (base := base) T G__law_fits
  have G__law_moves_right := ok__law_moves_right (P := P) (w := w) (base := base) T G__law_take G__law_moves G_after_moves G__law_same
  exact ok_law T G__law_cell G__law_box G__law_take G__law_fleet G__law_odd_fleet G__law_odd_place G_is_fleet G_is_placement G__law_same G__law_asked G__law_full_right G__law_moves_right F
theorem facts {f : Addr} (X : K.In h) (G : h.Ns mainGlobals mg) (hfa : mg ("law" : Str) = some (.ref f)) (c : Hk2.SaysC fal fnl tfl exl h K) :
    ∃ fd : FuncData, (∀ (s : Shared) (v : Value), BindsTo s fd ⟨[v], []⟩ [("script", v)]) ∧ ∀ base : Heap, K.In base → base.Ns mainGlobals mg → (∀ p ∈ tfl.map (He.cT K), TabB base mg p.1 p.2) → FnOk P w K mg base CX0 13 f fd ["script"] (fun vs H Q _ => spLaw K vs H Q E0) := by
  obtain ⟨fd, F⟩ := c.d.def_ 36 (d := d_law) rfl
  have e := hfa.symm.trans (He.glo_ok X G (c.d.fact 32 (f := .glo "law") rfl))
  cases e
  have b := FunD.bindsA (ps := ["script"]) F fun _ _ _ _ _ _ us hl => match us, hl with | [_], _ => rfl
  exact ⟨fd, fun s v => b s [v] rfl, fun base _ _ hT => to0 (law_ok (txt X G c) (exm c)  ⟨F, He.glo_ok X G (c.d.fact 32 (f := .glo "law") rfl)⟩)⟩
end
end K89
open PySem PySem.W PySem.Calls PyProof.Rows
theorem PySem.Challenge.cw_guestfleet_k89_placements_refused_and_ju_holds : PySem.Challenge.rw_guestfleet_k89_placements_refused_and_ju.Holds := by
  w_on; o_law
  refine HandSHeadRun.head_any (r := OpenLaw.row PySem.Challenge.rw_guestfleet_k89_placements_refused_and_ju) (q := view (OpenLaw.row PySem.Challenge.rw_guestfleet_k89_placements_refused_and_ju).prog [48]) (H := K89.hk) (ob := K89.ob) (M := 6000) (loose := K89.loose) (d := HandSHeadRun.topDef (OpenLaw.row PySem.Challenge.rw_guestfleet_k89_placements_refused_and_ju).prog 48) (kwd := []) K89.ob_eq
    (by kernel_rfl) (fun s => by kernel_rfl) K89.run (by kernel_rfl) (by kernel_rfl) (by kernel_rfl) (by rfl) (by first | assumption | decide +kernel) (by decide +kernel) ⟨rfl, rfl, rfl, rfl, rfl, by decide +kernel⟩ ?hw ?hc
  case hw => w_witness2
  case hc =>
    refine LamX.walk_ofTsE (l := PySem.Challenge.rw_guestfleet_k89_placements_refused_and_ju) (n := 63) (k := 13) (x := "script") (CX := fun _ => L2.CX0) rfl (by decide) (by kernel_rfl) ⟨rfl, by decide, by decide⟩ ?F (fun _ _ _ _ _ z => z)
    intro w mg fa h Y G hmg0
    obtain ⟨K, KX, c⟩ := Y
    have hmg : mg ("law" : PySem.Str) = some (.ref fa) := by
      have e : (HandSHeadRun.topDef (OpenLaw.row PySem.Challenge.rw_guestfleet_k89_placements_refused_and_ju).prog 48).name = ("law" : PySem.Str) := by kernel_rfl
      rw [← e]
      exact hmg0
    obtain ⟨fd, hb, hF⟩ := K89.facts (P := (PySem.Challenge.rw_guestfleet_k89_placements_refused_and_ju).prog) (w := w) KX G hmg c
    refine ⟨K, KX, fd, K89.tfl.map (He.cT K), _, fun p hp => ?_, fun p hp => ?_, fun p hp => ?_, hb, fun H a ns hl _ hT hS => ?_, hF⟩
    · obtain ⟨q, hq, rfl⟩ := List.mem_map.mp hp
      exact (c.c q hq).2.2
    · obtain ⟨q, hq, rfl⟩ := List.mem_map.mp hp
      exact (c.c q hq).2.1
    · obtain ⟨q, hq, rfl⟩ := List.mem_map.mp hp
      exact PySem.W.codeHd_of_K KX (c.c q hq).1
    · refine ⟨a, ns, rfl, hS, fun _ => rfl⟩
