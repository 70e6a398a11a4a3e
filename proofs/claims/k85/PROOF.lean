import PyProof.Rows.All
import Wide.All
import OpenK.AllK
import Wide.FinOn
import KE.KStateDown
import HandS.ForMost
import HandS.Defaults
import HandS.Head0
import HandS.Head1
import HandS.Head2
import HandS.HeadEnd
import HandS.HeadHook1
import HandS.HeadHook2
import HandS.HeadHook4
import HandS.EndTab
import HandS.HeadWalk
import HandS.WordsExc
import HandS.Wide
import HandS.IsInst
import HandS.Exc
import HandS.ExcOwn
import HandS.ListItems
import HandS.More
import HandS.Flow
import HandS.Style
import HandS.Steps
import HandS.WideBits
import HandS.TupAny
import HandS.TupLe
import HandS.Walk
import HandS.TryMany
import KE.KFromBytes
import PyProof.Rows.FactsExc_KeyError
import HandS.ExcInit
import HandS.ClsMeth
import HandS.Lambda
import HandS.MakeKwOnly
import KE.KLam
import KE.DataMinKey
import HandS.Codes
import HandS.TryOnly
import HandS.SortKw
import KE.GoesMore
import KE.KNestM
import PySem.Challenge.RW_guestfleet_k85_whole_latest_turns
set_option Elab.async false
set_option linter.all false
set_option maxRecDepth 100000
set_option maxHeartbeats 4000000
/-! Hk2: our heads' hook with the tables of the code that makes lambdas. -/
namespace Hk2
open PySem PySem.Spec PyProof.Rows L2
abbrev AlC : Type := He.AlD × Bool
/-- the written part behind the top, class attributes' place added, empty tables left out -/
def kOf (g : Addr → Option Obj) (n : Nat) : PySem.W.Frag := He.frT g (PySem.cStatics :: He.asD g n)
def obsC (n : Nat) (fa : List He.Fa) (fn : List He.DefD) (tf : List He.Defn) (ex : PySem.W.Frag → Bool) (g : Addr → Option Obj) : AlC := (He.obsD fa fn (kOf g n), ex (kOf g n) && He.tabsB g tf (kOf g n))
def valC (fn : List He.DefD) : AlC := (He.valD fn, true)
structure SaysC (fa : List He.Fa) (fn : List He.DefD) (tf : List He.Defn) (ex : PySem.W.Frag → Bool) (h : Heap) (K : PySem.W.Frag) : Prop where
  d : He.SaysD fa fn K
  x : ex K = true
  c : ∀ p ∈ tf, PySem.W.codeHdIn K (He.cT K p).1 (He.cT K p).2 = true ∧ K.lookup (He.cT K p).2 = none ∧ h.get? (He.cT K p).2 = some { cls := .none, data := .fields #[] }
theorem says_ofC {n : Nat} {fa : List He.Fa} {fn : List He.DefD} {tf : List He.Defn} {ex : PySem.W.Frag → Bool} {h : Heap} (e : obsC n fa fn tf ex h.get? = valC fn) : SaysC fa fn tf ex h (kOf h.get? n) := by
  have b := Bool.and_eq_true_iff.mp (congrArg Prod.snd e)
  refine ⟨congrArg Prod.fst e, b.1, fun p hp => ?_⟩
  have t := Bool.and_eq_true_iff.mp (List.all_eq_true.mp b.2 p hp)
  revert t
  generalize hx : h.get? (He.cT (kOf h.get? n) p).2 = x
  rintro ⟨t1, t2⟩
  cases x with
  | none => cases t2
  | some o => exact ⟨t1, He.frT_none hx t2, by rw [He.emptyTab_eq t2]⟩
def hookC (n : Nat) (fa : List He.Fa) (fn : List He.DefD) (tf : List He.Defn) (ex : PySem.W.Frag → Bool) : PySem.W.Hook where
  α := AlC
  obs := fun s => obsC n fa fn tf ex s.heap.get?
  val := fun _ => valC fn
  says := fun _ h => ∃ K : PySem.W.Frag, K.In h ∧ SaysC fa fn tf ex h K
  of := fun _ _ e => ⟨_, He.frT_in, says_ofC e⟩
  keeps := fun _ _ _ ⟨K, hK, c⟩ k => ⟨K, PySem.W.Frag.In.keeps hK k, c.d, c.x, fun p hp => ⟨(c.c p hp).1, (c.c p hp).2.1, k _ _ (c.c p hp).2.2⟩⟩
theorem obsC_eq {n : Nat} {fa : List He.Fa} {fn : List He.DefD} {tf : List He.Defn} {ex : PySem.W.Frag → Bool} {g : Addr → Option Obj} {s : Shared} (h : ∀ a, g a = s.heap.get? a) : obsC n fa fn tf ex g = (hookC n fa fn tf ex).obs s := by
  rw [show g = s.heap.get? from funext h]
  rfl
end Hk2

set_option Elab.async false
set_option linter.all false
set_option maxRecDepth 100000
set_option maxHeartbeats 1000000
/-! RP: plain data, and what stands for it in the heap; defs by name. -/
namespace RP
open PySem PySem.Spec PyProof.Rows L2
/-! ### plain data -/
inductive D where
  | non | bl (b : Bool) | int (i : Int) | str (x : Str) | lst (l : List D) | tup (l : List D) | dct (l : List (Str × D))
mutual
inductive Rep (K : PySem.W.Frag) (H : Hp) : V → D → Prop where
  | non : Rep K H .non .non
  | bl (b : Bool) : Rep K H (.bl b) (.bl b)
  | int (i : Int) : Rep K H (.int i) (.int i)
  | str (x : Str) (h : x.length ≤ sizeLine) : Rep K H (.str x) (.str x)
  | lst {a : Addr} {vs : List V} {ds : List D} (h : SqL K H a vs) (r : Reps K H vs ds) : Rep K H (.ref a) (.lst ds)
  | tup {a : Addr} {vs : List V} {ds : List D} (h : SqT K H a vs) (r : Reps K H vs ds) : Rep K H (.ref a) (.tup ds)
  | dct {a : Addr} {kvs : List (Key × V)} {ds : List (Str × D)} (h : Rd H a (.dK kvs)) (r : RepK K H kvs ds) : Rep K H (.ref a) (.dct ds)
inductive Reps (K : PySem.W.Frag) (H : Hp) : List V → List D → Prop where
  | nil : Reps K H [] []
  | cons {v : V} {d : D} {vs : List V} {ds : List D} (h : Rep K H v d) (t : Reps K H vs ds) : Reps K H (v :: vs) (d :: ds)
inductive RepK (K : PySem.W.Frag) (H : Hp) : List (Key × V) → List (Str × D) → Prop where
  | nil : RepK K H [] []
  | cons {x : Str} {v : V} {d : D} {kvs : List (Key × V)} {ds : List (Str × D)} (hx : x.length ≤ sizeLine) (h : Rep K H v d) (t : RepK K H kvs ds) : RepK K H ((.inr x, v) :: kvs) ((x, d) :: ds)
end
/-! ### heaps that know the same -/
/-- what is to be read in R is to be read in H -/
def Lq (R H : Hp) : Prop := ∀ a u, Rd R a u → Rd H a u
theorem Lq.refl (H : Hp) : Lq H H := fun _ _ h => h
theorem Lq.trans {A B C : Hp} (h : Lq A B) (k : Lq B C) : Lq A C := fun a u r => k a u (h a u r)
theorem Lq.of {R H : Hp} (s : Same R H) : Lq R H := fun a u r => by
  rcases r with r | ⟨o, r⟩
  · exact .inl (s a _ r)
  · exact .inr ⟨o, s a _ r⟩
theorem Lq.seq {K : PySem.W.Frag} {R H : Hp} (l : Lq R H) {a : Addr} {xs : List V} (h : SqL K R a xs) : SqL K H a xs := h.elim (fun z => .inl (l _ _ z)) .inr
theorem Lq.tup {K : PySem.W.Frag} {R H : Hp} (l : Lq R H) {a : Addr} {xs : List V} (h : SqT K R a xs) : SqT K H a xs := h.elim (fun z => .inl (l _ _ z)) .inr
mutual
theorem Rep.mono {K : PySem.W.Frag} {R H : Hp} (l : Lq R H) : ∀ {v : V} {d : D}, Rep K R v d → Rep K H v d
  | _, _, .non => .non
  | _, _, .bl b => .bl b
  | _, _, .int i => .int i
  | _, _, .str x h => .str x h
  | _, _, .lst h r => .lst (l.seq h) (Reps.mono l r)
  | _, _, .tup h r => .tup (l.tup h) (Reps.mono l r)
  | _, _, .dct h r => .dct (l _ _ h) (RepK.mono l r)
theorem Reps.mono {K : PySem.W.Frag} {R H : Hp} (l : Lq R H) : ∀ {vs : List V} {ds : List D}, Reps K R vs ds → Reps K H vs ds
  | _, _, .nil => .nil
  | _, _, .cons h t => .cons (Rep.mono l h) (Reps.mono l t)
theorem RepK.mono {K : PySem.W.Frag} {R H : Hp} (l : Lq R H) : ∀ {kvs : List (Key × V)} {ds : List (Str × D)}, RepK K R kvs ds → RepK K H kvs ds
  | _, _, .nil => .nil
  | _, _, .cons hx h t => .cons hx (Rep.mono l h) (RepK.mono l t)
end
theorem Rep.same {K : PySem.W.Frag} {R H : Hp} (s : Same R H) {v : V} {d : D} (r : Rep K R v d) : Rep K H v d := r.mono (Lq.of s)
theorem Reps.same {K : PySem.W.Frag} {R H : Hp} (s : Same R H) {v : List V} {d : List D} (r : Reps K R v d) : Reps K H v d := r.mono (Lq.of s)
theorem RepK.same {K : PySem.W.Frag} {R H : Hp} (s : Same R H) {v : List (Key × V)} {d : List (Str × D)} (r : RepK K R v d) : RepK K H v d := r.mono (Lq.of s)
/-- a dict is locked, and let go -/
theorem Lq.lock {R H : Hp} (l : Lq R H) {d : Addr} {u : HO} {o : Obj} (h : H d = some u) (m : Mut (some u)) : Lq R (upd H d (.frz o u)) := fun a v r => by
  have q := l a v r
  by_cases e : a = d
  · subst e
    rcases q with q | ⟨o', q⟩
    · rw [h] at q
      cases q
      exact .inr ⟨o, upd_same⟩
    · rw [h] at q
      cases q
      exact m.elim
  · rcases q with q | ⟨o', q⟩
    · exact .inl (by rw [upd_ne e]; exact q)
    · exact .inr ⟨o', by rw [upd_ne e]; exact q⟩
theorem same_new {H : Hp} {p : Addr} {o : HO} (h : H p = none) : Same H (upd H p o) := fun b u e => by
  rw [upd_ne (ne_of_none e h)]
  exact e
/-- what was locked stands again -/
theorem _root_.L2.Same.unlock {H H' : Hp} {d : Addr} {u : HO} {o : Obj} (h : H d = some u) (s : Same (upd H d (.frz o u)) H') : Same H (upd H' d u) := fun b v e => by
  by_cases q : b = d
  · subst q
    rw [h] at e
    cases e
    exact upd_same
  · rw [upd_ne q]
    exact s b v (by rw [upd_ne q]; exact e)
/-! ### known parts -/
/-- a part of the heap that holds no locked thing -/
def Plain (R : Hp) : Prop := ∀ a o u, R a ≠ some (.frz o u)
theorem Plain.put {R : Hp} (p : Plain R) {a : Addr} {o : HO} (h : ∀ ob u, o ≠ .frz ob u) : Plain (upd R a o) := fun b ob u e => by
  by_cases q : b = a
  · subst q
    rw [upd_same] at e
    exact h ob u (Option.some.inj e)
  · rw [upd_ne q] at e
    exact p b ob u e
theorem Plain.none : Plain fun _ => none := fun _ _ _ e => nomatch e
theorem Plain.rd {R : Hp} (p : Plain R) {a : Addr} {u : HO} (r : Rd R a u) : R a = some u := by
  rcases r with r | ⟨o, r⟩
  · exact r
  · exact (p _ _ _ r).elim
theorem _root_.L2.Same.out {R H : Hp} (s : Same R H) {p : Addr} (h : H p = none) : R p = none := s.free h
theorem _root_.L2.Same.put {R H : Hp} (s : Same R H) {p : Addr} {o : HO} : Same (upd R p o) (upd H p o) := fun b u e => by
  by_cases q : b = p
  · subst q
    rw [upd_same] at e ⊢
    exact e
  · rw [upd_ne q] at e ⊢
    exact s b u e
theorem _root_.L2.Same.skip {R H : Hp} (s : Same R H) {p : Addr} {o : HO} (h : R p = none) : Same R (upd H p o) := fun b u e => by
  rw [upd_ne (fun q => by rw [q, h] at e; cases e)]
  exact s b u e
/-- all but what stands at b is as it was -/
def But (b : Addr) (H H' : Hp) : Prop := ∀ a o, a ≠ b → H a = some o → H' a = some o
theorem But.refl (b : Addr) (H : Hp) : But b H H := fun _ _ _ h => h
theorem But.trans {b : Addr} {A B C : Hp} (h : But b A B) (k : But b B C) : But b A C := fun a o n e => k a o n (h a o n e)
theorem But.of {b : Addr} {H H' : Hp} (s : Same H H') : But b H H' := fun a o _ e => s a o e
theorem But.same {b : Addr} {R H H' : Hp} (k : But b H H') (n : R b = none) (s : Same R H) : Same R H' := fun a o e => k a o (fun q => by rw [q, n] at e; cases e) (s a o e)
theorem But.free {b : Addr} {H H' : Hp} (k : But b H H') {p : Addr} (n : p ≠ b) (h : H' p = none) : H p = none := by
  cases q : H p with
  | none => rfl
  | some o =>
    rw [k p o n q] at h
    cases h
theorem But.write {b : Addr} {H : Hp} {o : HO} : But b H (upd H b o) := fun a u n e => by
  rw [upd_ne n]
  exact e
/-- R2 knows besides R only what is new behind H -/
structure Grow (H R R2 : Hp) : Prop where
  same : Same R R2
  old : ∀ a, H a ≠ none → R2 a = R a
theorem Grow.refl (H R : Hp) : Grow H R R := ⟨Same.refl R, fun _ _ => rfl⟩
theorem Grow.trans {H H1 R R1 R2 : Hp} (a : Grow H R R1) (b : Grow H1 R1 R2) (k : ∀ x, H x ≠ none → H1 x ≠ none) : Grow H R R2 := ⟨a.same.trans b.same, fun x h => (b.old x (k x h)).trans (a.old x h)⟩
theorem Grow.put {H R R1 : Hp} (a : Grow H R R1) {p : Addr} {o : HO} (h : H p = none) (n : R1 p = none) : Grow H R (upd R1 p o) := ⟨a.same.trans (same_new n), fun x hx => by
  rw [upd_ne (fun q => hx (by rw [q]; exact h))]
  exact a.old x hx⟩
theorem Grow.off {H R R2 : Hp} (g : Grow H R R2) {b : Addr} {o : HO} (h : H b = some o) (n : R b = none) : R2 b = none := (g.old b (by rw [h]; exact fun z => nomatch z)).trans n
theorem Reps.len {K : PySem.W.Frag} {R : Hp} : ∀ {zs : List V} {ds : List D}, Reps K R zs ds → zs.length = ds.length
  | _, _, .nil => rfl
  | _, _, .cons _ t => by rw [List.length_cons, List.length_cons, t.len]
theorem Reps.get {K : PySem.W.Frag} {R : Hp} : ∀ {zs : List V} {ds : List D} {i : Nat} {z : V}, Reps K R zs ds → zs[i]? = some z → ∃ d, ds[i]? = some d ∧ Rep K R z d
  | _, _, _, _, .nil, h => nomatch h
  | _, _, 0, _, .cons h _, e => by
    cases e
    exact ⟨_, rfl, h⟩
  | _, _, i + 1, _, .cons _ t, e => t.get (i := i) e
theorem Reps.at {K : PySem.W.Frag} {R : Hp} : ∀ {zs : List V} {ds : List D} {i : Nat} {d : D}, Reps K R zs ds → ds[i]? = some d → ∃ z, zs[i]? = some z ∧ Rep K R z d
  | _, _, _, _, .nil, h => nomatch h
  | _, _, 0, _, .cons h _, e => by
    cases e
    exact ⟨_, rfl, h⟩
  | _, _, i + 1, _, .cons _ t, e => t.at (i := i) e
theorem RepK.len {K : PySem.W.Frag} {R : Hp} : ∀ {zs : List (Key × V)} {ds : List (Str × D)}, RepK K R zs ds → zs.length = ds.length
  | _, _, .nil => rfl
  | _, _, .cons _ _ t => by rw [List.length_cons, List.length_cons, t.len]
theorem RepK.get {K : PySem.W.Frag} {R : Hp} : ∀ {zs : List (Key × V)} {ds : List (Str × D)} {i : Nat} {k : Key} {z : V}, RepK K R zs ds → zs[i]? = some (k, z) → ∃ x d, ds[i]? = some (x, d) ∧ k = .inr x ∧ x.length ≤ sizeLine ∧ Rep K R z d
  | _, _, _, _, _, .nil, h => nomatch h
  | _, _, 0, _, _, .cons hx h _, e => by
    cases e
    exact ⟨_, _, rfl, rfl, hx, h⟩
  | _, _, i + 1, _, _, .cons _ _ t, e => t.get (i := i) e
/-! ### data by its kind -/
def D.ty : D → String
  | .non => "NoneType"
  | .bl _ => "bool"
  | .int _ => "int"
  | .str _ => "str"
  | .lst _ => "list"
  | .tup _ => "tuple"
  | .dct _ => "dict"
theorem sqL_ty {K : PySem.W.Frag} {H : Hp} {a : Addr} {xs : List V} (h : SqL K H a xs) : TyX K H (.ref a) (.type "list") := by
  rcases h with (h | ⟨o, h⟩) | ⟨o, its, n, hk, hc, _⟩
  · exact .base (.lst h)
  · exact .base (.frz h)
  · exact .kList hk hc
theorem sqT_ty {K : PySem.W.Frag} {H : Hp} {a : Addr} {xs : List V} (h : SqT K H a xs) : TyX K H (.ref a) (.type "tuple") := by
  rcases h with (h | ⟨o, h⟩) | ⟨o, its, n, hk, hc, _⟩
  · exact .base (.tup h)
  · exact .fTuple h
  · exact .kTuple hk hc
theorem Rep.tyx {K : PySem.W.Frag} {H : Hp} {v : V} {d : D} (r : Rep K H v d) : TyX K H v (.type d.ty) := by
  cases r with
  | non => exact .base .non
  | bl b => exact .base (.bl b)
  | int i => exact .base (.int i)
  | str x _ => exact .base (.str x)
  | lst h _ => exact sqL_ty h
  | tup h _ => exact sqT_ty h
  | dct h _ =>
    rcases h with h | ⟨o, h⟩
    · exact .base (.dK h)
    · exact .fDict h
/-- isinstance of data -/
def D.isa (d : D) (T : String) : Bool := decide (d.ty = T) || (decide (d.ty = "bool") && decide (T = "int"))
theorem isa_kit {K : PySem.W.Frag} (d : D) {T : String} (h : T ∈ ["int", "bool", "str", "list", "tuple", "dict"]) : PySem.W.kitOne K (.type d.ty) (.type T) = some (d.isa T) := by
  have key : ∀ t ∈ ["NoneType", "bool", "int", "str", "list", "tuple", "dict"], ∀ T ∈ ["int", "bool", "str", "list", "tuple", "dict"], kitB t T = some (decide (t = T) || (decide (t = "bool") && decide (T = "int"))) := by decide +kernel
  have ht : d.ty ∈ ["NoneType", "bool", "int", "str", "list", "tuple", "dict"] := by cases d <;> simp [D.ty]
  exact kit_ty (key _ ht _ h)
/-! ### readings -/
/-- a reading that is answered by a lemma, never unfolded on the way -/
structure Box (p : Prop) : Prop where
  out : p
theorem call_box {X : Cx} {f : Value} {r : List V → Hp → VK → Prop} (h : CallR X f r) : CallR X f (fun xs H Q => Box (r xs H Q)) := fun pins s σ H xs us Q I rv q => h pins s σ H xs us Q I rv q.out
theorem call_is {X : Cx} : CallR X (.builtin "isinstance") (fun xs H Q => Box (rIsi X.K xs H Q)) := call_box call_isi
theorem call_isLT {X : Cx} : CallR X (.builtin "isinstance") (fun xs H Q => Box (rIsiT X.K xs H Q)) := call_box call_isiT
section
variable {K : PySem.W.Frag} {H : Hp} {v : V} {d : D} {Q : VK}
/-- isinstance(x, T) -/
theorem rd_isi {T : String} (r : Rep K H v d) (h : Q (.bl (d.isa T)) H) (hT : T ∈ ["int", "bool", "str", "list", "tuple", "dict"] := by decide) : Box (rIsi K [v, .ty T] H Q) := ⟨_, _, _, _, _, rfl, .ty T, r.tyx, isa_kit d hT, h⟩
/-- isinstance(x, (list, tuple)), the tuple just laid -/
theorem rd_isiLT {p : Addr} (r : Rep K H v d) (hp : H p = none) (h : Q (.bl (d.isa "list" || d.isa "tuple")) (upd H p (.tup [.ty "list", .ty "tuple"]))) : Box (rIsiT K [v, .ref p] (upd H p (.tup [.ty "list", .ty "tuple"])) Q) := by
  have r2 := r.same (same_new (o := .tup [.ty "list", .ty "tuple"]) hp)
  have e : PySem.W.kitAny K (.type d.ty) [.type "list", .type "tuple"] = some (d.isa "list" || d.isa "tuple") := by
    have h1 := isa_kit (K := K) d (T := "list") (by decide)
    have h2 := isa_kit (K := K) d (T := "tuple") (by decide)
    refine kitAny_cons h1 (fun z => ?_) fun z => by rw [z]; rfl
    rw [z]
    refine kitAny_cons h2 (fun z2 => ?_) fun z2 => by rw [z2]; rfl
    rw [z2]
    exact kitAny_nil
  exact ⟨_, _, _, _, _, _, rfl, upd_same, .cons (.ty _) (.cons (.ty _) .nil), r2.tyx, e, h⟩
end
theorem ite_dec {A B : Prop} {c : Bool} (h1 : c = true → A) (h2 : c = false → B) : if c = true then A else B := by
  cases c with
  | true => exact iteT (h1 rfl)
  | false => exact iteF (h2 rfl)
end RP

set_option Elab.async false
set_option linter.all false
set_option maxRecDepth 100000
set_option maxHeartbeats 1000000
/-! KR: the layer's rules with the written part K named, so that they serve in a comprehension's block too. -/
namespace RP
open PySem PySem.Spec PyProof.Rows L2
section
variable {X : Cx} (K : PySem.W.Frag) (h : X.K = K)
include h
theorem kix_list : IxR X (rIxL K) := by subst h; exact ix_list
theorem kix_tup : IxR X (rIxT K) := by subst h; exact ix_tup
theorem ksl_list : SlR X (rSlL K) := by subst h; exact sl_list
theorem ksl_tup : SlR X (rSlA K) := by subst h; exact sl_tupA
theorem kcall_len_seq : CallR X (.builtin "len") (fun xs H Q => ∃ p ys, xs = [.ref p] ∧ (SqL K H p ys ∨ SqT K H p ys) ∧ Q (.int ys.length) H) := by subst h; exact call_len_seq
theorem kcall_len : CallR X (.builtin "len") (fun xs H Q => ∃ x n, xs = [x] ∧ LenV K x H n ∧ Q (.int n) H) := by subst h; exact call_len
theorem kcall_list_of : CallR X (.type "list") (fun xs H Q => ∃ p ys, xs = [.ref p] ∧ (SqL K H p ys ∨ SqT K H p ys) ∧ ∀ l, H l = none → Q (.ref l) (upd H l (.lst ys))) := by subst h; exact call_list_of
theorem kcall_tuple_of : CallR X (.type "tuple") (fun xs H Q => ∃ p ys, xs = [.ref p] ∧ ((SqL K H p ys ∧ ∀ l, H l = none → Q (.ref l) (upd H l (.tup ys))) ∨ (SqT K H p ys ∧ Q (.ref p) H))) := by subst h; exact call_tuple_of
theorem kcall_dictP (hc : X.calm = true) : CallR X (.type "dict") (fun xs H Q => ∃ (a : Addr) (ps : List Addr) (kvs : List (Key × V)), xs = [.ref a] ∧ SqL K H a (ps.map V.ref) ∧ Paired (fun p kv => SqT K H p [kV kv.1, kv.2]) ps kvs ∧
    ∀ p, H p = none → Q (.ref p) (upd H p (.dK (mergeK [] kvs)))) := by subst h; exact call_dictP hc
theorem kcr_sum (hc : X.calm = true) : CallR X (.builtin "sum") (rSum K) := by subst h; exact cr_sum hc
theorem kcr_all (hc : X.calm = true) : CallR X (.builtin "all") (rAll K) := by subst h; exact cr_all hc
theorem kcr_any (hc : X.calm = true) : CallR X (.builtin "any") (rAny K) := by subst h; exact cr_any hc
theorem kcall_is : CallR X (.builtin "isinstance") (fun xs H Q => Box (rIsi K xs H Q)) := by subst h; exact call_is
theorem kcall_isLT : CallR X (.builtin "isinstance") (fun xs H Q => Box (rIsiT K xs H Q)) := by subst h; exact call_isLT
theorem kmt_index : MtR X "list.index" (rIndex K) := by subst h; exact mt_index
theorem kmt_indexB : MtR X "list.index" (fun x xs H Q => Box (rIndex K x xs H Q)) := by
  subst h
  exact fun pins s σ H x xs v us Q I rx rv q => mt_index pins s σ H x xs v us Q I rx rv q.out
theorem kop_catA : OpR X (binaryOp .Add) (rCatA K) := by subst h; exact op_catA
theorem kop_in_seq : OpR X (compareOp .In) (rIn K false) := by subst h; exact op_in_seq
theorem kop_notIn_seq : OpR X (compareOp .NotIn) (rIn K true) := by subst h; exact op_notIn_seq
theorem kop_eqD (hu : X.A.units + 64 < cLine) : OpR X (compareOp .Eq) (rEqD K) := by subst h; exact op_eqD hu
theorem kop_neD (hu : X.A.units + 64 < cLine) : OpR X (compareOp .NotEq) (rNeD K) := by subst h; exact op_neD hu
end
section
variable {X : Cx} (K : PySem.W.Frag) (h : X.K = K) {tg e o : Expr} {es : List Expr} {te to : TE} {ta : TA}
include h
theorem kpi_list (hl : PE X e te) : PI X tg e (iList K te) := by subst h; exact pi_list hl
theorem kpi_tup (hl : PE X e te) : PI X tg e (iTup K te) := by subst h; exact pi_tup hl
theorem kpi_enum {p pos tpos : Pos} {elts : List Expr} {kk : Nat} (hg : Gl X "enumerate") (hm : X.mg "enumerate" = none) (ha : PA X [e] ta) (hs : starEach [e] X.env = [(false, eval e X.env)] := by rfl) :
    PI X (.Tuple elts kk tpos) (.Call (.Name "enumerate" p) [e] [] pos) (iEnum K ta) := by subst h; exact pi_enum hg hm ha hs
theorem kpg_tup {k : Nat} {t : TGs} {n : Nat} {pos : Pos} (hc : X.calm = true) (hp : PGs X es t) (hn : (assignEach es X.env).length = n := by rfl) (hst : (assignEach es X.env).findIdx? (·.1) = none := by rfl) : PG X (.Tuple es k pos) (gTup K n t) := by
  subst h
  exact pg_tup hc hp hn hst
theorem kpe_bm {nm : Str} {r : V → List V → Hp → VK → Prop} {apos cpos : Pos} {T' : String} (z : PE X (.Call (.Attribute o nm apos) es [] cpos) (tBM X.K T' r to ta)) : PE X (.Call (.Attribute o nm apos) es [] cpos) (tBM K T' r to ta) := by
  subst h
  exact z
end
end RP

set_option Elab.async false
set_option linter.all false
set_option maxRecDepth 100000
set_option maxHeartbeats 1000000
/-! LC: comprehensions that only make new things. -/
namespace RP
open PySem PySem.Spec PyProof.Rows L2
theorem range_succ_filterMap {α : Type} (f : Nat → Option α) (n : Nat) : (List.range (n + 1)).filterMap f = (List.range n).filterMap f ++ (match f n with
    | some y => [y]
    | none => []) := by
  rw [List.range_succ, List.filterMap_append]
  cases h : f n <;> simp [h]
theorem filterMap_range_length {α : Type} (f : Nat → Option α) (n : Nat) : ((List.range n).filterMap f).length ≤ n := by
  have h := List.length_filterMap_le f (List.range n)
  rw [List.length_range] at h
  exact h
section
variable {J : It} {n : Nat} {G : Hp → Prop} {Y : Nat → Hp → V → Hp → Prop} {g : TG} {tt : TT} {te : TE} {vs : List Nat} {σ : L2.St} {H1 : Hp} {L : Addr} {Qd : Hp → Prop}
/-- each value is told by f (none: left out) -/
theorem lc_vals (w : Walk J n G Y) (f : Nat → Option V) (hD : H1 L = none) (hn : n ≤ 1000000) (hG : ∀ H, Same H1 H → G H)
    (hs : ∀ i x H H' (Y2 : V → Hp → Prop) (N2 : Hp → Prop), i < n → Same H1 H → H L ≠ none → Y i H x H' → (∀ y H4, f i = some y → Same H H4 → Y2 y H4) → (∀ H3, f i = none → Same H H3 → N2 H3) →
      g x (wipe σ vs) H' fun σ2 H2 => wipe σ2 vs = wipe σ vs ∧ tt σ2 H2 fun b H3 => if b = true then te σ2 H3 Y2 else N2 H3)
    (hd : ∀ H, Same H1 H → H L = some (.lst ((List.range n).filterMap f)) → Qd H) :
    ∃ W : Nat → Nat → Hp → Prop, (∃ m, W 0 m (upd H1 L (.lst []))) ∧ ∀ i m H, W i m H →
      (J.stop i H ∧ Qd H) ∨ (J.go i H ∧ ∃ Nx : Hp → Prop, (∀ H', Nx H' → ∃ m', m' < m ∧ W (i + 1) m' H') ∧ ∀ x H', J.yld i H x H' → g x (wipe σ vs) H' fun σ2 H2 => wipe σ2 vs = wipe σ vs ∧ tt σ2 H2 fun b H3 =>
        if b = true then te σ2 H3 fun y H4 => ∃ acc, H4 L = some (.lst acc) ∧ acc.length < sizeLine ∧ Nx (upd H4 L (.lst (acc ++ [y]))) else Nx H3) := by
  refine lc_it w (fun i H => Same H1 H ∧ H L = some (.lst ((List.range i).filterMap f))) ⟨same_new hD, by rw [upd_same]; rfl⟩ (fun i H _ p => hG H p.1) ?_ (fun H p => hd H p.1 p.2)
  intro i x H H' hi p y
  refine hs i x H H' _ _ hi p.1 (by rw [p.2]; exact fun z => nomatch z) y (fun v H4 e s => ?_) (fun H3 e s => ?_)
  · refine ⟨_, s _ _ p.2, ?_, ?_, ?_⟩
    · have := filterMap_range_length f i
      exact Nat.lt_of_le_of_lt (Nat.le_trans this (by omega)) (show 1000000 < sizeLine by rw [sizeLine_eq]; decide)
    · exact (p.1.trans s).skip hD
    · rw [upd_same, range_succ_filterMap, e]
  · refine ⟨p.1.trans s, ?_⟩
    rw [s _ _ p.2, range_succ_filterMap, e, List.append_nil]
/-- each value stands for data told by f -/
theorem lc_reps {K : PySem.W.Frag} {R : Hp} (w : Walk J n G Y) (f : Nat → Option D) (hD : H1 L = none) (hn : n ≤ 1000000) (hR : Same R H1) (hP : Plain R) (hG : ∀ H, Same H1 H → G H)
    (hs : ∀ i x H H' R1 (Y2 : V → Hp → Prop) (N2 : Hp → Prop), i < n → Same H1 H → H L ≠ none → Grow H1 R R1 → Plain R1 → Same R1 H → Y i H x H' →
      (∀ y H4 R4 d, f i = some d → Same H H4 → Grow H R1 R4 → Plain R4 → Same R4 H4 → Rep K R4 y d → Y2 y H4) → (∀ H3, f i = none → Same H H3 → N2 H3) →
      g x (wipe σ vs) H' fun σ2 H2 => wipe σ2 vs = wipe σ vs ∧ tt σ2 H2 fun b H3 => if b = true then te σ2 H3 Y2 else N2 H3)
    (hd : ∀ H R1 zs, Same H1 H → Grow H1 R R1 → Plain R1 → Same R1 H → R1 L = none → H L = some (.lst zs) → Reps K R1 zs ((List.range n).filterMap f) → Qd H) :
    ∃ W : Nat → Nat → Hp → Prop, (∃ m, W 0 m (upd H1 L (.lst []))) ∧ ∀ i m H, W i m H →
      (J.stop i H ∧ Qd H) ∨ (J.go i H ∧ ∃ Nx : Hp → Prop, (∀ H', Nx H' → ∃ m', m' < m ∧ W (i + 1) m' H') ∧ ∀ x H', J.yld i H x H' → g x (wipe σ vs) H' fun σ2 H2 => wipe σ2 vs = wipe σ vs ∧ tt σ2 H2 fun b H3 =>
        if b = true then te σ2 H3 fun y H4 => ∃ acc, H4 L = some (.lst acc) ∧ acc.length < sizeLine ∧ Nx (upd H4 L (.lst (acc ++ [y]))) else Nx H3) := by
  have app : ∀ {R : Hp} {zs : List V} {ds : List RP.D} {y : V} {d : RP.D}, Reps K R zs ds → Rep K R y d → Reps K R (zs ++ [y]) (ds ++ [d]) := by
    intro R zs ds y d r q
    induction zs generalizing ds with
    | nil =>
      cases r
      exact .cons q .nil
    | cons z zs ih =>
      cases r with
      | cons h t => exact .cons h (ih t)
  have len : ∀ {R : Hp} {zs : List V} {ds : List RP.D}, Reps K R zs ds → zs.length = ds.length := by
    intro R zs ds r
    induction zs generalizing ds with
    | nil =>
      cases r
      rfl
    | cons z zs ih =>
      cases r with
      | cons h t => rw [List.length_cons, List.length_cons, ih t]
  have hRD : R L = none := hR.out hD
  refine lc_it w (fun i H => ∃ R1 zs, Same H1 H ∧ Grow H1 R R1 ∧ Plain R1 ∧ Same R1 H ∧ R1 L = none ∧ H L = some (.lst zs) ∧ Reps K R1 zs ((List.range i).filterMap f))
    ⟨R, [], same_new hD, Grow.refl _ _, hP, hR.skip hRD, hRD, upd_same, .nil⟩ (fun i H _ ⟨_, _, p, _⟩ => hG H p) ?_ (fun H ⟨R1, zs, p1, p2, p3, p4, p5, p6, p7⟩ => hd H R1 zs p1 p2 p3 p4 p5 p6 p7)
  rintro i x H H' hi ⟨R1, zs, p1, p2, p3, p4, p5, p6, p7⟩ y
  refine hs i x H H' R1 _ _ hi p1 (by rw [p6]; exact fun z => nomatch z) p2 p3 p4 y (fun v H4 R4 d e s gr pl sr rp => ?_) (fun H3 e s => ?_)
  · have h4D : R4 L = none := (gr.old L (by rw [p6]; exact fun z => nomatch z)).trans p5
    refine ⟨_, s _ _ p6, ?_, R4, zs ++ [v], ?_, ?_, pl, sr.skip h4D, h4D, upd_same, ?_⟩
    · have h1 := filterMap_range_length f i
      have h2 := len p7
      exact Nat.lt_of_le_of_lt (by omega) (show 1000000 < sizeLine by rw [sizeLine_eq]; decide)
    · exact (p1.trans s).skip hD
    · refine p2.trans gr fun a ha z => ?_
      cases q : H1 a with
      | none => exact ha q
      | some o =>
        rw [p1 a o q] at z
        cases z
    · rw [range_succ_filterMap, e]
      exact app (p7.same gr.same) rp
  · refine ⟨R1, zs, p1.trans s, p2, p3, p4.trans s, p5, s _ _ p6, ?_⟩
    rw [range_succ_filterMap, e, List.append_nil]
    exact p7
end
end RP

set_option Elab.async false
set_option linter.all false
set_option maxRecDepth 100000
set_option maxHeartbeats 1000000
/-! GX3: a try with several clauses, each with or without a name. -/
namespace GX
open PySem PySem.Spec PyProof.Rows L2
/-- what is wanted behind a suite that holds a name in slot i: the slot is empty then -/
abbrev gone (D : Ends) (i : Nat) : Ends := { nx := fun σ H => D.nx (σ.set i none) H, rt := D.rt, bk := fun σ H => D.bk (σ.set i none) H, ct := fun σ H => D.ct (σ.set i none) H }
/-- a clause's suite, entered with the error at a -/
def enter (D : Ends) (oi : Option Nat) (t : TS) (a : Addr) (σ : L2.St) (H : Hp) : Prop := match oi with
  | none => t D σ H
  | some i => t (gone D i) (σ.set i (some (.ref a))) H
abbrev Cl : Type := Value × Option Nat × (Addr → Value → Option Addr → TS)
/-- what the clauses wish of an error of the body, one after the other -/
def wMA (K : PySem.W.Frag) (Wout : WX) (D : Ends) : List Cl → WX
  | [] => Wout
  | (c, oi, ts) :: r => fun cls d σ H => ∃ b, PySem.W.exmOne K cls c = some b ∧ (b = true → ∀ a, H a = none → enter D oi (ts a cls d) a σ H) ∧ (b = false → wMA K Wout D r cls d σ H)
inductive HdA (X : Cx) : List ExceptHandler → List Cl → Prop
  | nil : HdA X [] []
  | bare {x : Str} {c : Value} {ts : Addr → Value → Option Addr → TS} {b0 : Stmt} {suite : List Stmt} {np pos' : Pos} {hds : List ExceptHandler} {l : List Cl} (hc : Names X x c)
      (hsu : ∀ (a : Addr) (oe : Obj) (cls : Value) (d : Option Addr) (pn : List (Addr × Obj)), Zc cls d oe → (∃ vs, oe.data = .fields vs) → PSs (X.suite a ((a, oe) :: pn)) (b0 :: suite) (ts a cls d)) (r : HdA X hds l) :
      HdA X (.ExceptHandler (some (.Name x np)) none (b0 :: suite) pos' :: hds) ((c, none, ts) :: l)
  | named {x n : Str} {i : Nat} {c : Value} {ts : Addr → Value → Option Addr → TS} {b0 : Stmt} {suite : List Stmt} {np pos' : Pos} {hds : List ExceptHandler} {l : List Cl} (hi : X.N[i]? = some n) (hln : X.env.kindOf n = some .local) (hc : Names X x c)
      (hsu : ∀ (a : Addr) (oe : Obj) (cls : Value) (d : Option Addr) (pn : List (Addr × Obj)), Zc cls d oe → (∃ vs, oe.data = .fields vs) → PSs (X.suite a ((a, oe) :: pn)) (b0 :: suite) (ts a cls d)) (r : HdA X hds l) :
      HdA X (.ExceptHandler (some (.Name x np)) (some n) (b0 :: suite) pos' :: hds) ((c, some i, ts) :: l)
section
variable {X : Cx} {body : List Stmt} {h0 : ExceptHandler} {hds : List ExceptHandler} {l : List Cl} {pos : Pos} {tb : WX → TS} {Wout : WX}
theorem ps_try_ma (hs : X.stack = X.env :: X.outer) (hf : X.env.frame = some X.env.locals) (hN : X.N.Nodup) (tk : Takes X Wout)
    (hb : ∀ (W : WX) (pn : List (Addr × Obj)) (xe : Value → Shared → Prop), Takes (X.tr pn xe) W → PassesOwn (model X.prog X.w) X.A X.env xe → PSs (X.tr pn xe) body (tb W))
    (hh : HdA X (h0 :: hds) l) : PS X (.Try body (h0 :: hds) [] [] pos) (fun D σ H => tb (wMA X.K Wout D l) D σ H) := by
  refine ⟨fun pins s σ H D I h => ?_⟩
  have ok := I.ok
  have hfr : X.A.frames = some (X.env :: X.outer) := by rw [ok.frames, hs]
  have back : ∀ {f : Flow} {s1 : Shared}, SP (X.tr (X.pn ++ pins) (fun e s₁ => wpAny (model X.prog X.w) X.A (noteFrame e X.env) (fun _ s₂ => wpAny (model X.prog X.w) X.A (setFlight e none) (fun _ s₃ =>
      wpAny (model X.prog X.w) X.A (handleBy e X.env (h0 :: hds)) (SP X pins D) X.xe s₃) X.xe s₂) X.xe s₁)) [] D f s1 → SP X pins D f s1 := fun {f s1} hsp => by
    cases f with
    | next =>
      obtain ⟨σ1, H1, J, q⟩ := hsp
      exact ⟨σ1, H1, J.ofTry ok, q⟩
    | brk =>
      obtain ⟨σ1, H1, J, q⟩ := hsp
      exact ⟨σ1, H1, J.ofTry ok, q⟩
    | cont =>
      obtain ⟨σ1, H1, J, q⟩ := hsp
      exact ⟨σ1, H1, J.ofTry ok, q⟩
    | ret u =>
      obtain ⟨v, σ1, H1, J, r, q⟩ := hsp
      exact ⟨v, σ1, H1, J.ofTry ok, r, q⟩
  refine wpAny_Try_except ?_
  refine wpAny_mono ((hb (wMA X.K Wout D l) (X.pn ++ pins) _ (fun u s' xx => ?_) PassesOwn.looking).run [] s σ H D (I.toTry _) h) (fun f s1 hsp => ?_) (fun e s1 he => he)
  · obtain ⟨a, B, sI, pins', σ', H', cls, d, rfl, J', nb, up, sky, na, os, ag, w⟩ := xx
    have J : Inv X pins σ' H' sI := J'.ofTry ok
    have sky' : Sky B (X.env :: X.outer) a (Zc cls d) X.env.locals s'.heap := by
      rw [← hs]
      exact sky
    show wpAny (model X.prog X.w) X.A (noteFrame (.ref a) X.env) _ _ _
    refine Sky.land Zc.steady hfr hf sky' fun h3 fl3 up3 => ?_
    have J3 : Inv X pins σ' H' { s' with heap := h3 } := J.landed nb fl3.1 (up.trans up3) os ag
    obtain ⟨oe3, vs3, he3, hz3, hd3⟩ := fl3.there
    have nfr : a ∉ frs (X.env :: X.outer) := fun hm => by
      obtain ⟨_, o', e', hnf⟩ := fl3.2.2.1.mem hm
      rw [he3] at e'
      cases e'
      exact hnf _ hd3
    have nL : a ≠ X.env.locals := fun z => nfr (List.mem_filterMap.mpr ⟨X.env, List.mem_cons_self, by rw [hf, z]⟩)
    have nF : a ∉ X.fs := fun hm => by
      obtain ⟨e, he, q⟩ := List.mem_filterMap.mp hm
      exact nfr (List.mem_filterMap.mpr ⟨e, List.mem_cons_of_mem _ he, q⟩)
    have S3 := J3.suite he3 hd3 na nL nF
    -- the class named by a clause
    have test : ∀ {x : Str} {np : Pos} {c : Value} {Q : Value → Shared → Prop} {E : Value → Shared → Prop}, Names X x c → Q c { s' with heap := h3 } → wpAny (model X.prog X.w) (X.A.mark (some (.ref a))) (eval (.Name x np) X.env) Q E { s' with heap := h3 } := fun {x np c Q E} hc q => by
      obtain ⟨hg, hdbg, hm | ⟨hm, hv, hnn⟩⟩ := hc
      · exact ld_glob (X := X.suite a ((a, oe3) :: (X.pn ++ pins))) S3 hg hm q hdbg
      · exact ld_blt (X := X.suite a ((a, oe3) :: (X.pn ++ pins))) S3 hg hm hv q hnn hdbg
    have LT : PySem.W.Looks (model X.prog X.w) h3 (typeOf (.ref a)) cls := fun A Q E s k q => wpAny_typeOf_ref (k _ _ he3) (by rw [hz3.1]; exact q)
    have go : ∀ {hds' : List ExceptHandler} {l' : List Cl}, HdA X hds' l' → wMA X.K Wout D l' cls d σ' H' → wpAny (model X.prog X.w) X.A (handleBy (.ref a) X.env hds') (SP X pins D) X.xe { s' with heap := h3 } := by
      intro hds' l' hk
      induction hk with
      | nil =>
        intro w
        refine wpAny_handleBy_nil ?_
        obtain ⟨k1, k2, k3, oe, vs, T, oT, ts', he, hz, hd, h1, hr⟩ := id fl3
        unfold PySem.passOn
        refine wpAny_bind (wpAny_field he hd h1 ?_)
        rw [if_neg (show ¬ ((Value.ref T == Value.none) = true) from by simp)]
        have fin : wpAny (model X.prog X.w) X.A (setFlight (.ref a) X.env.frame) (fun _ s4 => wpAny (model X.prog X.w) X.A (throw (.ref a) : Sem Flow) (SP X pins D) X.xe s4) X.xe { s' with heap := h3 } := by
          rw [hf]
          refine HandSPX.setFlight_upZ fl3 fun h4 hh4 up4 => wpAny_throw (tk _ _ ?_)
          exact ⟨a, B, sI, pins, σ', H', cls, d, rfl, J, nb, (up.trans up3).trans up4, .inr (.inr (by rw [hs]; exact hh4)), na, os, ag, w⟩
        first
          | exact wpAny_bind (wpAny_pure (wpAny_bind fin))
          | exact wpAny_bind fin
      | @bare x c ts b0 suite np pos' hds2 l2 hc hsu r ih =>
        intro w
        obtain ⟨b, hb1, hyes, hno⟩ := w
        refine wpAny_handleBy_cons (codeAny_handlers_test ?_) (by intro q; cases q)
        refine test hc ((PySem.W.exm_one (M := model X.prog X.w) (J3.kIn) LT hb1).here ?_)
        cases b with
        | true =>
          refine codeAny_handlers_suite ?_
          refine HandSPX.lands_againZ fl3 fun h4 fl4 up4 => ?_
          have J4 : Inv X pins σ' H' { s' with heap := h4 } := J.landed nb fl4.1 ((up.trans up3).trans up4) os ag
          obtain ⟨oe4, vs4, he4, hz4, hd4⟩ := fl4.there
          have S4 := J4.suite he4 hd4 na nL nF
          refine wpAny_mono ((hsu a oe4 cls d (X.pn ++ pins) hz4 ⟨_, hd4⟩).run [] _ _ H' _ S4 (hyes rfl a na)) (fun f s6 hsp => ?_) (fun _ _ z => False.elim z)
          cases f with
          | next =>
            obtain ⟨σ6, H6, S6, q6⟩ := hsp
            exact ⟨_, _, S6.unsuite ok, q6⟩
          | brk =>
            obtain ⟨σ6, H6, S6, q6⟩ := hsp
            exact ⟨_, _, S6.unsuite ok, q6⟩
          | cont =>
            obtain ⟨σ6, H6, S6, q6⟩ := hsp
            exact ⟨_, _, S6.unsuite ok, q6⟩
          | ret u =>
            obtain ⟨v6, σ6, H6, S6, r6, q6⟩ := hsp
            exact ⟨_, _, _, S6.unsuite ok, r6, q6⟩
        | false =>
          show wpAny _ X.A (handleBy (.ref a) X.env hds2) _ _ _
          exact ih (hno rfl)
      | @named x n i c ts b0 suite np pos' hds2 l2 hi hln hc hsu r ih =>
        intro w
        obtain ⟨b, hb1, hyes, hno⟩ := w
        refine wpAny_handleBy_cons (codeAny_handlers_test ?_) (by intro q; cases q)
        refine test hc ((PySem.W.exm_one (M := model X.prog X.w) (J3.kIn) LT hb1).here ?_)
        cases b with
        | true =>
          refine codeAny_handlers_suite_as ?_
          refine HandSPX.lands_againZ fl3 fun h4 fl4 up4 => ?_
          have J4 : Inv X pins σ' H' { s' with heap := h4 } := J.landed nb fl4.1 ((up.trans up3).trans up4) os ag
          obtain ⟨oe4, vs4, he4, hz4, hd4⟩ := fl4.there
          have S4 := J4.suite he4 hd4 na nL nF
          refine store_ok (X := X.suite a ((a, oe4) :: (X.pn ++ pins))) (v := .ref a) S4 hN hi (.inl hln) rfl (fun s5 S5 => ?_) (.inr hln)
          have hent := hyes rfl a na
          refine wpAny_mono ((hsu a oe4 cls d (X.pn ++ pins) hz4 ⟨_, hd4⟩).run [] s5 _ H' _ S5 hent) (fun f s6 hsp => ?_) (fun _ _ z => False.elim z)
          have end_ : ∀ {σ6 : L2.St} {H6 : Hp} {Q : Shared → Prop}, Inv (X.suite a ((a, oe4) :: (X.pn ++ pins))) [] σ6 H6 s6 → (∀ s7, Inv X pins (σ6.set i none) H6 s7 → Q s7) →
              wpAny (model X.prog X.w) X.A (do bindName X.env n .none; unbindBehindTheSuite X.env n pos') (fun _ s7 => Q s7) X.xe s6 := fun {σ6 H6 Q} S6 hq => gone_ok (S6.unsuite ok) hN hi hln hq
          cases f with
          | next =>
            obtain ⟨σ6, H6, S6, q6⟩ := hsp
            exact end_ S6 fun s7 J7 => ⟨_, _, J7, q6⟩
          | brk =>
            obtain ⟨σ6, H6, S6, q6⟩ := hsp
            exact end_ S6 fun s7 J7 => ⟨_, _, J7, q6⟩
          | cont =>
            obtain ⟨σ6, H6, S6, q6⟩ := hsp
            exact end_ S6 fun s7 J7 => ⟨_, _, J7, q6⟩
          | ret u =>
            obtain ⟨v6, σ6, H6, S6, r6, q6⟩ := hsp
            exact end_ S6 fun s7 J7 => ⟨_, _, _, J7, r6, q6⟩
        | false =>
          show wpAny _ X.A (handleBy (.ref a) X.env hds2) _ _ _
          exact ih (hno rfl)
    exact go hh w
  · have q := back hsp
    cases f with
    | next => exact wpAny_execs_nil q
    | brk => exact q
    | cont => exact q
    | ret u => exact q
end
end GX

set_option Elab.async false
set_option linter.all false
set_option maxRecDepth 100000
set_option maxHeartbeats 4000000
/-! GX1: own exception classes over any base with the BaseException maker: how they are made, initialised, stored to. -/
namespace GX
open PySem PySem.W PySem.Calls PyProof.Rows PySem.HandSPX
section
variable {prog : Program} {w : World} {M : Model} {A : Around} {E : Value → Shared → Prop} {R : Result → Shared → Prop} {h : Heap} {g : Array GenState} {d : Drawn} {t : Nat} {os : OsState}
variable {nm q : Str} {C N : Addr} {bs bm bmB : List Value} {hdct : Bool} {sn : List Str} {sub : List Value} {ab : Bool} {col : Option Bool} {dd : Option Addr} {k0 k1 k2 k3 k5 : Option Value} {B newId initId : String}
/-- what the maker asks of the class's chain: it stands over the maker's owner, and is no AttributeError, no NameError -/
structure Over (B : String) (bm : List Value) : Prop where
  has : bm.contains (.type B) = true
  noA : bm.contains (.type "AttributeError") = false
  noN : bm.contains (.type "NameError") = false
theorem Over.cons {B : String} {bm : List Value} (o : Over B bm) (C : Addr) : Over B (.ref C :: bm) :=
  ⟨by rw [List.contains_cons, o.has, Bool.or_true], by rw [List.contains_cons, o.noA]; rfl, by rw [List.contains_cons, o.noN]; rfl⟩
theorem chk_new (F : ExcBaseFacts B newId initId bmB) (o : Over B bm) {rest : List Value} {Q : Unit → Shared → Prop}
    (hC : h.get? C = some (excClassObj nm q C N bs bm hdct sn sub ab col dd k0 k1 k2 k3 k5 newId)) (hq : Q () ⟨h, g, d, t, os⟩) :
    wpAny M A (checkBuiltinCall newId ⟨.ref C :: rest, []⟩) Q E ⟨h, g, d, t, os⟩ := by
  have c1 := (o.cons C).has
  have c2 := F.noStar
  simp only [checkBuiltinCall, F.newKind, F.newSplit, F.newRow]
  repeat (first
    | refine wpAny_loadPart_at hC ?_
    | (refine wpAny_isSubtype_exc hC ?_; rw [c1])
    | refine wpAny_staticBase_exc hC ?_
    | refine wpAny_madeBy_exc hC ?_
    | simp only [bne_self_eq_false, Bool.false_eq_true, if_false]
    | wp_step)
  exact hq
theorem run_new (F : ExcBaseFacts B newId initId bmB) (o : Over B bm) {rest : List Value} (hC : h.get? C = some (excClassObj nm q C N bs bm hdct sn sub ab col dd k0 k1 k2 k3 k5 newId))
    (hq : R (.ok (.ret (.ref (h.objs.size + 1)))) ⟨(h.push (kdv_tup rest)).push (excO C h.objs.size), g, d, t, os⟩) (hrest : rest.length ≤ sizeLine) :
    codeAny (model prog w) A (.builtin newId ⟨.ref C :: rest, []⟩) R ⟨h, g, d, t, os⟩ := by
  have c0 := F.ends
  have c1 := (o.cons C).has
  have c2 := (o.cons C).noA
  have c3 := (o.cons C).noN
  refine codeAny_builtinAt F.entry ?_
  unfold Builtin.«BaseException.__new__»
  refine PySem.wpAt_bind ?_
  show PySem.wpAt _ _ _ (stack >>= _) _ _ _
  refine PySem.wpAt_bind (PySem.wpAt_stack fun p below => PySem.wpAt_of_wpAny ?_)
  wp_walk
  refine PySem.wpAt_of_wpAny ?_
  rw [F.owner]
  repeat (first
    | with_reducible refine wpAny_madeHere_exc F.canon hC ?_
    | with_reducible refine wpAny_loadPart_at hC ?_
    | (with_reducible refine wpAny_isSubtype_exc hC ?_; first | rw [c1] | rw [c2] | rw [c3])
    | wp_step)
  show R _ _
  rw [Heap.size_push]
  exact hq
theorem run_type (F : ExcBaseFacts B newId initId bmB) (o : Over B bm) {rest : List Value} {fI : Addr} {Q : Fin → Shared → Prop} (hC : h.get? C = some (excClassObj nm q C N bs bm hdct sn sub ab col dd k0 k1 k2 k3 k5 newId))
    (hi : Looks (model prog w) h (typeLookup (.ref C) "__init__") (some (.ref fI))) (hb : ∀ self, Looks (model prog w) h (bindSpecial (.ref fI) self) (.ref fI, [self])) (hrest : rest.length ≤ sizeLine)
    (hq : codeAny (model prog w) A (.call (.ref fI) ⟨.ref (h.objs.size + 1) :: rest, []⟩)
      (fun r s' => match r with | .ok (.ret v) => v = .none ∧ Q (.done (.ret (.ref (h.objs.size + 1)))) s' | .ok _ => False | .error e => E e s')
      ⟨(h.push (kdv_tup rest)).push (excO C h.objs.size), g, d, t, os⟩) :
    wpAny (model prog w) A (Builtin.«type.__call__» ⟨.ref C :: rest, []⟩) Q E ⟨h, g, d, t, os⟩ := by
  repeat (first | with_reducible refine wpAny_loadPart_at hC ?_ | with_reducible refine wpAny_madeBy_exc hC ?_ | wp_step)
  refine codeAny_call_builtin_code (Code.quiet_builtin _ F.quiet) (chk_new F o hC ?_)
  refine run_new F o hC ?_ hrest
  show wpAny _ _ _ _ _ _
  have kk : ∀ b u, h.get? b = some u → ((h.push (kdv_tup rest)).push (excO C h.objs.size)).get? b = some u := fun b u e => Heap.get?_push_of_some _ (Heap.get?_push_of_some _ e)
  have hC2 := kk _ _ hC
  have hget : ((h.push (kdv_tup rest)).push (excO C h.objs.size)).get? (h.objs.size + 1) = some (excO C h.objs.size) := by heap_get
  have hself : (Value.ref C :: bm).contains (.ref C) = true := by simp
  have i1 := hi.keeps kk
  have b1 := (hb (.ref (h.objs.size + 1))).keeps kk
  unfold isInstance
  repeat (first | with_reducible refine wpAny_loadPart_at hget ?_ | (with_reducible refine wpAny_isSubtype_exc hC2 ?_; rw [hself]) | wp_step)
  show wpAny _ _ (typeLookup (.ref C) _) _ _ _
  refine i1.at ?_
  refine wpAny_holding (wpAny_bind (b1.at ?_))
  refine wpAny_bind (wpAny_call (codeAny_mono hq fun r s' z => ?_))
  rcases r with e | (v | _ | _ | _) <;> first | exact z | exact z.elim | skip
  obtain ⟨rfl, z⟩ := z
  first
    | exact wpAny_pure (wpAny_pure z)
    | (wp_walk; exact z)
/-- C(..): the record is made, then C's own __init__ runs -/
theorem call_cls (F : ExcBaseFacts B newId initId bmB) (o : Over B bm) {rest : List Value} {fI : Addr} (hC : h.get? C = some (excClassObj nm q C N bs bm hdct sn sub ab col dd k0 k1 k2 k3 k5 newId))
    (hi : Looks (model prog w) h (typeLookup (.ref C) "__init__") (some (.ref fI))) (hb : ∀ self, Looks (model prog w) h (bindSpecial (.ref fI) self) (.ref fI, [self])) (hrest : rest.length ≤ sizeLine)
    (hq : codeAny (model prog w) (A.under (.builtin "type.__call__" ⟨.ref C :: rest, []⟩)) (.call (.ref fI) ⟨.ref (h.objs.size + 1) :: rest, []⟩) (InitBack (h.objs.size + 1) R)
      ⟨(h.push (kdv_tup rest)).push (excO C h.objs.size), g, d, t, os⟩) :
    codeAny (model prog w) A (.call (.ref C) ⟨rest, []⟩) R ⟨h, g, d, t, os⟩ := by
  have f1 := tc_lookup
  have f2 := tc_bind (.ref C)
  have hTy : (⟨h, g, d, t, os⟩ : Shared).TypeIs (.ref C) "type" := ⟨_, hC, rfl⟩
  refine codeAny_of_tree ?_
  show wpAny _ _ (callAny (.ref C) _) _ _ _
  repeat (any_goals (first | assumption | with_reducible refine wpAny_loadPart_at hC ?_ | wp_step))
  refine ⟨rfl, ?_⟩
  refine codeAny_call_builtin_at (Code.quiet_builtin _ (by decide +kernel)) entry_typeCall (wpAny_check_type_call_sub hC (run_type F o hC hi hb hrest ?_))
  refine codeAny_mono hq fun r s' z => ?_
  rcases r with e | (v | _ | _ | _) <;> exact z

/-! ### B.__init__(e, ..): the args are laid anew -/
/-- what is asked of the name of B's own __init__ -/
structure InitF (B initId : String) : Prop where
  slot : Slot B "__init__" initId
  entry : entryFor table initId = some Builtin.«BaseException.__init__»
  split : splitId initId = some (B, "__init__")
  kind : builtinKind initId = some .slot
  row : Manifest.signature? initId = some ⟨.positional, "*", B, .self, [⟨"args", .varPos, false⟩]⟩
  noStar : (B != "*") = true
theorem init_ok (F : InitF B initId) (o : bm.contains (.type B) = true) {e t0 : Addr} {rest : List Value} (hC : h.get? C = some (excClassObj nm q C N bs bm hdct sn sub ab col dd k0 k1 k2 k3 k5 newId)) (he : h.get? e = some (excO C t0))
    (hrest : rest.length ≤ sizeLine) (hq : ∀ h' t1, (∀ b u, b ≠ e → h.get? b = some u → h'.get? b = some u) → h'.get? e = some (excO C t1) → R (.ok (.ret .none)) ⟨h', g, d, t, os⟩) :
    codeAny (model prog w) A (.call (.builtin initId) ⟨.ref e :: rest, []⟩) R ⟨h, g, d, t, os⟩ := by
  refine codeAny_call_builtin F.slot.plain F.entry ?_
  have c1 : (Value.ref C :: bm).contains (.type B) = true := by rw [List.contains_cons, o, Bool.or_true]
  have c2 := F.noStar
  have hcls : (excO C t0).cls = .ref C := rfl
  have goal : ∀ {A : Around} {Q : Unit → Shared → Prop} {E : Value → Shared → Prop}, Q () ⟨h, g, d, t, os⟩ → wpAny (model prog w) A (checkBuiltinCall initId ⟨.ref e :: rest, []⟩) Q E ⟨h, g, d, t, os⟩ := fun {A Q E} hq => by
    simp only [checkBuiltinCall, F.kind, F.split, F.row]
    repeat (first
      | (with_reducible refine wpAny_loadPart_at he ?_; rw [hcls])
      | with_reducible refine wpAny_loadPart_at hC ?_
      | (with_reducible refine wpAny_isSubtype_exc hC ?_; rw [c1])
      | wp_step)
    refine wpAny_onRaise ?_
    have star : ∀ (a b : String) (n : Nat), Bind.check ⟨.positional, "*", B, .self, [⟨"args", .varPos, false⟩]⟩ a b n (List.map (fun x => x.fst) ({ pos := Value.ref e :: rest } : Args).kw) = pure () := fun a b n => check_star_args _ _ _ _ _ _
    rw [star]
    exact wpAny_pure hq
  refine goal ?_
  wp_walk
  refine hq _ h.objs.size (fun b u hb hu => ?_) ?_
  · rw [Heap.get?_update_other _ _ (Ne.symm hb)]
    exact Heap.get?_push_of_some _ hu
  · rw [Heap.get?_update_self _ (Heap.get?_push_of_some _ he) rfl]
    rfl
end
theorem initF_of {B newId initId : String} {bm : List Value} (F : ExcBaseFacts B newId initId bm) : InitF B initId := ⟨F.init, F.initEntry, F.initSplit, F.initKind, F.initRow, F.noStar⟩
theorem initF_KeyError : InitF "KeyError" "KeyError.__init__" :=
  ⟨excClass_KeyError.init, excClass_KeyError.initEntry, excClass_KeyError.initSplit, excClass_KeyError.initKind, by kernel_rfl, excClass_KeyError.notStar⟩

/-! ### self.name = v on such an instance that has no dict yet -/
section
open Builtin Builtin.ObjectAttr
variable {prog : Program} {w : World} {A : Around} {R : Result → Shared → Prop} {hp : Heap} {g : Array GenState} {d : Drawn} {t : Nat} {os : OsState}
/-- what is asked of the chain: nobody of it refuses a store -/
structure Lets (mro : List Value) : Prop where
  obj : mro.contains (.type "object") = true
  ne : mro.isEmpty = false
  pass : ∀ self : Value, refuseLoop self "__setattr__" mro = pure ()
theorem Lets.cons {mro : List Value} (l : Lets mro) (C : Addr) : Lets (.ref C :: mro) := ⟨by rw [List.contains_cons, l.obj, Bool.or_true], rfl, fun self => by rw [refuseLoop_ref]; exact l.pass self⟩
theorem store_new {K : W.Frag} {name : Str} {tk : Tok} {v : Value} {x C : Addr} {fv : Array Value} {cd : ClassData}
    (X : K.In hp) (hx : hp.get? x = some { cls := .ref C, data := .fields fv }) (hcd : W.clsIn K C = some cd) (hm : Lets cd.mro) (hh : cd.hasDict = true) (ha : W.findIn K (.ref C) name = some none)
    (hq : ∀ h' tk' dx, (∀ b u, b ≠ x → hp.get? b = some u → h'.get? b = some u) → hp.objs.size ≤ dx → dx ≠ x → h'.get? x = some { cls := .ref C, dict := some dx, data := .fields fv } →
      h'.Ns1 dx (fun y => if y = name then some v else none) → R (.ok (.ret .none)) ⟨h', g, d, tk', os⟩) :
    codeAny (model prog w) A (.call (.builtin "object.__setattr__") ⟨[.ref x, .str name tk, v], []⟩) R ⟨hp, g, d, t, os⟩ := by
  have I : W.InstAt hp x { cls := .ref C, data := .fields fv } C none := ⟨hx, rfl, rfl, trivial⟩
  have SF := F.store_object
  have hxs : x ≠ hp.objs.size := Nat.ne_of_lt (Heap.lt_size hx)
  have isobj : W.mroIn K C (.type "object") = some true := by
    unfold W.mroIn
    rw [hcd, Option.bind_some, if_neg (by rw [hm.ne]; decide), hm.obj]
  have sub : W.Looks (model prog w) hp (isInstance (.ref x) (.type "object")) true := I.type.andThen (W.looks_mroIn X isobj)
  refine codeAny_call_builtin SF.slot.plain SF.entry (@W.check_slot (model prog w) _ _ ⟨hp, g, d, t, os⟩ "object.__setattr__" "object" "__setattr__" (.ref x) [.str name tk, v] [] _ SF.kind SF.split sub (SF.args (.ref x) (.str name tk) v) ?_)
  have lmro : W.Looks (model prog w) hp (mroOf (.ref C)) cd.mro := (W.looks_clsIn X hcd).andThen .now
  have ltk : W.Looks (model prog w) hp (storeTaker? none) none := .now
  have lcls : W.Looks (model prog w) hp (classData C) cd := W.looks_clsIn X hcd
  rw [W.osa_eq, refuse_eq]
  refine wpAny_bind (wpAny_bind (I.type.at (wpAny_bind (lmro.at ?_))))
  rw [hm.pass]
  refine wpAny_pure (wpAny_bind (I.type.at (wpAny_bind ((W.looks_findIn X ha).at (wpAny_bind (ltk.at ?_))))))
  show wpAny _ _ (storeInOwnDict (.ref x) (.ref C) (.str name tk) name v false) _ _ _
  obtain ⟨nm, bs, mro, ns, qn, hd, sn, sb, ab, col, del⟩ := cd
  dsimp only at hh
  subst hh
  unfold storeInOwnDict ownDictForStores
  repeat (first
    | with_reducible refine HandSPX.store_in_new ?_ ?_
    | with_reducible refine wpAny_loadPart_at hx ?_
    | with_reducible refine lcls.at ?_
    | wp_step)
  · exact ⟨_, #[], _, (Heap.get?_update_ne _ _ _ _ hxs.symm).trans (Heap.get?_push_at rfl rfl), rfl, fun e he => absurd he (by simp), fun _ => rfl⟩
  · intro h' tk' hn' hs
    have hx1 : (hp.push { cls := .type "dict", data := .dict #[] }).get? x = some { cls := .ref C, data := .fields fv } := Heap.get?_push_of_some _ hx
    refine hq h' tk' hp.objs.size (fun b u hb hu => ?_) (Nat.le_refl _) hxs.symm ?_ hn'
    · exact (hs.2 b (Nat.ne_of_lt (Heap.lt_size hu))).trans ((Heap.get?_update_ne _ _ _ _ hb).trans (Heap.get?_push_of_some _ hu))
    · exact (hs.2 x hxs).trans (Heap.get?_update_self _ hx1 rfl)
end
end GX

set_option Elab.async false
set_option linter.all false
set_option maxRecDepth 100000
set_option maxHeartbeats 1000000
/-! GX2: an own exception class with one field: its __init__, raising it, reading its field in a suite. -/
namespace GX
open PySem PySem.Spec PyProof.Rows L2
/-! ### bases -/
/-- a base: the maker of its classes, its own __init__, its chain -/
structure Bs where
  maker : String
  own : String
  base : String
  ini : String
  tail : List Value
structure Bs.Ok (b : Bs) : Prop where
  facts : ∃ ini bm, PySem.ExcBaseFacts b.own b.maker ini bm
  over : Over b.own b.tail
  lets : Lets b.tail
  init : InitF b.base b.ini
  has : b.tail.contains (.type b.base) = true
  plain : PySem.W.handedIn (.builtin b.ini) = true
def bVE : Bs := ⟨"ValueError.__new__", "ValueError", "ValueError", "ValueError.__init__", [.type "ValueError", .type "Exception", .type "BaseException", .type "object"]⟩
def bKE : Bs := ⟨"LookupError.__new__", "LookupError", "KeyError", "KeyError.__init__", [.type "KeyError", .type "LookupError", .type "Exception", .type "BaseException", .type "object"]⟩
def bLE : Bs := ⟨"LookupError.__new__", "LookupError", "LookupError", "LookupError.__init__", [.type "LookupError", .type "Exception", .type "BaseException", .type "object"]⟩
theorem bVE_ok : bVE.Ok := ⟨⟨_, _, F.excBase_ValueError⟩, ⟨by decide +kernel, by decide +kernel, by decide +kernel⟩, ⟨by decide +kernel, rfl, fun self => F.store_ValueError.passes self⟩, initF_of F.excBase_ValueError, by decide +kernel, by decide +kernel⟩
theorem bLE_ok : bLE.Ok := ⟨⟨_, _, F.excBase_LookupError⟩, ⟨by decide +kernel, by decide +kernel, by decide +kernel⟩, ⟨by decide +kernel, rfl, fun self => by kernel_rfl⟩, initF_of F.excBase_LookupError, by decide +kernel, by decide +kernel⟩
theorem bKE_ok : bKE.Ok := ⟨⟨_, _, F.excBase_LookupError⟩, ⟨by decide +kernel, by decide +kernel, by decide +kernel⟩, ⟨by decide +kernel, rfl, fun self => by kernel_rfl⟩, initF_KeyError, by decide +kernel, by decide +kernel⟩
/-- own classes, then the base's chain -/
def refsB (tail : List Value) : List Value → Bool
  | [] => tail.isEmpty
  | v :: r => (match v with
    | .ref _ => refsB tail r
    | _ => false) || decide (v :: r = tail)
theorem refsB_ind {tail : List Value} {P : List Value → Prop} (h0 : P tail) (h1 : ∀ C r, P r → P (.ref C :: r)) : ∀ l, refsB tail l = true → P l
  | [], e => by
    have q : tail = [] := List.isEmpty_iff.mp e
    rw [q] at h0
    exact h0
  | v :: r, e => by
    unfold refsB at e
    rcases Bool.or_eq_true_iff.mp e with z | z
    · cases v with
      | ref C => exact h1 C r (refsB_ind h0 h1 r z)
      | _ => cases z
    · rw [of_decide_eq_true z]
      exact h0
theorem over_refs {b : Bs} (k : b.Ok) {bm : List Value} (e : refsB b.tail bm = true) : Over b.own bm := refsB_ind (P := Over b.own) k.over (fun C _ o => o.cons C) bm e
theorem lets_refs {b : Bs} (k : b.Ok) {bm : List Value} (e : refsB b.tail bm = true) : Lets bm := refsB_ind (P := Lets) k.lets (fun C _ o => o.cons C) bm e
theorem has_refs {b : Bs} (k : b.Ok) {bm : List Value} (e : refsB b.tail bm = true) : bm.contains (.type b.base) = true :=
  refsB_ind (P := fun l => l.contains (.type b.base) = true) k.has (fun C _ o => by rw [List.contains_cons, o, Bool.or_true]) bm e
/-! ### what the written part says of such a class at C, its field called f -/
structure XC (K : PySem.W.Frag) (b : Bs) (C : Addr) (f : Str) : Prop where
  ok : b.Ok
  cls : ∃ nm q N bs bm sn sub ab col dd k0 k1 k2 k3 k5, K.lookup C = some (excClassObj nm q C N bs bm true sn sub ab col dd k0 k1 k2 k3 k5 b.maker) ∧ refsB b.tail bm = true
  sa : PySem.W.findIn K (.ref C) "__setattr__" = some (some (.builtin "object.__setattr__"))
  ga : PySem.W.findIn K (.ref C) "__getattribute__" = some (some (.builtin "BaseException.__getattribute__"))
  gg : PySem.W.findIn K (.ref C) "__getattr__" = some none
  nf : PySem.W.findIn K (.ref C) f = some none
  exC : PySem.W.subIn K (.ref C) (.type "BaseException") = some true
  tyC : PySem.W.typeIn K (.ref C) = some (.type "type")
  kC : PySem.W.keepIn K (.ref C) = true
  hdC : PySem.W.hasDictIn K C = true
def clsB (K : PySem.W.Frag) (b : Bs) (C : Addr) : Bool := match K.lookup C with
  | some ⟨.type "type", _, .cls cd, sl⟩ => (match cd.mro, sl.toList with
    | .ref D :: bm, [_, _, _, _, some (.builtin n), _] => D == C && n == b.maker && !cd.hasDel && cd.hasDict && refsB b.tail bm
    | _, _ => false)
  | _ => false
theorem clsB_ok {K : PySem.W.Frag} {b : Bs} {C : Addr} (h : clsB K b C = true) :
    ∃ nm q N bs bm sn sub ab col dd k0 k1 k2 k3 k5, K.lookup C = some (excClassObj nm q C N bs bm true sn sub ab col dd k0 k1 k2 k3 k5 b.maker) ∧ refsB b.tail bm = true := by
  unfold clsB at h
  split at h
  · rename_i dd cd sl ho
    split at h
    · rename_i D bm k0 k1 k2 k3 n k5 hm hs
      simp only [Bool.and_eq_true, beq_iff_eq, Bool.not_eq_true'] at h
      obtain ⟨⟨⟨⟨e1, e2⟩, e3⟩, e4⟩, e5⟩ := h
      obtain ⟨nm, bs, mro, ns, qn, hd, sn, sub, ab, col, del⟩ := cd
      dsimp only at hm e3 e4
      subst e1 e2 hm e3 e4
      have hsl : sl = #[k0, k1, k2, k3, some (.builtin b.maker), k5] := by
        obtain ⟨l⟩ := sl
        simp only at hs
        rw [hs]
      subst hsl
      exact ⟨_, _, _, _, bm, _, _, _, _, _, _, _, _, _, _, ho, e5⟩
    · cases h
  · cases h
def xcB (K : PySem.W.Frag) (b : Bs) (C : Addr) (f : Str) : Bool :=
  clsB K b C && (He.eqO (PySem.W.findIn K (.ref C) "__setattr__") (some (some (.builtin "object.__setattr__"))) && (He.eqO (PySem.W.findIn K (.ref C) "__getattribute__") (some (some (.builtin "BaseException.__getattribute__"))) &&
  (He.eqO (PySem.W.findIn K (.ref C) "__getattr__") (some none) && (He.eqO (PySem.W.findIn K (.ref C) f) (some none) && (decide (PySem.W.subIn K (.ref C) (.type "BaseException") = some true) &&
  (decide (PySem.W.typeIn K (.ref C) = some (.type "type")) && (PySem.W.keepIn K (.ref C) && PySem.W.hasDictIn K C)))))))
theorem xcB_ok {K : PySem.W.Frag} {b : Bs} {C : Addr} {f : Str} (k : b.Ok) (h : xcB K b C f = true) : XC K b C f := by
  unfold xcB at h
  simp only [Bool.and_eq_true] at h
  obtain ⟨h1, h2, h3, h4, h5, h6, h7, h8, h9⟩ := h
  exact ⟨k, clsB_ok h1, He.eqO_ok h2, He.eqO_ok h3, He.eqO_ok h4, He.eqO_ok h5, of_decide_eq_true h6, of_decide_eq_true h7, h8, h9⟩
/-- the own base class at G, whose __init__ is the built-in base's -/
structure GB (K : PySem.W.Frag) (b : Bs) (G : Addr) : Prop where
  rd : PySem.W.readsIn K G (.type "type") = true
  ga : PySem.W.specialIn K (.ref G) "__getattribute__" = some (some (.builtin "type.__getattribute__"))
  at_ : PySem.W.findCls K (.ref G) (.type "type") "__init__" = some (.val (.builtin b.ini))
def gbB (K : PySem.W.Frag) (b : Bs) (G : Addr) : Bool :=
  PySem.W.readsIn K G (.type "type") && (He.eqO (PySem.W.specialIn K (.ref G) "__getattribute__") (some (some (.builtin "type.__getattribute__"))) && (match PySem.W.findCls K (.ref G) (.type "type") "__init__" with
    | some (.val (.builtin n)) => decide (n = b.ini)
    | _ => false))
theorem gbB_ok {K : PySem.W.Frag} {b : Bs} {G : Addr} (h : gbB K b G = true) : GB K b G := by
  unfold gbB at h
  simp only [Bool.and_eq_true] at h
  obtain ⟨h1, h2, h3⟩ := h
  refine ⟨h1, He.eqO_ok h2, ?_⟩
  split at h3
  · rename_i n e
    rw [e, of_decide_eq_true h3]
  · cases h3
section
variable {X : Cx} {pins : List (Addr × Obj)} {σ : L2.St} {H : Hp} {s : Shared} {a C dx : Addr} {b : Bs} {f : Str} {y : V} {u : Value} {fs : List (Str × V)} {Q : Unit → Shared → Prop} {E : Value → Shared → Prop} {A : Around}
/-- self.f = y, the first field -/
theorem xst_new (T : XC X.K b C f) (I : Inv X pins σ H s) (e : H a = some (exo a C none)) (ry : RelV y u)
    (h : ∀ dx s', H dx = none → dx ≠ a → Inv X pins σ (upd (upd H dx (exd dx [(f, y)])) a (exo a C (some dx))) s' → Q () s') : wpAny (model X.prog X.w) A (setAttr (.ref a) f u) Q E s := by
  obtain ⟨nm, q, N, bs, bm, sn, sub, ab, col, dd, k0, k1, k2, k3, k5, hC, hbm⟩ := T.cls
  have hcl : PySem.W.clsIn X.K C = some { name := nm, bases := bs, mro := .ref C :: bm, ns := N, qualname := q, hasDict := true, slotNames := sn, subclasses := sub, abstract := ab, collection := col, hasDel := false } := by
    unfold PySem.W.clsIn
    rw [hC] <;> rfl
  obtain ⟨t1, ho⟩ := exo_at I.hok e
  obtain ⟨hp, g, d, t, os⟩ := s
  refine PySem.W.set_plain I.kIn (ox := { cls := .ref C, dict := none, data := .fields #[.ref t1, .none, .none, .none, .bool false, .none] }) (od := none) ⟨ho, rfl, rfl, trivial⟩ T.sa ?_
  refine store_new I.kIn ho hcl ((lets_refs T.ok hbm).cons C) rfl T.nf (fun h' tk' dx k dn dne hx hn => ?_)
  have hnd : H dx = none := I.hok.fresh dn
  have nd : ∀ {c : Addr} {o : Obj}, hp.get? c = some o → c ≠ dx := fun {c o} q => Nat.ne_of_lt (Nat.lt_of_lt_of_le (Heap.lt_size q) dn)
  have na : ∀ {c : Addr}, H c = none → c ≠ a := fun {c} n z => by
    rw [z, e] at n
    cases n
  have U : Un X.fs [] H (upd (upd H dx (exd dx [(f, y)])) a (exo a C (some dx))) hp h' := {
    keep := fun c o q n _ _ => k c o (na n) q
    slot := fun c o q n _ _ => ⟨o.slots, k c o (na n) q⟩
    free := fun c o q n _ => by
      rw [upd_ne (na n), upd_ne (nd q)]
      exact n
    there := fun c o q _ => by
      by_cases hb : c = a
      · exact ⟨_, by rw [hb]; exact hx⟩
      · exact ⟨o, k c o hb q⟩
    tups := fun c xs q => by
      rw [upd_ne (at_ne e q exo_tup), upd_ne (ne_of_none q hnd)]
      exact q
    frzs := fun c o v q => by
      rw [upd_ne (at_ne e q exo_frz), upd_ne (ne_of_none q hnd)]
      exact q
    tbls := fun c ps q => ⟨#[], by
      rw [upd_ne (at_ne e q exo_tbl), upd_ne (ne_of_none q hnd), q]
      simp⟩ }
  refine h dx _ hnd dne (I.un (t' := tk') U fun c o q => ?_)
  by_cases hb : c = a
  · subst hb
    rw [upd_same] at q
    cases q
    exact exo_ok hx
  · rw [upd_ne hb] at q
    by_cases hd : c = dx
    · subst hd
      rw [upd_same] at q
      cases q
      exact exd_ok hn (relO_put (fs := []) ry fun g => True.intro)
    · rw [upd_ne hd] at q
      have far : ∀ c', c' = c ∨ H c' = some (.own c) → c' ≠ a := fun c' hc => hc.elim (fun z => by rw [z]; exact hb) fun z => at_ne e z exo_own
      exact (I.hok c o q).stay (fun c' v hc z => k c' v (far c' hc) z)
        (fun c' hc => by
          rw [upd_ne (at_ne e hc exo_own), upd_ne (ne_of_none hc hnd)]
          exact hc)
        (fun c' xs hc => by
          rw [upd_ne (at_ne e hc exo_tup), upd_ne (ne_of_none hc hnd)]
          exact hc)
/-- B.__init__(self, ..) -/
theorem xinit_ok {us : List Value} {Q : Value → Shared → Prop} (T : XC X.K b C f) (I : Inv X pins σ H s) (e : H a = some (exo a C none)) (hl : us.length ≤ sizeLine) (h : ∀ s', Inv X pins σ H s' → Q .none s') :
    wpAny (model X.prog X.w) A (call (.builtin b.ini) (.ref a :: us)) Q E s := by
  obtain ⟨nm, q, N, bs, bm, sn, sub, ab, col, dd, k0, k1, k2, k3, k5, hC, hbm⟩ := T.cls
  obtain ⟨t1, ho⟩ := exo_at I.hok e
  obtain ⟨hp, g, d, t, os⟩ := s
  refine wpAny_call (init_ok T.ok.init (has_refs T.ok hbm) (I.kIn _ _ hC) ho hl fun h' t2 k hx => ?_)
  have J := I.write (t' := t) (x := a) (e := a) (o := exo a C none) (by rw [e]; exact True.intro) (.inl rfl) k ⟨_, hx⟩ (exo_ok hx)
  have eu : upd H a (exo a C none) = H := by
    funext c
    by_cases hb : c = a
    · rw [hb, upd_same, e]
    · rw [upd_ne hb]
  rw [eu] at J
  exact h _ J
end
/-! ### readings and rules -/
/-- G.__init__(self, ..) -/
def tGI (K : PySem.W.Frag) (b : Bs) (f : Str) (ta : TA) : TE := fun σ H Q => ta σ H fun vs H1 => ∃ (a C : Addr) (ws : List V), vs = .ref a :: ws ∧ ws.length ≤ 1000 ∧ XC K b C f ∧ H1 a = some (exo a C none) ∧ Q .non H1
/-- self.f = e -/
def tXst (K : PySem.W.Frag) (b : Bs) (f : Str) (to te : TE) : TS := fun D σ H => te σ H fun y H1 => to σ H1 fun x H2 => ∃ a C : Addr, x = .ref a ∧ XC K b C f ∧ H2 a = some (exo a C none) ∧
  ∀ dx, H2 dx = none → dx ≠ a → D.nx σ (upd (upd H2 dx (exd dx [(f, y)])) a (exo a C (some dx)))
section
variable {X : Cx} {o e : Expr} {es : List Expr} {to te : TE} {ta : TA} {b : Bs} {f x : Str} {p p' p1 p2 pos : Pos} {G : Addr}
theorem pe_ginit {pl : Sem Bool} (gb : GB X.K b G) (bk : b.Ok) (hg : Gl X x) (hm : X.mg x = some (.ref G)) (ha : PA X (e :: es) ta)
    (hc : eval (.Call (.Attribute (.Name x p1) "__init__" p2) (e :: es) [] pos) X.env = (do
      let ov ← eval (.Name x p1) X.env
      standAt p2.atName
      let (f, first) ← holding [ov] (getMethod ov "__init__" pl)
      callWith pos f first (backTo pos (starEach (e :: es) X.env)) (backToKw pos (keywordEach [] X.env))) := by rfl)
    (hdb : (x == ("__debug__" : Str)) = false := by decide) (he : starEach (e :: es) X.env = (false, eval e X.env) :: starEach es X.env := by rfl) (hpl : (backTo pos (starEach es X.env)).any (·.1) = false := by rfl) :
    PE X (.Call (.Attribute (.Name x p1) "__init__" p2) (e :: es) [] pos) (tGI X.K b f ta) := by
  refine ⟨fun pins s σ H Q I h => ?_⟩
  refine PySem.W.methodCall_KW (ld_glob I hg hm ?_ hdb) hc
  refine PySem.W.method_cls I.kIn gb.ga (PySem.W.cls_value I.kIn gb.rd gb.at_ bk.plain ?_)
  show wpAny _ _ (callWith pos (Value.builtin b.ini) [] (backTo pos (starEach (e :: es) X.env)) []) _ _ _
  refine PyProof.Rows.callWith_method1 (thn (ha.run pos pins _ σ H _ (I.tok _) h) fun us s1 ⟨vs, H1, I1, r1, a, C, ws, ev, hl, T, ea, q⟩ => ?_) he hpl
  subst ev
  cases r1 with
  | @cons _ u0 _ ur ra rw' =>
    obtain rfl : u0 = Value.ref a := ra
    have hlen : ur.length ≤ sizeLine := by
      rw [← Paired.length rw', sizeLine_eq]
      omega
    exact xinit_ok T I1 ea hlen fun s' J => ⟨.non, H1, J, rfl, q⟩
theorem ps_xst (ho : PE X o to) (he : PE X e te) (hs : swapsWith e (some (.Attribute o f p')) pos.line X.env = pure false := by rfl) : PS X (.Assign [.Attribute o f p'] e pos) (tXst X.K b f to te) := by
  refine ⟨fun pins s σ H D I h => ?_⟩
  refine plainObj_wpAny_Assign_Attribute (thn (he.run pins s σ H _ I h) fun v s1 ⟨y, H1, I1, r1, q1⟩ => thn (ho.run pins s1 σ H1 _ I1 q1) fun u s2 ⟨x, H2, I2, r2, a, C, ex, T, ea, q⟩ => ?_) hs
  subst ex
  obtain rfl : u = Value.ref a := r2
  exact xst_new T I2 ea r1 fun dx s' n ne J => ⟨σ, _, J, q dx n ne⟩
/-- the __init__'s promise -/
def spX (K : PySem.W.Frag) (b : Bs) (f : Str) : Sp := fun vs H Q _ => ∃ (a C : Addr) (v : V), vs = [.ref a, v] ∧ XC K b C f ∧ H a = some (exo a C none) ∧ ∀ d, H d = none → d ≠ a → Q .non (upd (upd H d (exd d [(f, v)])) a (exo a C (some d)))
/-- C(e): an error whose own dict holds the field -/
def tMkX (C : Addr) (f : Str) (ta : TE) : L2.St → Hp → XK → Prop := fun σ H Q => ta σ H fun v H1 => ∀ d, H1 d = none → Q (.ref C) (some d) (upd H1 d (.xd [(f, v)]))
theorem pmk_x {CX : CXT} {fI C : Addr} {k : Nat} {fd : FuncData} {ps : List Str} (T : XC X.K b C f) (iC : PySem.W.findIn X.K (.ref C) "__init__" = some (some (.ref fI))) (tI : PySem.W.typeIn X.K (.ref fI) = some (.type "function"))
    (F1 : FnOk X.prog X.w X.K X.mg X.base CX k fI fd ps (spX X.K b f)) (hr : Room (k + 1) X.A) (hb : Binds X.K fd ps []) (hx : Passes CX X (fun _ _ _ => False)) (hg : Gl X x) (hm : X.mg x = some (.ref C)) (ha1 : PA X [e] (tCons te tNil))
    (hdb : (x == ("__debug__" : Str)) = false := by decide) (he : starEach [e] X.env = (false, eval e X.env) :: starEach [] X.env := by rfl) (hpl : (backTo pos (starEach [] X.env)).any (·.1) = false := by rfl) :
    PMk X (.Call (.Name x p) [e] [] pos) (tMkX C f te) := by
  intro pins s σ H Q I h
  obtain ⟨nm, q, N, bs, bm, sn, sub, ab, col, dd, k0, k1, k2, k3, k5, hC, hbm⟩ := T.cls
  obtain ⟨ini, bmB, FB⟩ := T.ok.facts
  refine wpAny_Call_Name_kw (ld_glob I hg hm ?_ hdb)
  have h1 : tCons te tNil σ H (fun vs H1 => match vs with
    | [v] => ∀ d, H1 d = none → Q (.ref C) (some d) (upd H1 d (.xd [(f, v)]))
    | _ => False) := h
  refine PySem.W.callWith_K (h₀ := X.base) I.ok.mod.kin T.kC (thn (ha1.run pos pins s σ H _ I h1) fun us s1 ⟨vs, H1, I1, r1, q1⟩ => ⟨I1.kIn, ?_⟩) he hpl
  cases r1 with
  | nil => exact q1.elim
  | @cons v u vs1 us1 rv rr =>
    cases rr with
    | cons _ _ => exact q1.elim
    | nil =>
      show wpAny _ _ (call (.ref C) [u]) _ _ _
      obtain ⟨hp, g, dr, tk, os⟩ := s1
      have hsz : hp.objs.size ≤ hp.objs.size + 1 := Nat.le_succ _
      have hn : H1 (hp.objs.size + 1) = none := I1.hok.fresh hsz
      have kk : ∀ c o, hp.get? c = some o → ((hp.push (PySem.W.kdv_tup [u])).push (PySem.HandSPX.excO C hp.objs.size)).get? c = some o := fun c o z => Heap.get?_push_of_some _ (Heap.get?_push_of_some _ z)
      have hget : ((hp.push (PySem.W.kdv_tup [u])).push (PySem.HandSPX.excO C hp.objs.size)).get? (hp.objs.size + 1) = some (PySem.HandSPX.excO C hp.objs.size) := by heap_get
      have I2 := I1.laid (t' := tk) (a := hp.objs.size + 1) (o := exo (hp.objs.size + 1) C none) (h' := (hp.push (PySem.W.kdv_tup [u])).push (PySem.HandSPX.excO C hp.objs.size)) kk hsz (exo_ok hget)
      have r2 : Vals [V.ref (hp.objs.size + 1), v] [Value.ref (hp.objs.size + 1), u] := .cons rfl (.cons rv .nil)
      -- what the __init__ leaves is an error's dict
      have hq : spX X.K b f [V.ref (hp.objs.size + 1), v] (upd H1 (hp.objs.size + 1) (exo (hp.objs.size + 1) C none))
          (fun w H2 => w = .non ∧ ∃ (d : Addr), H2 (hp.objs.size + 1) = some (exo (hp.objs.size + 1) C (some d)) ∧ H2 d = some (exd d [(f, v)]) ∧ H1 d = none ∧ Q (.ref C) (some d) (upd (del H2 (hp.objs.size + 1)) d (.xd [(f, v)]))) (fun _ _ _ => False) := by
        refine ⟨_, C, v, rfl, T, upd_same, fun d hd hne => ⟨rfl, d, upd_same, ?_, ?_, ?_⟩⟩
        · rw [upd_ne hne, upd_same]
        · rw [upd_ne hne] at hd
          exact hd
        · rw [upd_ne hne] at hd
          have z := q1 d hd
          have eh : upd (del (upd (upd (upd H1 (hp.objs.size + 1) (exo (hp.objs.size + 1) C none)) d (exd d [(f, v)])) (hp.objs.size + 1) (exo (hp.objs.size + 1) C (some d))) (hp.objs.size + 1)) d (.xd [(f, v)]) = upd H1 d (.xd [(f, v)]) := by
            funext c
            by_cases c1 : c = d
            · rw [c1, upd_same, upd_same]
            · rw [upd_ne c1, upd_ne c1]
              by_cases c2 : c = hp.objs.size + 1
              · rw [c2, del_same, hn]
              · rw [del_ne c2, upd_ne c2, upd_ne c1, upd_ne c2]
          rw [eh]
          exact z
      have hl : ([Value.ref (hp.objs.size + 1), u] ++ []).length = ps.length := (F1.len _ _ _ _ hq)
      refine wpAny_call (call_cls FB (over_refs T.ok hbm) (I1.kIn _ _ hC) (PySem.W.looks_findIn I1.kIn iC) (fun self => PySem.W.bind_fn I1.kIn self tI) (by rw [sizeLine_eq]; show 1 ≤ 16777216; decide)
        (codeAny_mono (F1.run _ X.stack _ _ ⟨[Value.ref (hp.objs.size + 1), u], []⟩ [Value.ref (hp.objs.size + 1), u] _ _ (fun _ _ _ => False) (hr.make C [u] []) (I2.env0.make C [u] []) (hb _ [Value.ref (hp.objs.size + 1), u] I2.kIn hl) r2 hq) fun r s' hq' => ?_))
      cases r with
      | error er => exact hx pins σ _ _ er s' I2 hq'
      | ok fl =>
        cases fl with
        | ret w =>
          obtain ⟨v2, H2, os2, bare2, un2, hok2, rv2, ev, d, ea, ed, hd1, q2⟩ := hq'
          subst ev
          obtain ⟨h2, g2, d2, t2, os'⟩ := s'
          exact ⟨rv2, mk_end (raises_own T.exC T.tyC) I1 hsz kk un2 hok2 os2 bare2 ea ed hd1 q2⟩
        | next => exact False.elim hq'
        | brk => exact False.elim hq'
        | cont => exact False.elim hq'
/-- e.f, e the error that the suite holds (at a; its class cls, its dict d) -/
def tXfld (C : Addr) (f : Str) (a : Addr) (cls : Value) (d : Option Addr) (te : TE) : TE := fun σ H Q => te σ H fun x H1 => x = .ref a ∧ cls = .ref C ∧ ∃ (dd : Addr) (v : V), d = some dd ∧ H1 dd = some (.xd [(f, v)]) ∧ Q v H1
theorem pe_xfld {C a : Addr} {oe : Obj} {cls : Value} {d : Option Addr} {pn : List (Addr × Obj)} (T : XC X.K b C f) (hz : Zc cls d oe) (hf : ∃ vs, oe.data = .fields vs) (he : PE (X.suite a ((a, oe) :: pn)) e te)
    (hb : attributeBase e f X.env (eval e X.env) = eval e X.env := by rfl) : PE (X.suite a ((a, oe) :: pn)) (.Attribute e f pos) (tXfld C f a cls d te) := by
  refine ⟨fun pins s σ H Q I h => ?_⟩
  refine attr_of hb (thn (he.run pins s σ H _ I h) fun u s1 ⟨x, H1, I1, rx, ex, ec, dd, v, ed, ea, q⟩ => ?_)
  subst ex ec ed
  obtain rfl : u = Value.ref a := rx
  obtain ⟨ha, _⟩ := I1.pin (a, oe) (List.mem_append_left _ List.mem_cons_self)
  obtain ⟨vs, hd⟩ := hf
  obtain ⟨mA, hns, hr⟩ := (show ObjOk X.prog X.w H1 s1.heap dd (.xd [(f, v)]) from I1.hok dd _ ea)
  obtain ⟨od, ho, hl⟩ := lookIn_ns hns
  have l : List.lookup f [(f, v)] = some v := by simp [List.lookup]
  obtain ⟨u, hu, ru⟩ := RelO.some_of (v := v) (o := mA f) (by rw [← l]; exact hr f)
  have J : PySem.W.InstAt s1.heap a oe C (some od) := ⟨ha, hz.1, by unfold PySem.W.notCls; rw [hd] <;> rfl, by rw [hz.2]; exact ho⟩
  exact HandSPX.exc_get I1.kIn J T.ga T.gg T.exC (PySem.W.findObj_own T.hdC T.nf rfl (by rw [hl, hu])) (handed_of ru) ⟨v, H1, I1.tok _, ru, q⟩
end
end GX

set_option Elab.async false
set_option linter.all false
set_option maxRecDepth 100000
set_option maxHeartbeats 1000000
/-! DF: a def of the top by its name, its calls; short readings. -/
namespace RP
open PySem PySem.Spec PyProof.Rows L2
/-- the def that the module calls x keeps the promise sp, by at most level k -/
def Def (P : Program) (w : World) (K : PySem.W.Frag) (mg : Str → Option Value) (base : Heap) (k : Nat) (x : Str) (ps : List Str) (sp : Sp) : Prop :=
  ∃ (f : Addr) (fd : FuncData), mg x = some (.ref f) ∧ PySem.W.keepIn K (.ref f) = true ∧ Binds K fd ps [] ∧ FnOk P w K mg base (L2.CX P w) k f fd ps sp
/-- where a def of the text stands -/
structure At (K : PySem.W.Frag) (mg : Str → Option Value) (x : Str) (st : Stmt) (f : Addr) (fd : FuncData) : Prop where
  fn : FunD K x x (defArgs st) (defBody st) (defScope st) [] [] f fd
  mg : mg x = some (.ref f)
section
variable {P : Program} {w : World} {K : PySem.W.Frag} {mg : Str → Option Value} {base : Heap}
theorem Def.mono {j k : Nat} {x : Str} {ps : List Str} {sp : Sp} (D : Def P w K mg base j x ps sp) (h : j ≤ k) : Def P w K mg base k x ps sp := by
  obtain ⟨f, fd, a, b, c, d⟩ := D
  exact ⟨f, fd, a, b, c, d.mono h⟩
theorem Def.imp {k : Nat} {x : Str} {ps : List Str} {sp sp' : Sp} (D : Def P w K mg base k x ps sp) (h : ∀ vs H Q E, sp' vs H Q E → sp vs H Q E) : Def P w K mg base k x ps sp' := by
  obtain ⟨f, fd, a, b, c, d⟩ := D
  exact ⟨f, fd, a, b, c, d.imp h⟩
/-- THE RULE for a def of the text -/
theorem Def.mk {x : Str} {st : Stmt} {f : Addr} {fd : FuncData} {N ps : List Str} {k : Nat} {sp : Sp} (F : At K mg x st f fd) (S : FnScope N ps (defScope st))
    (hb : ∀ (kV doc pm : Value) (an : Option Addr) (cdv ct : Value) (us : List Value), us.length = ps.length → bindArgs (PySem.W.fnOf x x (defArgs st) (defBody st) (defScope st) .none kV doc pm an cdv ct) ⟨us, []⟩ = pure (ps.zip us))
    (len : ∀ vs H Q E, sp vs H Q E → vs.length = ps.length)
    (hbody : ∀ (cdv : Value) (A : Around) (outer : List Env) (s : Shared) (H : Hp) (vs : List V) (Q : VK) (E : XK), Room k (A.deeper (envOfC x (defScope st) s.heap.objs.size f cdv)) → sp vs H Q E →
      ∃ t, PSs (cxOf (L2.CX P w) P w K mg base N x (defScope st) f cdv A outer s H E) (defBody st) t ∧ t { nx := fun _ H' => Q .non H', rt := Q } (start N vs) H) : Def P w K mg base (k + 1) x ps sp :=
  ⟨f, fd, F.mg, F.fn.kp, F.fn.bindsN hb, F.fn.ok S len hbody⟩
end
section
variable {X : Cx} {k : Nat} {x : Str} {ps : List Str} {sp : Sp} {p pos : Pos} {e : Expr} {es : List Expr} {t : TA} {W : WX}
/-- a call of a def that lets nothing out here -/
def tD (sp : Sp) (t : TA) : TE := fun σ H Q => t σ H fun vs H1 => sp vs H1 Q E0
theorem pe_d (D : Def X.prog X.w X.K X.mg X.base k x ps sp) (hr : Room k X.A) (hg : Gl X x) (ha : PA X (e :: es) t) (hdb : (x == ("__debug__" : Str)) = false := by decide)
    (he : starEach (e :: es) X.env = (false, eval e X.env) :: starEach es X.env := by rfl) (hpl : (backTo pos (starEach es X.env)).any (·.1) = false := by rfl) : PE X (.Call (.Name x p) (e :: es) [] pos) (tD sp t) := by
  obtain ⟨f, fd, hm, hk, hb, F⟩ := D
  have z := pe_call (dvs := []) (E := E0) (p := p) (pos := pos) F hr hg hm hk hb .nil passL ha hdb he hpl
  refine ⟨fun pins s σ H Q I h => z.run pins s σ H Q I ?_⟩
  have eq : ∀ vs : List V, vs ++ [] = vs := List.append_nil
  show t σ H fun vs H1 => sp (vs ++ []) H1 Q E0
  simp only [List.append_nil]
  exact h
/-- a call whose errors go where W says -/
def tDX (sp : Sp) (W : WX) (t : TA) : TE := fun σ H Q => t σ H fun vs H1 => sp vs H1 Q fun cls d H' => W cls d σ H'
theorem pe_dX (D : Def X.prog X.w X.K X.mg X.base k x ps sp) (hr : Room k X.A) (hg : Gl X x) (tk : Takes X W) (ha : PA X (e :: es) t) (hdb : (x == ("__debug__" : Str)) = false := by decide)
    (he : starEach (e :: es) X.env = (false, eval e X.env) :: starEach es X.env := by rfl) (hpl : (backTo pos (starEach es X.env)).any (·.1) = false := by rfl) : PE X (.Call (.Name x p) (e :: es) [] pos) (tDX sp W t) := by
  obtain ⟨f, fd, hm, hk, hb, F⟩ := D
  exact pe_callS (E := WE W) F hr hg hm hk hb (passAt tk) ha hdb he hpl
end
/-- in a def's own body: what is let out is what the def lets out -/
abbrev tkB {P : Program} {w : World} {K : PySem.W.Frag} {mg : Str → Option Value} {base : Heap} {N : List Str} {x : Str} {sc : Scope} {f : Addr} {cdv : Value} {A : Around} {outer : List Env} {s : Shared} {H : Hp} {E : XK} :
    Takes (cxOf (L2.CX P w) P w K mg base N x sc f cdv A outer s H E) (fun cls d _ H => E cls d H) := takes_of rfl rfl rfl rfl
end RP
namespace RP
open PySem PySem.Spec PyProof.Rows L2
section
variable {X : Cx} {x : Str} {pos : Pos}
/-- a module's number, a module's text -/
theorem pe_gi {i : Int} (hg : Gl X x) (h : ∃ t, X.mg x = some (.int i t)) (hd : (x == ("__debug__" : Str)) = false := by decide) : PE X (.Name x pos) (tC (.int i)) := by
  obtain ⟨t, e⟩ := h
  exact pe_glob hg e ⟨t, rfl⟩ hd
theorem pe_gs {z : Str} (hg : Gl X x) (h : ∃ t, X.mg x = some (.str z t)) (hd : (x == ("__debug__" : Str)) = false := by decide) : PE X (.Name x pos) (tC (.str z)) := by
  obtain ⟨t, e⟩ := h
  exact pe_glob hg e ⟨t, rfl⟩ hd
end
end RP

set_option Elab.async false
set_option linter.all false
set_option maxRecDepth 100000
set_option maxHeartbeats 1000000
/-! GX4: an own error class of the text, by its name; raising it. -/
namespace GX
open PySem PySem.Spec PyProof.Rows L2 RP
/-- an own base class of the text -/
structure GAt (K : PySem.W.Frag) (mg : Str → Option Value) (b : Bs) (x : Str) (G : Addr) : Prop where
  gb : GB K b G
  g : mg x = some (.ref G)
/-- an own error class of the text, its field f, its __init__ the def st -/
structure XAt (K : PySem.W.Frag) (mg : Str → Option Value) (b : Bs) (x f qual : Str) (st : Stmt) (C fI : Addr) (fd : FuncData) : Prop where
  xc : XC K b C f
  g : mg x = some (.ref C)
  i : PySem.W.findIn K (.ref C) "__init__" = some (some (.ref fI))
  t : PySem.W.typeIn K (.ref fI) = some (.type "function")
  fn : FunD K "__init__" qual (defArgs st) (defBody st) (defScope st) [] [] fI fd
/-- such a class that raises: its __init__ keeps spX -/
def XDef (P : Program) (w : World) (K : PySem.W.Frag) (mg : Str → Option Value) (base : Heap) (b : Bs) (x f : Str) (ps : List Str) (C : Addr) : Prop :=
  XC K b C f ∧ mg x = some (.ref C) ∧ ∃ (fI : Addr) (fd : FuncData), PySem.W.findIn K (.ref C) "__init__" = some (some (.ref fI)) ∧ PySem.W.typeIn K (.ref fI) = some (.type "function") ∧ Binds K fd ps [] ∧ FnOk P w K mg base (L2.CX P w) 1 fI fd ps (spX K b f)
section
variable {P : Program} {w : World} {K : PySem.W.Frag} {mg : Str → Option Value} {base : Heap} {b : Bs} {x f qual : Str} {st : Stmt} {C fI : Addr} {fd : FuncData}
theorem XDef.mk {N ps : List Str} (F : XAt K mg b x f qual st C fI fd) (S : FnScope N ps (defScope st)) (hps : ps.length = 2)
    (hb : ∀ (kV doc pm : Value) (an : Option Addr) (cdv ct : Value) (us : List Value), us.length = ps.length → bindArgs (PySem.W.fnOf "__init__" qual (defArgs st) (defBody st) (defScope st) .none kV doc pm an cdv ct) ⟨us, []⟩ = pure (ps.zip us))
    (hbody : ∀ (cdv : Value) (A : Around) (outer : List Env) (s : Shared) (H : Hp) (E : XK), Room 0 (A.deeper (envOfC qual (defScope st) s.heap.objs.size fI cdv)) →
      ∃ ta to te, PSs (cxOf (L2.CX P w) P w K mg base N qual (defScope st) fI cdv A outer s H E) (defBody st) (tSeq (tDrop (tGI K b f ta)) (tXst K b f to te)) ∧
        (∀ (a v : V) (H : Hp) (Q : List V → Hp → Prop), (∀ z, Q [a, z] H) → ta (start N [a, v]) H Q) ∧ (∀ (a v : V) (H : Hp) (Q : VK), Q a H → to (start N [a, v]) H Q) ∧ (∀ (a v : V) (H : Hp) (Q : VK), Q v H → te (start N [a, v]) H Q)) : XDef P w K mg base b x f ps C := by
  refine ⟨F.xc, F.g, fI, fd, F.i, F.t, F.fn.bindsN hb, F.fn.ok S (fun vs H Q E h => ?_) (fun cdv A outer s H vs Q E hr h => ?_)⟩
  · obtain ⟨a, C', v, rfl, _⟩ := h
    rw [hps]
    rfl
  · obtain ⟨ta, to, te, hp, hq⟩ := hbody cdv A outer s H E hr
    obtain ⟨a, D, v, rfl, T, ha, k⟩ := h
    obtain ⟨q1, q2, q3⟩ := hq
    exact ⟨_, hp, q1 (.ref a) v H _ fun z => ⟨a, D, [z], rfl, by show 1 ≤ 1000; decide, T, ha, q3 (.ref a) v H _ (q2 (.ref a) v H _ ⟨a, D, rfl, T, ha, fun dx hd hne => k dx hd hne⟩)⟩⟩
end
section
variable {X : Cx} {b : Bs} {x f : Str} {ps : List Str} {C : Addr} {e : Expr} {te : TE} {p pos : Pos} {n : Nat}
/-- X(e), to be raised -/
theorem pmk_at (D : XDef X.prog X.w X.K X.mg X.base b x f ps C) (hr : Room n X.A) (hn : 2 ≤ n) (hg : Gl X x) (ha1 : PA X [e] (tCons te tNil))
    (hdb : (x == ("__debug__" : Str)) = false := by decide) (he : starEach [e] X.env = (false, eval e X.env) :: starEach [] X.env := by rfl) (hpl : (backTo pos (starEach [] X.env)).any (·.1) = false := by rfl) :
    PMk X (.Call (.Name x p) [e] [] pos) (tMkX C f te) := by
  obtain ⟨xc, g, fI, fd, i, t, hb, F⟩ := D
  exact pmk_x xc i t F (hr.mono hn) hb passL hg g ha1 hdb he hpl
end
end GX

set_option Elab.async false
set_option linter.all false
set_option maxRecDepth 100000
set_option maxHeartbeats 1000000
/-! DC: the rule for a def, with its code object by name (for the tables of the code that its lambdas need). -/
namespace RP
open PySem PySem.Spec PyProof.Rows L2
section
variable {P : Program} {w : World} {K : PySem.W.Frag} {mg : Str → Option Value} {base : Heap}
theorem FunD.okC {x qual : Str} {params : Arguments} {body : List Stmt} {scope : Scope} {dvs : List V} {kws : List (Str × V)} {fd : FuncData} {p : Str × Option Str} {CX : CXT} {N ps : List Str} {k : Nat} {sp : Sp}
    (F : FunD K x qual params body scope dvs kws (He.fAd K p) fd) (S : FnScope N ps scope) (len : ∀ vs H Q E, sp vs H Q E → vs.length = ps.length)
    (hbody : ∀ (A : Around) (outer : List Env) (s : Shared) (H : Hp) (vs : List V) (Q : VK) (E : XK), Room k (A.deeper (envOfC qual scope s.heap.objs.size (He.fAd K p) (.ref (He.codeOf K p)))) → sp vs H Q E →
      ∃ t, PSs (cxOf CX P w K mg base N qual scope (He.fAd K p) (.ref (He.codeOf K p)) A outer s H E) body t ∧ t { nx := fun _ H' => Q .non H', rt := Q } (start N vs) H) : FnOk P w K mg base CX (k + 1) (He.fAd K p) fd ps sp := by
  obtain ⟨oc, od, dV, kV, doc, pm, an, cdv, ct, osl, rfl, lk, hcd, _, _⟩ := F.ex
  obtain ⟨c, rfl⟩ := He.codeIn_ref hcd
  have e : He.codeOf K p = c := He.codeOf_eq lk rfl
  rw [e] at hbody
  exact fn_of lk hcd S len fun A outer s H vs Q E hr hsp => hbody A outer s H vs Q E hr hsp
/-- THE RULE for a def of the text, its code by name -/
theorem Def.mkC {x : Str} {st : Stmt} {f : Addr} {fd : FuncData} {N ps : List Str} {k : Nat} {sp : Sp} (F : At K mg x st f fd) (hf : f = He.fAd K (x, none)) (S : FnScope N ps (defScope st))
    (hb : ∀ (kV doc pm : Value) (an : Option Addr) (cdv ct : Value) (us : List Value), us.length = ps.length → bindArgs (PySem.W.fnOf x x (defArgs st) (defBody st) (defScope st) .none kV doc pm an cdv ct) ⟨us, []⟩ = pure (ps.zip us))
    (len : ∀ vs H Q E, sp vs H Q E → vs.length = ps.length)
    (hbody : ∀ (A : Around) (outer : List Env) (s : Shared) (H : Hp) (vs : List V) (Q : VK) (E : XK), Room k (A.deeper (envOfC x (defScope st) s.heap.objs.size f (.ref (He.codeOf K (x, none))))) → sp vs H Q E →
      ∃ t, PSs (cxOf (L2.CX P w) P w K mg base N x (defScope st) f (.ref (He.codeOf K (x, none))) A outer s H E) (defBody st) t ∧ t { nx := fun _ H' => Q .non H', rt := Q } (start N vs) H) : Def P w K mg base (k + 1) x ps sp := by
  subst hf
  exact ⟨_, fd, F.mg, F.fn.kp, F.fn.bindsN hb, FunD.okC F.fn S len hbody⟩
end
end RP

set_option Elab.async false
set_option linter.all false
set_option maxRecDepth 100000
set_option maxHeartbeats 1000000
/-! MD: methods and makers of own classes by name; tables of code that grow. -/
namespace RP
open PySem PySem.Spec PyProof.Rows L2 LamX
/-! ### heaps whose tables grow -/
/-- at p stands nothing, or a table -/
def Nw (H : Hp) (p : Addr) : Prop := ∀ o, H p = some o → ∃ ps, o = .tbl ps
theorem _root_.L2.Same.ext {H H' : Hp} (s : Same H H') : ExtN H H' := fun b o h _ => s b o h
theorem nw_of {H H1 : Hp} {p : Addr} (e : ExtN H H1) (h : H1 p = none) : Nw H p := fun o ho => by
  by_cases q : ∃ ps, o = .tbl ps
  · exact q
  · have := e p o ho (fun ps z => q ⟨ps, z⟩)
    rw [h] at this
    cases this
theorem nw_none {H : Hp} {p : Addr} (h : H p = none) : Nw H p := fun o ho => by
  rw [h] at ho
  cases ho
theorem ext_skip {H H1 : Hp} {p : Addr} {o : HO} (e : ExtN H H1) (n : Nw H p) : ExtN H (upd H1 p o) := fun b u h t => by
  have ne : b ≠ p := fun q => by
    rw [q] at h
    obtain ⟨ps, z⟩ := n u h
    exact t ps z
  rw [upd_ne ne]
  exact e b u h t
theorem ext_new {H H1 : Hp} {p : Addr} {o : HO} (e : ExtN H H1) (h : H1 p = none) : ExtN H (upd H1 p o) := ext_skip e (nw_of e h)
theorem ext_but {H H1 H2 : Hp} {b : Addr} (e : ExtN H H1) (n : Nw H b) (k : But b H1 H2) : ExtN H H2 := fun a o h t => by
  have ne : a ≠ b := fun q => by
    rw [q] at h
    obtain ⟨ps, z⟩ := n o h
    exact t ps z
  exact k a o ne (e a o h t)
theorem ext_same {H H1 H2 : Hp} (e : ExtN H H1) (s : Same H1 H2) : ExtN H H2 := e.trans s.ext
theorem tabs_keep {T : List (Addr × Str)} {H H' : Hp} (t : Tabs T H) (k : ∀ b o, H b = some o → ((∃ ps, o = .tbl ps) ∨ ∃ φ, o = .ext φ) → H' b = some o) : Tabs T H' := fun p hp => by
  obtain ⟨ps, h1, h2, h3⟩ := t p hp
  refine ⟨ps, k _ _ h1 (.inl ⟨_, rfl⟩), h2, fun pos cv hc => ?_⟩
  obtain ⟨c, e1, e2⟩ := h3 pos cv hc
  exact ⟨c, e1, k _ _ e2 (.inr ⟨_, rfl⟩)⟩
theorem tabs_same {T : List (Addr × Str)} {H H' : Hp} (t : Tabs T H) (s : Same H H') : Tabs T H' := t.ext s
/-- no table, no thing of another kind -/
def Dat (o : HO) : Prop := (∀ ps, o ≠ .tbl ps) ∧ ∀ φ, o ≠ .ext φ
theorem dat_lst {xs : List V} : Dat (.lst xs) := ⟨(fun _ z => nomatch z), fun _ z => nomatch z⟩
theorem dat_dK {xs : List (Key × V)} : Dat (.dK xs) := ⟨(fun _ z => nomatch z), fun _ z => nomatch z⟩
theorem dat_ins {C dx : Addr} {fs : List (Str × V)} : Dat (.ins C dx fs) := ⟨(fun _ z => nomatch z), fun _ z => nomatch z⟩
theorem dat_frz {o : Obj} {u : HO} : Dat (.frz o u) := ⟨(fun _ z => nomatch z), fun _ z => nomatch z⟩
theorem tabs_put {T : List (Addr × Str)} {H : Hp} {p : Addr} {o u : HO} (t : Tabs T H) (h : H p = some u) (d : Dat u) : Tabs T (upd H p o) := tabs_keep t fun b v hb hv => by
  have ne : b ≠ p := fun q => by
    rw [q, h] at hb
    cases hb
    rcases hv with ⟨ps, z⟩ | ⟨φ, z⟩
    · exact d.1 ps z
    · exact d.2 φ z
  rw [upd_ne ne]
  exact hb
theorem tabs_but {T : List (Addr × Str)} {H H' : Hp} {p : Addr} {u : HO} (t : Tabs T H) (h : H p = some u) (d : Dat u) (k : But p H H') : Tabs T H' := tabs_keep t fun b v hb hv => by
  have ne : b ≠ p := fun q => by
    rw [q, h] at hb
    cases hb
    rcases hv with ⟨ps, z⟩ | ⟨φ, z⟩
    · exact d.1 ps z
    · exact d.2 φ z
  exact k b v ne hb
theorem tabs_new {T : List (Addr × Str)} {H : Hp} {p : Addr} {o : HO} (t : Tabs T H) (h : H p = none) : Tabs T (upd H p o) := t.ext (same_new h)
/-! ### known parts without tables -/
def NoT (R : Hp) : Hp := fun a => match R a with
  | some (.tbl _) => none
  | o => o
theorem NoT.at {R : Hp} {a : Addr} {o : HO} (h : R a = some o) (t : ∀ ps, o ≠ .tbl ps) : NoT R a = some o := by
  unfold NoT
  rw [h]
  cases o with
  | tbl ps => exact absurd rfl (t ps)
  | _ => rfl
theorem NoT.back {R : Hp} {a : Addr} {o : HO} (h : NoT R a = some o) : R a = some o ∧ ∀ ps, o ≠ .tbl ps := by
  unfold NoT at h
  split at h
  · cases h
  · rename_i n
    exact ⟨h, fun ps e => n ps (by rw [h, e])⟩
theorem NoT.same {R : Hp} : Same (NoT R) R := fun a o h => (NoT.back h).1
theorem NoT.plain {R : Hp} (p : Plain R) : Plain (NoT R) := fun a o u h => p a o u (NoT.back h).1
/-- no table is known -/
def Nt (R : Hp) : Prop := ∀ a o, R a = some o → ∀ ps, o ≠ .tbl ps
theorem NoT.nt {R : Hp} : Nt (NoT R) := fun a o h => (NoT.back h).2
theorem Nt.ext {R H H' : Hp} (n : Nt R) (s : Same R H) (e : ExtN H H') : Same R H' := fun a o h => e a o (s a o h) (n a o h)
theorem Nt.put {R : Hp} (n : Nt R) {a : Addr} {o : HO} (h : ∀ ps, o ≠ .tbl ps) : Nt (upd R a o) := fun b u e => by
  by_cases q : b = a
  · subst q
    rw [upd_same] at e
    cases e
    exact h
  · rw [upd_ne q] at e
    exact n b u e
theorem NoT.rd {R : Hp} {a : Addr} {u : HO} (h : Rd R a u) (t : ∀ ps, u ≠ .tbl ps) : Rd (NoT R) a u := by
  rcases h with h | ⟨o, h⟩
  · exact .inl (NoT.at h t)
  · exact .inr ⟨o, NoT.at h fun _ z => nomatch z⟩
mutual
theorem Rep.noT {K : PySem.W.Frag} {R : Hp} : ∀ {v : V} {d : D}, Rep K R v d → Rep K (NoT R) v d
  | _, _, .non => .non
  | _, _, .bl b => .bl b
  | _, _, .int i => .int i
  | _, _, .str x h => .str x h
  | _, _, .lst h r => .lst (h.elim (fun z => .inl (NoT.rd z fun _ q => nomatch q)) .inr) (Reps.noT r)
  | _, _, .tup h r => .tup (h.elim (fun z => .inl (NoT.rd z fun _ q => nomatch q)) .inr) (Reps.noT r)
  | _, _, .dct h r => .dct (NoT.rd h fun _ q => nomatch q) (RepK.noT r)
theorem Reps.noT {K : PySem.W.Frag} {R : Hp} : ∀ {vs : List V} {ds : List D}, Reps K R vs ds → Reps K (NoT R) vs ds
  | _, _, .nil => .nil
  | _, _, .cons h t => .cons (Rep.noT h) (Reps.noT t)
theorem RepK.noT {K : PySem.W.Frag} {R : Hp} : ∀ {kvs : List (Key × V)} {ds : List (Str × D)}, RepK K R kvs ds → RepK K (NoT R) kvs ds
  | _, _, .nil => .nil
  | _, _, .cons hx h t => .cons hx (Rep.noT h) (RepK.noT t)
end
/-! ### methods, makers -/
def MDef (P : Program) (w : World) (K : PySem.W.Frag) (mg : Str → Option Value) (base : Heap) (k : Nat) (x m : Str) (ps : List Str) (dvs : List V) (sp : Sp) : Prop :=
  Cls K (He.ga K x) ∧ ∃ (f : Addr) (fd : FuncData) (ds : List Value), Meth K (He.ga K x) m f ∧ Binds K fd ps ds ∧ Vals dvs ds ∧ FnOk P w K mg base (L2.CX P w) k f fd ps sp
/-- where a method of the text stands -/
structure MAt (K : PySem.W.Frag) (x m qual : Str) (st : Stmt) (kws : List (Str × V)) (fd : FuncData) : Prop where
  c : Cls K (He.ga K x)
  me : Meth K (He.ga K x) m (He.fAd K (x, some m))
  fn : FunD K m qual (defArgs st) (defBody st) (defScope st) [] kws (He.fAd K (x, some m)) fd
/-- where a class of the text stands, with its __init__ -/
structure IAt (K : PySem.W.Frag) (mg : Str → Option Value) (x qual : Str) (st : Stmt) (fd : FuncData) : Prop where
  c : Cls K (He.ga K x)
  mkr : Mk K (He.ga K x) (He.fAd K (x, some "__init__"))
  g : mg x = some (.ref (He.ga K x))
  fn : FunD K "__init__" qual (defArgs st) (defBody st) (defScope st) [] [] (He.fAd K (x, some "__init__")) fd
def IDef (P : Program) (w : World) (K : PySem.W.Frag) (mg : Str → Option Value) (base : Heap) (k : Nat) (x : Str) (ps : List Str) (sp : Sp) : Prop :=
  Cls K (He.ga K x) ∧ mg x = some (.ref (He.ga K x)) ∧ ∃ (f : Addr) (fd : FuncData), Mk K (He.ga K x) f ∧ Binds K fd ps [] ∧ FnOk P w K mg base (L2.CX P w) k f fd ps sp
section
variable {P : Program} {w : World} {K : PySem.W.Frag} {mg : Str → Option Value} {base : Heap}
theorem MDef.mono {j k : Nat} {x m : Str} {ps : List Str} {dvs : List V} {sp : Sp} (D : MDef P w K mg base j x m ps dvs sp) (h : j ≤ k) : MDef P w K mg base k x m ps dvs sp := by
  obtain ⟨c, f, fd, ds, a, b, d, e⟩ := D
  exact ⟨c, f, fd, ds, a, b, d, e.mono h⟩
/-- THE RULE for a method, its code by name -/
theorem MDef.mk {x m qual : Str} {st : Stmt} {fd : FuncData} {N ps : List Str} {k : Nat} {sp : Sp} (F : MAt K x m qual st [] fd) (S : FnScope N ps (defScope st))
    (hb : ∀ (kV doc pm : Value) (an : Option Addr) (cdv ct : Value) (us : List Value), us.length = ps.length → bindArgs (PySem.W.fnOf m qual (defArgs st) (defBody st) (defScope st) .none kV doc pm an cdv ct) ⟨us, []⟩ = pure (ps.zip us))
    (len : ∀ vs H Q E, sp vs H Q E → vs.length = ps.length)
    (hbody : ∀ (A : Around) (outer : List Env) (s : Shared) (H : Hp) (vs : List V) (Q : VK) (E : XK), Room k (A.deeper (envOfC qual (defScope st) s.heap.objs.size (He.fAd K (x, some m)) (.ref (He.codeOf K (x, some m))))) → sp vs H Q E →
      ∃ t, PSs (cxOf (L2.CX P w) P w K mg base N qual (defScope st) (He.fAd K (x, some m)) (.ref (He.codeOf K (x, some m))) A outer s H E) (defBody st) t ∧ t { nx := fun _ H' => Q .non H', rt := Q } (start N vs) H) : MDef P w K mg base (k + 1) x m ps [] sp :=
  ⟨F.c, _, fd, [], F.me, F.fn.bindsN hb, .nil, FunD.okC F.fn S len hbody⟩
/-- the same with keyword-only parameters of which none is written at the call -/
theorem MDef.mkD {x m qual : Str} {st : Stmt} {fd : FuncData} {N ps : List Str} {k : Nat} {sp : Sp} {kws : List (Str × V)} (F : MAt K x m qual st kws fd) (S : FnScope N ps (defScope st)) (n : Nat) (hk : kws ≠ []) (hn : n + kws.length = ps.length)
    (h : ∀ (D : Addr) (doc pm : Value) (an : Option Addr) (cdv ct : Value) (us ks : List Value), us.length = n → ks.length = kws.length →
      KwChain D ((kws.map (·.1)).zip ks) (bindArgs (PySem.W.fnOf m qual (defArgs st) (defBody st) (defScope st) .none (.ref D) doc pm an cdv ct) ⟨us, []⟩) (ps.zip (us ++ ks)))
    (len : ∀ vs H Q E, sp vs H Q E → vs.length = ps.length)
    (hbody : ∀ (A : Around) (outer : List Env) (s : Shared) (H : Hp) (vs : List V) (Q : VK) (E : XK), Room k (A.deeper (envOfC qual (defScope st) s.heap.objs.size (He.fAd K (x, some m)) (.ref (He.codeOf K (x, some m))))) → sp vs H Q E →
      ∃ t, PSs (cxOf (L2.CX P w) P w K mg base N qual (defScope st) (He.fAd K (x, some m)) (.ref (He.codeOf K (x, some m))) A outer s H E) (defBody st) t ∧ t { nx := fun _ H' => Q .non H', rt := Q } (start N vs) H) : MDef P w K mg base (k + 1) x m ps (kws.map (·.2)) sp := by
  obtain ⟨ds, hd, hb⟩ := F.fn.binds0 n hk hn h
  exact ⟨F.c, _, fd, ds, F.me, hb, hd, FunD.okC F.fn S len hbody⟩
theorem IDef.mk {x qual : Str} {st : Stmt} {fd : FuncData} {N ps : List Str} {k : Nat} {sp : Sp} (F : IAt K mg x qual st fd) (S : FnScope N ps (defScope st))
    (hb : ∀ (kV doc pm : Value) (an : Option Addr) (cdv ct : Value) (us : List Value), us.length = ps.length → bindArgs (PySem.W.fnOf "__init__" qual (defArgs st) (defBody st) (defScope st) .none kV doc pm an cdv ct) ⟨us, []⟩ = pure (ps.zip us))
    (len : ∀ vs H Q E, sp vs H Q E → vs.length = ps.length)
    (hbody : ∀ (A : Around) (outer : List Env) (s : Shared) (H : Hp) (vs : List V) (Q : VK) (E : XK), Room k (A.deeper (envOfC qual (defScope st) s.heap.objs.size (He.fAd K (x, some "__init__")) (.ref (He.codeOf K (x, some "__init__"))))) → sp vs H Q E →
      ∃ t, PSs (cxOf (L2.CX P w) P w K mg base N qual (defScope st) (He.fAd K (x, some "__init__")) (.ref (He.codeOf K (x, some "__init__"))) A outer s H E) (defBody st) t ∧ t { nx := fun _ H' => Q .non H', rt := Q } (start N vs) H) : IDef P w K mg base (k + 1) x ps sp :=
  ⟨F.c, F.g, _, fd, F.mkr, F.fn.bindsN hb, FunD.okC F.fn S len hbody⟩
end
section
variable {X : Cx} {k : Nat} {x m : Str} {ps : List Str} {dvs : List V} {sp : Sp} {o e : Expr} {es : List Expr} {ta : TE} {t : TA} {apos pos p : Pos} {W : WX}
/-- o.m(e, ..), nothing let out -/
def tM (C : Addr) (m : Str) (dvs : List V) (sp : Sp) (ta : TE) (t : TA) : TE := fun σ H Q => ta σ H fun x H1 => ∃ a dx fs, x = .ref a ∧ H1 a = some (.ins C dx fs) ∧ fs.lookup m = none ∧ t σ H1 fun vs H2 => sp (x :: (vs ++ dvs)) H2 Q E0
theorem pe_m {pl : Sem Bool} (he : PE X o ta) (D : MDef X.prog X.w X.K X.mg X.base k x m ps dvs sp) (hr : Room k X.A) (ha : PA X (e :: es) t)
    (hst : starEach (e :: es) X.env = (false, eval e X.env) :: starEach es X.env := by rfl) (hpl : (backTo pos (starEach es X.env)).any (·.1) = false := by rfl)
    (ht : eval (.Call (.Attribute o m apos) (e :: es) [] pos) X.env = (do
      let ov ← eval o X.env
      standAt apos.atName
      let (f, first) ← holding [ov] (getMethod ov m pl)
      callWith pos f first (backTo pos (starEach (e :: es) X.env)) (backToKw pos (keywordEach [] X.env))) := by rfl) :
    PE X (.Call (.Attribute o m apos) (e :: es) [] pos) (tM (He.ga X.K x) m dvs sp ta t) := by
  obtain ⟨c, f, fd, ds, hm, hb, hd, F⟩ := D
  exact pe_meth (pl := pl) (dvs := dvs) (E := E0) he c hm F hr hb hd passL ha hst hpl ht
theorem pe_m0 {pl : Sem Bool} (he : PE X o ta) (D : MDef X.prog X.w X.K X.mg X.base k x m ps dvs sp) (hr : Room k X.A)
    (ht : eval (.Call (.Attribute o m apos) [] [] pos) X.env = (do
      let ov ← eval o X.env
      standAt apos.atName
      let (f, first) ← holding [ov] (getMethod ov m pl)
      callWith pos f first (backTo pos (starEach [] X.env)) (backToKw pos (keywordEach [] X.env))) := by rfl) :
    PE X (.Call (.Attribute o m apos) [] [] pos) (tM (He.ga X.K x) m dvs sp ta tNil) := by
  obtain ⟨c, f, fd, ds, hm, hb, hd, F⟩ := D
  exact pe_meth0 (pl := pl) (dvs := dvs) (E := E0) he c hm F hr hb hd passL ht
/-- C(e, ..) -/
def tI (C : Addr) (sp : Sp) (t : TA) : TE := fun σ H Q => t σ H fun vs H1 => ∀ x dx, H1 x = none → H1 dx = none → dx ≠ x → sp (.ref x :: vs) (upd (upd H1 dx (.own x)) x (.ins C dx [])) (fun v H2 => v = .non ∧ Q (.ref x) H2) E0
theorem pe_i (D : IDef X.prog X.w X.K X.mg X.base k x ps sp) (hr : Room (k + 1) X.A) (hg : Gl X x) (ha : PA X (e :: es) t) (hdb : (x == ("__debug__" : Str)) = false := by decide)
    (he : starEach (e :: es) X.env = (false, eval e X.env) :: starEach es X.env := by rfl) (hpl : (backTo pos (starEach es X.env)).any (·.1) = false := by rfl) : PE X (.Call (.Name x p) (e :: es) [] pos) (tI (He.ga X.K x) sp t) := by
  obtain ⟨c, hm, f, fd, M, hb, F⟩ := D
  have z := pe_make (dvs := []) (E := E0) (p := p) (pos := pos) M F hr hg hm hb .nil passL ha hdb he hpl
  refine ⟨fun pins s σ H Q I h => z.run pins s σ H Q I ?_⟩
  show t σ H fun vs H1 => ∀ x dx, H1 x = none → H1 dx = none → dx ≠ x → sp (.ref x :: (vs ++ [])) _ _ E0
  simp only [List.append_nil]
  exact h
end
/-! ### keyword-only parameters; attributes as targets -/
def IDefK (P : Program) (w : World) (K : PySem.W.Frag) (mg : Str → Option Value) (base : Heap) (k : Nat) (x : Str) (ps : List Str) (n : Nat) (ks : List Str) (sp : Sp) : Prop :=
  Cls K (He.ga K x) ∧ mg x = some (.ref (He.ga K x)) ∧ ∃ (f : Addr) (fd : FuncData), Mk K (He.ga K x) f ∧ KBn K fd ps (n + 1) ks (fun us ws => us ++ ws) (fun vs zs => vs ++ zs) ∧ FnOk P w K mg base (L2.CX P w) k f fd ps sp
section
variable {P : Program} {w : World} {K : PySem.W.Frag} {mg : Str → Option Value} {base : Heap}
theorem IDefK.mk {x qual : Str} {st : Stmt} {fd : FuncData} {N ps ks : List Str} {n k : Nat} {sp : Sp} (F : IAt K mg x qual st fd) (S : FnScope N ps (defScope st))
    (hb : ∀ (kV doc pm : Value) (an : Option Addr) (cdv ct : Value) (us ws : List Value), us.length = n + 1 → ws.length = ks.length → bindArgs (PySem.W.fnOf "__init__" qual (defArgs st) (defBody st) (defScope st) .none kV doc pm an cdv ct) ⟨us, ks.zip ws⟩ = pure (ps.zip (us ++ ws)))
    (len : ∀ vs H Q E, sp vs H Q E → vs.length = ps.length)
    (hbody : ∀ (A : Around) (outer : List Env) (s : Shared) (H : Hp) (vs : List V) (Q : VK) (E : XK), Room k (A.deeper (envOfC qual (defScope st) s.heap.objs.size (He.fAd K (x, some "__init__")) (.ref (He.codeOf K (x, some "__init__"))))) → sp vs H Q E →
      ∃ t, PSs (cxOf (L2.CX P w) P w K mg base N qual (defScope st) (He.fAd K (x, some "__init__")) (.ref (He.codeOf K (x, some "__init__"))) A outer s H E) (defBody st) t ∧ t { nx := fun _ H' => Q .non H', rt := Q } (start N vs) H) : IDefK P w K mg base (k + 1) x ps n ks sp := by
  refine ⟨F.c, F.g, _, fd, F.mkr, ?_, FunD.okC F.fn S len hbody⟩
  obtain ⟨oc, od, dV, kV, doc, pm, an, cdv, ct, osl, rfl, lk, hcd, hD, hK⟩ := F.fn.ex
  rcases hD with ⟨_, rfl⟩ | ⟨e, _⟩
  · exact ⟨fun s us ws _ l1 l2 => .of_eq (hb kV doc pm an cdv ct us ws l1 l2), fun r1 r2 => r1.append r2⟩
  · exact absurd rfl e
end
section
variable {X : Cx} {k n : Nat} {x f : Str} {ps ks : List Str} {sp : Sp} {o e : Expr} {es : List Expr} {kws : List Keyword} {to : TE} {t tk : TA} {pos p : Pos}
/-- C(e, .., k = v, ..) -/
theorem pe_iK (D : IDefK X.prog X.w X.K X.mg X.base k x ps n ks sp) (hr : Room (k + 1) X.A) (hg : Gl X x) (ha : PA X (e :: es) t) (hkw : PK X kws tk)
    (hall : (backToKw pos (keywordEach kws X.env)).all (·.1.isSome) = true := by rfl) (hks : (backToKw pos (keywordEach kws X.env)).filterMap (·.1) = ks := by rfl) (hdb : (x == ("__debug__" : Str)) = false := by decide)
    (he : starEach (e :: es) X.env = (false, eval e X.env) :: starEach es X.env := by rfl) (hpl : ((backTo pos (starEach (e :: es) X.env)).any (·.1) || (backToKw pos (keywordEach kws X.env)).any (·.1.isNone)) = false := by rfl) :
    PE X (.Call (.Name x p) (e :: es) kws pos) (tMakeK (He.ga X.K x) n ks.length sp (fun vs zs => vs ++ zs) E0 t tk) := by
  obtain ⟨c, hm, f, fd, M, hb, F⟩ := D
  exact pe_makeK M F hr hg hm hb passL ha hkw hall hks hdb he hpl
def gFld (K : PySem.W.Frag) (to : TE) (f : Str) : TG := fun v σ H Q => to σ H fun x H1 => ∃ a C dx fs, x = .ref a ∧ H1 a = some (.ins C dx fs) ∧ Cls K C ∧ NoAttr K C f ∧ fs.length < 1000 ∧ Q σ (upd H1 a (.ins C dx (putF f v fs)))
theorem pg_fld (ho : PE X o to) (ha : ∀ v, assign (.Attribute o f pos) X.env v = (do
      let ov ← holding [v] (eval o X.env)
      standAt pos.atName
      holding [v, ov] (setAttr ov f v)
      release [v, ov] []) := by intro _; rfl) : PG X (.Attribute o f pos) (gFld X.K to f) := by
  refine ⟨fun pins s σ H v u Q I r h => ?_⟩
  rw [ha]
  refine wpAny_bind (wpAny_holding (thn (ho.run pins s σ H _ I h) fun ov s1 ⟨y, H1, I1, ry, a, C, dx, fs, ex, ea, c, n, l, q⟩ => ?_))
  subst ex
  obtain rfl : ov = Value.ref a := ry
  refine wpAny_bind (wpAny_standAt (wpAny_bind (wpAny_holding (setattr_ok I1 ea c n l r fun s2 I2 => wpAny_release ⟨σ, _, I2, q⟩))))
theorem kpe_fld {f : Str} {e : Expr} {ta : TE} {pos : Pos} (K : PySem.W.Frag) (h : X.K = K) (he : PE X e ta) (hb : attributeBase e f X.env (eval e X.env) = eval e X.env) : PE X (.Attribute e f pos) (tFld K ta f) := by
  subst h
  exact pe_fld he hb
end
end RP

set_option Elab.async false
set_option linter.all false
set_option maxRecDepth 100000
set_option maxHeartbeats 1000000
namespace K85
open PySem PySem.Spec PyProof.Rows L2
def top (i : Nat) : Stmt := PySem.Challenge.pw_guestfleet_k85_whole_latest_turns.main.body.getD i (.Pass ⟨0, 0, 0, 0⟩)
abbrev s__wall : Stmt := top 0
abbrev s_NoNumber_init : Stmt := inClass (top 5) 0
abbrev s_NoName_init : Stmt := inClass (top 6) 0
abbrev s_NoShare_init : Stmt := inClass (top 7) 0
abbrev s_Doubled_init : Stmt := inClass (top 8) 0
abbrev s_TooMuch_init : Stmt := inClass (top 9) 0
abbrev s_NoGuest_init : Stmt := inClass (top 10) 0
abbrev s_Full_init : Stmt := inClass (top 11) 0
abbrev s_is_whole : Stmt := top 15
abbrev s_is_name : Stmt := top 16
abbrev s_need_length : Stmt := top 21
abbrev s_need_share : Stmt := top 22
abbrev s_Portion_init : Stmt := inClass (top 23) 0
abbrev s_Portion_begin : Stmt := inClass (top 23) 1
abbrev s_Portion_doubled : Stmt := inClass (top 23) 2
abbrev s_Shares_init : Stmt := inClass (top 24) 0
abbrev s_Shares_need_guest : Stmt := inClass (top 24) 1
abbrev s_Shares_need_room_for : Stmt := inClass (top 24) 2
abbrev s_Shares_come : Stmt := inClass (top 24) 3
abbrev s_Shares_go : Stmt := inClass (top 24) 4
abbrev s_Shares_change : Stmt := inClass (top 24) 5
abbrev s_Shares_promised_one : Stmt := inClass (top 24) 6
abbrev s_Shares_free_one : Stmt := inClass (top 24) 7
abbrev s_Shares_deal : Stmt := inClass (top 24) 8
abbrev s_Shares_length : Stmt := inClass (top 24) 9
abbrev s_Shares_names : Stmt := inClass (top 24) 10
abbrev s_Shares_promise : Stmt := inClass (top 24) 11
abbrev s_Shares_ceiling : Stmt := inClass (top 24) 12
abbrev s_Shares_counting : Stmt := inClass (top 24) 13
abbrev s_Shares_used : Stmt := inClass (top 24) 14
abbrev s_Shares_passed : Stmt := inClass (top 24) 15
abbrev s_Shares_promised : Stmt := inClass (top 24) 16
abbrev s_Shares_dealt : Stmt := inClass (top 24) 17
abbrev s_Shares_twin : Stmt := inClass (top 24) 18
abbrev s_are_shares : Stmt := top 25
abbrev s_need_case : Stmt := top 28
abbrev s_ahead_by_promise : Stmt := top 29
abbrev s_ahead : Stmt := top 30
abbrev s_turn_of : Stmt := top 31
abbrev s_latest : Stmt := top 32
abbrev s_at_least_in : Stmt := top 33
abbrev s_at_least : Stmt := top 34
abbrev s_worst : Stmt := top 35
abbrev s_next_of : Stmt := top 36
abbrev s__law_cell : Stmt := top 38
abbrev s__law_box : Stmt := top 39
abbrev s__law_take : Stmt := top 40
abbrev s__law_same : Stmt := top 41
abbrev s__law_deal : Stmt := top 42
abbrev s__law_stretch : Stmt := top 43
abbrev s__law_case : Stmt := top 44
abbrev s__law_readiness : Stmt := top 45
abbrev s__law_by_shares : Stmt := top 46
abbrev s__law_name_right : Stmt := top 47
abbrev s_law : Stmt := top 48
structure Txt (K : PySem.W.Frag) (mg : Str → Option Value) : Prop where
  b_KeyError : mg "KeyError" = none
  b_LookupError : mg "LookupError" = none
  b_ValueError : mg "ValueError" = none
  b_abs : mg "abs" = none
  b_all : mg "all" = none
  b_bool : mg "bool" = none
  b_dict : mg "dict" = none
  b_divmod : mg "divmod" = none
  b_int : mg "int" = none
  b_isinstance : mg "isinstance" = none
  b_len : mg "len" = none
  b_list : mg "list" = none
  b_max : mg "max" = none
  b_min : mg "min" = none
  b_range : mg "range" = none
  b_str : mg "str" = none
  b_sum : mg "sum" = none
  b_tuple : mg "tuple" = none
  c_LETTERS : ∃ t, mg "LETTERS" = some (.str "abcdefghijklmnopqrstuvwxyz" t)
  c_LONGEST_NAME : ∃ t, mg "LONGEST_NAME" = some (.int (8) t)
  c_LEAST_LENGTH : ∃ t, mg "LEAST_LENGTH" = some (.int (4) t)
  c_MOST_LENGTH : ∃ t, mg "MOST_LENGTH" = some (.int (60) t)
  c_MOST_GUESTS : ∃ t, mg "MOST_GUESTS" = some (.int (6) t)
  c_MOST_TURNS : ∃ t, mg "MOST_TURNS" = some (.int (400) t)
  g_GuestError : GX.GAt K mg GX.bVE "GuestError" (He.ga K "GuestError")
  g_Missing : GX.GAt K mg GX.bKE "Missing" (He.ga K "Missing")
  g_Barred : GX.GAt K mg GX.bLE "Barred" (He.ga K "Barred")
  x_NoNumber : ∃ fI fd, GX.XAt K mg GX.bVE "NoNumber" "found" "NoNumber.__init__" s_NoNumber_init (He.ga K "NoNumber") fI fd
  x_NoName : ∃ fI fd, GX.XAt K mg GX.bVE "NoName" "found" "NoName.__init__" s_NoName_init (He.ga K "NoName") fI fd
  x_NoShare : ∃ fI fd, GX.XAt K mg GX.bVE "NoShare" "found" "NoShare.__init__" s_NoShare_init (He.ga K "NoShare") fI fd
  x_Doubled : ∃ fI fd, GX.XAt K mg GX.bVE "Doubled" "found" "Doubled.__init__" s_Doubled_init (He.ga K "Doubled") fI fd
  x_TooMuch : ∃ fI fd, GX.XAt K mg GX.bVE "TooMuch" "many" "TooMuch.__init__" s_TooMuch_init (He.ga K "TooMuch") fI fd
  x_NoGuest : ∃ fI fd, GX.XAt K mg GX.bKE "NoGuest" "found" "NoGuest.__init__" s_NoGuest_init (He.ga K "NoGuest") fI fd
  x_Full : ∃ fI fd, GX.XAt K mg GX.bLE "Full" "many" "Full.__init__" s_Full_init (He.ga K "Full") fI fd
  a__wall : ∃ f fd, RP.At K mg "_wall" s__wall f fd
  a_is_whole : ∃ f fd, RP.At K mg "is_whole" s_is_whole f fd
  a_is_name : ∃ f fd, RP.At K mg "is_name" s_is_name f fd
  a_need_length : ∃ f fd, RP.At K mg "need_length" s_need_length f fd
  a_need_share : ∃ f fd, RP.At K mg "need_share" s_need_share f fd
  a_are_shares : ∃ f fd, RP.At K mg "are_shares" s_are_shares f fd
  a_need_case : ∃ f fd, RP.At K mg "need_case" s_need_case f fd
  a_ahead_by_promise : ∃ f fd, RP.At K mg "ahead_by_promise" s_ahead_by_promise f fd
  a_ahead : ∃ f fd, RP.At K mg "ahead" s_ahead f fd
  a_turn_of : ∃ f fd, RP.At K mg "turn_of" s_turn_of f fd
  a_latest : ∃ f fd, RP.At K mg "latest" s_latest f fd
  a_at_least_in : ∃ f fd, RP.At K mg "at_least_in" s_at_least_in f fd
  a_at_least : ∃ f fd, RP.At K mg "at_least" s_at_least f fd
  a_worst : ∃ f fd, RP.At K mg "worst" s_worst f fd
  a_next_of : ∃ fd, RP.At K mg "next_of" s_next_of (He.fAd K ("next_of", none)) fd
  a__law_cell : ∃ f fd, RP.At K mg "_law_cell" s__law_cell f fd
  a__law_box : ∃ f fd, RP.At K mg "_law_box" s__law_box f fd
  a__law_take : ∃ f fd, RP.At K mg "_law_take" s__law_take f fd
  a__law_same : ∃ f fd, RP.At K mg "_law_same" s__law_same f fd
  a__law_deal : ∃ f fd, RP.At K mg "_law_deal" s__law_deal f fd
  a__law_stretch : ∃ f fd, RP.At K mg "_law_stretch" s__law_stretch f fd
  a__law_case : ∃ f fd, RP.At K mg "_law_case" s__law_case f fd
  a__law_readiness : ∃ f fd, RP.At K mg "_law_readiness" s__law_readiness f fd
  a__law_by_shares : ∃ f fd, RP.At K mg "_law_by_shares" s__law_by_shares f fd
  a__law_name_right : ∃ f fd, RP.At K mg "_law_name_right" s__law_name_right f fd
  a_law : ∃ f fd, RP.At K mg "law" s_law f fd
  i_Portion : ∃ fd, RP.IAt K mg "Portion" "Portion.__init__" s_Portion_init fd
  m_Portion_begin : ∃ fd, RP.MAt K "Portion" "begin" "Portion.begin" s_Portion_begin [] fd
  n_Portion_told_promise : NoAttr K (He.ga K "Portion") "told_promise"
  n_Portion_told_ceiling : NoAttr K (He.ga K "Portion") "told_ceiling"
  n_Portion_now_promise : NoAttr K (He.ga K "Portion") "now_promise"
  n_Portion_now_ceiling : NoAttr K (He.ga K "Portion") "now_ceiling"
  n_Portion_turns_used : NoAttr K (He.ga K "Portion") "turns_used"
  i_Shares : ∃ fd, RP.IAt K mg "Shares" "Shares.__init__" s_Shares_init fd
  m_Shares_need_guest : ∃ fd, RP.MAt K "Shares" "need_guest" "Shares.need_guest" s_Shares_need_guest [] fd
  m_Shares_need_room_for : ∃ fd, RP.MAt K "Shares" "need_room_for" "Shares.need_room_for" s_Shares_need_room_for [("but", .int (0))] fd
  m_Shares_come : ∃ fd, RP.MAt K "Shares" "come" "Shares.come" s_Shares_come [] fd
  m_Shares_promised_one : ∃ fd, RP.MAt K "Shares" "promised_one" "Shares.promised_one" s_Shares_promised_one [] fd
  m_Shares_free_one : ∃ fd, RP.MAt K "Shares" "free_one" "Shares.free_one" s_Shares_free_one [] fd
  m_Shares_deal : ∃ fd, RP.MAt K "Shares" "deal" "Shares.deal" s_Shares_deal [] fd
  m_Shares_promised : ∃ fd, RP.MAt K "Shares" "promised" "Shares.promised" s_Shares_promised [] fd
  n_Shares_own_length : NoAttr K (He.ga K "Shares") "own_length"
  n_Shares_portions : NoAttr K (He.ga K "Shares") "portions"
  n_Shares_turns_passed : NoAttr K (He.ga K "Shares") "turns_passed"
  n_Shares_all_dealt : NoAttr K (He.ga K "Shares") "all_dealt"
  n_Shares_turns_used : NoAttr K (He.ga K "Shares") "turns_used"
section
variable {P : Program} {w : World} {K : PySem.W.Frag} {mg : Str → Option Value} {base : Heap}
theorem sc_NoNumber_init : FnScope ["self", "found"] ["self", "found"] (defScope s_NoNumber_init) := ⟨rfl, rfl, rfl, by decide +kernel, rfl, by decide +kernel, by decide +kernel⟩
theorem xd_NoNumber (T : Txt K mg) : GX.XDef P w K mg base GX.bVE "NoNumber" "found" ["self", "found"] (He.ga K "NoNumber") := by
  obtain ⟨fI, fd, F⟩ := T.x_NoNumber
  refine GX.XDef.mk F sc_NoNumber_init rfl (fun _ _ _ _ _ _ us hl => match us, hl with | [_, _], _ => rfl) (fun cdv A outer s H E hr => ?_)
  exact ⟨_, _, _, pss_cons (ps_expr (GX.pe_ginit T.g_GuestError.gb GX.bVE_ok (by rfl) T.g_GuestError.g (pa_cons (pv 0) (pa_cons pe_str pa_nil)))) (pss_one (GX.ps_xst (pv 0) (pv 1))),
    fun a v H Q h => ⟨_, rfl, h _⟩, fun a v H Q h => ⟨_, rfl, h⟩, fun a v H Q h => ⟨_, rfl, h⟩⟩
theorem pmk_NoNumber {X : Cx} {e : Expr} {te : TE} {p pos : Pos} {n : Nat} (hr : Room n X.A) (T : Txt X.K X.mg) (ha1 : PA X [e] (tCons te tNil)) (hg : Gl X "NoNumber" := by rfl) (hn : 2 ≤ n := by decide)
    (he : starEach [e] X.env = (false, eval e X.env) :: starEach [] X.env := by rfl) (hpl : (backTo pos (starEach [] X.env)).any (·.1) = false := by rfl) :
    PMk X (.Call (.Name "NoNumber" p) [e] [] pos) (GX.tMkX (He.ga X.K "NoNumber") "found" te) := GX.pmk_at (xd_NoNumber T) hr hn hg ha1 (by decide) he hpl
theorem sc_NoName_init : FnScope ["self", "found"] ["self", "found"] (defScope s_NoName_init) := ⟨rfl, rfl, rfl, by decide +kernel, rfl, by decide +kernel, by decide +kernel⟩
theorem xd_NoName (T : Txt K mg) : GX.XDef P w K mg base GX.bVE "NoName" "found" ["self", "found"] (He.ga K "NoName") := by
  obtain ⟨fI, fd, F⟩ := T.x_NoName
  refine GX.XDef.mk F sc_NoName_init rfl (fun _ _ _ _ _ _ us hl => match us, hl with | [_, _], _ => rfl) (fun cdv A outer s H E hr => ?_)
  exact ⟨_, _, _, pss_cons (ps_expr (GX.pe_ginit T.g_GuestError.gb GX.bVE_ok (by rfl) T.g_GuestError.g (pa_cons (pv 0) (pa_cons pe_str pa_nil)))) (pss_one (GX.ps_xst (pv 0) (pv 1))),
    fun a v H Q h => ⟨_, rfl, h _⟩, fun a v H Q h => ⟨_, rfl, h⟩, fun a v H Q h => ⟨_, rfl, h⟩⟩
theorem pmk_NoName {X : Cx} {e : Expr} {te : TE} {p pos : Pos} {n : Nat} (hr : Room n X.A) (T : Txt X.K X.mg) (ha1 : PA X [e] (tCons te tNil)) (hg : Gl X "NoName" := by rfl) (hn : 2 ≤ n := by decide)
    (he : starEach [e] X.env = (false, eval e X.env) :: starEach [] X.env := by rfl) (hpl : (backTo pos (starEach [] X.env)).any (·.1) = false := by rfl) :
    PMk X (.Call (.Name "NoName" p) [e] [] pos) (GX.tMkX (He.ga X.K "NoName") "found" te) := GX.pmk_at (xd_NoName T) hr hn hg ha1 (by decide) he hpl
theorem sc_NoShare_init : FnScope ["self", "found"] ["self", "found"] (defScope s_NoShare_init) := ⟨rfl, rfl, rfl, by decide +kernel, rfl, by decide +kernel, by decide +kernel⟩
theorem xd_NoShare (T : Txt K mg) : GX.XDef P w K mg base GX.bVE "NoShare" "found" ["self", "found"] (He.ga K "NoShare") := by
  obtain ⟨fI, fd, F⟩ := T.x_NoShare
  refine GX.XDef.mk F sc_NoShare_init rfl (fun _ _ _ _ _ _ us hl => match us, hl with | [_, _], _ => rfl) (fun cdv A outer s H E hr => ?_)
  exact ⟨_, _, _, pss_cons (ps_expr (GX.pe_ginit T.g_GuestError.gb GX.bVE_ok (by rfl) T.g_GuestError.g (pa_cons (pv 0) (pa_cons pe_str pa_nil)))) (pss_one (GX.ps_xst (pv 0) (pv 1))),
    fun a v H Q h => ⟨_, rfl, h _⟩, fun a v H Q h => ⟨_, rfl, h⟩, fun a v H Q h => ⟨_, rfl, h⟩⟩
theorem pmk_NoShare {X : Cx} {e : Expr} {te : TE} {p pos : Pos} {n : Nat} (hr : Room n X.A) (T : Txt X.K X.mg) (ha1 : PA X [e] (tCons te tNil)) (hg : Gl X "NoShare" := by rfl) (hn : 2 ≤ n := by decide)
    (he : starEach [e] X.env = (false, eval e X.env) :: starEach [] X.env := by rfl) (hpl : (backTo pos (starEach [] X.env)).any (·.1) = false := by rfl) :
    PMk X (.Call (.Name "NoShare" p) [e] [] pos) (GX.tMkX (He.ga X.K "NoShare") "found" te) := GX.pmk_at (xd_NoShare T) hr hn hg ha1 (by decide) he hpl
theorem sc_Doubled_init : FnScope ["self", "found"] ["self", "found"] (defScope s_Doubled_init) := ⟨rfl, rfl, rfl, by decide +kernel, rfl, by decide +kernel, by decide +kernel⟩
theorem xd_Doubled (T : Txt K mg) : GX.XDef P w K mg base GX.bVE "Doubled" "found" ["self", "found"] (He.ga K "Doubled") := by
  obtain ⟨fI, fd, F⟩ := T.x_Doubled
  refine GX.XDef.mk F sc_Doubled_init rfl (fun _ _ _ _ _ _ us hl => match us, hl with | [_, _], _ => rfl) (fun cdv A outer s H E hr => ?_)
  exact ⟨_, _, _, pss_cons (ps_expr (GX.pe_ginit T.g_GuestError.gb GX.bVE_ok (by rfl) T.g_GuestError.g (pa_cons (pv 0) (pa_cons pe_str pa_nil)))) (pss_one (GX.ps_xst (pv 0) (pv 1))),
    fun a v H Q h => ⟨_, rfl, h _⟩, fun a v H Q h => ⟨_, rfl, h⟩, fun a v H Q h => ⟨_, rfl, h⟩⟩
theorem pmk_Doubled {X : Cx} {e : Expr} {te : TE} {p pos : Pos} {n : Nat} (hr : Room n X.A) (T : Txt X.K X.mg) (ha1 : PA X [e] (tCons te tNil)) (hg : Gl X "Doubled" := by rfl) (hn : 2 ≤ n := by decide)
    (he : starEach [e] X.env = (false, eval e X.env) :: starEach [] X.env := by rfl) (hpl : (backTo pos (starEach [] X.env)).any (·.1) = false := by rfl) :
    PMk X (.Call (.Name "Doubled" p) [e] [] pos) (GX.tMkX (He.ga X.K "Doubled") "found" te) := GX.pmk_at (xd_Doubled T) hr hn hg ha1 (by decide) he hpl
theorem sc_TooMuch_init : FnScope ["self", "many"] ["self", "many"] (defScope s_TooMuch_init) := ⟨rfl, rfl, rfl, by decide +kernel, rfl, by decide +kernel, by decide +kernel⟩
theorem xd_TooMuch (T : Txt K mg) : GX.XDef P w K mg base GX.bVE "TooMuch" "many" ["self", "many"] (He.ga K "TooMuch") := by
  obtain ⟨fI, fd, F⟩ := T.x_TooMuch
  refine GX.XDef.mk F sc_TooMuch_init rfl (fun _ _ _ _ _ _ us hl => match us, hl with | [_, _], _ => rfl) (fun cdv A outer s H E hr => ?_)
  exact ⟨_, _, _, pss_cons (ps_expr (GX.pe_ginit T.g_GuestError.gb GX.bVE_ok (by rfl) T.g_GuestError.g (pa_cons (pv 0) (pa_cons pe_str pa_nil)))) (pss_one (GX.ps_xst (pv 0) (pv 1))),
    fun a v H Q h => ⟨_, rfl, h _⟩, fun a v H Q h => ⟨_, rfl, h⟩, fun a v H Q h => ⟨_, rfl, h⟩⟩
theorem pmk_TooMuch {X : Cx} {e : Expr} {te : TE} {p pos : Pos} {n : Nat} (hr : Room n X.A) (T : Txt X.K X.mg) (ha1 : PA X [e] (tCons te tNil)) (hg : Gl X "TooMuch" := by rfl) (hn : 2 ≤ n := by decide)
    (he : starEach [e] X.env = (false, eval e X.env) :: starEach [] X.env := by rfl) (hpl : (backTo pos (starEach [] X.env)).any (·.1) = false := by rfl) :
    PMk X (.Call (.Name "TooMuch" p) [e] [] pos) (GX.tMkX (He.ga X.K "TooMuch") "many" te) := GX.pmk_at (xd_TooMuch T) hr hn hg ha1 (by decide) he hpl
theorem sc_NoGuest_init : FnScope ["self", "found"] ["self", "found"] (defScope s_NoGuest_init) := ⟨rfl, rfl, rfl, by decide +kernel, rfl, by decide +kernel, by decide +kernel⟩
theorem xd_NoGuest (T : Txt K mg) : GX.XDef P w K mg base GX.bKE "NoGuest" "found" ["self", "found"] (He.ga K "NoGuest") := by
  obtain ⟨fI, fd, F⟩ := T.x_NoGuest
  refine GX.XDef.mk F sc_NoGuest_init rfl (fun _ _ _ _ _ _ us hl => match us, hl with | [_, _], _ => rfl) (fun cdv A outer s H E hr => ?_)
  exact ⟨_, _, _, pss_cons (ps_expr (GX.pe_ginit T.g_Missing.gb GX.bKE_ok (by rfl) T.g_Missing.g (pa_cons (pv 0) (pa_cons pe_str pa_nil)))) (pss_one (GX.ps_xst (pv 0) (pv 1))),
    fun a v H Q h => ⟨_, rfl, h _⟩, fun a v H Q h => ⟨_, rfl, h⟩, fun a v H Q h => ⟨_, rfl, h⟩⟩
theorem pmk_NoGuest {X : Cx} {e : Expr} {te : TE} {p pos : Pos} {n : Nat} (hr : Room n X.A) (T : Txt X.K X.mg) (ha1 : PA X [e] (tCons te tNil)) (hg : Gl X "NoGuest" := by rfl) (hn : 2 ≤ n := by decide)
    (he : starEach [e] X.env = (false, eval e X.env) :: starEach [] X.env := by rfl) (hpl : (backTo pos (starEach [] X.env)).any (·.1) = false := by rfl) :
    PMk X (.Call (.Name "NoGuest" p) [e] [] pos) (GX.tMkX (He.ga X.K "NoGuest") "found" te) := GX.pmk_at (xd_NoGuest T) hr hn hg ha1 (by decide) he hpl
theorem sc_Full_init : FnScope ["self", "many"] ["self", "many"] (defScope s_Full_init) := ⟨rfl, rfl, rfl, by decide +kernel, rfl, by decide +kernel, by decide +kernel⟩
theorem xd_Full (T : Txt K mg) : GX.XDef P w K mg base GX.bLE "Full" "many" ["self", "many"] (He.ga K "Full") := by
  obtain ⟨fI, fd, F⟩ := T.x_Full
  refine GX.XDef.mk F sc_Full_init rfl (fun _ _ _ _ _ _ us hl => match us, hl with | [_, _], _ => rfl) (fun cdv A outer s H E hr => ?_)
  exact ⟨_, _, _, pss_cons (ps_expr (GX.pe_ginit T.g_Barred.gb GX.bLE_ok (by rfl) T.g_Barred.g (pa_cons (pv 0) (pa_cons pe_str pa_nil)))) (pss_one (GX.ps_xst (pv 0) (pv 1))),
    fun a v H Q h => ⟨_, rfl, h _⟩, fun a v H Q h => ⟨_, rfl, h⟩, fun a v H Q h => ⟨_, rfl, h⟩⟩
theorem pmk_Full {X : Cx} {e : Expr} {te : TE} {p pos : Pos} {n : Nat} (hr : Room n X.A) (T : Txt X.K X.mg) (ha1 : PA X [e] (tCons te tNil)) (hg : Gl X "Full" := by rfl) (hn : 2 ≤ n := by decide)
    (he : starEach [e] X.env = (false, eval e X.env) :: starEach [] X.env := by rfl) (hpl : (backTo pos (starEach [] X.env)).any (·.1) = false := by rfl) :
    PMk X (.Call (.Name "Full" p) [e] [] pos) (GX.tMkX (He.ga X.K "Full") "many" te) := GX.pmk_at (xd_Full T) hr hn hg ha1 (by decide) he hpl
end
end K85

set_option Elab.async false
set_option linter.all false
set_option maxRecDepth 100000
set_option maxHeartbeats 1000000
namespace K85
open PySem PySem.Spec PyProof.Rows L2 RP
section
variable {P : Program} {w : World} {K : PySem.W.Frag} {mg : Str → Option Value} {base : Heap}
/-! ### is_whole -/
theorem sc_is_whole : FnScope ["thing", "low", "high"] ["thing", "low", "high"] (defScope s_is_whole) := ⟨rfl, rfl, rfl, by decide +kernel, rfl, by decide +kernel, by decide +kernel⟩
def _root_.RP.D.whole (d : D) (lo hi : Int) : Bool := match d with
  | .int i => decide (lo ≤ i) && decide (i ≤ hi)
  | _ => false
def spWhole (K : PySem.W.Frag) : Sp := fun vs H Q _ => ∃ (v : V) (d : D) (lo hi : Int), vs = [v, .int lo, .int hi] ∧ Rep K H v d ∧ Q (.bl (d.whole lo hi)) H
theorem ok_is_whole (T : Txt K mg) : Def P w K mg base 1 "is_whole" ["thing", "low", "high"] (spWhole K) := by
  obtain ⟨f, fd, F⟩ := T.a_is_whole
  refine Def.mk F sc_is_whole (fun _ _ _ _ _ _ us hl => match us, hl with | [_, _, _], _ => rfl) (fun vs H Q E h => ?_) (fun cdv A outer s H vs Q E hr h => ?_)
  · obtain ⟨v, d, lo, hi, rfl, _⟩ := h
    rfl
  · obtain ⟨v, d, lo, hi, rfl, hv, hq⟩ := h
    refine ⟨_, (pss_one (ps_ret (pe_and (pe_callB (kcall_is K rfl) (by rfl) T.b_isinstance (by decide +kernel) (pa_cons (pv 0) (pa_cons (pe_bltn (v := .ty "int") (by rfl) T.b_int (by decide +kernel) rfl) pa_nil))) (pe_and (pe_not (pe_callB (kcall_is K rfl) (by rfl) T.b_isinstance (by decide +kernel) (pa_cons (pv 0) (pa_cons (pe_bltn (v := .ty "bool") (by rfl) T.b_bool (by decide +kernel) rfl) pa_nil)))) (pe_one (pe_chain op_le op_le (pv 1) (pv 0) (pv 2))))))), ?_⟩
    refine ⟨_, rfl, rd_isi hv ⟨_, rfl, ?_⟩⟩
    cases d with
    | int i =>
      cases hv
      refine iteT ⟨_, rfl, rd_isi (.int i) ⟨_, rfl, ⟨_, rfl, ?_⟩⟩⟩
      refine iteT ⟨_, rfl, _, rfl, _, _, rfl, rfl, _, rfl, ?_⟩
      show if decide (lo ≤ i) = true then _ else _
      refine ite_dec (fun c => ⟨_, rfl, _, _, rfl, rfl, ?_⟩) (fun c => ?_)
      · have e : (D.int i).whole lo hi = decide (i ≤ hi) := by
          show (decide (lo ≤ i) && decide (i ≤ hi)) = _
          rw [c]
          rfl
        rw [e] at hq
        exact hq
      · have e : (D.int i).whole lo hi = false := by
          show (decide (lo ≤ i) && decide (i ≤ hi)) = _
          rw [c]
          rfl
        rw [e] at hq
        exact hq
    | bl b => exact iteT ⟨_, rfl, rd_isi hv ⟨_, rfl, ⟨_, rfl, iteF hq⟩⟩⟩
    | _ => exact iteF hq
theorem all_range_getD (a : Array Nat) (p : Nat → Bool) : ((List.range a.size).map fun i => p (a.getD i 0)).all id = a.toList.all p := by
  have e : a.toList = (List.range a.size).map fun i => a.getD i 0 := by
    refine List.ext_getElem (by simp) fun i h1 h2 => ?_
    have h3 : i < a.size := by simpa using h1
    simp [h3]
  rw [e, List.all_map, List.all_map]
  rfl
/-! ### is_name -/
theorem sc_is_name : FnScope ["thing", "sign"] ["thing"] (defScope s_is_name) := ⟨rfl, rfl, rfl, by decide +kernel, rfl, by decide +kernel, by decide +kernel⟩
def abc : Str := "abcdefghijklmnopqrstuvwxyz"
def okName (z : Str) : Bool := decide (1 ≤ z.length) && (decide (z.length ≤ 8) && z.cps.toList.all fun c => decide (c ∈ abc.cps.toList))
def _root_.RP.D.name (d : D) : Bool := match d with
  | .str z => okName z
  | _ => false
def spName (K : PySem.W.Frag) : Sp := fun vs H Q _ => ∃ (v : V) (d : D), vs = [v] ∧ Rep K H v d ∧ ∀ H', Same H H' → Q (.bl d.name) H'
theorem ok_is_name (T : Txt K mg) : Def P w K mg base 1 "is_name" ["thing"] (spName K) := by
  obtain ⟨f, fd, F⟩ := T.a_is_name
  refine Def.mk F sc_is_name (fun _ _ _ _ _ _ us hl => match us, hl with | [_], _ => rfl) (fun vs H Q E h => ?_) (fun cdv A outer s H vs Q E hr h => ?_)
  · obtain ⟨v, d, rfl, _⟩ := h
    rfl
  · obtain ⟨v, d, rfl, hv, hq⟩ := h
    refine ⟨_, (pss_cons (ps_if (PW.pt (pw_or (pt_not (pt_val (pe_callB (kcall_is K rfl) (by rfl) T.b_isinstance (by decide +kernel) (pa_cons (pv 0) (pa_cons (pe_bltn (v := .ty "str") (by rfl) T.b_str (by decide +kernel) rfl) pa_nil))))) (pw_or1 (pt_not (pt_chain op_le op_le pe_int (pe_callB call_len_str (by rfl) T.b_len (by decide +kernel) (pa_cons (pv 0) pa_nil)) (pe_gi (by rfl) T.c_LONGEST_NAME)))))) (pss_one (ps_ret pe_bl)) pss_nil)
      (pss_one (ps_ret (pe_callB (kcr_all K rfl rfl) (by rfl) T.b_all (by decide +kernel) (pa_cons (pe_lc (own := [("sign", 1)]) rfl sc_is_name.nd (pi_str (pv 0)) (blkOk_by (own := [("sign", 1)]) (N := ["thing", "sign"]) (sc := defScope s_is_name) (by decide +kernel)) (fun _ _ _ _ _ => (pg_name (i := 1) sc_is_name.nd rfl (Or.inl rfl))) (fun _ _ _ _ _ => pts_nil) (fun _ _ _ _ _ => (pe_cmpR op_inS (pv 1) (pe_gs (by rfl) T.c_LETTERS) (by rfl)))) pa_nil))))), ?_⟩
    refine ⟨_, rfl, rd_isi hv ⟨_, rfl, ?_⟩⟩
    cases d with
    | str z =>
      cases hv with
      | str _ hz =>
      refine iteF ⟨_, rfl, z, rfl, hz, _, _, rfl, rfl, _, rfl, ?_⟩
      show if decide ((1 : Int) ≤ (z.length : Int)) = true then _ else _
      refine ite_dec (fun c1 => ⟨_, _, rfl, rfl, _, rfl, ?_⟩) (fun c1 => ⟨_, rfl, iteT ?_⟩)
      · show if (!decide ((z.length : Int) ≤ 8)) = true then _ else _
        refine ite_dec (fun c2 => ?_) (fun c2 => ?_)
        · refine (?_ : Q (.bl false) H)
          have e : (D.str z).name = false := by
            have q : ¬ z.length ≤ 8 := by simp at c2; omega
            show okName z = false
            unfold okName
            rw [decide_eq_false q, Bool.false_and, Bool.and_false]
          rw [e] at hq
          exact hq H (Same.refl H)
        · have q1 : 1 ≤ z.length := by have := of_decide_eq_true c1; omega
          have q2 : z.length ≤ 8 := by simp at c2; omega
          refine ⟨_, rfl, z, rfl, fun L hL => ?_⟩
          refine lc_vals (w := walk_str) (fun i => some (.bl (decide (z.cps.getD i 0 ∈ abc.cps.toList)))) hL (by show z.cps.size ≤ 1000000; have : z.cps.size = z.length := rfl; omega) (fun _ _ => True.intro) ?_ ?_
          · rintro i x H1 H2 Y2 N2 hi s1 hn ⟨rfl, c, hc, rfl⟩ k1 k2
            refine ⟨rfl, ⟨_, rfl, c, abc, rfl, rfl, k1 _ _ ?_ (Same.refl _)⟩⟩
            have e : z.cps.getD i 0 = c := by rw [Array.getD_eq_getD_getElem?, hc]; rfl
            rw [e]
          · intro H2 s2 h2
            refine ⟨L, (List.range z.cps.size).map (fun i => decide (z.cps.getD i 0 ∈ abc.cps.toList)), rfl, SqL.of ?_, ?_⟩
            · rw [h2]
              congr 2
              rw [List.map_map]
              induction z.cps.size with
              | zero => rfl
              | succ n ih => rw [range_succ_filterMap, List.range_succ, List.map_append, ih]; rfl
            · have e : ((List.range z.cps.size).map fun i => decide (z.cps.getD i 0 ∈ abc.cps.toList)).all id = (D.str z).name := by
                rw [all_range_getD z.cps fun c => decide (c ∈ abc.cps.toList)]
                show _ = okName z
                unfold okName
                rw [decide_eq_true q1, decide_eq_true q2, Bool.true_and, Bool.true_and]
              rw [e]
              exact hq _ s2
      · refine (?_ : Q (.bl false) H)
        have e : (D.str z).name = false := by
          have q : ¬ 1 ≤ z.length := by simp at c1; omega
          show okName z = false
          unfold okName
          rw [decide_eq_false q, Bool.false_and]
        rw [e] at hq
        exact hq H (Same.refl H)
    | _ => exact iteT (iteT (hq H (Same.refl H)))
end
end K85

set_option Elab.async false
set_option linter.all false
set_option maxRecDepth 100000
set_option maxHeartbeats 1000000
namespace K85
open PySem PySem.Spec PyProof.Rows L2 RP
section
variable {P : Program} {w : World} {K : PySem.W.Frag} {mg : Str → Option Value} {base : Heap}
/-! ### need_length -/
theorem sc_need_length : FnScope ["length"] ["length"] (defScope s_need_length) := ⟨rfl, rfl, rfl, by decide +kernel, rfl, by decide +kernel, by decide +kernel⟩
/-- an error of the class x, its field the very thing -/
def Errs (K : PySem.W.Frag) (x f : Str) (v : V) (H : Hp) (E : XK) : Prop := ∀ (H' : Hp) (d : Addr), Same H H' → H d = none → H' d = some (.xd [(f, v)]) → E (.ref (He.ga K x)) (some d) H'
def spNeedLen (K : PySem.W.Frag) : Sp := fun vs H Q E => ∃ (v : V) (d : D), vs = [v] ∧ Rep K H v d ∧ (d.whole 4 60 = true → Q .non H) ∧ (d.whole 4 60 = false → Errs K "NoNumber" "found" v H E)
theorem ok_need_length (T : Txt K mg) (G_is_whole : Def P w K mg base 1 "is_whole" ["thing", "low", "high"] (spWhole K)) : Def P w K mg base 3 "need_length" ["length"] (spNeedLen K) := by
  obtain ⟨f, fd, F⟩ := T.a_need_length
  refine Def.mk F sc_need_length (fun _ _ _ _ _ _ us hl => match us, hl with | [_], _ => rfl) (fun vs H Q E h => ?_) (fun cdv A outer s H vs Q E hr h => ?_)
  · obtain ⟨v, d, rfl, _⟩ := h
    rfl
  · obtain ⟨v, d, rfl, hv, h1, h2⟩ := h
    refine ⟨_, (pss_one (ps_if (pt_not (pt_val (pe_d G_is_whole (hr.mono (by decide)) (by rfl) (pa_cons (pv 0) (pa_cons (pe_gi (by rfl) T.c_LEAST_LENGTH) (pa_cons (pe_gi (by rfl) T.c_MOST_LENGTH) pa_nil)))))) (pss_one (ps_raise rfl tkB (pmk_NoNumber hr T (pa_cons (pv 0) pa_nil)))) pss_nil)), ?_⟩
    refine ⟨_, rfl, v, d, 4, 60, rfl, hv, _, rfl, ?_⟩
    show if (!d.whole 4 60) = true then _ else _
    cases c : d.whole 4 60 with
    | true => exact h1 c
    | false => exact ⟨_, rfl, fun dd hd => h2 c _ dd (same_new hd) hd upd_same⟩
theorem max_if (a b : Int) : max a b = if b > a then b else a := by
  show (if a ≤ b then b else a) = _
  split <;> split <;> omega
theorem two_of {K : PySem.W.Frag} {H : Hp} {vs : List V} {ds : List D} (r : Reps K H vs ds) : (∃ p c vp vc, ds = [p, c] ∧ vs = [vp, vc] ∧ Rep K H vp p ∧ Rep K H vc c) ∨ vs.length ≠ 2 := by
  cases r with
  | nil => exact .inr (by decide)
  | cons h1 t =>
    cases t with
    | nil => exact .inr (by simp)
    | cons h2 t2 =>
      cases t2 with
      | nil => exact .inl ⟨_, _, _, _, rfl, rfl, h1, h2⟩
      | cons _ _ => exact .inr (by simp)
/-! ### are_shares -/
theorem sc_are_shares : FnScope ["thing", "length", "together", "name", "share", "promise", "ceiling"] ["thing", "length"] (defScope s_are_shares) := ⟨rfl, rfl, rfl, by decide +kernel, rfl, by decide +kernel, by decide +kernel⟩
/-- one guest's share: its promise, where all is well -/
def shEnt (len : Int) (e : Str × D) : Option Int := match e.2 with
  | .tup [p, c] => match p with
    | .int p => if okName e.1 = true ∧ (D.int p).whole 0 len = true ∧ c.whole (max 1 p) len = true then some p else none
    | _ => none
  | _ => none
theorem shEnt_tup {len : Int} {x : Str} {ds : List D} (h : ds.length ≠ 2) : shEnt len (x, .tup ds) = none := by
  match ds, h with
  | [], _ => rfl
  | [_], _ => rfl
  | [_, _], h => exact absurd rfl h
  | _ :: _ :: _ :: _, _ => rfl
def shSum (len : Int) : List (Str × D) → Option Int
  | [] => some 0
  | e :: r => match shEnt len e, shSum len r with
    | some p, some s => some (p + s)
    | _, _ => none
def _root_.RP.D.shares (d : D) (len : Int) : Bool := match d with
  | .dct l => decide (l.length ≤ 6) && (match shSum len l with
    | some s => decide (s ≤ len)
    | none => false)
  | _ => false
theorem shares_dct (l : List (Str × D)) (len : Int) : (D.dct l).shares len = (decide (l.length ≤ 6) && (match shSum len l with
    | some s => decide (s ≤ len)
    | none => false)) := rfl
theorem shSum_bad {len : Int} : ∀ {l : List (Str × D)} {i : Nat} {e : Str × D}, l[i]? = some e → shEnt len e = none → shSum len l = none
  | [], _, _, h, _ => nomatch h
  | a :: r, 0, e, h, b => by
    cases h
    unfold shSum
    rw [b]
  | a :: r, i + 1, e, h, b => by
    have ih := shSum_bad (l := r) (i := i) h b
    unfold shSum
    rw [ih]
    cases shEnt len a <;> rfl
theorem shSum_take {len : Int} : ∀ {l : List (Str × D)} {i : Nat} {e : Str × D} {s p : Int}, l[i]? = some e → shEnt len e = some p → shSum len (l.take i) = some s → shSum len (l.take (i + 1)) = some (s + p)
  | [], _, _, _, _, h, _, _ => nomatch h
  | a :: r, 0, e, s, p, h, b, c => by
    cases h
    cases c
    show shSum len [a] = _
    unfold shSum
    rw [b]
    show some (p + 0) = some (0 + p)
    rw [Int.add_comm]
  | a :: r, i + 1, e, s, p, h, b, c => by
    have c2 : shSum len (a :: r.take i) = some s := c
    unfold shSum at c2
    cases q1 : shEnt len a with
    | none =>
      rw [q1] at c2
      cases c2
    | some x =>
      cases q2 : shSum len (r.take i) with
      | none =>
        rw [q1, q2] at c2
        cases c2
      | some y =>
        rw [q1, q2] at c2
        have e2 : x + y = s := Option.some.inj c2
        have ih := shSum_take (l := r) (i := i) h b q2
        show shSum len (a :: r.take (i + 1)) = _
        unfold shSum
        rw [q1, ih]
        show some (x + (y + p)) = some (s + p)
        rw [← e2, Int.add_assoc]
def spShares (K : PySem.W.Frag) : Sp := fun vs H Q _ => ∃ (R : Hp) (v : V) (d : D) (len : Int), vs = [v, .int len] ∧ Same R H ∧ Plain R ∧ Rep K R v d ∧ ∀ H', Same H H' → Q (.bl (d.shares len)) H'
theorem ok_are_shares (T : Txt K mg) (G_is_whole : Def P w K mg base 1 "is_whole" ["thing", "low", "high"] (spWhole K)) (G_is_name : Def P w K mg base 1 "is_name" ["thing"] (spName K)) :
    Def P w K mg base 3 "are_shares" ["thing", "length"] (spShares K) := by
  obtain ⟨f, fd, F⟩ := T.a_are_shares
  refine Def.mk F sc_are_shares (fun _ _ _ _ _ _ us hl => match us, hl with | [_, _], _ => rfl) (fun vs H Q E h => ?_) (fun cdv A outer s H vs Q E hr h => ?_)
  · obtain ⟨R, v, d, len, rfl, _⟩ := h
    rfl
  · obtain ⟨R, v, d, len, rfl, sR, pR, hv, hq⟩ := h
    refine ⟨_, (pss_cons (ps_if (PW.pt (pw_or (pt_not (pt_val (pe_callB (kcall_is K rfl) (by rfl) T.b_isinstance (by decide +kernel) (pa_cons (pv 0) (pa_cons (pe_bltn (v := .ty "dict") (by rfl) T.b_dict (by decide +kernel) rfl) pa_nil))))) (pw_or1 (pt_cmpR op_gt (pe_callB call_lenD (by rfl) T.b_len (by decide +kernel) (pa_cons (pv 0) pa_nil)) (pe_gi (by rfl) T.c_MOST_GUESTS) (nomark _))))) (pss_one (ps_ret pe_bl)) pss_nil)
      (pss_cons (ps_set (i := 2) sc_are_shares.nd rfl (Or.inl rfl) pe_int)
      (pss_cons (ps_lock (ps_for (passes_of rfl) rfl (pi_items (pv 0)) (kpg_tup K rfl (n := 2) rfl (pgs_cons (pg_name (i := 3) sc_are_shares.nd rfl (Or.inl rfl)) (pgs_cons (pg_name (i := 4) sc_are_shares.nd rfl (Or.inl rfl)) pgs_nil)))
        (pss_cons (ps_if (PW.pt (pw_or (pt_not (pt_val (pe_d G_is_name (hr.mono (by decide)) (by rfl) (pa_cons (pv 3) pa_nil)))) (pw_or (pt_not (pt_val (pe_callB (kcall_is K rfl) (by rfl) T.b_isinstance (by decide +kernel) (pa_cons (pv 4) (pa_cons (pe_bltn (v := .ty "tuple") (by rfl) T.b_tuple (by decide +kernel) rfl) pa_nil))))) (pw_or1 (pt_cmpR op_ne (pe_callB (kcall_len_seq K rfl) (by rfl) T.b_len (by decide +kernel) (pa_cons (pv 4) pa_nil)) pe_int (nomark _)))))) (pss_one (ps_ret pe_bl)) pss_nil)
      (pss_cons (ps_asg (pv 4) (kpg_tup K rfl (n := 2) rfl (pgs_cons (pg_name (i := 5) sc_are_shares.nd rfl (Or.inl rfl)) (pgs_cons (pg_name (i := 6) sc_are_shares.nd rfl (Or.inl rfl)) pgs_nil))))
      (pss_cons (ps_if (PW.pt (pw_or (pt_not (pt_val (pe_d G_is_whole (hr.mono (by decide)) (by rfl) (pa_cons (pv 5) (pa_cons pe_int (pa_cons (pv 1) pa_nil)))))) (pw_or1 (pt_not (pt_val (pe_d G_is_whole (hr.mono (by decide)) (by rfl) (pa_cons (pv 6) (pa_cons (pe_callB (call_max2 rfl) (by rfl) T.b_max (by decide +kernel) (pa_cons pe_int (pa_cons (pv 5) pa_nil))) (pa_cons (pv 1) pa_nil))))))))) (pss_one (ps_ret pe_bl)) pss_nil)
      (pss_one (ps_aug (i := 2) sc_are_shares.nd rfl (Or.inl rfl) (pv 5) ip_add)))))))
      (pss_one (ps_ret (pe_cmpR op_le (pv 2) (pv 1) (nomark _))))))), ?_⟩
    refine ⟨_, rfl, rd_isi (hv.same sR) ⟨_, rfl, ?_⟩⟩
    cases d with
    | dct l =>
      cases hv with
      | @dct a kvs _ hk rk =>
      have hH : H a = some (.dK kvs) := sR _ _ (pR.rd hk)
      have hl := rk.len
      refine iteF ⟨_, rfl, a, kvs, rfl, hH, _, _, rfl, rfl, _, rfl, ?_⟩
      show if decide ((6 : Int) < (kvs.length : Int)) = true then _ else _
      refine ite_dec (fun c1 => ?_) (fun c1 => ?_)
      · refine (?_ : Q (.bl false) H)
        have e : (D.dct l).shares len = false := by
          have q : ¬ l.length ≤ 6 := by
            have := of_decide_eq_true c1
            omega
          rw [shares_dct, decide_eq_false q, Bool.false_and]
        rw [e] at hq
        exact hq H (Same.refl H)
      · have hl6 : l.length ≤ 6 := by
          have := of_decide_eq_false c1
          omega
        have bad : ∀ {i : Nat} {e : Str × D} {H' : Hp} {od : Obj}, l[i]? = some e → shEnt len e = none → Same (upd H a (.frz od (.dK kvs))) H' → H' a = some (.frz od (.dK kvs)) ∧ Q (.bl false) (upd H' a (.dK kvs)) := fun {i e H' od} h1 h2 s => by
          have e2 : (D.dct l).shares len = false := by
            rw [shares_dct, shSum_bad h1 h2, Bool.and_false]
          have z := hq _ (Same.unlock hH s)
          rw [e2] at z
          exact ⟨s _ _ upd_same, z⟩
        refine ⟨a, .dK kvs, hH, True.intro, fun od => ⟨_, rfl, a, od, kvs, rfl, upd_same, ?_⟩⟩
        refine for_it (w := walk_items) (fun i σ H' => ∃ (s : Int) (o3 o4 o5 o6 : Option V), σ = [some (.ref a), some (.int len), some (.int s), o3, o4, o5, o6] ∧ shSum len (l.take i) = some s ∧ Same (upd H a (.frz od (.dK kvs))) H')
          ⟨0, none, none, none, none, rfl, rfl, Same.refl _⟩ (fun i σ H' _ ⟨_, _, _, _, _, _, _, s⟩ => s _ _ upd_same) ?_ ?_
        · rintro i x σ H1 H2 hi ⟨s, o3, o4, o5, o6, rfl, hs, s1⟩ ⟨t, kx, vx, rfl, ht, rfl, hkx, hvx⟩
          obtain ⟨ky, hky, rfl⟩ := Option.map_eq_some_iff.mp hkx
          obtain ⟨kz, hkz, rfl⟩ := Option.map_eq_some_iff.mp hvx
          rw [hky] at hkz
          cases hkz
          obtain ⟨k, z⟩ := ky
          obtain ⟨x, d, hd, rfl, hx, rz⟩ := rk.get hky
          have lq : Lq R (upd H1 t (.tup [.str x, z])) := ((Lq.of sR).lock hH True.intro).trans ((Lq.of s1).trans (Lq.of (same_new ht)))
          have s2 : Same (upd H a (.frz od (.dK kvs))) (upd H1 t (.tup [.str x, z])) := s1.trans (same_new ht)
          have rz' := rz.mono lq
          refine ⟨t, [.str x, z], rfl, SqT.of upd_same, rfl, _, _, rfl, _, _, rfl, rfl, ?_⟩
          -- the first test
          refine ⟨_, rfl, .str x, .str x, rfl, .str x hx, fun H3 s3 => ?_⟩
          refine ⟨_, rfl, ?_⟩
          show if (!okName x) = true then _ else _
          cases c2 : okName x with
          | false =>
            refine bad hd ?_ (s2.trans s3)
            unfold shEnt
            split
            · split
              · rw [if_neg]
                intro q
                rw [c2] at q
                cases q.1
              · rfl
            · rfl
          | true =>
            refine iteF ⟨_, rfl, rd_isi (rz'.same s3) ⟨_, rfl, ?_⟩⟩
            have no : shEnt len (x, d) = none → H3 a = some (.frz od (.dK kvs)) ∧ Q (.bl false) (upd H3 a (.dK kvs)) := fun q => bad hd q (s2.trans s3)
            cases d with
            | tup ds =>
              cases rz' with
              | @tup b ys _ hT rT =>
              have hT3 : SqT K H3 b ys := (Lq.of s3).tup hT
              have r3 := rT.same s3
              refine iteF ⟨_, rfl, b, ys, rfl, .inr hT3, rfl, _, rfl, ?_⟩
              rcases two_of r3 with ⟨p, c, vp, vc, rfl, rfl, rp, rc⟩ | hne
              · skip
                refine ⟨_, rfl, b, [vp, vc], rfl, hT3, rfl, _, _, rfl, _, _, rfl, rfl, ?_⟩
                refine ⟨_, rfl, _, rfl, vp, p, 0, len, rfl, rp, _, rfl, ?_⟩
                show if (!p.whole 0 len) = true then _ else _
                cases c3 : p.whole 0 len with
                | false =>
                  refine no ?_
                  cases p with
                  | int p =>
                    show (if okName x = true ∧ (D.int p).whole 0 len = true ∧ c.whole (max 1 p) len = true then some p else none) = none
                    rw [if_neg]
                    intro q
                    rw [c3] at q
                    exact absurd q.2.1 (by decide)
                  | _ => rfl
                | true =>
                  cases p with
                  | int p =>
                    cases rp
                    refine iteF ⟨_, rfl, _, rfl, _, _, rfl, ⟨_, rfl, ?_⟩⟩
                    refine ⟨vc, c, max 1 p, len, by rw [max_if], rc, _, rfl, ?_⟩
                    show if (!c.whole (max 1 p) len) = true then _ else _
                    cases c4 : c.whole (max 1 p) len with
                    | false =>
                      refine no ?_
                      show (if okName x = true ∧ (D.int p).whole 0 len = true ∧ c.whole (max 1 p) len = true then some p else none) = none
                      rw [if_neg]
                      intro q
                      rw [c4] at q
                      exact absurd q.2.2 (by decide)
                    | true =>
                      have he : shEnt len (x, .tup [.int p, c]) = some p := by
                        show (if okName x = true ∧ (D.int p).whole 0 len = true ∧ c.whole (max 1 p) len = true then some p else none) = some p
                        rw [if_pos ⟨c2, c3, c4⟩]
                      refine ⟨_, rfl, _, rfl, _, _, rfl, rfl, ?_⟩
                      exact ⟨s + p, _, _, _, _, rfl, shSum_take hd he hs, s2.trans s3⟩
                  | _ => cases c3
              · have hq : (!decide (V.int (ys.length : Int) = V.int 2)) = true := by
                  have z : ys.length ≠ 2 := hne
                  simp
                  omega
                show if (!decide (V.int (ys.length : Int) = V.int 2)) = true then _ else _
                rw [if_pos hq]
                exact no (shEnt_tup (by rw [← r3.len]; exact hne))
            | _ => exact iteT (no rfl)
        · rintro σ H1 ⟨s, o3, o4, o5, o6, rfl, hs, s1⟩
          refine ⟨s1 _ _ upd_same, ?_⟩
          have hs2 : shSum len l = some s := by
            rw [hl, List.take_length] at hs
            exact hs
          refine ⟨_, rfl, _, rfl, _, _, rfl, rfl, ?_⟩
          have e : (D.dct l).shares len = decide (s ≤ len) := by
            rw [shares_dct, hs2, decide_eq_true hl6, Bool.true_and]
          rw [e] at hq
          exact hq _ (Same.unlock hH s1)
    | _ => exact iteT (iteT (hq H (Same.refl H)))
end
end K85

set_option Elab.async false
set_option linter.all false
set_option maxRecDepth 100000
set_option maxHeartbeats 1000000
namespace RP
open PySem PySem.Spec PyProof.Rows L2
/-- a dict's value -/
def dlook (l : List (Str × D)) (z : Str) : Option D := (l.find? fun e => decide (e.1 = z)).map (·.2)
theorem RepK.val {K : PySem.W.Frag} {H : Hp} (z : Str) : ∀ {kvs : List (Key × V)} {ds : List (Str × D)}, RepK K H kvs ds →
    (∃ v d, valV kvs (.inr z) = some v ∧ dlook ds z = some d ∧ Rep K H v d) ∨ (valV kvs (.inr z) = none ∧ dlook ds z = none)
  | _, _, .nil => .inr ⟨rfl, rfl⟩
  | _, _, .cons (x := x) (v := v) (d := d) (kvs := kvs) (ds := ds) hx h t => by
    by_cases e : x = z
    · refine .inl ⟨v, d, valV_pos (by rw [e]), ?_, h⟩
      unfold dlook
      rw [List.find?_cons]
      simp [e]
    · have e2 : ¬ (Sum.inr x : Key) = Sum.inr z := fun q => e (Sum.inr.inj q)
      have e3 : dlook ((x, d) :: ds) z = dlook ds z := by
        unfold dlook
        rw [List.find?_cons]
        simp [e]
      rw [valV_neg (by exact e2), e3]
      exact RepK.val z t
theorem dlook_any (l : List (Str × D)) (z : Str) : (dlook l z).isSome = l.any fun e => decide (e.1 = z) := by
  unfold dlook
  rw [Option.isSome_map]
  induction l with
  | nil => rfl
  | cons a r ih =>
    rw [List.find?_cons, List.any_cons]
    cases h : decide (a.1 = z) with
    | true => rfl
    | false => rw [Bool.false_or]; exact ih
/-- what is read off a dict -/
theorem RepK.get_of {K : PySem.W.Frag} {H : Hp} {a : Addr} {kvs : List (Key × V)} {ds : List (Str × D)} {z : Str} {d : D} (r : RepK K H kvs ds) (h : Rd H a (.dK kvs)) (e : dlook ds z = some d) : ∃ v, DGet H a (.str z) (some v) ∧ Rep K H v d := by
  rcases r.val z with ⟨v, d2, e1, e2, q⟩ | ⟨_, e2⟩
  · rw [e] at e2
    cases e2
    exact ⟨v, .inl ⟨kvs, .inr z, h, rfl, e1.symm⟩, q⟩
  · rw [e] at e2
    cases e2
end RP
namespace K85
open PySem PySem.Spec PyProof.Rows L2 RP
section
variable {P : Program} {w : World} {K : PySem.W.Frag} {mg : Str → Option Value} {base : Heap}
theorem Errs.same {x f : Str} {v : V} {H H1 : Hp} {E : XK} (s : Same H H1) (h : Errs K x f v H E) : Errs K x f v H1 E := fun H' d s' hd e => h H' d (s.trans s') (s.free hd) e
/-! ### need_case -/
theorem sc_need_case : FnScope ["length", "guests", "name"] ["length", "guests", "name"] (defScope s_need_case) := ⟨rfl, rfl, rfl, by decide +kernel, rfl, by decide +kernel, by decide +kernel⟩
def _root_.RP.D.keyOf (dn dg : D) : Bool := match dn, dg with
  | .str z, .dct l => (dlook l z).isSome
  | _, _ => false
/-- 0: no length, 1: no shares, 2: no guest, 3: all is well -/
def caseR (dl dg dn : D) : Nat := match dl with
  | .int len => if (D.int len).whole 4 60 = true then if dg.shares len = true then if dn.keyOf dg = true then 3 else 2 else 1 else 0
  | _ => 0
def spNeedCase (K : PySem.W.Frag) : Sp := fun vs H Q E => ∃ (R : Hp) (vl vg vn : V) (dl dg dn : D), vs = [vl, vg, vn] ∧ Same R H ∧ Plain R ∧ Rep K R vl dl ∧ Rep K R vg dg ∧ Rep K R vn dn ∧
  (caseR dl dg dn = 0 → Errs K "NoNumber" "found" vl H E) ∧ (caseR dl dg dn = 1 → Errs K "NoShare" "found" vg H E) ∧ (caseR dl dg dn = 2 → Errs K "NoGuest" "found" vn H E) ∧ (caseR dl dg dn = 3 → ∀ H', Same H H' → Q .non H')
theorem whole_int {d : D} {lo hi : Int} (h : d.whole lo hi = true) : ∃ i, d = .int i ∧ lo ≤ i ∧ i ≤ hi := by
  cases d with
  | int i =>
    have h2 : (decide (lo ≤ i) && decide (i ≤ hi)) = true := h
    rw [Bool.and_eq_true] at h2
    exact ⟨i, rfl, of_decide_eq_true h2.1, of_decide_eq_true h2.2⟩
  | _ => cases h
theorem shares_dct_of {d : D} {len : Int} (h : d.shares len = true) : ∃ l, d = .dct l := by
  cases d with
  | dct l => exact ⟨l, rfl⟩
  | _ => cases h
theorem ok_need_case (T : Txt K mg) (G_need_length : Def P w K mg base 3 "need_length" ["length"] (spNeedLen K)) (G_are_shares : Def P w K mg base 3 "are_shares" ["thing", "length"] (spShares K)) :
    Def P w K mg base 4 "need_case" ["length", "guests", "name"] (spNeedCase K) := by
  obtain ⟨f, fd, F⟩ := T.a_need_case
  refine Def.mk F sc_need_case (fun _ _ _ _ _ _ us hl => match us, hl with | [_, _, _], _ => rfl) (fun vs H Q E h => ?_) (fun cdv A outer s H vs Q E hr h => ?_)
  · obtain ⟨R, vl, vg, vn, dl, dg, dn, rfl, _⟩ := h
    rfl
  · obtain ⟨R, vl, vg, vn, dl, dg, dn, rfl, sR, pR, hl, hg, hn, k0, k1, k2, k3⟩ := h
    refine ⟨_, (pss_cons (ps_expr (pe_dX G_need_length (hr.mono (by decide)) (by rfl) tkB (pa_cons (pv 0) pa_nil)))
      (pss_cons (ps_if (pt_not (pt_val (pe_d G_are_shares (hr.mono (by decide)) (by rfl) (pa_cons (pv 1) (pa_cons (pv 0) pa_nil))))) (pss_one (ps_raise rfl tkB (pmk_NoShare hr T (pa_cons (pv 1) pa_nil)))) pss_nil)
      (pss_one (ps_if (PW.pt (pw_or (pt_not (pt_val (pe_callB (kcall_is K rfl) (by rfl) T.b_isinstance (by decide +kernel) (pa_cons (pv 2) (pa_cons (pe_bltn (v := .ty "str") (by rfl) T.b_str (by decide +kernel) rfl) pa_nil))))) (pw_or1 (pt_cmp (pc_dnotin (hu_of hr) (pv 2) (pv 1)))))) (pss_one (ps_raise rfl tkB (pmk_NoGuest hr T (pa_cons (pv 2) pa_nil)))) pss_nil)))), ?_⟩
    refine ⟨_, rfl, vl, dl, rfl, hl.same sR, fun c0 => ?_, fun c0 => k0 ?_⟩
    · obtain ⟨len, rfl, _, _⟩ := whole_int c0
      cases hl
      refine ⟨_, rfl, _, rfl, R, vg, dg, len, rfl, sR, pR, hg, fun H1 s1 => ⟨_, rfl, ?_⟩⟩
      show if (!dg.shares len) = true then _ else _
      have hc : caseR (.int len) dg dn = if dg.shares len = true then if dn.keyOf dg = true then 3 else 2 else 1 := by
        show (if (D.int len).whole 4 60 = true then _ else _) = _
        rw [if_pos c0]
      cases c1 : dg.shares len with
      | false =>
        rw [c1] at hc
        exact ⟨_, rfl, fun dd hd => (k1 hc).same s1 _ dd (same_new hd) hd upd_same⟩
      | true =>
        rw [c1] at hc
        obtain ⟨l, rfl⟩ := shares_dct_of c1
        refine iteF ⟨_, rfl, rd_isi (hn.same (sR.trans s1)) ⟨_, rfl, ?_⟩⟩
        have raise : caseR (.int len) (.dct l) dn = 2 → ∀ dd, H1 dd = none → E (.ref (He.ga K "NoGuest")) (some dd) (upd H1 dd (.xd [("found", vn)])) := fun z dd hd => (k2 z).same s1 _ dd (same_new hd) hd upd_same
        cases dn with
        | str z =>
          cases hn with
          | str _ hz =>
          cases hg with
          | @dct a kvs _ hk rk =>
          have hk1 := ((Lq.of sR).trans (Lq.of s1)) _ _ hk
          refine iteF ⟨_, rfl, _, rfl, a, valV kvs (.inr z), rfl, .inl ⟨kvs, .inr z, hk1, rfl, rfl⟩, _, rfl, ?_⟩
          rcases rk.val z with ⟨v, d, e1, e2, _⟩ | ⟨e1, e2⟩
          · rw [e1]
            refine k3 ?_ H1 s1
            rw [hc]
            show (if ((dlook l z).isSome) = true then 3 else 2) = 3
            rw [e2]
            rfl
          · rw [e1]
            refine ⟨_, rfl, raise ?_⟩
            rw [hc]
            show (if ((dlook l z).isSome) = true then 3 else 2) = 2
            rw [e2]
            rfl
        | _ => exact iteT ⟨_, rfl, raise (by rw [hc]; rfl)⟩
    · cases dl with
      | int len =>
        show (if (D.int len).whole 4 60 = true then _ else 0) = 0
        rw [c0]
        rfl
      | _ => rfl
end
end K85

set_option Elab.async false
set_option linter.all false
set_option maxRecDepth 100000
set_option maxHeartbeats 1000000
namespace K85
open PySem PySem.Spec PyProof.Rows L2 RP
/-! ### the data of a case: guests with their shares -/
abbrev G3 := Str × Int × Int
def gD (gs : List G3) : D := .dct (gs.map fun e => (e.1, .tup [.int e.2.1, .int e.2.2]))
structure GsOk (len : Int) (gs : List G3) : Prop where
  n6 : gs.length ≤ 6
  nd : (gs.map (·.1)).Nodup
  nm : ∀ e ∈ gs, okName e.1 = true
  sh : ∀ e ∈ gs, 0 ≤ e.2.1 ∧ e.2.1 ≤ len ∧ max 1 e.2.1 ≤ e.2.2 ∧ e.2.2 ≤ len
  sum : (gs.map (·.2.1)).sum ≤ len
  len : 4 ≤ len ∧ len ≤ 60
theorem shSum_gs {len : Int} : ∀ {gs : List G3}, (∀ e ∈ gs, okName e.1 = true) → (∀ e ∈ gs, 0 ≤ e.2.1 ∧ e.2.1 ≤ len ∧ max 1 e.2.1 ≤ e.2.2 ∧ e.2.2 ≤ len) → shSum len (gs.map fun e => (e.1, D.tup [.int e.2.1, .int e.2.2])) = some (gs.map (·.2.1)).sum
  | [], _, _ => rfl
  | e :: r, h1, h2 => by
    have ih := shSum_gs (gs := r) (fun a ha => h1 a (List.mem_cons_of_mem _ ha)) (fun a ha => h2 a (List.mem_cons_of_mem _ ha))
    obtain ⟨a1, a2, a3, a4⟩ := h2 e List.mem_cons_self
    have he : shEnt len (e.1, .tup [.int e.2.1, .int e.2.2]) = some e.2.1 := by
      show (if okName e.1 = true ∧ (D.int e.2.1).whole 0 len = true ∧ (D.int e.2.2).whole (max 1 e.2.1) len = true then some e.2.1 else none) = some e.2.1
      rw [if_pos]
      refine ⟨h1 e List.mem_cons_self, ?_, ?_⟩
      · show (decide (0 ≤ e.2.1) && decide (e.2.1 ≤ len)) = true
        rw [decide_eq_true a1, decide_eq_true a2]
        rfl
      · show (decide (max 1 e.2.1 ≤ e.2.2) && decide (e.2.2 ≤ len)) = true
        rw [decide_eq_true a3, decide_eq_true a4]
        rfl
    rw [List.map_cons, List.map_cons, List.sum_cons]
    unfold shSum
    rw [he, ih]
theorem GsOk.shares {len : Int} {gs : List G3} (g : GsOk len gs) : (gD gs).shares len = true := by
  unfold gD
  rw [shares_dct, shSum_gs g.nm g.sh, List.length_map, decide_eq_true g.n6, Bool.true_and]
  exact decide_eq_true g.sum
theorem GsOk.whole {len : Int} {gs : List G3} (g : GsOk len gs) : (D.int len).whole 4 60 = true := by
  show (decide (4 ≤ len) && decide (len ≤ 60)) = true
  rw [decide_eq_true g.len.1, decide_eq_true g.len.2]
  rfl
theorem dlook_gs : ∀ {gs : List G3} {j : Nat} {z : Str} {p c : Int}, (gs.map (·.1)).Nodup → gs[j]? = some (z, p, c) → dlook (gs.map fun e => (e.1, D.tup [.int e.2.1, .int e.2.2])) z = some (.tup [.int p, .int c])
  | [], _, _, _, _, _, h => nomatch h
  | e :: r, 0, z, p, c, _, h => by
    cases h
    unfold dlook
    simp
  | e :: r, j + 1, z, p, c, nd, h => by
    rw [List.map_cons, List.nodup_cons] at nd
    have ih := dlook_gs (gs := r) (j := j) nd.2 h
    have hm : z ∈ r.map (·.1) := List.mem_map.mpr ⟨_, List.mem_of_getElem? h, rfl⟩
    have ne : ¬ e.1 = z := fun q => nd.1 (by rw [q]; exact hm)
    unfold dlook at ih ⊢
    rw [List.map_cons, List.find?_cons]
    simp only [ne, decide_false]
    exact ih
theorem GsOk.case {len : Int} {gs : List G3} (g : GsOk len gs) {j : Nat} {z : Str} {p c : Int} (h : gs[j]? = some (z, p, c)) : caseR (.int len) (gD gs) (.str z) = 3 := by
  show (if (D.int len).whole 4 60 = true then _ else _) = _
  rw [if_pos g.whole, if_pos g.shares, if_pos]
  show (dlook _ z).isSome = true
  rw [dlook_gs g.nd h]
  rfl
/-! ### what is told -/
def aheadP (p q u : Int) (e : Bool) : Int := min q (if e = true then u * q / p + 1 else -(-(u * q) / p))
def aheadF (p q qc u : Int) (e : Bool) : Int := if u < p then aheadP p q u e else min qc (max q (u + if e = true then 1 else 0))
def shAt (gs : List G3) (i : Nat) : Int × Int := (gs.getD i (Str.empty, 0, 0)).2
def nmAt (gs : List G3) (i : Nat) : Str := (gs.getD i (Str.empty, 0, 0)).1
/-- what all others can have ahead of one at j that has used u turns -/
def aheadAll (gs : List G3) (j : Nat) (u : Int) (is : List Nat) : Int := (is.map fun i => aheadF (shAt gs j).1 (shAt gs i).1 (shAt gs i).2 u (decide (i < j))).sum
def others (gs : List G3) (j : Nat) : List Nat := (List.range gs.length).filter fun i => decide (i ≠ j)
def turnOf (len : Int) (gs : List G3) (j : Nat) (many : Int) : Option Int :=
  if many > (shAt gs j).2 then none else if many + aheadAll gs j (many - 1) (others gs j) ≤ len then some (many + aheadAll gs j (many - 1) (others gs j)) else none
def optV : Option Int → V
  | none => .non
  | some i => .int i
theorem shAt_of {gs : List G3} {j : Nat} {z : Str} {p c : Int} (h : gs[j]? = some (z, p, c)) : shAt gs j = (p, c) := by
  unfold shAt
  rw [List.getD_eq_getElem?_getD, h]
  rfl
theorem nmAt_of {gs : List G3} {j : Nat} {z : Str} {p c : Int} (h : gs[j]? = some (z, p, c)) : nmAt gs j = z := by
  unfold nmAt
  rw [List.getD_eq_getElem?_getD, h]
  rfl
end K85

set_option Elab.async false
set_option linter.all false
set_option maxRecDepth 100000
set_option maxHeartbeats 1000000
namespace RP
open PySem PySem.Spec PyProof.Rows L2
theorem RepK.keys {K : PySem.W.Frag} {H : Hp} : ∀ {kvs : List (Key × V)} {ds : List (Str × D)}, RepK K H kvs ds → (kvs.map fun kv => kV kv.1) = ds.map fun e => V.str e.1
  | _, _, .nil => rfl
  | _, _, .cons _ _ t => by
    rw [List.map_cons, List.map_cons, t.keys]
    rfl
theorem fm_if {α β : Type} (p : α → Prop) [DecidablePred p] (f : α → β) : ∀ l : List α, (l.filterMap fun i => if p i then none else some (f i)) = (l.filter fun i => decide (¬ p i)).map f
  | [] => rfl
  | a :: l => by
    rw [List.filterMap_cons, List.filter_cons]
    by_cases h : p a
    · simp only [h, if_pos, not_true, decide_false, Bool.false_eq_true, if_false]
      exact fm_if p f l
    · simp only [h, if_neg, not_false_eq_true, decide_true, if_true, List.map_cons]
      exact congrArg _ (fm_if p f l)
theorem take_next {α : Type} {l : List α} {i : Nat} {x : α} (h : l[i]? = some x) : l.take (i + 1) = l.take i ++ [x] := by
  rw [List.take_add_one, h]
  rfl
theorem wmul {i j : Int} (h1 : i.natAbs < 2 ^ 40) (h2 : j.natAbs < 2 ^ 40) : CMulW i j := wide_mul h1 h2 (by decide) (by decide) (by decide)
theorem wdiv {i j : Int} (h : 0 < j) (h2 : j.natAbs < 2 ^ 40) : CDivW i j := wide_div h h2 (by decide) (by decide)
/-- the index of one text among different ones -/
theorem rd_index {K : PySem.W.Frag} {H : Hp} {a : Addr} {ns : List Str} {z : Str} {j : Nat} {Q : VK} (h : SqL K H a (ns.map V.str)) (nd : ns.Nodup) (hj : ns[j]? = some z) (q : Q (.int (j : Nat)) H) : Box (rIndex K (.ref a) [.str z] H Q) := by
  have fl : ∀ l : List Str, (l.map V.str).all flatV = true := fun l => by
    rw [List.all_map]
    exact List.all_eq_true.mpr fun _ _ => rfl
  have eqs : ∀ x y : Str, eqV (.str x) (.str y) = decide (x = y) := fun x y => rfl
  refine ⟨a, _, _, j, .str z, rfl, rfl, h, rfl, fl ns, by rw [List.getElem?_map, hj]; rfl, by rw [eqs]; simp, fun m z' hm hz => ?_, q⟩
  rw [List.getElem?_map] at hz
  obtain ⟨y, hy, rfl⟩ := Option.map_eq_some_iff.mp hz
  rw [eqs]
  refine decide_eq_false fun e => ?_
  subst e
  have := nd_ix nd hy hj
  omega
end RP
namespace K85
open PySem PySem.Spec PyProof.Rows L2 RP
section
variable {P : Program} {w : World} {K : PySem.W.Frag} {mg : Str → Option Value} {base : Heap}
/-- a share's tuple -/
def Sh (K : PySem.W.Frag) (H : Hp) (v : V) (p c : Int) : Prop := ∃ a, v = .ref a ∧ SqT K H a [.int p, .int c]
theorem Sh.same {H H' : Hp} {v : V} {p c : Int} (s : Same H H') (h : Sh K H v p c) : Sh K H' v p c := by
  obtain ⟨a, e, q⟩ := h
  exact ⟨a, e, (Lq.of s).tup q⟩
theorem sh_of {H : Hp} {v : V} {p c : Int} (h : Rep K H v (.tup [.int p, .int c])) : Sh K H v p c := by
  cases h with
  | tup h r =>
    cases r with
    | cons h1 t =>
      cases h1
      cases t with
      | cons h2 t =>
        cases h2
        cases t
        exact ⟨_, rfl, h⟩
/-! ### ahead_by_promise -/
theorem sc_ahead_by_promise : FnScope ["share", "other", "used", "earlier", "promise", "ceiling", "its_promise", "its_ceiling", "part", "many"] ["share", "other", "used", "earlier"] (defScope s_ahead_by_promise) := ⟨rfl, rfl, rfl, by decide +kernel, rfl, by decide +kernel, by decide +kernel⟩
def spAheadP (K : PySem.W.Frag) : Sp := fun vs H Q _ => ∃ (v1 v2 : V) (p c q qc u : Int) (e : Bool), vs = [v1, v2, .int u, .bl e] ∧ Sh K H v1 p c ∧ Sh K H v2 q qc ∧ 0 < p ∧ p ≤ 1000 ∧ 0 ≤ q ∧ q ≤ 1000 ∧ 0 ≤ u ∧ u ≤ 1000 ∧ Q (.int (aheadP p q u e)) H
theorem min_if (a b : Int) : min a b = if b < a then b else a := by
  show (if a ≤ b then a else b) = _
  split <;> split <;> omega
theorem ok_ahead_by_promise (T : Txt K mg) : Def P w K mg base 1 "ahead_by_promise" ["share", "other", "used", "earlier"] (spAheadP K) := by
  obtain ⟨f, fd, F⟩ := T.a_ahead_by_promise
  refine Def.mk F sc_ahead_by_promise (fun _ _ _ _ _ _ us hl => match us, hl with | [_, _, _, _], _ => rfl) (fun vs H Q E h => ?_) (fun cdv A outer s H vs Q E hr h => ?_)
  · obtain ⟨v1, v2, p, c, q, qc, u, e, rfl, _⟩ := h
    rfl
  · obtain ⟨_, _, p, c, q, qc, u, e, rfl, ⟨a1, rfl, h1⟩, ⟨a2, rfl, h2⟩, b1, b2, b3, b4, b5, b6, hq⟩ := h
    refine ⟨_, (pss_cons (ps_asg (pv 0) (kpg_tup K rfl (n := 2) rfl (pgs_cons (pg_name (i := 4) sc_ahead_by_promise.nd rfl (Or.inl rfl)) (pgs_cons (pg_name (i := 5) sc_ahead_by_promise.nd rfl (Or.inl rfl)) pgs_nil))))
      (pss_cons (ps_asg (pv 1) (kpg_tup K rfl (n := 2) rfl (pgs_cons (pg_name (i := 6) sc_ahead_by_promise.nd rfl (Or.inl rfl)) (pgs_cons (pg_name (i := 7) sc_ahead_by_promise.nd rfl (Or.inl rfl)) pgs_nil))))
      (pss_cons (ps_set (i := 8) sc_ahead_by_promise.nd rfl (Or.inl rfl) (pe_op op_mulW (pv 2) (pv 6)))
      (pss_cons (ps_set (i := 9) sc_ahead_by_promise.nd rfl (Or.inl rfl) (pe_ifExp (pt_val (pv 3)) (pe_op op_add (pe_op op_fdivW (pv 8) (pv 4)) pe_int) (pe_un un_neg (pe_op op_fdivW (pe_un un_neg (pv 8)) (pv 4)))))
      (pss_one (ps_ret (pe_callB (call_min2 rfl) (by rfl) T.b_min (by decide +kernel) (pa_cons (pv 6) (pa_cons (pv 9) pa_nil))))))))), ?_⟩
    have m := wmul (i := u) (j := q) (by omega) (by omega)
    have d1 : CDivW (u * q) p := wdiv b1 (by omega)
    have d2 : CDivW (-(u * q)) p := wdiv b1 (by omega)
    refine ⟨_, rfl, a1, _, rfl, h1, rfl, _, _, rfl, _, _, rfl, rfl, ?_⟩
    refine ⟨_, rfl, a2, _, rfl, h2, rfl, _, _, rfl, _, _, rfl, rfl, ?_⟩
    refine ⟨_, rfl, _, rfl, _, _, rfl, rfl, m, ?_⟩
    refine ⟨_, rfl, _, rfl, ?_⟩
    unfold aheadP at hq
    rw [min_if] at hq
    cases e with
    | true => exact ⟨_, rfl, _, rfl, _, _, rfl, rfl, d1, _, _, rfl, rfl, _, rfl, _, rfl, _, _, rfl, hq⟩
    | false => exact ⟨_, rfl, _, rfl, _, rfl, _, _, rfl, rfl, d2, _, rfl, _, rfl, _, rfl, _, _, rfl, hq⟩
/-! ### ahead -/
theorem sc_ahead : FnScope ["share", "other", "used", "earlier", "promise", "ceiling", "its_promise", "its_ceiling"] ["share", "other", "used", "earlier"] (defScope s_ahead) := ⟨rfl, rfl, rfl, by decide +kernel, rfl, by decide +kernel, by decide +kernel⟩
def spAhead (K : PySem.W.Frag) : Sp := fun vs H Q _ => ∃ (v1 v2 : V) (p c q qc u : Int) (e : Bool), vs = [v1, v2, .int u, .bl e] ∧ Sh K H v1 p c ∧ Sh K H v2 q qc ∧ 0 ≤ p ∧ p ≤ 1000 ∧ 0 ≤ q ∧ q ≤ 1000 ∧ 0 ≤ u ∧ u ≤ 1000 ∧ Q (.int (aheadF p q qc u e)) H
theorem ok_ahead (T : Txt K mg) (G_ahead_by_promise : Def P w K mg base 1 "ahead_by_promise" ["share", "other", "used", "earlier"] (spAheadP K)) : Def P w K mg base 2 "ahead" ["share", "other", "used", "earlier"] (spAhead K) := by
  obtain ⟨f, fd, F⟩ := T.a_ahead
  refine Def.mk F sc_ahead (fun _ _ _ _ _ _ us hl => match us, hl with | [_, _, _, _], _ => rfl) (fun vs H Q E h => ?_) (fun cdv A outer s H vs Q E hr h => ?_)
  · obtain ⟨v1, v2, p, c, q, qc, u, e, rfl, _⟩ := h
    rfl
  · obtain ⟨_, _, p, c, q, qc, u, e, rfl, ⟨a1, rfl, h1⟩, ⟨a2, rfl, h2⟩, b1, b2, b3, b4, b5, b6, hq⟩ := h
    refine ⟨_, (pss_cons (ps_asg (pv 0) (kpg_tup K rfl (n := 2) rfl (pgs_cons (pg_name (i := 4) sc_ahead.nd rfl (Or.inl rfl)) (pgs_cons (pg_name (i := 5) sc_ahead.nd rfl (Or.inl rfl)) pgs_nil))))
      (pss_cons (ps_asg (pv 1) (kpg_tup K rfl (n := 2) rfl (pgs_cons (pg_name (i := 6) sc_ahead.nd rfl (Or.inl rfl)) (pgs_cons (pg_name (i := 7) sc_ahead.nd rfl (Or.inl rfl)) pgs_nil))))
      (pss_cons (ps_if (pt_cmpR op_lt (pv 2) (pv 4) (nomark _)) (pss_one (ps_ret (pe_d G_ahead_by_promise (hr.mono (by decide)) (by rfl) (pa_cons (pv 0) (pa_cons (pv 1) (pa_cons (pv 2) (pa_cons (pv 3) pa_nil))))))) pss_nil)
      (pss_one (ps_ret (pe_callB (call_min2 rfl) (by rfl) T.b_min (by decide +kernel) (pa_cons (pv 7) (pa_cons (pe_callB (call_max2 rfl) (by rfl) T.b_max (by decide +kernel) (pa_cons (pv 6) (pa_cons (pe_op op_add (pv 2) (pe_callTy call_int1 (by rfl) T.b_int (by decide +kernel) (pa_cons (pv 3) pa_nil))) pa_nil))) pa_nil)))))))), ?_⟩
    refine ⟨_, rfl, a1, _, rfl, h1, rfl, _, _, rfl, _, _, rfl, rfl, ?_⟩
    refine ⟨_, rfl, a2, _, rfl, h2, rfl, _, _, rfl, _, _, rfl, rfl, ?_⟩
    refine ⟨_, rfl, _, rfl, _, _, rfl, rfl, _, rfl, ?_⟩
    show if decide (u < p) = true then _ else _
    unfold aheadF at hq
    refine ite_dec (fun c => ?_) (fun c => ?_)
    · have z := of_decide_eq_true c
      rw [if_pos z] at hq
      exact ⟨_, rfl, _, rfl, _, rfl, _, rfl, _, _, p, _, q, _, u, e, rfl, ⟨a1, rfl, h1⟩, ⟨a2, rfl, h2⟩, by omega, b2, b3, b4, b5, b6, hq⟩
    · have z := of_decide_eq_false c
      rw [if_neg z, min_if, max_if] at hq
      exact ⟨_, rfl, _, rfl, _, rfl, _, rfl, .inr ⟨e, rfl, _, _, rfl, rfl, _, _, rfl, _, _, rfl, hq⟩⟩
/-! ### turn_of -/
theorem sc_turn_of : FnScope ["length", "guests", "name", "many", "names", "others", "other", "total", "earlier"] ["length", "guests", "name", "many"] (defScope s_turn_of) := ⟨rfl, rfl, rfl, by decide +kernel, rfl, by decide +kernel, by decide +kernel⟩
def spTurn (K : PySem.W.Frag) : Sp := fun vs H Q _ => ∃ (R : Hp) (vg : V) (len many : Int) (gs : List G3) (j : Nat) (z : Str) (p c : Int), vs = [.int len, vg, .str z, .int many] ∧ Same R H ∧ Rep K R vg (gD gs) ∧ GsOk len gs ∧ gs[j]? = some (z, p, c) ∧
  1 ≤ many ∧ many ≤ len ∧ ∀ H', Same H H' → Q (optV (turnOf len gs j many)) H'
theorem ok_turn_of (T : Txt K mg) (G_ahead : Def P w K mg base 2 "ahead" ["share", "other", "used", "earlier"] (spAhead K)) : Def P w K mg base 3 "turn_of" ["length", "guests", "name", "many"] (spTurn K) := by
  obtain ⟨f, fd, F⟩ := T.a_turn_of
  refine Def.mk F sc_turn_of (fun _ _ _ _ _ _ us hl => match us, hl with | [_, _, _, _], _ => rfl) (fun vs H Q E h => ?_) (fun cdv A outer s H vs Q E hr h => ?_)
  · obtain ⟨R, vg, len, many, gs, j, z, p, c, rfl, _⟩ := h
    rfl
  · obtain ⟨R, vg, len, many, gs, j, z, p, c, rfl, sR, hg, ok, hj, b1, b2, hq⟩ := h
    cases hg with
    | @dct a kvs _ hk rk =>
    have look : ∀ {i : Nat} {y : Str} {q qc : Int} {H' : Hp}, Same H H' → gs[i]? = some (y, q, qc) → ∃ v, DGet H' a (.str y) (some v) ∧ Sh K H' v q qc := fun {i y q qc H'} s hi => by
      have r2 := rk.same (sR.trans s)
      obtain ⟨v, g1, g2⟩ := r2.get_of ((Lq.of (sR.trans s)) _ _ hk) (dlook_gs ok.nd hi)
      exact ⟨v, g1, sh_of g2⟩
    refine ⟨_, (pss_cons (ps_if (pt_cmpR op_gt (pv 3) (pe_ix (kix_tup K rfl) (pe_dget (hu_of hr) (pv 1) (pv 2) (fun _ _ => rfl)) pe_int (fun _ _ => rfl)) (nomark _)) (pss_one (ps_ret pe_non)) pss_nil)
      (pss_cons (ps_set (i := 4) sc_turn_of.nd rfl (Or.inl rfl) (pe_callTy (call_listD rfl) (by rfl) T.b_list (by decide +kernel) (pa_cons (pv 1) pa_nil)))
      (pss_cons (ps_setLc (i := 5) (own := [("other", 6)]) rfl sc_turn_of.nd rfl rfl (sw_true rfl rfl rfl (by decide +kernel)) (kpi_list K rfl (pv 4)) (blkOk_by (own := [("other", 6)]) (N := ["length", "guests", "name", "many", "names", "others", "other", "total", "earlier"]) (sc := defScope s_turn_of) (by decide +kernel)) (fun _ _ _ _ _ => (pg_name (i := 6) sc_turn_of.nd rfl (Or.inl rfl))) (fun _ _ _ _ _ => (pts_one (pt_cmpR op_ne (pv 6) (pv 2) (nomark _)))) (fun _ _ _ _ _ => (pv 6)))
      (pss_cons (ps_set (i := 7) sc_turn_of.nd rfl (Or.inl rfl) (pv 3))
      (pss_cons (ps_for (passes_of rfl) rfl (kpi_list K rfl (pv 5)) (pg_name (i := 6) sc_turn_of.nd rfl (Or.inl rfl))
        (pss_cons (ps_set (i := 8) sc_turn_of.nd rfl (Or.inl rfl) (pe_cmpR op_lt (kpe_bm K rfl (pe_bm PySem.F.plainAttrs_list PySem.F.slot_list_index PySem.F.type_list_index (kmt_indexB K rfl) (pv 4) (pa_cons (pv 6) pa_nil))) (kpe_bm K rfl (pe_bm PySem.F.plainAttrs_list PySem.F.slot_list_index PySem.F.type_list_index (kmt_indexB K rfl) (pv 4) (pa_cons (pv 2) pa_nil))) (nomark _)))
      (pss_one (ps_aug (i := 7) sc_turn_of.nd rfl (Or.inl rfl) (pe_d G_ahead (hr.mono (by decide)) (by rfl) (pa_cons (pe_dget (hu_of hr) (pv 1) (pv 2) (fun _ _ => rfl)) (pa_cons (pe_dget (hu_of hr) (pv 1) (pv 6) (fun _ _ => rfl)) (pa_cons (pe_op op_sub (pv 3) pe_int) (pa_cons (pv 8) pa_nil))))) ip_add))))
      (pss_one (ps_ret (pe_ifExp (pt_cmpR op_le (pv 7) (pv 0) (nomark _)) (pv 7) pe_non)))))))), ?_⟩
    obtain ⟨v, g1, a1, rfl, g2⟩ := look (Same.refl H) hj
    refine ⟨_, rfl, _, rfl, _, rfl, a, _, rfl, g1, a1, _, _, _, rfl, rfl, g2, rfl, _, _, rfl, rfl, _, rfl, ?_⟩
    show if decide (c < many) = true then _ else _
    have sj := shAt_of hj
    have nj := nmAt_of hj
    have hnd := ok.nd
    refine ite_dec (fun c1 => ?_) (fun c1 => ?_)
    · have z1 := of_decide_eq_true c1
      have e : turnOf len gs j many = none := by
        unfold turnOf
        rw [sj, if_pos z1]
      rw [e] at hq
      exact hq H (Same.refl H)
    · have z1 := of_decide_eq_false c1
      refine ⟨_, rfl, a, kvs, rfl, (Lq.of sR) _ _ hk, fun l hl => ?_⟩
      have en : (kvs.map fun kv => kV kv.1) = (gs.map (·.1)).map V.str := by
        rw [rk.keys, List.map_map, List.map_map]
        rfl
      rw [en]
      have s1 : Same H (upd H l (.lst ((gs.map (·.1)).map V.str))) := same_new hl
      generalize hH1 : upd H l (.lst ((gs.map (·.1)).map V.str)) = H1 at s1 ⊢
      have hn1 : H1 l = some (.lst ((gs.map (·.1)).map V.str)) := by rw [← hH1, upd_same]
      refine ⟨_, rfl, l, rfl, ⟨_, SqL.of hn1⟩, fun L hL => ?_⟩
      refine lc_vals (w := walk_list (xs := (gs.map (·.1)).map V.str)) (fun i => if i = j then none else some (.str (nmAt gs i))) hL (by rw [List.length_map, List.length_map]; have := ok.n6; omega) (fun H2 s2 => SqL.of (s2 _ _ hn1)) ?_ ?_
      · rintro i x H2 H3 Y2 N2 hi s2 hn ⟨rfl, hx⟩ k1 k2
        rw [List.getElem?_map] at hx
        obtain ⟨y, hy, rfl⟩ := Option.map_eq_some_iff.mp hx
        have ey : y = nmAt gs i := by
          rw [List.getElem?_map] at hy
          obtain ⟨e, he, rfl⟩ := Option.map_eq_some_iff.mp hy
          exact (nmAt_of (z := e.1) (p := e.2.1) (c := e.2.2) he).symm
        refine ⟨rfl, ⟨_, rfl, _, rfl, rfl, _, rfl, ?_⟩⟩
        show if (!decide (V.str y = V.str z)) = true then _ else _
        by_cases e : i = j
        · have e2 : y = z := by rw [ey, e, nj]
          rw [decide_eq_true (by rw [e2])]
          exact iteF (k2 _ (if_pos e) (Same.refl _))
        · have e2 : ¬ V.str y = V.str z := fun q => e (by
            have q2 : y = z := by injection q
            rw [q2] at hy
            exact nd_ix hnd hy (by rw [List.getElem?_map, hj]; rfl))
          rw [decide_eq_false e2]
          refine iteT ⟨_, rfl, k1 _ _ ?_ (Same.refl _)⟩
          rw [if_neg e, ey]
      · intro H2 s2 h2
        have hlen : ((gs.map (·.1)).map V.str).length = gs.length := by rw [List.length_map, List.length_map]
        rw [hlen] at h2
        have eo : ((List.range gs.length).filterMap fun i => if i = j then none else some (V.str (nmAt gs i))) = (others gs j).map fun i => V.str (nmAt gs i) := by
          exact fm_if (fun i => i = j) (fun i => V.str (nmAt gs i)) _
        rw [eo] at h2
        have hn2 := s2 _ _ hn1
        have s12 := s1.trans s2
        refine ⟨_, rfl, ?_⟩
        refine ⟨_, rfl, L, rfl, ⟨_, SqL.of h2⟩, ?_⟩
        refine for_it (w := walk_list (xs := (others gs j).map fun i => V.str (nmAt gs i))) (fun t σ H' => ∃ (o6 o8 : Option V), σ = [some (.int len), some (.ref a), some (.str z), some (.int many), some (.ref l), some (.ref L), o6, some (.int (many + aheadAll gs j (many - 1) ((others gs j).take t))), o8] ∧ Same H2 H')
          ⟨none, none, by simp [aheadAll]; rfl, Same.refl _⟩ (fun t σ H' _ ⟨_, _, _, s⟩ => SqL.of (s _ _ h2)) ?_ ?_
        · rintro t x σ H3 H4 ht ⟨o6, o8, rfl, s3⟩ ⟨rfl, hx⟩
          rw [List.getElem?_map] at hx
          obtain ⟨i, hi, rfl⟩ := Option.map_eq_some_iff.mp hx
          have hi2 : i ∈ others gs j := List.mem_of_getElem? hi
          have hilt : i < gs.length := List.mem_range.mp (List.mem_filter.mp hi2).1
          obtain ⟨⟨y, q, qc⟩, hgi⟩ : ∃ e, gs[i]? = some e := ⟨_, List.getElem?_eq_getElem hilt⟩
          have ni := nmAt_of hgi
          have si := shAt_of hgi
          have hn3 := s3 _ _ hn2
          refine ⟨_, rfl, .inl ⟨rfl, _, SqL.of hn3⟩, _, rfl, ?_⟩
          rw [ni]
          refine rd_index (SqL.of hn3) hnd (j := i) (by rw [List.getElem?_map, hgi]; rfl) ?_
          refine ⟨_, rfl, .inl ⟨rfl, _, SqL.of hn3⟩, _, rfl, ?_⟩
          refine rd_index (SqL.of hn3) hnd (j := j) (by rw [List.getElem?_map, hj]; rfl) ?_
          refine ⟨_, _, rfl, rfl, ?_⟩
          have s13 := s12.trans s3
          obtain ⟨v1, g1', c1'⟩ := look s13 hj
          obtain ⟨v2, g2', c2'⟩ := look s13 hgi
          have shj := ok.sh _ (List.mem_of_getElem? hj)
          have shi := ok.sh _ (List.mem_of_getElem? hgi)
          have hlen := ok.len
          have b3 : 0 ≤ p ∧ p ≤ 1000 ∧ 0 ≤ q ∧ q ≤ 1000 := by
            refine ⟨shj.1, ?_, shi.1, ?_⟩
            · have := shj.2.1
              show p ≤ 1000
              have : p ≤ len := this
              omega
            · have := shi.2.1
              have : q ≤ len := this
              omega
          refine ⟨_, rfl, ?_⟩
          refine ⟨_, rfl, _, rfl, a, v1, rfl, g1', _, rfl, _, rfl, a, v2, rfl, g2', _, rfl, _, _, rfl, rfl, _, rfl, v1, v2, p, c, q, qc, many - 1, _, rfl, c1', c2', b3.1, b3.2.1, b3.2.2.1, b3.2.2.2, by omega, by omega, ?_⟩
          refine ⟨_, _, rfl, rfl, ?_⟩
          refine ⟨some (.str y), some (.bl (decide ((i : Int) < (j : Int)))), ?_, s3⟩
          rw [take_next hi]
          have e : aheadAll gs j (many - 1) ((others gs j).take t ++ [i]) = aheadAll gs j (many - 1) ((others gs j).take t) + aheadF p q qc (many - 1) (decide ((i : Int) < (j : Int))) := by
            unfold aheadAll
            rw [List.map_append, List.sum_append, List.map_singleton, List.sum_singleton, sj, si]
            have ed : decide ((i : Int) < (j : Int)) = decide (i < j) := decide_eq_decide.mpr Int.ofNat_lt
            rw [ed]
          rw [e, ← Int.add_assoc]
          rfl
        · rintro σ H3 ⟨o6, o8, rfl, s3⟩
          rw [List.length_map, List.take_length]
          refine ⟨_, rfl, _, rfl, _, _, rfl, rfl, _, rfl, ?_⟩
          have e : turnOf len gs j many = if many + aheadAll gs j (many - 1) (others gs j) ≤ len then some (many + aheadAll gs j (many - 1) (others gs j)) else none := by
            unfold turnOf
            rw [sj, if_neg z1]
          rw [e] at hq
          refine ite_dec (fun c2 => ?_) (fun c2 => ?_)
          · rw [if_pos (of_decide_eq_true c2)] at hq
            exact ⟨_, rfl, hq H3 (s12.trans s3)⟩
          · rw [if_neg (of_decide_eq_false c2)] at hq
            exact hq H3 (s12.trans s3)
end
end K85

set_option Elab.async false
set_option linter.all false
set_option maxRecDepth 100000
set_option maxHeartbeats 1000000
namespace RP
open PySem PySem.Spec PyProof.Rows L2
theorem range_get {α β : Type} (F : α → β) (l : List α) : ∀ t, t ≤ l.length → (List.range t).filterMap (fun i => l[i]?.map F) = (l.take t).map F
  | 0, _ => rfl
  | t + 1, h => by
    have hx : l[t]? = some l[t] := List.getElem?_eq_getElem (by omega)
    rw [range_succ_filterMap, range_get F l t (by omega), take_next hx, List.map_append, hx]
    rfl
theorem range_all {α β : Type} (F : α → β) (l : List α) : (List.range l.length).filterMap (fun i => l[i]?.map F) = l.map F := by
  rw [range_get F l _ (Nat.le_refl _), List.take_length]
/-- two known parts of one heap are known together -/
theorem join {R R1 H : Hp} (p : Plain R) (s : Same R H) (p1 : Plain R1) (s1 : Same R1 H) : ∃ U, Same R U ∧ Same R1 U ∧ Plain U ∧ Same U H := by
  have key : ∀ a o, ((R a).or (R1 a)) = some o → R a = some o ∨ R1 a = some o := fun a o h => by
    cases c : R a with
    | none =>
      rw [c] at h
      exact .inr h
    | some u =>
      rw [c] at h
      exact .inl (by rw [← h]; rfl)
  refine ⟨fun a => (R a).or (R1 a), fun a o h => ?_, fun a o h => ?_, fun a o u h => ?_, fun a o h => ?_⟩
  · show (R a).or (R1 a) = some o
    rw [h]
    rfl
  · show (R a).or (R1 a) = some o
    cases c : R a with
    | none => exact h
    | some u =>
      have e1 := s a _ c
      have e2 := s1 a _ h
      rw [e1] at e2
      exact e2
  · rcases key _ _ h with q | q
    · exact p _ _ _ q
    · exact p1 _ _ _ q
  · rcases key _ _ h with q | q
    · exact s _ _ q
    · exact s1 _ _ q
/-- a known part without what stands at d -/
def Off (d : Addr) (R : Hp) : Hp := fun a => if a = d then none else R a
theorem off_at {d : Addr} {R : Hp} : Off d R d = none := if_pos rfl
theorem off_ne {d a : Addr} {R : Hp} (h : a ≠ d) : Off d R a = R a := if_neg h
theorem Off.same {d : Addr} {R : Hp} : Same (Off d R) R := fun a o h => by
  by_cases e : a = d
  · rw [e, off_at] at h
    cases h
  · rw [off_ne e] at h
    exact h
theorem Off.plain {d : Addr} {R : Hp} (p : Plain R) : Plain (Off d R) := fun a o u h => p a o u (Off.same _ _ h)
theorem Off.put {d : Addr} {R H : Hp} {o : HO} (s : Same R H) : Same (Off d R) (upd H d o) := fun a u h => by
  by_cases e : a = d
  · rw [e, off_at] at h
    cases h
  · rw [off_ne e] at h
    rw [upd_ne e]
    exact s a u h
theorem Rep.pair_off {K : PySem.W.Frag} {R : Hp} {d : Addr} {kvs : List (Key × V)} {v : V} {p c : Int} (pl : Plain R) (hd : R d = some (.dK kvs)) (h : Rep K R v (.tup [.int p, .int c])) : Rep K (Off d R) v (.tup [.int p, .int c]) := by
  obtain ⟨a, rfl, hs⟩ := (show ∃ a, v = .ref a ∧ SqT K R a [.int p, .int c] from by
    cases h with
    | tup h r =>
      cases r with
      | cons h1 t =>
        cases h1
        cases t with
        | cons h2 t =>
          cases h2
          cases t
          exact ⟨_, rfl, h⟩)
  refine .tup ?_ (.cons (.int _) (.cons (.int _) .nil))
  rcases hs with hs | hs
  · refine .inl (.inl ?_)
    have q := pl.rd hs
    rw [off_ne]
    · exact q
    · intro e
      rw [e, hd] at q
      cases q
  · exact .inr hs
/-- a list of pairs, for dict() -/
theorem pairs_of {K : PySem.W.Frag} {R : Hp} : ∀ {es : List (Str × D)} {zs : List V}, Reps K R zs (es.map fun e => .tup [.str e.1, e.2]) →
    ∃ (ps : List Addr) (kvs : List (Key × V)), zs = ps.map V.ref ∧ Paired (fun p kv => SqT K R p [kV kv.1, kv.2]) ps kvs ∧ RepK K R kvs es
  | [], _, r => by
    cases r
    exact ⟨[], [], rfl, .nil, .nil⟩
  | e :: es, zs, r => by
    rw [List.map_cons] at r
    cases r with
    | cons h t =>
      obtain ⟨ps, kvs, e1, e2, e3⟩ := pairs_of t
      cases h with
      | @tup a vs _ h r =>
        cases r with
        | cons h1 t1 =>
          cases h1 with
          | str _ hx =>
          cases t1 with
          | @cons v _ _ _ h2 t2 =>
            cases t2
            exact ⟨a :: ps, (.inr e.1, v) :: kvs, by rw [e1]; rfl, .cons h e2, .cons hx h2 e3⟩
theorem merge_nodup : ∀ {kvs acc : List (Key × V)}, ((acc ++ kvs).map (·.1)).Nodup → mergeK acc kvs = acc ++ kvs
  | [], acc, _ => by rw [List.append_nil]; rfl
  | kv :: r, acc, h => by
    have hn : valV acc kv.1 = none := by
      cases c : valV acc kv.1 with
      | none => rfl
      | some v =>
        exfalso
        have hm : kv.1 ∈ acc.map (·.1) := by
          unfold valV at c
          obtain ⟨e, he, _⟩ := Option.map_eq_some_iff.mp c
          have h1 := List.find?_some he
          have h2 := List.mem_of_find?_eq_some he
          exact List.mem_map.mpr ⟨e, h2, of_decide_eq_true h1⟩
        rw [List.map_append, List.nodup_append] at h
        exact h.2.2 _ hm _ (by rw [List.map_cons]; exact List.mem_cons_self) rfl
    have e : mergeK acc (kv :: r) = mergeK (acc ++ [kv]) r := by
      show mergeK (putK acc kv.1 kv.2) r = _
      rw [putK_new _ hn]
    rw [e, merge_nodup (by rw [List.append_assoc]; exact h), List.append_assoc]
    rfl
theorem RepK.keysN {K : PySem.W.Frag} {H : Hp} : ∀ {kvs : List (Key × V)} {es : List (Str × D)}, RepK K H kvs es → kvs.map (·.1) = es.map fun e => (Sum.inr e.1 : Key)
  | _, _, .nil => rfl
  | _, _, .cons _ _ t => by
    rw [List.map_cons, List.map_cons, t.keysN]
theorem RepK.merge {K : PySem.W.Frag} {H : Hp} {kvs : List (Key × V)} {es : List (Str × D)} (r : RepK K H kvs es) (n : (es.map (·.1)).Nodup) : mergeK [] kvs = kvs := by
  refine merge_nodup ?_
  rw [List.nil_append, r.keysN]
  have e : (es.map fun e => (Sum.inr e.1 : Key)) = (es.map (·.1)).map Sum.inr := by
    rw [List.map_map]
    rfl
  rw [e]
  exact List.pairwise_map.mpr (n.imp fun h q => h (Sum.inr.inj q))
theorem paired_mono {α β : Type} {F G : α → β → Prop} (h : ∀ a b, F a b → G a b) : ∀ {l : List α} {m : List β}, Paired F l m → Paired G l m
  | _, _, .nil => .nil
  | _, _, .cons a b => .cons (h _ _ a) (paired_mono h b)
end RP

set_option Elab.async false
set_option linter.all false
set_option maxRecDepth 100000
set_option maxHeartbeats 1000000
namespace K85
open PySem PySem.Spec PyProof.Rows L2 RP
section
variable {P : Program} {w : World} {K : PySem.W.Frag} {mg : Str → Option Value} {base : Heap}
def _root_.RP.D.iv : D → Int
  | .int i => i
  | _ => 0
/-- what a case's errors wish -/
structure Cs (K : PySem.W.Frag) (R H : Hp) (vl vg vn : V) (dl dg dn : D) (E : XK) : Prop where
  s : Same R H
  p : Plain R
  l : Rep K R vl dl
  g : Rep K R vg dg
  n : Rep K R vn dn
  k0 : caseR dl dg dn = 0 → Errs K "NoNumber" "found" vl H E
  k1 : caseR dl dg dn = 1 → Errs K "NoShare" "found" vg H E
  k2 : caseR dl dg dn = 2 → Errs K "NoGuest" "found" vn H E
structure Good (dl dg dn : D) (len : Int) (gs : List G3) (j : Nat) (z : Str) (p c : Int) : Prop where
  l : dl = .int len
  g : dg = gD gs
  n : dn = .str z
  ok : GsOk len gs
  hj : gs[j]? = some (z, p, c)
theorem caseR_len {dl dg dn : D} (h : caseR dl dg dn = 3) : ∃ len, dl = .int len := by
  cases dl with
  | int len => exact ⟨len, rfl⟩
  | _ => cases h
theorem Good.case {dl dg dn : D} {len : Int} {gs : List G3} {j : Nat} {z : Str} {p c : Int} (g : Good dl dg dn len gs j z p c) : caseR dl dg dn = 3 := by
  rw [g.l, g.g, g.n]
  exact g.ok.case g.hj
/-! ### latest -/
theorem sc_latest : FnScope ["length", "guests", "name", "many"] ["length", "guests", "name", "many"] (defScope s_latest) := ⟨rfl, rfl, rfl, by decide +kernel, rfl, by decide +kernel, by decide +kernel⟩
def spLatest (K : PySem.W.Frag) : Sp := fun vs H Q E => ∃ (R : Hp) (vl vg vn vm : V) (dl dg dn dm : D), vs = [vl, vg, vn, vm] ∧ Cs K R H vl vg vn dl dg dn E ∧ Rep K R vm dm ∧
  (caseR dl dg dn = 3 → dm.whole 1 dl.iv = false → Errs K "NoNumber" "found" vm H E) ∧
  (caseR dl dg dn = 3 → dm.whole 1 dl.iv = true → ∃ len gs j z p c many, Good dl dg dn len gs j z p c ∧ dm = .int many ∧ ∀ H', Same H H' → Q (optV (turnOf len gs j many)) H')
theorem ok_latest (T : Txt K mg) (G_is_whole : Def P w K mg base 1 "is_whole" ["thing", "low", "high"] (spWhole K)) (G_need_case : Def P w K mg base 4 "need_case" ["length", "guests", "name"] (spNeedCase K)) (G_turn_of : Def P w K mg base 3 "turn_of" ["length", "guests", "name", "many"] (spTurn K)) :
    Def P w K mg base 5 "latest" ["length", "guests", "name", "many"] (spLatest K) := by
  obtain ⟨f, fd, F⟩ := T.a_latest
  refine Def.mk F sc_latest (fun _ _ _ _ _ _ us hl => match us, hl with | [_, _, _, _], _ => rfl) (fun vs H Q E h => ?_) (fun cdv A outer s H vs Q E hr h => ?_)
  · obtain ⟨R, vl, vg, vn, vm, dl, dg, dn, dm, rfl, _⟩ := h
    rfl
  · obtain ⟨R, vl, vg, vn, vm, dl, dg, dn, dm, rfl, C, hm, e1, e2⟩ := h
    refine ⟨_, (pss_cons (ps_expr (pe_dX G_need_case (hr.mono (by decide)) (by rfl) tkB (pa_cons (pv 0) (pa_cons (pv 1) (pa_cons (pv 2) pa_nil)))))
      (pss_cons (ps_if (pt_not (pt_val (pe_d G_is_whole (hr.mono (by decide)) (by rfl) (pa_cons (pv 3) (pa_cons pe_int (pa_cons (pv 0) pa_nil)))))) (pss_one (ps_raise rfl tkB (pmk_NoNumber hr T (pa_cons (pv 3) pa_nil)))) pss_nil)
      (pss_one (ps_ret (pe_d G_turn_of (hr.mono (by decide)) (by rfl) (pa_cons (pv 0) (pa_cons (pv 1) (pa_cons (pv 2) (pa_cons (pv 3) pa_nil))))))))), ?_⟩
    refine ⟨_, rfl, _, rfl, _, rfl, R, vl, vg, vn, dl, dg, dn, rfl, C.s, C.p, C.l, C.g, C.n, C.k0, C.k1, C.k2, fun c3 H1 s1 => ?_⟩
    obtain ⟨len, rfl⟩ := caseR_len c3
    have hl := C.l
    cases hl
    refine ⟨_, rfl, _, rfl, vm, dm, 1, len, rfl, hm.same (C.s.trans s1), _, rfl, ?_⟩
    show if (!dm.whole 1 len) = true then _ else _
    cases cw : dm.whole 1 len with
    | false => exact ⟨_, rfl, fun dd hd => (e1 c3 cw).same s1 _ dd (same_new hd) hd upd_same⟩
    | true =>
      obtain ⟨len', gs, j, z, p, c, many, g, rfl, hq⟩ := e2 c3 cw
      obtain ⟨gl, gg, gn, ok, at'⟩ := g
      cases gl
      subst gg gn
      cases hm
      have hn := C.n
      cases hn
      obtain ⟨i, ei, b1, b2⟩ := whole_int cw
      cases ei
      refine iteF ⟨_, rfl, _, rfl, _, rfl, _, rfl, R, vg, len, many, gs, j, z, p, c, rfl, C.s.trans s1, C.g, ok, at', b1, b2, fun H2 s2 => hq H2 (s1.trans s2)⟩
/-! ### at_least_in -/
theorem sc_at_least_in : FnScope ["length", "guests", "name", "turns", "found", "many", "turn"] ["length", "guests", "name", "turns"] (defScope s_at_least_in) := ⟨rfl, rfl, rfl, by decide +kernel, rfl, by decide +kernel, by decide +kernel⟩
def inL (len : Int) (gs : List G3) (j : Nat) (t : Int) : List V := (List.range len.toNat).filterMap fun i => match turnOf len gs j (1 + (i : Nat)) with
  | some x => if x ≤ t then some (.int x) else none
  | none => none
def inN (len : Int) (gs : List G3) (j : Nat) (t : Int) : Int := ((inL len gs j t).length : Nat)
def spIn (K : PySem.W.Frag) : Sp := fun vs H Q _ => ∃ (R : Hp) (vg : V) (len t : Int) (gs : List G3) (j : Nat) (z : Str) (p c : Int), vs = [.int len, vg, .str z, .int t] ∧ Same R H ∧ Rep K R vg (gD gs) ∧ GsOk len gs ∧ gs[j]? = some (z, p, c) ∧
  ∀ H', Same H H' → Q (.int (inN len gs j t)) H'
theorem fm_some {α β : Type} (f : α → β) : ∀ l : List α, (l.filterMap fun i => some (f i)) = l.map f
  | [] => rfl
  | a :: l => by
    rw [List.filterMap_cons, List.map_cons]
    exact congrArg _ (fm_some f l)
theorem fm_range_at {β : Type} (g : Nat → Option β) (n : Nat) : ∀ (ys : List V) (f : Nat → Option β), True := fun _ _ => True.intro
theorem ok_at_least_in (T : Txt K mg) (G_turn_of : Def P w K mg base 3 "turn_of" ["length", "guests", "name", "many"] (spTurn K)) : Def P w K mg base 4 "at_least_in" ["length", "guests", "name", "turns"] (spIn K) := by
  obtain ⟨f, fd, F⟩ := T.a_at_least_in
  refine Def.mk F sc_at_least_in (fun _ _ _ _ _ _ us hl => match us, hl with | [_, _, _, _], _ => rfl) (fun vs H Q E h => ?_) (fun cdv A outer s H vs Q E hr h => ?_)
  · obtain ⟨R, vg, len, t, gs, j, z, p, c, rfl, _⟩ := h
    rfl
  · obtain ⟨R, vg, len, t, gs, j, z, p, c, rfl, sR, hg, ok, hj, hq⟩ := h
    refine ⟨_, (pss_cons (ps_setLc (i := 4) (own := [("many", 5)]) rfl sc_at_least_in.nd rfl rfl (sw_true rfl rfl rfl (by decide +kernel)) (pi_range2 (by rfl) T.b_range (pa_cons pe_int (pa_cons (pe_op op_add (pv 0) pe_int) pa_nil))) (blkOk_by (own := [("many", 5)]) (N := ["length", "guests", "name", "turns", "found", "many", "turn"]) (sc := defScope s_at_least_in) (by decide +kernel)) (fun _ _ _ _ _ => (pg_name (i := 5) sc_at_least_in.nd rfl (Or.inl rfl))) (fun _ _ _ _ _ => pts_nil) (fun _ _ _ _ _ => (pe_d G_turn_of (hr.mono (by decide)) (by rfl) (pa_cons (pv 0) (pa_cons (pv 1) (pa_cons (pv 2) (pa_cons (pv 5) pa_nil)))))))
      (pss_one (ps_ret (pe_callB (kcall_len_seq K rfl) (by rfl) T.b_len (by decide +kernel) (pa_cons (pe_lc (own := [("turn", 6)]) rfl sc_at_least_in.nd (kpi_list K rfl (pv 4)) (blkOk_by (own := [("turn", 6)]) (N := ["length", "guests", "name", "turns", "found", "many", "turn"]) (sc := defScope s_at_least_in) (by decide +kernel)) (fun _ _ _ _ _ => (pg_name (i := 6) sc_at_least_in.nd rfl (Or.inl rfl))) (fun _ _ _ _ _ => (pts_one (PW.pt (pw_and (pt_cmpR op_notN (pv 6) pe_non (nomark _)) (pw_and1 (pt_cmpR op_le (pv 6) (pv 3) (nomark _))))))) (fun _ _ _ _ _ => (pv 6))) pa_nil))))), ?_⟩
    have hlen := ok.len
    refine ⟨_, rfl, _, _, rfl, rfl, _, _, rfl, ⟨by omega, by omega, by omega, by omega⟩, fun l hl => ?_⟩
    have en : (len + 1 - 1).toNat = len.toNat := by congr 1; omega
    rw [en]
    refine lc_vals (w := walk_range) (fun i => some (optV (turnOf len gs j (1 + (i : Nat))))) hl (by omega) (fun _ _ => True.intro) ?_ ?_
    · rintro i x H1 H2 Y2 N2 hi s1 hn ⟨rfl, rfl⟩ k1 k2
      refine ⟨rfl, ⟨_, rfl, _, rfl, _, rfl, _, rfl, R, vg, len, 1 + (i : Nat), gs, j, z, p, c, rfl, sR.trans s1, hg, ok, hj, by omega, by omega, fun H3 s3 => k1 _ _ rfl s3⟩⟩
    · intro H1 s1 h1
      rw [fm_some] at h1
      refine ⟨_, rfl, l, rfl, ⟨_, SqL.of h1⟩, fun L hL => ?_⟩
      refine lc_vals (w := walk_list (xs := (List.range len.toNat).map fun i => optV (turnOf len gs j (1 + (i : Nat))))) (fun i => match turnOf len gs j (1 + (i : Nat)) with
        | some x => if x ≤ t then some (.int x) else none
        | none => none) hL (by rw [List.length_map, List.length_range]; omega) (fun H2 s2 => SqL.of (s2 _ _ h1)) ?_ ?_
      · rintro i x H2 H3 Y2 N2 hi s2 hn ⟨rfl, hx⟩ k1 k2
        rw [List.getElem?_map] at hx
        obtain ⟨y, hy, rfl⟩ := Option.map_eq_some_iff.mp hx
        have ey : y = i := by
          rw [List.getElem?_range (by rw [List.length_map, List.length_range] at hi; exact hi)] at hy
          exact (Option.some.inj hy).symm
        subst ey
        refine ⟨rfl, ?_⟩
        cases ct : turnOf len gs j (1 + (y : Nat)) with
        | none =>
          rw [ct] at k2
          exact ⟨_, rfl, rfl, _, rfl, iteF (k2 _ rfl (Same.refl _))⟩
        | some x =>
          rw [ct] at k1 k2
          refine ⟨_, rfl, rfl, _, rfl, iteT ⟨_, rfl, _, rfl, _, _, rfl, rfl, _, rfl, ?_⟩⟩
          refine ite_dec (fun c => ?_) (fun c => ?_)
          · exact ⟨_, rfl, k1 _ _ (if_pos (of_decide_eq_true c)) (Same.refl _)⟩
          · exact k2 _ (if_neg (of_decide_eq_false c)) (Same.refl _)
      · intro H2 s2 h2
        rw [List.length_map, List.length_range] at h2
        exact ⟨L, inL len gs j t, rfl, .inl (SqL.of h2), hq H2 (s1.trans s2)⟩
/-! ### at_least -/
theorem sc_at_least : FnScope ["length", "guests", "name", "turns", "whole", "rest"] ["length", "guests", "name", "turns"] (defScope s_at_least) := ⟨rfl, rfl, rfl, by decide +kernel, rfl, by decide +kernel, by decide +kernel⟩
def sureN (len : Int) (gs : List G3) (j : Nat) (t : Int) : Int := t / len * inN len gs j len + inN len gs j (t % len)
def spAtLeast (K : PySem.W.Frag) : Sp := fun vs H Q E => ∃ (R : Hp) (vl vg vn vm : V) (dl dg dn dm : D), vs = [vl, vg, vn, vm] ∧ Cs K R H vl vg vn dl dg dn E ∧ Rep K R vm dm ∧
  (caseR dl dg dn = 3 → dm.whole 0 400 = false → Errs K "NoNumber" "found" vm H E) ∧
  (caseR dl dg dn = 3 → dm.whole 0 400 = true → ∃ len gs j z p c t, Good dl dg dn len gs j z p c ∧ dm = .int t ∧ ∀ H', Same H H' → Q (.int (sureN len gs j t)) H')
theorem inN_le (len : Int) (gs : List G3) (j : Nat) (t : Int) : 0 ≤ inN len gs j t ∧ inN len gs j t ≤ len.toNat := by
  have h := filterMap_range_length (fun i : Nat => match turnOf len gs j (1 + (i : Nat)) with
    | some x => if x ≤ t then some (V.int x) else none
    | none => none) len.toNat
  have h2 : (inL len gs j t).length ≤ len.toNat := h
  unfold inN
  omega
theorem ok_at_least (T : Txt K mg) (G_is_whole : Def P w K mg base 1 "is_whole" ["thing", "low", "high"] (spWhole K)) (G_need_case : Def P w K mg base 4 "need_case" ["length", "guests", "name"] (spNeedCase K)) (G_at_least_in : Def P w K mg base 4 "at_least_in" ["length", "guests", "name", "turns"] (spIn K)) :
    Def P w K mg base 5 "at_least" ["length", "guests", "name", "turns"] (spAtLeast K) := by
  obtain ⟨f, fd, F⟩ := T.a_at_least
  refine Def.mk F sc_at_least (fun _ _ _ _ _ _ us hl => match us, hl with | [_, _, _, _], _ => rfl) (fun vs H Q E h => ?_) (fun cdv A outer s H vs Q E hr h => ?_)
  · obtain ⟨R, vl, vg, vn, vm, dl, dg, dn, dm, rfl, _⟩ := h
    rfl
  · obtain ⟨R, vl, vg, vn, vm, dl, dg, dn, dm, rfl, C, hm, e1, e2⟩ := h
    refine ⟨_, (pss_cons (ps_expr (pe_dX G_need_case (hr.mono (by decide)) (by rfl) tkB (pa_cons (pv 0) (pa_cons (pv 1) (pa_cons (pv 2) pa_nil)))))
      (pss_cons (ps_if (pt_not (pt_val (pe_d G_is_whole (hr.mono (by decide)) (by rfl) (pa_cons (pv 3) (pa_cons pe_int (pa_cons (pe_gi (by rfl) T.c_MOST_TURNS) pa_nil)))))) (pss_one (ps_raise rfl tkB (pmk_NoNumber hr T (pa_cons (pv 3) pa_nil)))) pss_nil)
      (pss_cons (ps_asg (pe_callB call_divmodW (by rfl) T.b_divmod (by decide +kernel) (pa_cons (pv 3) (pa_cons (pv 0) pa_nil))) (kpg_tup K rfl (n := 2) rfl (pgs_cons (pg_name (i := 4) sc_at_least.nd rfl (Or.inl rfl)) (pgs_cons (pg_name (i := 5) sc_at_least.nd rfl (Or.inl rfl)) pgs_nil))))
      (pss_one (ps_ret (pe_op op_add (pe_op op_mulW (pv 4) (pe_d G_at_least_in (hr.mono (by decide)) (by rfl) (pa_cons (pv 0) (pa_cons (pv 1) (pa_cons (pv 2) (pa_cons (pv 0) pa_nil)))))) (pe_d G_at_least_in (hr.mono (by decide)) (by rfl) (pa_cons (pv 0) (pa_cons (pv 1) (pa_cons (pv 2) (pa_cons (pv 5) pa_nil))))))))))), ?_⟩
    refine ⟨_, rfl, _, rfl, _, rfl, R, vl, vg, vn, dl, dg, dn, rfl, C.s, C.p, C.l, C.g, C.n, C.k0, C.k1, C.k2, fun c3 H1 s1 => ?_⟩
    refine ⟨_, rfl, vm, dm, 0, 400, rfl, hm.same (C.s.trans s1), _, rfl, ?_⟩
    show if (!dm.whole 0 400) = true then _ else _
    cases cw : dm.whole 0 400 with
    | false => exact ⟨_, rfl, fun dd hd => (e1 c3 cw).same s1 _ dd (same_new hd) hd upd_same⟩
    | true =>
      obtain ⟨len, gs, j, z, p, c, t, g, rfl, hq⟩ := e2 c3 cw
      obtain ⟨gl, gg, gn, ok, at'⟩ := g
      subst gl gg gn
      cases hm
      have hl := C.l
      cases hl
      have hn := C.n
      cases hn
      obtain ⟨i, ei, b1, b2⟩ := whole_int cw
      cases ei
      have hlen := ok.len
      refine iteF ⟨_, rfl, _, rfl, t, len, rfl, ⟨by omega, PyProof.noPylong_small (by omega)⟩, fun q hq' => ?_⟩
      have s2 : Same H1 (upd H1 q (.tup [.int (t / len), .int (t % len)])) := same_new hq'
      refine ⟨q, [.int (t / len), .int (t % len)], rfl, SqT.of upd_same, rfl, _, _, rfl, _, _, rfl, rfl, ?_⟩
      generalize upd H1 q (.tup [.int (t / len), .int (t % len)]) = H2 at s2 ⊢
      have bd : 0 ≤ t / len ∧ t / len ≤ 400 := ⟨Int.ediv_nonneg b1 (by omega), Int.le_trans (Int.ediv_le_self _ b1) b2⟩
      refine ⟨_, rfl, _, rfl, _, rfl, _, rfl, _, rfl, R, vg, len, len, gs, j, z, p, c, rfl, C.s.trans (s1.trans s2), C.g, ok, at', fun H3 s3 => ?_⟩
      have hin := inN_le len gs j len
      refine ⟨_, _, rfl, rfl, wmul (by omega) (by omega), ?_⟩
      refine ⟨_, rfl, _, rfl, _, rfl, _, rfl, R, vg, len, t % len, gs, j, z, p, c, rfl, C.s.trans (s1.trans (s2.trans s3)), C.g, ok, at', fun H4 s4 => ?_⟩
      exact ⟨_, _, rfl, rfl, hq H4 (s1.trans (s2.trans (s3.trans s4)))⟩
end
end K85

set_option Elab.async false
set_option linter.all false
set_option maxRecDepth 100000
set_option maxHeartbeats 1000000
namespace K85
open PySem PySem.Spec PyProof.Rows L2 RP
/-! ### the order of the turns, in plain numbers -/
theorem aP_le (p q u : Int) (e : Bool) : aheadP p q u e ≤ q := by
  unfold aheadP
  exact Int.min_le_left _ _
theorem aF_le {p q qc u : Int} {e : Bool} (h : q ≤ qc) : aheadF p q qc u e ≤ qc := by
  unfold aheadF
  split
  · exact Int.le_trans (aP_le _ _ _ _) h
  · exact Int.min_le_left _ _
theorem aF_nn {p q qc u : Int} {e : Bool} (h0 : 0 ≤ q) (h : q ≤ qc) (hu : 0 ≤ u) : 0 ≤ aheadF p q qc u e := by
  unfold aheadF
  split
  · rename_i hp
    have hx : 0 ≤ u * q := Int.mul_nonneg hu h0
    have p0 : 0 < p := by omega
    unfold aheadP
    cases e with
    | true =>
      have := Int.ediv_nonneg hx (by omega : 0 ≤ p)
      simp only [if_true]
      omega
    | false =>
      have := Int.ediv_le_ediv (c := p) p0 (show -(u * q) ≤ 0 by omega)
      rw [Int.zero_ediv] at this
      simp only [Bool.false_eq_true, if_false]
      omega
  · omega
theorem aF_mono {p q qc u : Int} {e : Bool} (h0 : 0 ≤ q) (h : q ≤ qc) (hu : 0 ≤ u) : aheadF p q qc u e ≤ aheadF p q qc (u + 1) e := by
  unfold aheadF
  by_cases h1 : u + 1 < p
  · rw [if_pos h1, if_pos (by omega)]
    have hx : u * q ≤ (u + 1) * q := by
      rw [Int.add_mul]
      omega
    have p0 : 0 < p := by omega
    unfold aheadP
    cases e with
    | true =>
      have := Int.ediv_le_ediv (c := p) p0 hx
      simp only [if_true]
      omega
    | false =>
      have := Int.ediv_le_ediv (c := p) p0 (show -((u + 1) * q) ≤ -(u * q) by omega)
      simp only [Bool.false_eq_true, if_false]
      omega
  · rw [if_neg h1]
    by_cases h2 : u < p
    · rw [if_pos h2]
      have := aP_le p q u e
      cases e <;> simp only [if_true, Bool.false_eq_true, if_false] <;> omega
    · rw [if_neg h2]
      cases e <;> simp only [if_true, Bool.false_eq_true, if_false] <;> omega
/-- two guests in the first phase -/
theorem first_fst {p q qc u v : Int} {e : Bool} (hu : u < p) (hp : 0 ≤ u) (hv : v < q → u * q ≤ v * p ∧ (e = true → u * q < v * p)) (hq : q ≤ v ∨ v < q) : aheadF p q qc u e ≤ v := by
  unfold aheadF
  rw [if_pos hu]
  rcases hq with h | h
  · exact Int.le_trans (aP_le _ _ _ _) h
  · obtain ⟨h1, h2⟩ := hv h
    have p0 : 0 < p := by omega
    unfold aheadP
    cases e with
    | true =>
      have := Int.ediv_lt_of_lt_mul p0 (h2 rfl)
      simp only [if_true]
      omega
    | false =>
      have h3 : -v ≤ -(u * q) / p := by
        rw [Int.le_ediv_iff_mul_le p0, Int.neg_mul]
        omega
      simp only [Bool.false_eq_true, if_false]
      omega
theorem first_snd {p q pc u v : Int} {e : Bool} (hu : u < p) (hc : p ≤ pc) (hp : 0 ≤ u) (hv0 : 0 ≤ v) (hv : v < q → u * q ≤ v * p ∧ (e = false → u * q < v * p)) : u < aheadF q p pc v e := by
  unfold aheadF
  split
  · rename_i h
    obtain ⟨h1, h2⟩ := hv h
    have q0 : 0 < q := by omega
    unfold aheadP
    cases e with
    | true =>
      have h3 : u ≤ v * p / q := by
        rw [Int.le_ediv_iff_mul_le q0]
        exact h1
      simp only [if_true]
      omega
    | false =>
      have h3 : -(v * p) / q < -u := by
        refine Int.ediv_lt_of_lt_mul q0 ?_
        rw [Int.neg_mul]
        have := h2 rfl
        omega
      simp only [Bool.false_eq_true, if_false]
      omega
  · omega
/-- the guests' numbers -/
def pA (gs : List G3) (i : Nat) : Int := (shAt gs i).1
def cA (gs : List G3) (i : Nat) : Int := (shAt gs i).2
def Aij (gs : List G3) (i k : Nat) (v : Int) : Int := aheadF (pA gs k) (pA gs i) (cA gs i) v (decide (i < k))
theorem GsOk.at_sh {len : Int} {gs : List G3} (g : GsOk len gs) {i : Nat} (h : i < gs.length) : 0 ≤ pA gs i ∧ pA gs i ≤ cA gs i ∧ 1 ≤ cA gs i ∧ cA gs i ≤ len := by
  have e : gs[i]? = some gs[i] := List.getElem?_eq_getElem h
  obtain ⟨a1, a2, a3, a4⟩ := g.sh _ (List.mem_of_getElem? e)
  have e2 : shAt gs i = (gs[i].2.1, gs[i].2.2) := shAt_of (z := gs[i].1) e
  unfold pA cA
  rw [e2]
  exact ⟨a1, by show gs[i].2.1 ≤ gs[i].2.2; omega, by show 1 ≤ gs[i].2.2; omega, a4⟩
/-- what a dealing answers -/
def DealOk (gs : List G3) (u : Nat → Int) : Option Nat → Prop
  | some b => b < gs.length ∧ ((u b < pA gs b ∧ ∀ i, i < gs.length → u i < pA gs i → u b * pA gs i ≤ u i * pA gs b ∧ (i < b → u b * pA gs i < u i * pA gs b)) ∨
      ((∀ i, i < gs.length → ¬ u i < pA gs i) ∧ u b < cA gs b ∧ ∀ i, i < gs.length → u i < cA gs i → u b ≤ u i ∧ (i < b → u b < u i)))
  | none => ∀ i, i < gs.length → ¬ u i < cA gs i
/-- how far the dealing has come -/
structure Inv1 (gs : List G3) (u : Nat → Int) : Prop where
  b : ∀ i, i < gs.length → 0 ≤ u i ∧ u i ≤ cA gs i
  a : ∀ i k, i < gs.length → k < gs.length → i ≠ k → u k < cA gs k → u i ≤ Aij gs i k (u k)
def addAt (u : Nat → Int) (b : Nat) : Nat → Int := fun i => if i = b then u i + 1 else u i
theorem deal_lt {len : Int} {gs : List G3} {u : Nat → Int} {b : Nat} (g : GsOk len gs) (d : DealOk gs u (some b)) : u b < cA gs b := by
  obtain ⟨h, h1 | h1⟩ := d
  · have := g.at_sh h
    omega
  · exact h1.2.1
theorem deal_le {len : Int} {gs : List G3} {u : Nat → Int} {b i : Nat} (g : GsOk len gs) (I : Inv1 gs u) (d : DealOk gs u (some b)) (hi : i < gs.length) (hn : i ≠ b) : Aij gs i b (u b) ≤ u i ∧ (u i < cA gs i → u b < Aij gs b i (u i)) := by
  obtain ⟨h, h1⟩ := d
  have gi := g.at_sh hi
  have gb := g.at_sh h
  have ib := I.b b h
  have ii := I.b i hi
  have hlt : decide (b < i) = !decide (i < b) := by
    by_cases q : i < b
    · rw [decide_eq_true q, decide_eq_false (by omega)]; rfl
    · rw [decide_eq_false q, decide_eq_true (by omega)]; rfl
  rcases h1 with ⟨h1, h2⟩ | ⟨h0, h1, h2⟩
  · refine ⟨first_fst h1 ib.1 (fun hv => ⟨(h2 i hi hv).1, fun e => (h2 i hi hv).2 (of_decide_eq_true e)⟩) (by omega), fun hc => ?_⟩
    refine first_snd h1 gb.2.1 ib.1 ii.1 (fun hv => ⟨(h2 i hi hv).1, fun e => (h2 i hi hv).2 ?_⟩)
    rw [hlt] at e
    exact of_decide_eq_true (by simpa using e)
  · have n1 := h0 b h
    have n2 := h0 i hi
    refine ⟨?_, fun hc => ?_⟩
    · unfold Aij aheadF
      rw [if_neg n1]
      by_cases hc : u i < cA gs i
      · obtain ⟨a1, a2⟩ := h2 i hi hc
        by_cases q : i < b
        · have := a2 q
          rw [decide_eq_true q]
          simp only [if_true]
          omega
        · rw [decide_eq_false q]
          simp only [Bool.false_eq_true, if_false]
          omega
      · omega
    · unfold Aij aheadF
      rw [if_neg n2]
      obtain ⟨a1, a2⟩ := h2 i hi hc
      by_cases q : b < i
      · rw [decide_eq_true q]
        simp only [if_true]
        omega
      · have := a2 (by omega)
        rw [decide_eq_false q]
        simp only [Bool.false_eq_true, if_false]
        omega
theorem Inv1.next {len : Int} {gs : List G3} {u : Nat → Int} {b : Nat} (g : GsOk len gs) (I : Inv1 gs u) (d : DealOk gs u (some b)) : Inv1 gs (addAt u b) := by
  have hlt := deal_lt g d
  have hb := d.1
  refine ⟨fun i hi => ?_, fun i k hi hk hn hc => ?_⟩
  · have := I.b i hi
    unfold addAt
    by_cases q : i = b
    · subst q
      rw [if_pos rfl]
      omega
    · rw [if_neg q]
      exact this
  · unfold addAt at hc ⊢
    by_cases q : k = b
    · subst q
      rw [if_pos rfl] at hc ⊢
      rw [if_neg hn]
      have gi := g.at_sh hi
      exact Int.le_trans (I.a i k hi hk hn (by omega)) (aF_mono gi.1 gi.2.1 (I.b k hk).1)
    · rw [if_neg q] at hc ⊢
      by_cases q2 : i = b
      · subst q2
        rw [if_pos rfl]
        have := (deal_le g I d hk (Ne.symm hn)).2 hc
        omega
      · rw [if_neg q2]
        exact I.a i k hi hk hn hc
theorem Inv1.zero {len : Int} {gs : List G3} (g : GsOk len gs) : Inv1 gs fun _ => 0 := by
  refine ⟨fun i hi => ?_, fun i k hi hk hn hc => ?_⟩
  · have := g.at_sh hi
    omega
  · have gi := g.at_sh hi
    exact aF_nn gi.1 gi.2.1 (Int.le_refl 0)
/-! ### sums -/
def sumR (u : Nat → Int) (n : Nat) : Int := ((List.range n).map u).sum
theorem sum_split (u : Nat → Int) (n j : Nat) (h : j < n) : sumR u n = u j + (((List.range n).filter fun i => decide (i ≠ j)).map u).sum := by
  unfold sumR
  induction n with
  | zero => omega
  | succ n ih =>
    rw [List.range_succ, List.map_append, List.sum_append, List.filter_append, List.map_append, List.sum_append]
    by_cases q : j = n
    · subst q
      have e1 : (List.range j).filter (fun i => decide (i ≠ j)) = List.range j := by
        refine List.filter_eq_self.mpr fun a ha => ?_
        have := List.mem_range.mp ha
        simp
        omega
      rw [e1]
      simp
      omega
    · rw [ih (by omega)]
      have e1 : [n].filter (fun i => decide (i ≠ j)) = [n] := by
        simp
        omega
      rw [e1]
      omega
theorem sum_le {u v : Nat → Int} : ∀ l : List Nat, (∀ i ∈ l, u i ≤ v i) → (l.map u).sum ≤ (l.map v).sum
  | [], _ => Int.le_refl _
  | a :: l, h => by
    have h1 := h a List.mem_cons_self
    have h2 := sum_le l fun i hi => h i (List.mem_cons_of_mem _ hi)
    rw [List.map_cons, List.map_cons, List.sum_cons, List.sum_cons]
    omega
theorem sum_eq {u v : Nat → Int} {l : List Nat} (h : ∀ i ∈ l, u i = v i) : (l.map u).sum = (l.map v).sum := by
  rw [List.map_congr_left h]
/-- the turn of guest j's turn with u behind it -/
def Tj (gs : List G3) (j : Nat) (v : Int) : Int := v + 1 + aheadAll gs j v (others gs j)
theorem aheadAll_eq (gs : List G3) (j : Nat) (v : Int) : aheadAll gs j v (others gs j) = ((others gs j).map fun i => Aij gs i j v).sum := rfl
theorem others_mem {gs : List G3} {j i : Nat} (h : i ∈ others gs j) : i < gs.length ∧ i ≠ j := by
  have h2 := List.mem_filter.mp h
  exact ⟨List.mem_range.mp h2.1, of_decide_eq_true h2.2⟩
theorem Tj_mono {len : Int} {gs : List G3} {j : Nat} {v : Int} (g : GsOk len gs) (hv : 0 ≤ v) : Tj gs j v < Tj gs j (v + 1) := by
  unfold Tj
  rw [aheadAll_eq, aheadAll_eq]
  have := sum_le (u := fun i => Aij gs i j v) (v := fun i => Aij gs i j (v + 1)) (others gs j) fun i hi => by
    have gi := g.at_sh (others_mem hi).1
    exact aF_mono gi.1 gi.2.1 hv
  omega
theorem Tj_monoN {len : Int} {gs : List G3} {j : Nat} (g : GsOk len gs) {v : Int} (hv : 0 ≤ v) : ∀ d : Nat, Tj gs j v + d ≤ Tj gs j (v + d)
  | 0 => by simp
  | d + 1 => by
    have h1 := Tj_monoN (j := j) g hv d
    have h2 := Tj_mono (j := j) g (v := v + d) (by omega)
    have e : v + ((d + 1 : Nat) : Int) = v + d + 1 := by omega
    rw [e]
    omega
/-- the dealing after t turns -/
structure InvT (len : Int) (gs : List G3) (j t : Nat) (u : Nat → Int) : Prop where
  i : Inv1 gs u
  s : (∃ i, i < gs.length ∧ u i < cA gs i) → sumR u gs.length = t
  t : ∀ v : Int, 0 ≤ v → v < u j → Tj gs j v ≤ t
theorem InvT.zero {len : Int} {gs : List G3} {j : Nat} (g : GsOk len gs) : InvT len gs j 0 fun _ => 0 := by
  refine ⟨Inv1.zero g, fun _ => ?_, fun v h0 h1 => absurd h1 (by omega)⟩
  unfold sumR
  induction gs.length with
  | zero => rfl
  | succ n ih => rw [List.range_succ, List.map_append, List.sum_append, ih]; rfl
theorem sum_add {u : Nat → Int} {n b : Nat} (h : b < n) : sumR (addAt u b) n = sumR u n + 1 := by
  rw [sum_split _ n b h, sum_split u n b h]
  have e : (((List.range n).filter fun i => decide (i ≠ b)).map (addAt u b)).sum = (((List.range n).filter fun i => decide (i ≠ b)).map u).sum := by
    refine sum_eq fun i hi => ?_
    have := of_decide_eq_true (List.mem_filter.mp hi).2
    exact if_neg this
  rw [e]
  have e2 : addAt u b b = u b + 1 := if_pos rfl
  rw [e2]
  omega
theorem deal_turn {len : Int} {gs : List G3} {j t : Nat} {u : Nat → Int} (g : GsOk len gs) (I : InvT len gs j t u) (d : DealOk gs u (some j)) : Tj gs j (u j) = (t : Int) + 1 := by
  have hj := d.1
  have hs := I.s ⟨j, hj, deal_lt g d⟩
  rw [sum_split u _ j hj] at hs
  unfold Tj
  rw [aheadAll_eq]
  have e : ((others gs j).map fun i => Aij gs i j (u j)).sum = (((List.range gs.length).filter fun i => decide (i ≠ j)).map u).sum := by
    refine sum_eq fun i hi => ?_
    obtain ⟨h1, h2⟩ := others_mem hi
    have a1 := (deal_le g I.i d h1 h2).1
    have a2 := I.i.a i j h1 hj h2 (deal_lt g d)
    exact Int.le_antisymm a1 a2
  rw [e]
  omega
theorem InvT.next {len : Int} {gs : List G3} {j t b : Nat} {u : Nat → Int} (g : GsOk len gs) (I : InvT len gs j t u) (d : DealOk gs u (some b)) : InvT len gs j (t + 1) (addAt u b) := by
  have hb := d.1
  have hs := I.s ⟨b, hb, deal_lt g d⟩
  refine ⟨I.i.next g d, fun _ => ?_, fun v h0 h1 => ?_⟩
  · rw [sum_add hb, hs]
    omega
  · by_cases q : j = b
    · subst q
      have e2 : addAt u j j = u j + 1 := if_pos rfl
      rw [e2] at h1
      by_cases q2 : v = u j
      · rw [q2, deal_turn g I d]
        omega
      · have := I.t v h0 (by omega)
        omega
    · have e2 : addAt u b j = u j := if_neg q
      rw [e2] at h1
      have := I.t v h0 h1
      omega
theorem InvT.idle {len : Int} {gs : List G3} {j t : Nat} {u : Nat → Int} (I : InvT len gs j t u) (d : DealOk gs u none) : InvT len gs j (t + 1) u :=
  ⟨I.i, fun ⟨i, hi, h⟩ => absurd h (d i hi), fun v h0 h1 => by have := I.t v h0 h1; omega⟩
/-- the turns that guest j has had -/
def hadL (gs : List G3) (j : Nat) (m : Nat) : List V := (List.range m).map fun i => V.int (Tj gs j (i : Nat))
theorem turnOf_lt {len : Int} {gs : List G3} {j : Nat} {u : Nat → Int} (g : GsOk len gs) (hj : j < gs.length) (I : InvT len gs j len.toNat u) {i : Nat} (h : (i : Int) < u j) : turnOf len gs j (1 + (i : Nat)) = some (Tj gs j (i : Nat)) := by
  have h1 := I.t (i : Nat) (by omega) h
  have hc := (I.i.b j hj).2
  have hlen := g.len
  unfold turnOf
  have e : (1 : Int) + (i : Nat) - 1 = (i : Nat) := by omega
  have e2 : (1 : Int) + (i : Nat) + aheadAll gs j (i : Nat) (others gs j) = Tj gs j (i : Nat) := by
    unfold Tj
    omega
  rw [if_neg (show ¬ (1 : Int) + (i : Nat) > (shAt gs j).2 from by unfold cA at hc; omega), e, e2, if_pos (by omega)]
theorem turnOf_ge {len : Int} {gs : List G3} {j : Nat} {u : Nat → Int} (g : GsOk len gs) (hj : j < gs.length) (I : InvT len gs j len.toNat u) {i : Nat} (h : u j ≤ (i : Int)) : turnOf len gs j (1 + (i : Nat)) = none := by
  have hlen := g.len
  have hb := I.i.b j hj
  unfold turnOf
  by_cases q : (1 : Int) + (i : Nat) > (shAt gs j).2
  · rw [if_pos q]
  · rw [if_neg q]
    have e : (1 : Int) + (i : Nat) - 1 = (i : Nat) := by omega
    have e2 : (1 : Int) + (i : Nat) + aheadAll gs j (i : Nat) (others gs j) = Tj gs j (i : Nat) := by
      unfold Tj
      omega
    have hlt : u j < cA gs j := by unfold cA; omega
    have hs := I.s ⟨j, hj, hlt⟩
    rw [sum_split u _ j hj] at hs
    have h1 : Tj gs j (u j) > len := by
      unfold Tj
      rw [aheadAll_eq]
      have := sum_le (u := u) (v := fun i => Aij gs i j (u j)) (others gs j) fun i hi => by
        obtain ⟨q1, q2⟩ := others_mem hi
        exact I.i.a i j q1 hj q2 hlt
      unfold others at this ⊢
      omega
    have h2 := Tj_monoN (j := j) g hb.1 ((i : Int) - u j).toNat
    have e3 : u j + (((i : Int) - u j).toNat : Int) = i := by omega
    rw [e3] at h2
    rw [e, e2, if_neg (by omega)]
theorem fm_split {α β : Type} {f : Nat → Option β} {F : Nat → β} {m : Nat} : ∀ n, (∀ i, i < n → i < m → f i = some (F i)) → (∀ i, i < n → m ≤ i → f i = none) → (List.range n).filterMap f = (List.range (min m n)).map F
  | 0, _, _ => by simp
  | n + 1, h1, h2 => by
    have ih := fm_split (α := α) n (fun i hi => h1 i (by omega)) (fun i hi => h2 i (by omega))
    rw [range_succ_filterMap, ih]
    by_cases q : n < m
    · rw [h1 n (by omega) q, show min m n = n by omega, show min m (n + 1) = n + 1 by omega, List.range_succ, List.map_append]
      rfl
    · rw [h2 n (by omega) (by omega), show min m n = m by omega, show min m (n + 1) = m by omega, List.append_nil]
/-- the end of the stretch -/
theorem inL_end {len : Int} {gs : List G3} {j : Nat} {u : Nat → Int} (g : GsOk len gs) (hj : j < gs.length) (I : InvT len gs j len.toNat u) : inL len gs j len = hadL gs j (u j).toNat := by
  have hb := I.i.b j hj
  have hlen := g.len
  have hc := (g.at_sh hj).2.2.2
  unfold inL hadL
  rw [fm_split (α := Nat) (F := fun i => V.int (Tj gs j (i : Nat))) (m := (u j).toNat)]
  · rw [show min (u j).toNat len.toNat = (u j).toNat by omega]
  · intro i hi hm
    rw [turnOf_lt g hj I (by omega)]
    have := I.t (i : Nat) (by omega) (by omega)
    show (if Tj gs j (i : Nat) ≤ len then _ else _) = _
    rw [if_pos (by omega)]
  · intro i hi hm
    rw [turnOf_ge g hj I (by omega)]
end K85

set_option Elab.async false
set_option linter.all false
set_option maxRecDepth 100000
set_option maxHeartbeats 1000000
namespace K85
open PySem PySem.Spec PyProof.Rows L2 RP
/-! ### a dealing where only some are ready -/
def DealR (gs : List G3) (u : Nat → Int) (rd : Nat → Bool) : Option Nat → Prop
  | some b => b < gs.length ∧ rd b = true ∧ ((u b < pA gs b ∧ ∀ i, i < gs.length → rd i = true → u i < pA gs i → u b * pA gs i ≤ u i * pA gs b ∧ (i < b → u b * pA gs i < u i * pA gs b)) ∨
      ((∀ i, i < gs.length → rd i = true → ¬ u i < pA gs i) ∧ u b < cA gs b ∧ ∀ i, i < gs.length → rd i = true → u i < cA gs i → u b ≤ u i ∧ (i < b → u b < u i)))
  | none => ∀ i, i < gs.length → rd i = true → ¬ u i < cA gs i
theorem dealR_lt {len : Int} {gs : List G3} {u : Nat → Int} {rd : Nat → Bool} {b : Nat} (g : GsOk len gs) (d : DealR gs u rd (some b)) : u b < cA gs b := by
  obtain ⟨h, _, h1 | h1⟩ := d
  · have := g.at_sh h
    omega
  · exact h1.2.1
theorem dealR_unique {len : Int} {gs : List G3} {u : Nat → Int} {rd : Nat → Bool} (g : GsOk len gs) {o o' : Option Nat} (d : DealR gs u rd o) (d' : DealR gs u rd o') : o = o' := by
  cases o with
  | none =>
    cases o' with
    | none => rfl
    | some b => exact absurd (dealR_lt g d') (d b d'.1 d'.2.1)
  | some b =>
    cases o' with
    | none => exact absurd (dealR_lt g d) (d' b d.1 d.2.1)
    | some c =>
      obtain ⟨hb, rb, h⟩ := d
      obtain ⟨hc, rc, h'⟩ := d'
      congr 1
      rcases h with ⟨h1, h2⟩ | ⟨h0, h1, h2⟩ <;> rcases h' with ⟨k1, k2⟩ | ⟨k0, k1, k2⟩
      · obtain ⟨a1, a2⟩ := h2 c hc rc k1
        obtain ⟨b1, b2⟩ := k2 b hb rb h1
        by_cases q1 : b < c
        · have := b2 q1
          omega
        · by_cases q2 : c < b
          · have := a2 q2
            omega
          · omega
      · exact absurd h1 (k0 b hb rb)
      · exact absurd k1 (h0 c hc rc)
      · obtain ⟨a1, a2⟩ := h2 c hc rc k1
        obtain ⟨b1, b2⟩ := k2 b hb rb h1
        by_cases q1 : b < c
        · have := b2 q1
          omega
        · by_cases q2 : c < b
          · have := a2 q2
            omega
          · omega
open Classical in
/-- whom the dealing serves -/
noncomputable def dealF (gs : List G3) (u : Nat → Int) (rd : Nat → Bool) : Option Nat := if h : ∃ o, DealR gs u rd o then h.choose else none
theorem dealF_eq {len : Int} {gs : List G3} {u : Nat → Int} {rd : Nat → Bool} (g : GsOk len gs) {o : Option Nat} (d : DealR gs u rd o) : dealF gs u rd = o := by
  unfold dealF
  rw [dif_pos ⟨o, d⟩]
  exact dealR_unique g (Exists.choose_spec (⟨o, d⟩ : ∃ o, DealR gs u rd o)) d
/-- one turn, many turns -/
noncomputable def stepF (gs : List G3) (u : Nat → Int) (rd : Nat → Bool) : Nat → Int := match dealF gs u rd with
  | some b => addAt u b
  | none => u
noncomputable def stAt (gs : List G3) (rds : Nat → Nat → Bool) : Nat → (Nat → Int)
  | 0 => fun _ => 0
  | t + 1 => stepF gs (stAt gs rds t) (rds t)
noncomputable def fndAt (gs : List G3) (rds : Nat → Nat → Bool) (j t : Nat) : List Int := (List.range t).filterMap fun k => if dealF gs (stAt gs rds k) (rds k) = some j then some ((k : Int) + 1) else none
theorem fndAt_next (gs : List G3) (rds : Nat → Nat → Bool) (j t : Nat) : fndAt gs rds j (t + 1) = fndAt gs rds j t ++ (if dealF gs (stAt gs rds t) (rds t) = some j then [(t : Int) + 1] else []) := by
  unfold fndAt
  rw [range_succ_filterMap]
  split <;> rename_i h <;> split at h <;> simp_all
/-! ### the invariant for one guest that is always ready -/
theorem dealR_le {len : Int} {gs : List G3} {u : Nat → Int} {rd : Nat → Bool} {b i : Nat} (g : GsOk len gs) (hu : ∀ i, i < gs.length → 0 ≤ u i ∧ u i ≤ cA gs i) (d : DealR gs u rd (some b)) (hi : i < gs.length) (ri : rd i = true) (hn : i ≠ b) : u i < cA gs i → u b < Aij gs b i (u i) := by
  obtain ⟨h, rb, h1⟩ := d
  have gi := g.at_sh hi
  have gb := g.at_sh h
  have ib := hu b h
  have ii := hu i hi
  have hlt : decide (b < i) = !decide (i < b) := by
    by_cases q : i < b
    · rw [decide_eq_true q, decide_eq_false (by omega)]; rfl
    · rw [decide_eq_false q, decide_eq_true (by omega)]; rfl
  rcases h1 with ⟨h1, h2⟩ | ⟨h0, h1, h2⟩
  · intro hc
    refine first_snd h1 gb.2.1 ib.1 ii.1 (fun hv => ⟨(h2 i hi ri hv).1, fun e => (h2 i hi ri hv).2 ?_⟩)
    rw [hlt] at e
    exact of_decide_eq_true (by simpa using e)
  · have n2 := h0 i hi ri
    intro hc
    unfold Aij aheadF
    rw [if_neg n2]
    obtain ⟨a1, a2⟩ := h2 i hi ri hc
    by_cases q : b < i
    · rw [decide_eq_true q]
      simp only [if_true]
      omega
    · have := a2 (by omega)
      rw [decide_eq_false q]
      simp only [Bool.false_eq_true, if_false]
      omega
structure InvJ (len : Int) (gs : List G3) (j t : Nat) (u : Nat → Int) (fnd : List Int) : Prop where
  b : ∀ i, i < gs.length → 0 ≤ u i ∧ u i ≤ cA gs i
  a : ∀ i, i < gs.length → i ≠ j → u j < cA gs j → u i ≤ Aij gs i j (u j)
  s : u j < cA gs j → sumR u gs.length = t
  n : (fnd.length : Int) = u j
  f : ∀ (m : Nat) (x : Int), fnd[m]? = some x → x ≤ Tj gs j (m : Nat)
theorem InvJ.zero {len : Int} {gs : List G3} {j : Nat} (g : GsOk len gs) : InvJ len gs j 0 (fun _ => 0) [] := by
  refine ⟨(Inv1.zero g).b, fun i hi hn hc => ?_, fun _ => ?_, rfl, fun m x h => nomatch h⟩
  · have gi := g.at_sh hi
    exact aF_nn gi.1 gi.2.1 (Int.le_refl 0)
  · unfold sumR
    induction gs.length with
    | zero => rfl
    | succ n ih => rw [List.range_succ, List.map_append, List.sum_append, ih]; rfl
theorem InvJ.le {len : Int} {gs : List G3} {j t : Nat} {u : Nat → Int} {fnd : List Int} (I : InvJ len gs j t u fnd) (hj : j < gs.length) (hc : u j < cA gs j) : (t : Int) + 1 ≤ Tj gs j (u j) := by
  have hs := I.s hc
  rw [sum_split u _ j hj] at hs
  unfold Tj
  rw [aheadAll_eq]
  have := sum_le (u := u) (v := fun i => Aij gs i j (u j)) (others gs j) fun i hi => by
    obtain ⟨q1, q2⟩ := others_mem hi
    exact I.a i q1 q2 hc
  unfold others at this ⊢
  omega
theorem InvJ.next {len : Int} {gs : List G3} {j t : Nat} {u : Nat → Int} {rd : Nat → Bool} {fnd : List Int} {o : Option Nat} (g : GsOk len gs) (hj : j < gs.length) (rj : rd j = true) (I : InvJ len gs j t u fnd) (d : DealR gs u rd o) :
    InvJ len gs j (t + 1) (match o with | some b => addAt u b | none => u) (fnd ++ if o = some j then [(t : Int) + 1] else []) := by
  cases o with
  | none =>
    have hfull : ¬ u j < cA gs j := d j hj rj
    rw [if_neg (by simp), List.append_nil]
    exact ⟨I.b, fun i hi hn hc => absurd hc hfull, fun hc => absurd hc hfull, I.n, I.f⟩
  | some b =>
    have hlt := dealR_lt g d
    have hb := d.1
    have e2 : addAt u b b = u b + 1 := if_pos rfl
    have bnd : ∀ i, i < gs.length → 0 ≤ addAt u b i ∧ addAt u b i ≤ cA gs i := fun i hi => by
      have := I.b i hi
      unfold addAt
      by_cases q : i = b
      · subst q
        rw [if_pos rfl]
        omega
      · rw [if_neg q]
        exact this
    by_cases q : b = j
    · subst q
      rw [if_pos rfl]
      have hle := I.le hj hlt
      refine ⟨bnd, fun i hi hn hc => ?_, fun hc => ?_, ?_, fun m x h => ?_⟩
      · show addAt u b i ≤ Aij gs i b (addAt u b b)
        rw [e2]
        have e3 : addAt u b i = u i := if_neg hn
        rw [e3]
        have gi := g.at_sh hi
        exact Int.le_trans (I.a i hi hn hlt) (aF_mono gi.1 gi.2.1 (I.b b hj).1)
      · show sumR (addAt u b) gs.length = _
        rw [sum_add hb, I.s hlt]
        omega
      · show _ = addAt u b b
        rw [e2, List.length_append, ← I.n]
        rfl
      · rw [List.getElem?_append] at h
        split at h
        · exact I.f m x h
        · rename_i hm
          have hm2 : m = fnd.length := by
            have := (List.getElem?_eq_some_iff.mp h).1
            simp at this
            omega
          subst hm2
          simp at h
          rw [← h, I.n]
          exact hle
    · rw [if_neg (fun e => q (Option.some.inj e)), List.append_nil]
      have e3 : addAt u b j = u j := if_neg (fun e => q e.symm)
      refine ⟨bnd, fun i hi hn hc => ?_, fun hc => ?_, ?_, I.f⟩
      · show addAt u b i ≤ Aij gs i j (addAt u b j)
        have hc2 : addAt u b j < cA gs j := hc
        rw [e3] at hc2 ⊢
        by_cases q2 : i = b
        · subst q2
          rw [e2]
          have := dealR_le g I.b d hj rj (fun e => q e.symm) hc2
          omega
        · have e4 : addAt u b i = u i := if_neg q2
          rw [e4]
          exact I.a i hi hn hc2
      · have hc2 : addAt u b j < cA gs j := hc
        rw [e3] at hc2
        show sumR (addAt u b) gs.length = _
        rw [sum_add hb, I.s hc2]
        omega
      · show _ = addAt u b j
        rw [e3]
        exact I.n
end K85

set_option Elab.async false
set_option linter.all false
set_option maxRecDepth 100000
set_option maxHeartbeats 1000000
namespace K85
open PySem PySem.Spec PyProof.Rows L2 RP
theorem valV_mem : ∀ {l : List (Key × V)} {k : Key} {v : V}, (l.map (·.1)).Nodup → (k, v) ∈ l → valV l k = some v
  | [], _, _, _, h => nomatch h
  | e :: l, k, v, n, h => by
    rw [List.map_cons, List.nodup_cons] at n
    rcases List.mem_cons.mp h with h | h
    · rw [← h]
      exact valV_pos rfl
    · have ne : ¬ e.1 = k := fun q => n.1 (by rw [q]; exact List.mem_map.mpr ⟨_, h, rfl⟩)
      rw [valV_neg ne]
      exact valV_mem n.2 h
theorem nm_some {gs : List G3} {i : Nat} (h : i < gs.length) : ∃ p c, gs[i]? = some (nmAt gs i, p, c) ∧ pA gs i = p ∧ cA gs i = c := by
  have e : gs[i]? = some gs[i] := List.getElem?_eq_getElem h
  refine ⟨gs[i].2.1, gs[i].2.2, ?_, ?_, ?_⟩
  · have := nmAt_of (z := gs[i].1) (p := gs[i].2.1) (c := gs[i].2.2) e
    rw [this]
    exact e
  · unfold pA
    rw [shAt_of (z := gs[i].1) (p := gs[i].2.1) (c := gs[i].2.2) e]
  · unfold cA
    rw [shAt_of (z := gs[i].1) (p := gs[i].2.1) (c := gs[i].2.2) e]
theorem names_eq (gs : List G3) : (List.range gs.length).map (nmAt gs) = gs.map (·.1) := by
  refine List.ext_getElem (by simp) fun i h1 h2 => ?_
  have h : i < gs.length := by simpa using h1
  obtain ⟨p, c, e, _⟩ := nm_some h
  have e2 : gs[i] = (nmAt gs i, p, c) := by
    rw [List.getElem?_eq_getElem h] at e
    exact Option.some.inj e
  simp [e2]
theorem nm_inj {len : Int} {gs : List G3} (g : GsOk len gs) {i k : Nat} (hi : i < gs.length) (hk : k < gs.length) (h : nmAt gs i = nmAt gs k) : i = k := by
  obtain ⟨p, c, e, _⟩ := nm_some hi
  obtain ⟨p', c', e', _⟩ := nm_some hk
  rw [h] at e
  exact nd_ix g.nd (by rw [List.getElem?_map, e]; rfl) (by rw [List.getElem?_map, e']; rfl)
theorem fm_ifT {α β : Type} (p : α → Bool) (f : α → β) : ∀ l : List α, (l.filterMap fun i => if p i = true then some (f i) else none) = (l.filter p).map f
  | [] => rfl
  | a :: l => by
    rw [List.filterMap_cons, List.filter_cons]
    cases h : p a with
    | true => simp only [if_true, List.map_cons]; exact congrArg _ (fm_ifT p f l)
    | false => simp only [Bool.false_eq_true, if_false]; exact fm_ifT p f l
theorem fm_getD {α : Type} (l : List Nat) (f : Nat → Option α) : ((List.range l.length).filterMap fun t => f (l.getD t 0)) = l.filterMap f := by
  have e : (List.range l.length).map (fun t => l.getD t 0) = l := by
    refine List.ext_getElem (by simp) fun i h1 h2 => ?_
    rw [List.getElem_map, List.getElem_range, List.getD_eq_getElem?_getD, List.getElem?_eq_getElem h2]
    rfl
  have e2 : l.filterMap f = ((List.range l.length).map fun t => l.getD t 0).filterMap f := by rw [e]
  rw [e2, List.filterMap_map]
  rfl
/-- the dict of the turns used -/
def usedK (gs : List G3) (u : Nat → Int) : List (Key × V) := (List.range gs.length).map fun i => (.inr (nmAt gs i), .int (u i))
theorem used_nd {len : Int} {gs : List G3} {u : Nat → Int} (g : GsOk len gs) : ((usedK gs u).map (·.1)).Nodup := by
  have e : (usedK gs u).map (·.1) = (gs.map (·.1)).map fun z => (Sum.inr z : Key) := by
    unfold usedK
    rw [← names_eq, List.map_map, List.map_map]
    rfl
  rw [e]
  exact List.pairwise_map.mpr (g.nd.imp fun h q => h (Sum.inr.inj q))
theorem used_at {len : Int} {gs : List G3} {u : Nat → Int} (g : GsOk len gs) {i : Nat} (h : i < gs.length) : valV (usedK gs u) (.inr (nmAt gs i)) = some (.int (u i)) :=
  valV_mem (used_nd g) (List.mem_map.mpr ⟨i, List.mem_range.mpr h, rfl⟩)
theorem used_put {len : Int} {gs : List G3} {u : Nat → Int} (g : GsOk len gs) {b : Nat} (h : b < gs.length) : putK (usedK gs u) (.inr (nmAt gs b)) (.int (u b + 1)) = usedK gs (addAt u b) := by
  unfold putK
  rw [if_pos]
  · unfold usedK
    rw [List.map_map]
    refine List.map_congr_left fun i hi => ?_
    have hi2 := List.mem_range.mp hi
    show (if (Sum.inr (nmAt gs i) : Key) = Sum.inr (nmAt gs b) then ((Sum.inr (nmAt gs i) : Key), V.int (u b + 1)) else (Sum.inr (nmAt gs i), V.int (u i))) = _
    unfold addAt
    by_cases q : i = b
    · subst q
      rw [if_pos rfl, if_pos rfl]
    · have q2 : ¬ (Sum.inr (nmAt gs i) : Key) = Sum.inr (nmAt gs b) := fun e => q (nm_inj g hi2 h (Sum.inr.inj e))
      rw [if_neg q2, if_neg q]
  · refine List.any_eq_true.mpr ⟨_, List.mem_map.mpr ⟨b, List.mem_range.mpr h, rfl⟩, ?_⟩
    exact decide_eq_true rfl
def nameV (gs : List G3) : Option Nat → V
  | none => .non
  | some b => .str (nmAt gs b)
/-! ### the best of the first phase, of the second -/
def P1 (gs : List G3) (u : Nat → Int) (l : List Nat) : Option Nat → Prop
  | none => l = []
  | some b => b ∈ l ∧ ∀ k ∈ l, u b * pA gs k ≤ u k * pA gs b ∧ (k < b → u b * pA gs k < u k * pA gs b)
theorem P1.none_next {gs : List G3} {u : Nat → Int} {l : List Nat} {i : Nat} (h : P1 gs u l none) : P1 gs u (l ++ [i]) (some i) := by
  have h2 : l = [] := h
  subst h2
  exact ⟨List.mem_singleton.mpr rfl, fun k hk => by
    have := List.mem_singleton.mp hk
    subst this
    exact ⟨Int.le_refl _, fun q => absurd q (Nat.lt_irrefl _)⟩⟩
theorem P1.keep {gs : List G3} {u : Nat → Int} {l : List Nat} {i b : Nat} (h : P1 gs u l (some b)) (hs : ∀ k ∈ l, k < i) (hc : ¬ u i * pA gs b < u b * pA gs i) : P1 gs u (l ++ [i]) (some b) := by
  refine ⟨List.mem_append_left _ h.1, fun k hk => ?_⟩
  rcases List.mem_append.mp hk with q | q
  · exact h.2 k q
  · have := List.mem_singleton.mp q
    subst this
    exact ⟨by omega, fun q2 => absurd q2 (by have := hs b h.1; omega)⟩
theorem P1.new {gs : List G3} {u : Nat → Int} {l : List Nat} {i b : Nat} (h : P1 gs u l (some b)) (hp : ∀ k ∈ l ++ [i], 0 < pA gs k) (hc : u i * pA gs b < u b * pA gs i) : P1 gs u (l ++ [i]) (some i) := by
  refine ⟨List.mem_append_right _ (List.mem_singleton.mpr rfl), fun k hk => ?_⟩
  rcases List.mem_append.mp hk with q | q
  · have h1 := (h.2 k q).1
    have pb := hp b (List.mem_append_left _ h.1)
    have pi := hp i (List.mem_append_right _ (List.mem_singleton.mpr rfl))
    have pk := hp k hk
    have a1 : (u i * pA gs b) * pA gs k < (u b * pA gs i) * pA gs k := Int.mul_lt_mul_of_pos_right hc pk
    have a2 : (u b * pA gs k) * pA gs i ≤ (u k * pA gs b) * pA gs i := Int.mul_le_mul_of_nonneg_right h1 (by omega)
    have e1 : (u i * pA gs b) * pA gs k = (u i * pA gs k) * pA gs b := Int.mul_right_comm _ _ _
    have e2 : (u b * pA gs i) * pA gs k = (u b * pA gs k) * pA gs i := Int.mul_right_comm _ _ _
    have e3 : (u k * pA gs b) * pA gs i = (u k * pA gs i) * pA gs b := Int.mul_right_comm _ _ _
    rw [e1, e2] at a1
    rw [e3] at a2
    have a3 : (u i * pA gs k) * pA gs b < (u k * pA gs i) * pA gs b := by omega
    have a4 := Int.lt_of_mul_lt_mul_right a3 (by omega)
    exact ⟨by omega, fun _ => a4⟩
  · have := List.mem_singleton.mp q
    subst this
    exact ⟨Int.le_refl _, fun q => absurd q (Nat.lt_irrefl _)⟩
def P2 (gs : List G3) (u : Nat → Int) (l : List Nat) : Option Nat → Prop
  | none => ∀ i ∈ l, ¬ u i < cA gs i
  | some b => b ∈ l ∧ u b < cA gs b ∧ ∀ i ∈ l, u i < cA gs i → u b ≤ u i ∧ (i < b → u b < u i)
theorem P2.skip {gs : List G3} {u : Nat → Int} {l : List Nat} {i : Nat} {o : Option Nat} (h : P2 gs u l o) (hc : ¬ u i < cA gs i) : P2 gs u (l ++ [i]) o := by
  cases o with
  | none =>
    intro k hk
    rcases List.mem_append.mp hk with q | q
    · exact h k q
    · rw [List.mem_singleton.mp q]; exact hc
  | some b =>
    refine ⟨List.mem_append_left _ h.1, h.2.1, fun k hk hk2 => ?_⟩
    rcases List.mem_append.mp hk with q | q
    · exact h.2.2 k q hk2
    · rw [List.mem_singleton.mp q] at hk2; exact absurd hk2 hc
theorem P2.none_next {gs : List G3} {u : Nat → Int} {l : List Nat} {i : Nat} (h : P2 gs u l none) (hc : u i < cA gs i) : P2 gs u (l ++ [i]) (some i) := by
  refine ⟨List.mem_append_right _ (List.mem_singleton.mpr rfl), hc, fun k hk hk2 => ?_⟩
  rcases List.mem_append.mp hk with q | q
  · exact absurd hk2 (h k q)
  · rw [List.mem_singleton.mp q]; exact ⟨Int.le_refl _, fun q => absurd q (Nat.lt_irrefl _)⟩
theorem P2.keep {gs : List G3} {u : Nat → Int} {l : List Nat} {i b : Nat} (h : P2 gs u l (some b)) (hs : ∀ k ∈ l, k < i) (hc : ¬ u i < u b) : P2 gs u (l ++ [i]) (some b) := by
  refine ⟨List.mem_append_left _ h.1, h.2.1, fun k hk hk2 => ?_⟩
  rcases List.mem_append.mp hk with q | q
  · exact h.2.2 k q hk2
  · have := List.mem_singleton.mp q
    subst this
    exact ⟨by omega, fun q2 => absurd q2 (by have := hs b h.1; omega)⟩
theorem P2.new {gs : List G3} {u : Nat → Int} {l : List Nat} {i b : Nat} (h : P2 gs u l (some b)) (h0 : u i < cA gs i) (hc : u i < u b) : P2 gs u (l ++ [i]) (some i) := by
  refine ⟨List.mem_append_right _ (List.mem_singleton.mpr rfl), h0, fun k hk hk2 => ?_⟩
  rcases List.mem_append.mp hk with q | q
  · have := (h.2.2 k q hk2).1
    exact ⟨by omega, fun _ => by omega⟩
  · rw [List.mem_singleton.mp q]; exact ⟨Int.le_refl _, fun q => absurd q (Nat.lt_irrefl _)⟩
def readyL (gs : List G3) (rd : Nat → Bool) : List Nat := (List.range gs.length).filter rd
theorem readyL_mem {gs : List G3} {rd : Nat → Bool} {i : Nat} : i ∈ readyL gs rd ↔ i < gs.length ∧ rd i = true := by
  unfold readyL
  rw [List.mem_filter, List.mem_range]
theorem readyL_len (gs : List G3) (rd : Nat → Bool) : (readyL gs rd).length ≤ gs.length := by
  unfold readyL
  have := List.length_filter_le rd (List.range gs.length)
  rw [List.length_range] at this
  exact this
def firsts (gs : List G3) (u : Nat → Int) (rd : Nat → Bool) : List Nat := (readyL gs rd).filter fun i => decide (u i < pA gs i)
theorem firsts_mem {gs : List G3} {u : Nat → Int} {rd : Nat → Bool} {i : Nat} : i ∈ firsts gs u rd ↔ (i < gs.length ∧ rd i = true) ∧ u i < pA gs i := by
  unfold firsts
  rw [List.mem_filter, readyL_mem, decide_eq_true_eq]
theorem sorted_take {l : List Nat} (hs : l.Pairwise (· < ·)) {t i : Nat} (h : l[t]? = some i) : ∀ k ∈ l.take t, k < i := by
  intro k hk
  obtain ⟨m, hm⟩ := List.mem_iff_getElem?.mp hk
  have hm2 : m < t ∧ l[m]? = some k := by
    rw [List.getElem?_take] at hm
    split at hm
    · exact ⟨by assumption, hm⟩
    · cases hm
  have hl := (List.getElem?_eq_some_iff.mp h).1
  have e1 : l[m]'(by omega) = k := (List.getElem?_eq_some_iff.mp hm2.2).2
  have e2 : l[t] = i := (List.getElem?_eq_some_iff.mp h).2
  have := List.pairwise_iff_getElem.mp hs m t (by omega) hl hm2.1
  omega
theorem readyL_sorted (gs : List G3) (rd : Nat → Bool) : (readyL gs rd).Pairwise (· < ·) := List.Pairwise.filter _ List.pairwise_lt_range
theorem firsts_sorted (gs : List G3) (u : Nat → Int) (rd : Nat → Bool) : (firsts gs u rd).Pairwise (· < ·) := List.Pairwise.filter _ (readyL_sorted gs rd)
theorem deal_1 {gs : List G3} {u : Nat → Int} {rd : Nat → Bool} {b : Nat} (h : P1 gs u (firsts gs u rd) (some b)) : DealR gs u rd (some b) := by
  have h1 := firsts_mem.mp h.1
  exact ⟨h1.1.1, h1.1.2, .inl ⟨h1.2, fun i hi ri hi2 => h.2 i (firsts_mem.mpr ⟨⟨hi, ri⟩, hi2⟩)⟩⟩
theorem deal_2 {gs : List G3} {u : Nat → Int} {rd : Nat → Bool} {o : Option Nat} (h0 : P1 gs u (firsts gs u rd) none) (h : P2 gs u (readyL gs rd) o) : DealR gs u rd o := by
  have h1 : ∀ i, i < gs.length → rd i = true → ¬ u i < pA gs i := fun i hi ri q => by
    have h2 : firsts gs u rd = [] := h0
    have := firsts_mem.mpr ⟨⟨hi, ri⟩, q⟩
    rw [h2] at this
    cases this
  cases o with
  | none => exact fun i hi ri => h i (readyL_mem.mpr ⟨hi, ri⟩)
  | some b =>
    have hb := readyL_mem.mp h.1
    exact ⟨hb.1, hb.2, .inr ⟨h1, h.2.1, fun i hi ri => h.2.2 i (readyL_mem.mpr ⟨hi, ri⟩)⟩⟩
section
variable {P : Program} {w : World} {K : PySem.W.Frag} {mg : Str → Option Value} {base : Heap}
/-! ### _law_deal -/
theorem sc__law_deal : FnScope ["guests", "used", "ready", "names", "name", "first", "best"] ["guests", "used", "ready"] (defScope s__law_deal) := ⟨rfl, rfl, rfl, by decide +kernel, rfl, by decide +kernel, by decide +kernel⟩
def spDeal (K : PySem.W.Frag) : Sp := fun vs H Q _ => ∃ (R : Hp) (vg : V) (len : Int) (gs : List G3) (u : Nat → Int) (ud rl : Addr) (xs : List V) (rd : Nat → Bool), vs = [vg, .ref ud, .ref rl] ∧ Same R H ∧ Plain R ∧ Rep K R vg (gD gs) ∧ GsOk len gs ∧ H ud = some (.dK (usedK gs u)) ∧
  (∀ i, i < gs.length → 0 ≤ u i ∧ u i ≤ 60) ∧ SqL K H rl xs ∧ xs.all flatV = true ∧ (∀ i, i < gs.length → inV (.str (nmAt gs i)) xs = rd i) ∧ ∀ o H', DealR gs u rd o → Same H H' → Q (nameV gs o) H'
theorem ok__law_deal (T : Txt K mg) : Def P w K mg base 1 "_law_deal" ["guests", "used", "ready"] (spDeal K) := by
  obtain ⟨f, fd, F⟩ := T.a__law_deal
  refine Def.mk F sc__law_deal (fun _ _ _ _ _ _ us hl => match us, hl with | [_, _, _], _ => rfl) (fun vs H Q E h => ?_) (fun cdv A outer s H vs Q E hr h => ?_)
  · obtain ⟨R, vg, len, gs, u, ud, rl, xs, rd, rfl, _⟩ := h
    rfl
  · obtain ⟨R, vg, len, gs, u, ud, rl, xs, rd, rfl, sR, pR, hg, ok, hud, hu, hrl, hfl, hin, hq⟩ := h
    cases hg with
    | @dct a kvs _ hk rk =>
    have hRa : R a = some (.dK kvs) := pR.rd hk
    have hHa := sR _ _ hRa
    have hl : kvs.length = gs.length := by rw [rk.len, List.length_map]
    have n6 := ok.n6
    have hlen := ok.len
    have lookU : ∀ {i : Nat} {H' : Hp}, Same H H' → i < gs.length → DGet H' ud (.str (nmAt gs i)) (some (.int (u i))) := fun s hi => .inl ⟨usedK gs u, .inr (nmAt gs _), .inl (s _ _ hud), rfl, (used_at ok hi).symm⟩
    have lookG : ∀ {i : Nat} {H' : Hp}, Same H H' → i < gs.length → ∃ a1, DGet H' a (.str (nmAt gs i)) (some (.ref a1)) ∧ SqT K H' a1 [.int (pA gs i), .int (cA gs i)] := fun {i H'} s hi => by
      obtain ⟨p, c, e, e1, e2⟩ := nm_some hi
      obtain ⟨v, g1, g2⟩ := (rk.same (sR.trans s)).get_of (.inl (s _ _ hHa)) (dlook_gs ok.nd e)
      obtain ⟨a1, rfl, g3⟩ := sh_of g2
      rw [e1, e2]
      exact ⟨a1, g1, g3⟩
    have bnd : ∀ {i : Nat}, i < gs.length → 0 ≤ pA gs i ∧ pA gs i ≤ 60 ∧ 0 ≤ u i ∧ u i ≤ 60 := fun {i} hi => by
      have h1 := ok.at_sh hi
      have h2 := hu i hi
      omega
    refine ⟨_, (pss_cons (ps_lock (ps_setLc (i := 3) (own := [("name", 4)]) rfl sc__law_deal.nd rfl rfl (sw_true rfl rfl rfl (by decide +kernel)) (pi_keys (pv 0)) (blkOk_by (own := [("name", 4)]) (N := ["guests", "used", "ready", "names", "name", "first", "best"]) (sc := defScope s__law_deal) (by decide +kernel)) (fun _ _ _ _ _ => (pg_name (i := 4) sc__law_deal.nd rfl (Or.inl rfl))) (fun _ _ _ _ _ => (pts_one (pt_cmpR (kop_in_seq K rfl) (pv 4) (pv 2) (by rfl)))) (fun _ _ _ _ _ => (pv 4))))
      (pss_cons (ps_setLc (i := 5) (own := [("name", 4)]) rfl sc__law_deal.nd rfl rfl (sw_true rfl rfl rfl (by decide +kernel)) (kpi_list K rfl (pv 3)) (blkOk_by (own := [("name", 4)]) (N := ["guests", "used", "ready", "names", "name", "first", "best"]) (sc := defScope s__law_deal) (by decide +kernel)) (fun _ _ _ _ _ => (pg_name (i := 4) sc__law_deal.nd rfl (Or.inl rfl))) (fun _ _ _ _ _ => (pts_one (pt_cmpR op_lt (pe_dget (hu_of hr) (pv 1) (pv 4) (fun _ _ => rfl)) (pe_ix (kix_tup K rfl) (pe_dget (hu_of hr) (pv 0) (pv 4) (fun _ _ => rfl)) pe_int (fun _ _ => rfl)) (nomark _)))) (fun _ _ _ _ _ => (pv 4)))
      (pss_cons (ps_set (i := 6) sc__law_deal.nd rfl (Or.inl rfl) pe_non)
      (pss_cons (ps_for (passes_of rfl) rfl (kpi_list K rfl (pv 5)) (pg_name (i := 4) sc__law_deal.nd rfl (Or.inl rfl))
        (pss_one (ps_if (PW.pt (pw_or (pt_cmpR op_isN (pv 6) pe_non (nomark _)) (pw_or1 (pt_cmpR op_lt (pe_op op_mulW (pe_dget (hu_of hr) (pv 1) (pv 4) (fun _ _ => rfl)) (pe_ix (kix_tup K rfl) (pe_dget (hu_of hr) (pv 0) (pv 6) (fun _ _ => rfl)) pe_int (fun _ _ => rfl))) (pe_op op_mulW (pe_dget (hu_of hr) (pv 1) (pv 6) (fun _ _ => rfl)) (pe_ix (kix_tup K rfl) (pe_dget (hu_of hr) (pv 0) (pv 4) (fun _ _ => rfl)) pe_int (fun _ _ => rfl))) (nomark _))))) (pss_one (ps_set (i := 6) sc__law_deal.nd rfl (Or.inl rfl) (pv 4))) pss_nil)))
      (pss_cons (ps_if (pt_cmpR op_notN (pv 6) pe_non (nomark _)) (pss_one (ps_ret (pv 6))) pss_nil)
      (pss_cons (ps_for (passes_of rfl) rfl (kpi_list K rfl (pv 3)) (pg_name (i := 4) sc__law_deal.nd rfl (Or.inl rfl))
        (pss_one (ps_if (PW.pt (pw_and (pt_cmpR op_lt (pe_dget (hu_of hr) (pv 1) (pv 4) (fun _ _ => rfl)) (pe_ix (kix_tup K rfl) (pe_dget (hu_of hr) (pv 0) (pv 4) (fun _ _ => rfl)) pe_int (fun _ _ => rfl)) (nomark _)) (pw_and1 (PW.pt (pw_or (pt_cmpR op_isN (pv 6) pe_non (nomark _)) (pw_or1 (pt_cmpR op_lt (pe_dget (hu_of hr) (pv 1) (pv 4) (fun _ _ => rfl)) (pe_dget (hu_of hr) (pv 1) (pv 6) (fun _ _ => rfl)) (nomark _)))))))) (pss_one (ps_set (i := 6) sc__law_deal.nd rfl (Or.inl rfl) (pv 4))) pss_nil)))
      (pss_one (ps_ret (pv 6))))))))), ?_⟩
    refine ⟨a, .dK kvs, hHa, True.intro, fun od => ⟨_, rfl, a, od, rfl, .inl ⟨kvs, upd_same, fun L hL => ?_⟩⟩⟩
    refine lc_vals (w := walk_keys) (fun i => if rd i = true then some (.str (nmAt gs i)) else none) hL (by omega) (fun H1 s1 => s1 _ _ upd_same) ?_ ?_
    · rintro i x H1 H2 Y2 N2 hi s1 hnL ⟨rfl, k, v, hkv, rfl⟩ k3 k4
      obtain ⟨y, d, hd, rfl, hy, rd⟩ := rk.get hkv
      have e1 : y = nmAt gs i := by
        rw [List.getElem?_map] at hd
        obtain ⟨e, he, hd⟩ := Option.map_eq_some_iff.mp hd
        cases hd
        exact (nmAt_of (z := e.1) (p := e.2.1) (c := e.2.2) he).symm
      subst e1
      have hr2 : SqL K H2 rl xs := (Lq.of s1).seq (((Lq.refl H).lock hHa True.intro).seq hrl)
      refine ⟨rfl, ⟨_, rfl, _, rfl, rl, xs, rfl, .inl hr2, rfl, hfl, _, rfl, ?_⟩⟩
      show if inV (V.str (nmAt gs i)) xs = true then _ else _
      rw [hin i (by omega)]
      refine ite_dec (fun c => ?_) (fun c => ?_)
      · exact ⟨_, rfl, k3 _ _ (if_pos c) (Same.refl _)⟩
      · exact k4 _ (if_neg (by rw [c]; exact fun z => nomatch z)) (Same.refl _)
    · intro H1 s1 h1
      rw [fm_ifT, hl] at h1
      change H1 L = some (.lst ((readyL gs rd).map fun i => V.str (nmAt gs i))) at h1
      have hLa : L ≠ a := fun e => by
        rw [e, upd_same] at hL
        cases hL
      refine ⟨s1 _ _ upd_same, ?_⟩
      have su : Same H (upd H1 a (.dK kvs)) := Same.unlock hHa s1
      have hLu : upd H1 a (.dK kvs) L = some (.lst ((readyL gs rd).map fun i => V.str (nmAt gs i))) := by rw [upd_ne hLa]; exact h1
      generalize upd H1 a (.dK kvs) = Hu at su hLu ⊢
      have at_names : ∀ {i : Nat} {x : V}, ((readyL gs rd).map fun i => V.str (nmAt gs i))[i]? = some x → ∃ y, (readyL gs rd)[i]? = some y ∧ (y < gs.length ∧ rd y = true) ∧ x = .str (nmAt gs y) := fun {i x} h => by
        rw [List.getElem?_map] at h
        obtain ⟨y, hy, rfl⟩ := Option.map_eq_some_iff.mp h
        exact ⟨y, hy, readyL_mem.mp (List.mem_of_getElem? hy), rfl⟩
      have hrl2 := readyL_len gs rd
      refine ⟨_, rfl, L, rfl, ⟨_, SqL.of hLu⟩, fun M hM => ?_⟩
      refine lc_vals (w := walk_list) (fun t => if decide (u ((readyL gs rd).getD t 0) < pA gs ((readyL gs rd).getD t 0)) = true then some (.str (nmAt gs ((readyL gs rd).getD t 0))) else none) hM (by rw [List.length_map]; omega) (fun H2 s2 => SqL.of (s2 _ _ hLu)) ?_ ?_
      · rintro i x H2 H3 Y2 N2 hi s2 hnL ⟨rfl, hx⟩ k3 k4
        obtain ⟨y, hy, ⟨hi2, _⟩, rfl⟩ := at_names hx
        have ey : (readyL gs rd).getD i 0 = y := by rw [List.getD_eq_getElem?_getD, hy]; rfl
        rw [ey] at k3 k4
        obtain ⟨a1, g1, g3⟩ := lookG (su.trans s2) hi2
        refine ⟨rfl, ⟨_, rfl, _, rfl, ud, _, rfl, lookU (su.trans s2) hi2, _, rfl, _, rfl, a, _, rfl, g1, a1, _, _, _, rfl, rfl, g3, rfl, _, _, rfl, rfl, _, rfl, ?_⟩⟩
        refine ite_dec (fun c => ?_) (fun c => ?_)
        · exact ⟨_, rfl, k3 _ _ (if_pos c) (Same.refl _)⟩
        · exact k4 _ (if_neg (by rw [c]; exact fun z => nomatch z)) (Same.refl _)
      · intro H2 s2 h2
        rw [List.length_map, fm_getD (readyL gs rd) (fun i => if decide (u i < pA gs i) = true then some (V.str (nmAt gs i)) else none), fm_ifT (fun i => decide (u i < pA gs i)) (fun i => V.str (nmAt gs i))] at h2
        change H2 M = some (.lst ((firsts gs u rd).map fun i => V.str (nmAt gs i))) at h2
        have s12 := su.trans s2
        have hLm := s2 _ _ hLu
        refine ⟨_, rfl, M, rfl, ⟨_, SqL.of h2⟩, ?_⟩
        refine for_it (w := walk_list) (fun t σ H' => ∃ (o4 : Option V) (b : Option Nat), σ = [some (.ref a), some (.ref ud), some (.ref rl), some (.ref L), o4, some (.ref M), some (nameV gs b)] ∧ P1 gs u ((firsts gs u rd).take t) b ∧ Same H2 H')
          ⟨_, none, rfl, rfl, Same.refl _⟩ (fun t σ H' _ ⟨_, _, _, _, s⟩ => SqL.of (s _ _ h2)) ?_ ?_
        · rintro t x σ H3 H4 ht ⟨o4, b, rfl, hb, s3⟩ ⟨rfl, hx⟩
          rw [List.getElem?_map] at hx
          obtain ⟨i, hi, rfl⟩ := Option.map_eq_some_iff.mp hx
          have hif := firsts_mem.mp (List.mem_of_getElem? hi)
          have s13 := s12.trans s3
          cases b with
          | none =>
            refine ⟨_, rfl, rfl, _, rfl, iteT ⟨_, rfl, _, some i, rfl, ?_, s3⟩⟩
            rw [take_next hi]
            exact hb.none_next
          | some b =>
            have hbf := firsts_mem.mp (List.mem_of_mem_take hb.1)
            obtain ⟨a1, g1, g3⟩ := lookG s13 hbf.1.1
            obtain ⟨a2, g4, g5⟩ := lookG s13 hif.1.1
            have bi := bnd hif.1.1
            have bb := bnd hbf.1.1
            refine ⟨_, rfl, rfl, _, rfl, iteF ?_⟩
            refine ⟨_, rfl, _, rfl, ud, _, rfl, lookU s13 hif.1.1, _, rfl, _, rfl, a, _, rfl, g1, a1, _, _, _, rfl, rfl, g3, rfl, _, _, rfl, rfl, wmul (by omega) (by omega), ?_⟩
            refine ⟨_, rfl, _, rfl, ud, _, rfl, lookU s13 hbf.1.1, _, rfl, _, rfl, a, _, rfl, g4, a2, _, _, _, rfl, rfl, g5, rfl, _, _, rfl, rfl, wmul (by omega) (by omega), ?_⟩
            refine ⟨_, _, rfl, rfl, _, rfl, ?_⟩
            refine ite_dec (fun c => ?_) (fun c => ?_)
            · refine ⟨_, rfl, _, some i, rfl, ?_, s3⟩
              rw [take_next hi]
              refine hb.new (fun k hk => ?_) (of_decide_eq_true c)
              have hk2 : k ∈ firsts gs u rd := by
                rcases List.mem_append.mp hk with q | q
                · exact List.mem_of_mem_take q
                · rw [List.mem_singleton.mp q]
                  exact List.mem_of_getElem? hi
              have hk3 := firsts_mem.mp hk2
              have := (bnd hk3.1.1).2.2.1
              omega
            · refine ⟨_, some b, rfl, ?_, s3⟩
              rw [take_next hi]
              exact hb.keep (sorted_take (firsts_sorted gs u rd) hi) (of_decide_eq_false c)
        · rintro σ H3 ⟨o4, b, rfl, hb, s3⟩
          rw [List.length_map, List.take_length] at hb
          have s13 := s12.trans s3
          cases b with
          | some b => exact ⟨_, rfl, rfl, _, rfl, iteT ⟨_, rfl, hq (some b) H3 (deal_1 hb) s13⟩⟩
          | none =>
            refine ⟨_, rfl, rfl, _, rfl, iteF ?_⟩
            have hLn := s3 _ _ hLm
            refine ⟨_, rfl, L, rfl, ⟨_, SqL.of hLn⟩, ?_⟩
            refine for_it (w := walk_list) (fun t σ H' => ∃ (o4 : Option V) (b : Option Nat), σ = [some (.ref a), some (.ref ud), some (.ref rl), some (.ref L), o4, some (.ref M), some (nameV gs b)] ∧ P2 gs u ((readyL gs rd).take t) b ∧ Same H3 H')
              ⟨_, none, rfl, fun _ h => (nomatch (show _ ∈ ([] : List Nat) from h)), Same.refl _⟩ (fun t σ H' _ ⟨_, _, _, _, s⟩ => SqL.of (s _ _ hLn)) ?_ ?_
            · rintro t x σ H4 H5 ht ⟨o4, b, rfl, h2b, s4⟩ ⟨rfl, hx⟩
              obtain ⟨i, hy, ⟨hi, _⟩, rfl⟩ := at_names hx
              have s14 := s13.trans s4
              obtain ⟨a2, g4, g5⟩ := lookG s14 hi
              refine ⟨_, rfl, _, rfl, ud, _, rfl, lookU s14 hi, _, rfl, _, rfl, a, _, rfl, g4, a2, _, _, _, rfl, rfl, g5, rfl, _, _, rfl, rfl, _, rfl, ?_⟩
              refine ite_dec (fun c => ?_) (fun c => ?_)
              · have c1 := of_decide_eq_true c
                cases b with
                | none => exact ⟨_, rfl, rfl, _, rfl, iteT ⟨_, rfl, _, some i, rfl, by rw [take_next hy]; exact h2b.none_next c1, s4⟩⟩
                | some b =>
                  refine ⟨_, rfl, rfl, _, rfl, iteF ⟨_, rfl, _, rfl, ud, _, rfl, lookU s14 hi, _, rfl, _, rfl, ud, _, rfl, lookU s14 (readyL_mem.mp (List.mem_of_mem_take h2b.1)).1, _, _, rfl, rfl, _, rfl, ?_⟩⟩
                  refine ite_dec (fun c => ?_) (fun c => ?_)
                  · exact ⟨_, rfl, _, some i, rfl, by rw [take_next hy]; exact h2b.new c1 (of_decide_eq_true c), s4⟩
                  · exact ⟨_, some b, rfl, by rw [take_next hy]; exact h2b.keep (sorted_take (readyL_sorted gs rd) hy) (of_decide_eq_false c), s4⟩
              · exact ⟨_, b, rfl, by rw [take_next hy]; exact h2b.skip (of_decide_eq_false c), s4⟩
            · rintro σ H4 ⟨o4, b, rfl, h2b, s4⟩
              rw [List.length_map, List.take_length] at h2b
              exact ⟨_, rfl, hq b H4 (deal_2 hb h2b) (s13.trans s4)⟩
end
end K85

set_option Elab.async false
set_option linter.all false
set_option maxRecDepth 100000
set_option maxHeartbeats 1000000
namespace K85
open PySem PySem.Spec PyProof.Rows L2 RP
theorem repK_ints {K : PySem.W.Frag} {H : Hp} : ∀ {es : List (Str × Int)} {kvs : List (Key × V)}, RepK K H kvs (es.map fun e => (e.1, D.int e.2)) → kvs = es.map fun e => (Sum.inr e.1, V.int e.2)
  | [], _, r => by cases r; rfl
  | e :: es, _, r => by
    rw [List.map_cons] at r
    cases r with
    | cons hx h t =>
      cases h
      rw [List.map_cons, repK_ints t]
theorem flat_strs (l : List Str) : (l.map V.str).all flatV = true := by
  rw [List.all_map]
  exact List.all_eq_true.mpr fun _ _ => rfl
theorem inV_strs (z : Str) : ∀ l : List Str, inV (.str z) (l.map V.str) = decide (z ∈ l)
  | [] => rfl
  | y :: r => by
    have e : inV (.str z) ((y :: r).map V.str) = (decide (y = z) || inV (.str z) (r.map V.str)) := rfl
    rw [e, inV_strs z r, ← Bool.decide_or]
    exact decide_eq_decide.mpr ((or_congr_left eq_comm).trans List.mem_cons.symm)
def nxU (u : Nat → Int) : Option Nat → Nat → Int
  | some b => addAt u b
  | none => u
theorem stepF_eq {len : Int} {gs : List G3} {u : Nat → Int} {rd : Nat → Bool} {o : Option Nat} (g : GsOk len gs) (d : DealR gs u rd o) : stepF gs u rd = nxU u o := by
  unfold stepF
  rw [dealF_eq g d]
  cases o <;> rfl
theorem addAt_b {len : Int} {gs : List G3} {u : Nat → Int} {rd : Nat → Bool} {b : Nat} (g : GsOk len gs) (h : ∀ i, i < gs.length → 0 ≤ u i ∧ u i ≤ cA gs i) (d : DealR gs u rd (some b)) : ∀ i, i < gs.length → 0 ≤ addAt u b i ∧ addAt u b i ≤ cA gs i := fun i hi => by
  have h1 := h i hi
  have h2 := dealR_lt g d
  unfold addAt
  by_cases q : i = b
  · subst q
    rw [if_pos rfl]
    omega
  · rw [if_neg q]
    exact h1
theorem fndAt_len (gs : List G3) (rds : Nat → Nat → Bool) (j t : Nat) : (fndAt gs rds j t).length ≤ t := by
  unfold fndAt
  have := List.length_filterMap_le (fun k => if dealF gs (stAt gs rds k) (rds k) = some j then some ((k : Int) + 1) else none) (List.range t)
  rw [List.length_range] at this
  exact this
/-- who is ready: the names of the turn, and z -/
def rdN (gs : List G3) (z : Str) (ns : Nat → List Str) (t i : Nat) : Bool := decide (nmAt gs i ∈ ns t ++ [z])
section
variable {P : Program} {w : World} {K : PySem.W.Frag} {mg : Str → Option Value} {base : Heap}
/-! ### _law_stretch -/
theorem sc__law_stretch : FnScope ["guests", "length", "name", "choose", "used", "found", "one", "turn", "got"] ["guests", "length", "name", "choose"] (defScope s__law_stretch) := ⟨rfl, rfl, rfl, by decide +kernel, rfl, by decide +kernel, by decide +kernel⟩
def spStretch (K : PySem.W.Frag) : Sp := fun vs H Q _ => ∃ (R : Hp) (vg : V) (len : Int) (gs : List G3) (j : Nat) (z : Str) (p c : Int) (cl : Addr) (ols : List V) (ns : Nat → List Str), vs = [vg, .int len, .str z, .ref cl] ∧ Same R H ∧ Plain R ∧ Rep K R vg (gD gs) ∧ GsOk len gs ∧ gs[j]? = some (z, p, c) ∧
  H cl = some (.lst ols) ∧ (∀ t, t < len.toNat → ∃ o : Addr, ols[t]? = some (.ref o) ∧ H o = some (.lst ((ns t).map V.str)) ∧ (ns t).length ≤ 90) ∧ ∀ L H', Same H H' → H L = none → H' L = some (.lst ((fndAt gs (rdN gs z ns) j len.toNat).map V.int)) → Q (.ref L) H'
theorem ok__law_stretch (T : Txt K mg) (G__law_deal : Def P w K mg base 1 "_law_deal" ["guests", "used", "ready"] (spDeal K)) : Def P w K mg base 2 "_law_stretch" ["guests", "length", "name", "choose"] (spStretch K) := by
  obtain ⟨f, fd, F⟩ := T.a__law_stretch
  refine Def.mk F sc__law_stretch (fun _ _ _ _ _ _ us hl => match us, hl with | [_, _, _, _], _ => rfl) (fun vs H Q E h => ?_) (fun cdv A outer s H vs Q E hr h => ?_)
  · obtain ⟨R, vg, len, gs, j, z, p, c, cl, ols, ns, rfl, _⟩ := h
    rfl
  · obtain ⟨R, vg, len, gs, j, z, p, c, cl, ols, ns, rfl, sR, pR, hg, ok, hj, hcl, hols, hq⟩ := h
    have hg0 := hg
    cases hg with
    | @dct a kvs _ hk rk =>
    have hRa : R a = some (.dK kvs) := pR.rd hk
    have hHa := sR _ _ hRa
    have hl : kvs.length = gs.length := by rw [rk.len, List.length_map]
    have n6 := ok.n6
    have hlen := ok.len
    have hjl : j < gs.length := (List.getElem?_eq_some_iff.mp hj).1
    have nj := nmAt_of hj
    refine ⟨_, (pss_cons (ps_par (i := 4) (j := 5) rfl sc__law_stretch.nd rfl rfl (by decide) rfl rfl (pa_cons (pe_callTy (kcall_dictP K rfl rfl) (by rfl) T.b_dict (by decide +kernel) (pa_cons (pe_lock (pe_lc (own := [("one", 6)]) rfl sc__law_stretch.nd (pi_keys (pv 0)) (blkOk_by (own := [("one", 6)]) (N := ["guests", "length", "name", "choose", "used", "found", "one", "turn", "got"]) (sc := defScope s__law_stretch) (by decide +kernel)) (fun _ _ _ _ _ => (pg_name (i := 6) sc__law_stretch.nd rfl (Or.inl rfl))) (fun _ _ _ _ _ => pts_nil) (fun _ _ _ _ _ => (pe_tup (pa_cons (pv 6) (pa_cons pe_int pa_nil)))))) pa_nil)) (pa_cons (pe_lst pa_nil) pa_nil)) (by rfl))
      (pss_cons (ps_for (passes_of rfl) rfl (pi_range1 (by rfl) T.b_range (pa_cons (pv 1) pa_nil)) (pg_name (i := 7) sc__law_stretch.nd rfl (Or.inl rfl))
        (pss_cons (ps_set (i := 8) sc__law_stretch.nd rfl (Or.inl rfl) (pe_d G__law_deal (hr.mono (by decide)) (by rfl) (pa_cons (pv 0) (pa_cons (pv 4) (pa_cons (pe_op op_cat (pe_ix (kix_list K rfl) (pv 3) (pv 7) (fun _ _ => rfl)) (pe_lst (pa_cons (pv 2) pa_nil))) pa_nil)))))
      (pss_cons (ps_if (pt_cmpR op_notN (pv 8) pe_non (nomark _)) (pss_one (ps_dput (hu_of hr) (pv 4) (pv 8) (pe_op op_add (pe_dget (hu_of hr) (pv 4) (pv 8) (fun _ _ => rfl)) pe_int) rfl)) pss_nil)
      (pss_one (ps_if (pt_cmpR op_eq (pv 8) (pv 2) (nomark _)) (pss_one (ps_expr (kpe_bm K rfl (pe_bm PySem.F.plainAttrs_list PySem.F.slot_list_append PySem.F.type_list_append mt_append (pv 5) (pa_cons (pe_op op_add (pv 7) pe_int) pa_nil))))) pss_nil)))))
      (pss_one (ps_ret (pv 5))))), ?_⟩
    refine ⟨a, .dK kvs, hHa, True.intro, fun od => ⟨_, rfl, a, od, rfl, .inl ⟨kvs, upd_same, fun L hL => ?_⟩⟩⟩
    refine lc_reps (K := K) (w := walk_keys) (R := fun _ => none) (fun i => some (.tup [.str (nmAt gs i), .int 0])) hL (by omega) (fun _ _ h => nomatch h) Plain.none (fun H1 s1 => s1 _ _ upd_same) ?_ ?_
    · rintro i x H1 H2 R1 Y2 N2 hi s1 hnL gr pl sr ⟨rfl, k, v, hkv, rfl⟩ k3 k4
      obtain ⟨y, d, hd, rfl, hy, rd⟩ := rk.get hkv
      have e1 : y = nmAt gs i := by
        rw [List.getElem?_map] at hd
        obtain ⟨e, he, hd⟩ := Option.map_eq_some_iff.mp hd
        cases hd
        exact (nmAt_of (z := e.1) (p := e.2.1) (c := e.2.2) he).symm
      subst e1
      refine ⟨rfl, ⟨_, rfl, (show 2 ≤ sizeLine by decide), fun T3 hT3 => ?_⟩⟩
      exact k3 _ _ (upd R1 T3 (.tup [.str (nmAt gs i), .int 0])) (.tup [.str (nmAt gs i), .int 0]) rfl (same_new hT3) ((Grow.refl _ _).put hT3 (sr.out hT3)) (pl.put (fun _ _ z => nomatch z)) sr.put (.tup (SqT.of upd_same) (.cons (.str _ hy) (.cons (.int _) .nil)))
    · intro H1 R1 zs s1 gr pl sr hRL hLz rz
      have ez : (List.range kvs.length).filterMap (fun i => some (D.tup [.str (nmAt gs i), .int 0])) = (((List.range gs.length).map fun i => (nmAt gs i, (0 : Int))).map fun e => (e.1, D.int e.2)).map fun e => D.tup [.str e.1, e.2] := by
        rw [fm_some, hl, List.map_map, List.map_map]
        rfl
      rw [ez] at rz
      obtain ⟨ps, kvs', rfl, pp, rk'⟩ := pairs_of rz
      have ek : kvs' = usedK gs fun _ => 0 := by
        rw [repK_ints rk', List.map_map]
        rfl
      have em : mergeK [] kvs' = usedK gs fun _ => 0 := by
        have := merge_nodup (kvs := kvs') (acc := []) (by rw [List.nil_append, ek]; exact used_nd ok)
        rw [this, List.nil_append, ek]
      have hR1a : R1 a = none := gr.off upd_same rfl
      have hLa : L ≠ a := fun e => by
        rw [e, upd_same] at hL
        cases hL
      have su : Same H (upd H1 a (.dK kvs)) := Same.unlock hHa s1
      have sr1 : Same R1 (upd H1 a (.dK kvs)) := sr.skip hR1a
      refine ⟨s1 _ _ upd_same, L, ps, kvs', rfl, SqL.of (by rw [upd_ne hLa]; exact hLz), paired_mono (fun _ _ h => (Lq.of sr1).tup h) pp, fun ud hud => ?_⟩
      rw [em]
      generalize upd H1 a (.dK kvs) = Hu at su sr1 hud ⊢
      refine ⟨Nat.zero_le _, fun F hF => ?_⟩
      have nud : H ud = none := su.free hud
      have s2 : Same H (upd Hu ud (.dK (usedK gs fun _ => 0))) := su.trans (same_new hud)
      have nF : H F = none := s2.free hF
      have hFu : F ≠ ud := fun e => by
        rw [e, upd_same] at hF
        cases hF
      have h0ud : upd (upd Hu ud (.dK (usedK gs fun _ => 0))) F (.lst []) ud = some (.dK (usedK gs fun _ => 0)) := by rw [upd_ne (Ne.symm hFu), upd_same]
      have h0F : upd (upd Hu ud (.dK (usedK gs fun _ => 0))) F (.lst []) F = some (.lst []) := upd_same
      have s3 : Same H (upd (upd Hu ud (.dK (usedK gs fun _ => 0))) F (.lst [])) := s2.trans (same_new hF)
      generalize upd (upd Hu ud (.dK (usedK gs fun _ => 0))) F (.lst []) = H0 at h0ud h0F s3 ⊢
      refine ⟨_, _, rfl, _, rfl, len, rfl, by omega, by omega, ?_⟩
      refine for_it (w := walk_range) (fun t σ H' => ∃ (o6 o7 o8 : Option V), σ = [some (.ref a), some (.int len), some (.str z), some (.ref cl), some (.ref ud), some (.ref F), o6, o7, o8] ∧ (∀ i, i < gs.length → 0 ≤ stAt gs (rdN gs z ns) t i ∧ stAt gs (rdN gs z ns) t i ≤ cA gs i) ∧ Same H H' ∧ H' ud = some (.dK (usedK gs (stAt gs (rdN gs z ns) t))) ∧ H' F = some (.lst ((fndAt gs (rdN gs z ns) j t).map V.int)))
        ⟨none, none, none, rfl, fun i hi => ⟨Int.le_refl 0, by have := ok.at_sh hi; show (0 : Int) ≤ _; omega⟩, s3, h0ud, h0F⟩ (fun _ _ _ _ _ => True.intro) ?_ ?_
      · rintro t x σ H3 H4 ht ⟨o6, o7, o8, rfl, I, s4, hu4, hF4⟩ ⟨rfl, hx⟩
        have hx2 : x = .int ((t : Nat) : Int) := by
          rw [hx]
          show V.int (0 + (t : Int)) = _
          rw [Int.zero_add]
        subst hx2
        have tl : t < len.toNat := ht
        obtain ⟨ol, e1, e2, e3⟩ := hols t tl
        refine ⟨_, rfl, _, rfl, _, rfl, _, rfl, cl, _, (t : Nat), .ref ol, rfl, rfl, SqL.of (s4 _ _ hcl), atI_nat e1, ?_⟩
        refine ⟨_, rfl, (show 1 ≤ sizeLine by decide), fun q hq' => ?_⟩
        have s5 : Same H4 (upd H4 q (.lst [.str z])) := same_new hq'
        have hq5 : upd H4 q (.lst [.str z]) q = some (.lst [.str z]) := upd_same
        generalize upd H4 q (.lst [.str z]) = H5 at s5 hq5 ⊢
        refine ⟨ol, q, _, _, rfl, rfl, s5 _ _ (s4 _ _ e2), hq5, ?_, fun rl hrl => ?_⟩
        · rw [List.length_map]
          show (ns t).length + 1 ≤ sizeLine
          have : 100 ≤ sizeLine := by decide
          omega
        have eo : ((ns t).map V.str) ++ [.str z] = (ns t ++ [z]).map V.str := by
          rw [List.map_append]
          rfl
        rw [eo]
        have s6 : Same H5 (upd H5 rl (.lst ((ns t ++ [z]).map V.str))) := same_new hrl
        have h6 : upd H5 rl (.lst ((ns t ++ [z]).map V.str)) rl = some (.lst ((ns t ++ [z]).map V.str)) := upd_same
        generalize upd H5 rl (.lst ((ns t ++ [z]).map V.str)) = H6 at s6 h6 ⊢
        have s46 : Same H4 H6 := s5.trans s6
        refine ⟨R, .ref a, len, gs, stAt gs (rdN gs z ns) t, ud, rl, _, rdN gs z ns t, rfl, sR.trans (s4.trans s46), pR, hg0, ok, s46 _ _ hu4, fun i hi => ?_, SqL.of h6, flat_strs _, fun i hi => inV_strs _ _, fun o H7 hd s7 => ?_⟩
        · have h1 := I i hi
          have h2 := ok.at_sh hi
          omega
        have s47 : Same H4 H7 := s46.trans s7
        have hu7 := s47 _ _ hu4
        have hF7 := s47 _ _ hF4
        have s8 : Same H H7 := s4.trans s47
        have es : stAt gs (rdN gs z ns) (t + 1) = nxU (stAt gs (rdN gs z ns) t) o := stepF_eq ok hd
        have ef : fndAt gs (rdN gs z ns) j (t + 1) = fndAt gs (rdN gs z ns) j t ++ (if o = some j then [(t : Int) + 1] else []) := by rw [fndAt_next, dealF_eq ok hd]
        cases o with
        | none =>
          rw [if_neg (by simp), List.append_nil] at ef
          refine ⟨_, rfl, rfl, _, rfl, iteF ?_⟩
          refine ⟨_, rfl, _, rfl, rfl, _, rfl, iteF ?_⟩
          exact ⟨_, _, _, rfl, by rw [es]; exact I, s8, by rw [es]; exact hu7, by rw [ef]; exact hF7⟩
        | some b =>
          have hbl := hd.1
          refine ⟨_, rfl, rfl, _, rfl, iteT ?_⟩
          refine ⟨_, rfl, _, rfl, ud, _, rfl, .inl ⟨usedK gs (stAt gs (rdN gs z ns) t), .inr (nmAt gs b), .inl hu7, rfl, (used_at ok hbl).symm⟩, _, _, rfl, rfl, _, rfl, _, rfl, ud, _, rfl, DPut.k (k := .inr (nmAt gs b)) hu7 ?_, ?_⟩
          · unfold usedK
            rw [List.length_map, List.length_range]
            have : 100 < sizeLine := by decide
            omega
          rw [used_put ok hbl]
          have I9 := addAt_b ok I hd
          have s9 : Same H (upd H7 ud (.dK (usedK gs (addAt (stAt gs (rdN gs z ns) t) b)))) := s8.skip nud
          have hu9 : upd H7 ud (.dK (usedK gs (addAt (stAt gs (rdN gs z ns) t) b))) ud = some (.dK (usedK gs (addAt (stAt gs (rdN gs z ns) t) b))) := upd_same
          have hF9 : upd H7 ud (.dK (usedK gs (addAt (stAt gs (rdN gs z ns) t) b))) F = some (.lst ((fndAt gs (rdN gs z ns) j t).map V.int)) := by rw [upd_ne hFu]; exact hF7
          generalize upd H7 ud (.dK (usedK gs (addAt (stAt gs (rdN gs z ns) t) b))) = H9 at s9 hu9 hF9 ⊢
          by_cases e : b = j
          · subst e
            rw [if_pos rfl] at ef
            refine ⟨_, rfl, _, rfl, rfl, _, rfl, ?_⟩
            rw [show decide (nameV gs (some b) = V.str z) = true from decide_eq_true (by show V.str (nmAt gs b) = _; rw [nj])]
            have hlt : ((fndAt gs (rdN gs z ns) b t).map V.int).length < sizeLine := by
              rw [List.length_map]
              have h1 := fndAt_len gs (rdN gs z ns) b t
              have : 100 < sizeLine := by decide
              omega
            refine iteT ⟨_, rfl, .inl ⟨rfl, _, SqL.of hF9⟩, _, rfl, _, _, rfl, rfl, F, _, _, rfl, rfl, hF9, hlt, ?_⟩
            refine ⟨_, _, _, rfl, by rw [es]; exact I9, s9.skip nF, ?_, ?_⟩
            · rw [upd_ne (Ne.symm hFu), es]
              exact hu9
            · rw [upd_same, ef, List.map_append]
              rfl
          · rw [if_neg (fun q => e (Option.some.inj q)), List.append_nil] at ef
            refine ⟨_, rfl, _, rfl, rfl, _, rfl, ?_⟩
            rw [show decide (nameV gs (some b) = V.str z) = false from decide_eq_false (fun q => e (nm_inj ok hbl hjl (by
              have q2 : V.str (nmAt gs b) = V.str z := q
              injection q2 with q2
              rw [q2, nj])))]
            exact iteF ⟨_, _, _, rfl, by rw [es]; exact I9, s9, by rw [es]; exact hu9, by rw [ef]; exact hF9⟩
      · rintro σ H3 ⟨o6, o7, o8, rfl, I, s4, hu4, hF4⟩
        exact ⟨_, rfl, hq F H3 s4 nF hF4⟩
end
end K85

set_option Elab.async false
set_option linter.all false
set_option maxRecDepth 100000
set_option maxHeartbeats 1000000
namespace K85
open PySem PySem.Spec PyProof.Rows L2 RP
theorem P1_ex {gs : List G3} {u : Nat → Int} {l : List Nat} (hs : l.Pairwise (· < ·)) (hp : ∀ k ∈ l, 0 < pA gs k) : ∀ t, t ≤ l.length → ∃ o, P1 gs u (l.take t) o
  | 0, _ => ⟨none, rfl⟩
  | t + 1, h => by
    obtain ⟨o, ho⟩ := P1_ex (u := u) hs hp t (by omega)
    have e : l[t]? = some l[t] := List.getElem?_eq_getElem (by omega)
    rw [take_next e]
    cases o with
    | none => exact ⟨_, ho.none_next⟩
    | some b =>
      by_cases c : u l[t] * pA gs b < u b * pA gs l[t]
      · refine ⟨_, ho.new (fun k hk => hp k ?_) c⟩
        rcases List.mem_append.mp hk with q | q
        · exact List.mem_of_mem_take q
        · rw [List.mem_singleton.mp q]; exact List.getElem_mem _
      · exact ⟨_, ho.keep (sorted_take hs e) c⟩
theorem P2_ex {gs : List G3} {u : Nat → Int} {l : List Nat} (hs : l.Pairwise (· < ·)) : ∀ t, t ≤ l.length → ∃ o, P2 gs u (l.take t) o
  | 0, _ => ⟨none, fun _ h => nomatch (show _ ∈ ([] : List Nat) from h)⟩
  | t + 1, h => by
    obtain ⟨o, ho⟩ := P2_ex (u := u) hs t (by omega)
    have e : l[t]? = some l[t] := List.getElem?_eq_getElem (by omega)
    rw [take_next e]
    by_cases c0 : u l[t] < cA gs l[t]
    · cases o with
      | none => exact ⟨_, ho.none_next c0⟩
      | some b =>
        by_cases c : u l[t] < u b
        · exact ⟨_, ho.new c0 c⟩
        · exact ⟨_, ho.keep (sorted_take hs e) c⟩
    · exact ⟨_, ho.skip c0⟩
theorem dealR_ex {gs : List G3} {u : Nat → Int} {rd : Nat → Bool} (hu : ∀ i, i < gs.length → 0 ≤ u i) : ∃ o, DealR gs u rd o := by
  obtain ⟨o, ho⟩ := P1_ex (gs := gs) (u := u) (firsts_sorted gs u rd) (fun k hk => by
    have h1 := firsts_mem.mp hk
    have h2 := hu k h1.1.1
    omega) _ (Nat.le_refl _)
  rw [List.take_length] at ho
  cases o with
  | some b => exact ⟨_, deal_1 ho⟩
  | none =>
    obtain ⟨o2, h2⟩ := P2_ex (gs := gs) (u := u) (readyL_sorted gs rd) _ (Nat.le_refl _)
    rw [List.take_length] at h2
    exact ⟨_, deal_2 ho h2⟩
theorem dealF_ok {gs : List G3} {u : Nat → Int} {rd : Nat → Bool} (hu : ∀ i, i < gs.length → 0 ≤ u i) : DealR gs u rd (dealF gs u rd) := by
  have h := dealR_ex (rd := rd) hu
  unfold dealF
  rw [dif_pos h]
  exact h.choose_spec
/-- a guest that is always ready -/
theorem invJ_at {len : Int} {gs : List G3} {rds : Nat → Nat → Bool} {j : Nat} (g : GsOk len gs) (hj : j < gs.length) (rj : ∀ t, rds t j = true) : ∀ t, InvJ len gs j t (stAt gs rds t) (fndAt gs rds j t)
  | 0 => InvJ.zero g
  | t + 1 => by
    have I := invJ_at g hj rj t
    have d := dealF_ok (rd := rds t) fun i hi => (I.b i hi).1
    rw [fndAt_next]
    show InvJ len gs j (t + 1) (stepF gs (stAt gs rds t) (rds t)) _
    rw [stepF_eq g d]
    obtain ⟨o, ho⟩ : ∃ o, dealF gs (stAt gs rds t) (rds t) = o := ⟨_, rfl⟩
    rw [ho] at d ⊢
    have z := I.next g hj (rj t) d
    cases o <;> exact z
/-- all ready -/
theorem ok_of_all {gs : List G3} {u : Nat → Int} {rd : Nat → Bool} {o : Option Nat} (h : ∀ i, i < gs.length → rd i = true) (d : DealR gs u rd o) : DealOk gs u o := by
  cases o with
  | none => exact fun i hi => d i hi (h i hi)
  | some b =>
    obtain ⟨h1, _, h2⟩ := d
    refine ⟨h1, ?_⟩
    rcases h2 with ⟨a, b⟩ | ⟨a, b, c⟩
    · exact .inl ⟨a, fun i hi => b i hi (h i hi)⟩
    · exact .inr ⟨fun i hi => a i hi (h i hi), b, fun i hi => c i hi (h i hi)⟩
theorem invT_at {len : Int} {gs : List G3} {rds : Nat → Nat → Bool} {j : Nat} (g : GsOk len gs) (hj : j < gs.length) (ra : ∀ t i, i < gs.length → rds t i = true) : ∀ t, InvT len gs j t (stAt gs rds t) ∧ (fndAt gs rds j t).map V.int = hadL gs j (stAt gs rds t j).toNat
  | 0 => ⟨InvT.zero g, rfl⟩
  | t + 1 => by
    obtain ⟨I, e⟩ := invT_at g hj ra t
    have d := dealF_ok (rd := rds t) fun i hi => (I.i.b i hi).1
    have d2 := ok_of_all (ra t) d
    have es : stAt gs rds (t + 1) = nxU (stAt gs rds t) (dealF gs (stAt gs rds t) (rds t)) := stepF_eq g d
    rw [fndAt_next, es]
    revert d2
    generalize dealF gs (stAt gs rds t) (rds t) = o
    intro d2
    cases o with
    | none =>
      rw [if_neg (by simp), List.append_nil]
      exact ⟨I.idle d2, e⟩
    | some b =>
      refine ⟨I.next g d2, ?_⟩
      by_cases q : b = j
      · subst q
        rw [if_pos rfl, List.map_append, e]
        show _ = hadL gs b (addAt (stAt gs rds t) b b).toNat
        have ub := (I.i.b b hj).1
        have e2 : addAt (stAt gs rds t) b b = stAt gs rds t b + 1 := if_pos rfl
        rw [e2, show (stAt gs rds t b + 1).toNat = (stAt gs rds t b).toNat + 1 by omega]
        unfold hadL
        rw [List.range_succ, List.map_append, List.map_singleton, List.map_singleton, show (((stAt gs rds t b).toNat : Nat) : Int) = stAt gs rds t b by omega, deal_turn g I d2]
      · rw [if_neg (fun z => q (Option.some.inj z)), List.append_nil, e]
        show _ = hadL gs j (addAt (stAt gs rds t) b j).toNat
        have e2 : addAt (stAt gs rds t) b j = stAt gs rds t j := if_neg (fun z => q z.symm)
        rw [e2]
/-- the turns when all are always ready -/
theorem due_eq {len : Int} {gs : List G3} {rds : Nat → Nat → Bool} {j : Nat} (g : GsOk len gs) (hj : j < gs.length) (ra : ∀ t i, i < gs.length → rds t i = true) : (fndAt gs rds j len.toNat).map V.int = inL len gs j len := by
  obtain ⟨I, e⟩ := invT_at (rds := rds) (len := len) g hj ra len.toNat
  rw [inL_end g hj I, e]
/-- whoever else is ready: no fewer turns, none of them later -/
theorem due_found {len : Int} {gs : List G3} {ra rs : Nat → Nat → Bool} {j : Nat} (g : GsOk len gs) (hj : j < gs.length) (ha : ∀ t i, i < gs.length → ra t i = true) (hr : ∀ t, rs t j = true) :
    (fndAt gs ra j len.toNat).length ≤ (fndAt gs rs j len.toNat).length ∧ ∀ (k : Nat) (x y : Int), (fndAt gs rs j len.toNat)[k]? = some x → (fndAt gs ra j len.toNat)[k]? = some y → x ≤ y := by
  obtain ⟨I, e⟩ := invT_at (rds := ra) (len := len) g hj ha len.toNat
  have J := invJ_at (rds := rs) (len := len) g hj hr len.toNat
  have hlen := g.len
  have el : (fndAt gs ra j len.toNat).length = (stAt gs ra len.toNat j).toNat := by
    have := congrArg List.length e
    unfold hadL at this
    simpa using this
  have ub := I.i.b j hj
  have vb := J.b j hj
  have n := J.n
  refine ⟨?_, fun k x y hx hy => ?_⟩
  · by_cases c : stAt gs rs len.toNat j < cA gs j
    · have h1 := J.le hj c
      by_cases q : stAt gs rs len.toNat j < stAt gs ra len.toNat j
      · have h2 := I.t _ vb.1 q
        omega
      · omega
    · omega
  · have h1 := J.f k x hx
    have h2 : ((fndAt gs ra j len.toNat).map V.int)[k]? = some (.int y) := by rw [List.getElem?_map, hy]; rfl
    rw [e] at h2
    unfold hadL at h2
    rw [List.getElem?_map] at h2
    obtain ⟨m, hm, e3⟩ := Option.map_eq_some_iff.mp h2
    have hk := (List.getElem?_eq_some_iff.mp hm).1
    rw [List.length_range] at hk
    rw [List.getElem?_range hk] at hm
    cases hm
    injection e3 with e3
    omega
end K85

set_option Elab.async false
set_option linter.all false
set_option maxRecDepth 100000
set_option maxHeartbeats 1000000
namespace K85
open PySem PySem.Spec PyProof.Rows L2 RP
/-- what latest tells for each number of turns -/
theorem told_eq {len : Int} {gs : List G3} {j : Nat} (g : GsOk len gs) (hj : j < gs.length) : ((List.range len.toNat).map fun i => optV (turnOf len gs j (1 + (i : Nat)))) = inL len gs j len ++ List.replicate (len.toNat - (inL len gs j len).length) .non := by
  obtain ⟨I, _⟩ := invT_at (rds := fun _ _ => true) (len := len) g hj (fun _ _ _ => rfl) len.toNat
  have hb := I.i.b j hj
  have hlen := g.len
  have hc := (g.at_sh hj).2.2.2
  rw [inL_end g hj I]
  have el : (hadL gs j (stAt gs (fun _ _ => true) len.toNat j).toNat).length = (stAt gs (fun _ _ => true) len.toNat j).toNat := by
    unfold hadL
    rw [List.length_map, List.length_range]
  refine List.ext_getElem ?_ fun i h1 h2 => ?_
  · rw [List.length_map, List.length_range, List.length_append, List.length_replicate, el]
    omega
  · rw [List.getElem_map, List.getElem_range, List.getElem_append]
    by_cases q : i < (stAt gs (fun _ _ => true) len.toNat j).toNat
    · rw [dif_pos (by rw [el]; exact q), turnOf_lt g hj I (by omega)]
      unfold hadL
      rw [List.getElem_map, List.getElem_range]
      rfl
    · rw [dif_neg (by rw [el]; exact q), turnOf_ge g hj I (by omega), List.getElem_replicate]
      rfl
/-- the two guests at the end of the law -/
def few : List G3 := [("a", 1, 4), ("b", 3, 4)]
theorem few_1 : turnOf 4 few 0 1 = some 1 := by decide
theorem few_2 : turnOf 4 few 1 1 = some 2 := by decide
theorem few_3 : turnOf 4 few 1 3 = some 4 := by decide
def inLi (len : Int) (gs : List G3) (j : Nat) (t : Int) : List Int := (List.range len.toNat).filterMap fun i => match turnOf len gs j (1 + (i : Nat)) with
  | some x => if x ≤ t then some x else none
  | none => none
theorem inL_ints (len : Int) (gs : List G3) (j : Nat) (t : Int) : inL len gs j t = (inLi len gs j t).map V.int := by
  unfold inL inLi
  rw [List.map_filterMap]
  congr 1
  funext i
  cases turnOf len gs j (1 + (i : Nat)) with
  | none => rfl
  | some x =>
    show (if x ≤ t then some (V.int x) else none) = Option.map V.int (if x ≤ t then some x else none)
    split <;> rfl
theorem inLi_filter {len : Int} {gs : List G3} {j : Nat} {t : Int} (h : t ≤ len) : (inLi len gs j len).filterMap (fun y => if y ≤ t then some (V.int y) else none) = inL len gs j t := by
  unfold inL inLi
  rw [List.filterMap_filterMap]
  congr 1
  funext i
  cases turnOf len gs j (1 + (i : Nat)) with
  | none => rfl
  | some x =>
    show ((if x ≤ len then some x else none).bind fun y => if y ≤ t then some (V.int y) else none) = if x ≤ t then some (V.int x) else none
    by_cases q : x ≤ len
    · rw [if_pos q]
      rfl
    · rw [if_neg q, if_neg (by omega)]
      rfl
theorem ints_inj : ∀ {a b : List Int}, a.map V.int = b.map V.int → a = b
  | [], [], _ => rfl
  | [], _ :: _, h => nomatch h
  | _ :: _, [], h => nomatch h
  | x :: a, y :: b, h => by
    rw [List.map_cons, List.map_cons] at h
    injection h with h1 h2
    injection h1 with h1
    rw [h1, ints_inj h2]
theorem due_ints {len : Int} {gs : List G3} {rds : Nat → Nat → Bool} {j : Nat} (g : GsOk len gs) (hj : j < gs.length) (ra : ∀ t i, i < gs.length → rds t i = true) : fndAt gs rds j len.toNat = inLi len gs j len := by
  have e := due_eq (rds := rds) g hj ra
  rw [inL_ints] at e
  exact ints_inj e
end K85

set_option Elab.async false
set_option linter.all false
set_option maxRecDepth 100000
set_option maxHeartbeats 1000000
namespace K85
open PySem PySem.Spec PyProof.Rows L2 RP
/-- those below their ceiling: what next_of takes the least of -/
def below (gs : List G3) (u : Nat → Int) : List Nat := (List.range gs.length).filter fun i => decide (u i < cA gs i)
theorem below_mem {gs : List G3} {u : Nat → Int} {i : Nat} : i ∈ below gs u ↔ i < gs.length ∧ u i < cA gs i := by
  unfold below
  rw [List.mem_filter, List.mem_range, decide_eq_true_eq]
theorem below_sorted (gs : List G3) (u : Nat → Int) : (below gs u).Pairwise (· < ·) := List.Pairwise.filter _ List.pairwise_lt_range
theorem deal_nil {gs : List G3} {u : Nat → Int} (h : below gs u = []) : DealR gs u (fun _ => true) none := fun i hi _ hc => by
  have := below_mem.mpr ⟨hi, hc⟩
  rw [h] at this
  cases this
theorem deal_min {gs : List G3} {u : Nat → Int} {m b : Nat} (h0 : ∀ i, i < gs.length → ¬ u i < pA gs i) (hb : (below gs u)[m]? = some b)
    (hm : ∀ (k i : Nat), (below gs u)[k]? = some i → u b ≤ u i ∧ (k < m → u b < u i)) : DealR gs u (fun _ => true) (some b) := by
  obtain ⟨h1, h2⟩ := below_mem.mp (List.mem_of_getElem? hb)
  refine ⟨h1, rfl, .inr ⟨fun i hi _ => h0 i hi, h2, fun i hi _ hc => ?_⟩⟩
  obtain ⟨k, hk⟩ := List.mem_iff_getElem?.mp (below_mem.mpr ⟨hi, hc⟩)
  obtain ⟨a1, a2⟩ := hm k i hk
  refine ⟨a1, fun q => a2 ?_⟩
  by_cases c : k < m
  · exact c
  · have hkl := (List.getElem?_eq_some_iff.mp hk)
    have hml := (List.getElem?_eq_some_iff.mp hb)
    obtain ⟨l1, e1⟩ := hkl
    obtain ⟨l2, e2⟩ := hml
    by_cases c2 : m < k
    · have := List.pairwise_iff_getElem.mp (below_sorted gs u) m k l2 l1 c2
      omega
    · have e3 : k = m := by omega
      subst e3
      omega
end K85

set_option Elab.async false
set_option linter.all false
set_option maxRecDepth 100000
set_option maxHeartbeats 1000000
namespace K85
open PySem PySem.Spec PyProof.Rows L2 RP LamX
theorem filt_succ (p : Nat → Bool) (t : Nat) : (List.range (t + 1)).filter p = (List.range t).filter p ++ (if p t = true then [t] else []) := by
  rw [List.range_succ, List.filter_append]
  congr 1
  cases h : p t <;> simp [h]
theorem filt_lt {p : Nat → Bool} {t k : Nat} (h : k ∈ (List.range t).filter p) : k < t := List.mem_range.mp (List.mem_filter.mp h).1
def fstB (gs : List G3) (u : Nat → Int) (rd : Nat → Bool) : Nat → Bool := fun i => decide (u i < pA gs i) && rd i
theorem firsts_eq (gs : List G3) (u : Nat → Int) (rd : Nat → Bool) : firsts gs u rd = (List.range gs.length).filter (fstB gs u rd) := by
  unfold firsts readyL fstB
  rw [List.filter_filter]
theorem fstB_yes {gs : List G3} {u : Nat → Int} {rd : Nat → Bool} {i : Nat} (h1 : u i < pA gs i) (h2 : rd i = true) : fstB gs u rd i = true := by
  unfold fstB
  rw [decide_eq_true h1, h2]
  rfl
theorem fstB_no1 {gs : List G3} {u : Nat → Int} {rd : Nat → Bool} {i : Nat} (h1 : ¬ u i < pA gs i) : fstB gs u rd i = false := by
  unfold fstB
  rw [decide_eq_false h1]
  rfl
theorem fstB_no2 {gs : List G3} {u : Nat → Int} {rd : Nat → Bool} {i : Nat} (h2 : rd i = false) : fstB gs u rd i = false := by
  unfold fstB
  rw [h2, Bool.and_false]
/-- the walk over all guests that looks for the best of the first phase -/
def P1t (gs : List G3) (u : Nat → Int) (rd : Nat → Bool) (t : Nat) (o : Option Nat) : Prop := P1 gs u ((List.range t).filter (fstB gs u rd)) o
theorem P1t.zero {gs : List G3} {u : Nat → Int} {rd : Nat → Bool} : P1t gs u rd 0 none := rfl
theorem P1t.skip {gs : List G3} {u : Nat → Int} {rd : Nat → Bool} {t : Nat} {o : Option Nat} (h : P1t gs u rd t o) (c : fstB gs u rd t = false) : P1t gs u rd (t + 1) o := by
  unfold P1t
  rw [filt_succ, c, if_neg (by decide), List.append_nil]
  exact h
theorem P1t.first {gs : List G3} {u : Nat → Int} {rd : Nat → Bool} {t : Nat} (h : P1t gs u rd t none) (c : fstB gs u rd t = true) : P1t gs u rd (t + 1) (some t) := by
  unfold P1t
  rw [filt_succ, c, if_pos rfl]
  exact P1.none_next h
theorem P1t.keep {gs : List G3} {u : Nat → Int} {rd : Nat → Bool} {t b : Nat} (h : P1t gs u rd t (some b)) (c : fstB gs u rd t = true) (hc : ¬ u t * pA gs b < u b * pA gs t) : P1t gs u rd (t + 1) (some b) := by
  unfold P1t
  rw [filt_succ, c, if_pos rfl]
  exact P1.keep h (fun k hk => filt_lt hk) hc
theorem P1t.new {gs : List G3} {u : Nat → Int} {rd : Nat → Bool} {t b : Nat} (h : P1t gs u rd t (some b)) (c : fstB gs u rd t = true) (hu : ∀ i, i ≤ t → 0 ≤ u i) (hc : u t * pA gs b < u b * pA gs t) : P1t gs u rd (t + 1) (some t) := by
  unfold P1t
  rw [filt_succ, c, if_pos rfl]
  refine P1.new h (fun k hk => ?_) hc
  have hp : ∀ i, fstB gs u rd i = true → i ≤ t → 0 < pA gs i := fun i hi hit => by
    unfold fstB at hi
    have := of_decide_eq_true (Bool.and_eq_true_iff.mp hi).1
    have := hu i hit
    omega
  rcases List.mem_append.mp hk with q | q
  · exact hp k (List.mem_filter.mp q).2 (by have := filt_lt q; omega)
  · rw [List.mem_singleton.mp q]
    exact hp t c (Nat.le_refl _)
theorem P1t.mem {gs : List G3} {u : Nat → Int} {rd : Nat → Bool} {t b : Nat} (h : P1t gs u rd t (some b)) : b < t := filt_lt h.1
theorem P1t.end {gs : List G3} {u : Nat → Int} {rd : Nat → Bool} {o : Option Nat} (h : P1t gs u rd gs.length o) : P1 gs u (firsts gs u rd) o := by
  rw [firsts_eq]
  exact h
/-! ### the second half, with any readiness -/
def belowR (gs : List G3) (u : Nat → Int) (rd : Nat → Bool) : List Nat := (readyL gs rd).filter fun i => decide (u i < cA gs i)
theorem belowR_mem {gs : List G3} {u : Nat → Int} {rd : Nat → Bool} {i : Nat} : i ∈ belowR gs u rd ↔ (i < gs.length ∧ rd i = true) ∧ u i < cA gs i := by
  unfold belowR
  rw [List.mem_filter, readyL_mem, decide_eq_true_eq]
theorem belowR_sorted (gs : List G3) (u : Nat → Int) (rd : Nat → Bool) : (belowR gs u rd).Pairwise (· < ·) := List.Pairwise.filter _ (readyL_sorted gs rd)
theorem dealR_nil {gs : List G3} {u : Nat → Int} {rd : Nat → Bool} (h : belowR gs u rd = []) : DealR gs u rd none := fun i hi ri hc => by
  have := belowR_mem.mpr ⟨⟨hi, ri⟩, hc⟩
  rw [h] at this
  cases this
theorem dealR_min {gs : List G3} {u : Nat → Int} {rd : Nat → Bool} {m b : Nat} (h0 : P1 gs u (firsts gs u rd) none) (hb : (belowR gs u rd)[m]? = some b)
    (hm : ∀ (k i : Nat), (belowR gs u rd)[k]? = some i → u b ≤ u i ∧ (k < m → u b < u i)) : DealR gs u rd (some b) := by
  obtain ⟨⟨h1, hr⟩, h2⟩ := belowR_mem.mp (List.mem_of_getElem? hb)
  refine ⟨h1, hr, .inr ⟨fun i hi ri q => ?_, h2, fun i hi ri hc => ?_⟩⟩
  · have e : firsts gs u rd = [] := h0
    have := firsts_mem.mpr ⟨⟨hi, ri⟩, q⟩
    rw [e] at this
    cases this
  · obtain ⟨k, hk⟩ := List.mem_iff_getElem?.mp (belowR_mem.mpr ⟨⟨hi, ri⟩, hc⟩)
    obtain ⟨a1, a2⟩ := hm k i hk
    refine ⟨a1, fun q => a2 ?_⟩
    by_cases c : k < m
    · exact c
    · obtain ⟨l1, e1⟩ := List.getElem?_eq_some_iff.mp hk
      obtain ⟨l2, e2⟩ := List.getElem?_eq_some_iff.mp hb
      by_cases c2 : m < k
      · have := List.pairwise_iff_getElem.mp (belowR_sorted gs u rd) m k l2 l1 c2
        omega
      · have e3 : k = m := by omega
        subst e3
        omega
theorem readyL_all (gs : List G3) : readyL gs (fun _ => true) = List.range gs.length := by
  unfold readyL
  exact List.filter_eq_self.mpr fun _ _ => rfl
/-! ### the tables of the code with a lambda -/
def qN : Str := "next_of" ++ ".<locals>." ++ "<lambda>"
def qF : Str := "Shares.free_one" ++ ".<locals>." ++ "<lambda>"
def TT (K : PySem.W.Frag) : List (Addr × Str) := [((He.cT K ("next_of", none)).2, qN), ((He.cT K ("Shares", some "free_one")).2, qF)]
end K85

set_option Elab.async false
set_option linter.all false
set_option maxRecDepth 100000
set_option maxHeartbeats 2000000
/-! LK: a lambda of one parameter, called by a built-in for each item (min(xs, key=lambda a: .., default=..)). -/
namespace LK
open PySem PySem.Spec PyProof.Rows L2 LamX
/-- one parameter a, no other name of its own: captured ones and globals -/
structure LamS1 (sc scope : Scope) (a : Str) : Prop where
  kind : scope.kind = .function
  co : scope.isCoroutine = false
  gen : scope.isGenerator = false
  own : ∀ y ∈ scope.names, (y.2 = .local → y.1 = a) ∧ y.2 ≠ .cell
  par : scope.names.lookup a = some .local
  free : ∀ y ∈ scope.names, y.2 = .free → sc.names.lookup y.1 = some .cell ∨ sc.names.lookup y.1 = some .free
def lamSB1 (sc scope : Scope) (a : Str) : Bool :=
  decide (scope.kind = .function) && !scope.isCoroutine && !scope.isGenerator && decide (scope.names.lookup a = some .local) && scope.names.all fun y => (!decide (y.2 = .local) || decide (y.1 = a)) && !decide (y.2 = .cell) && (!decide (y.2 = .free) || decide (sc.names.lookup y.1 = some .cell) || decide (sc.names.lookup y.1 = some .free))
theorem lamS1_by {sc scope : Scope} {a : Str} (h : lamSB1 sc scope a = true) : LamS1 sc scope a := by
  unfold lamSB1 at h
  simp only [Bool.and_eq_true, Bool.or_eq_true, Bool.not_eq_true', decide_eq_true_eq, decide_eq_false_iff_not, List.all_eq_true] at h
  obtain ⟨⟨⟨⟨h1, h2⟩, h3⟩, h5⟩, h4⟩ := h
  refine ⟨h1, h2, h3, fun y hy => ⟨fun e => ?_, (h4 y hy).1.2⟩, h5, fun y hy e => ?_⟩
  · rcases (h4 y hy).1.1 with z | z
    · exact absurd e z
    · exact z
  · rcases (h4 y hy).2 with (z | z) | z
    · exact absurd e z
    · exact .inl z
    · exact .inr z
theorem LamS1.has {X : Cx} {scope : Scope} {a : Str} (L : LamS1 X.env.scope scope a) (ok : X.Ok) : ∀ y ∈ scope.names, y.2 = .free → ∃ c, X.env.cells.lookup y.1 = some c := fun y hy e => by
  rcases L.free y hy e with k | k
  · exact ok.has _ (.inl k)
  · exact ok.has _ (.inr k)
section
variable {X : Cx} {pins : List (Addr × Obj)} {σ : L2.St} {H HZ : Hp} {s s1 : Shared} {a : Str} {i : Nat}
theorem lam_start1 {A : Around} {outer : List Env} {E : XK} {scope : Scope} {f c' : Addr} {h₁ : Heap} {tk : Nat} {x : V} {u : Value} (I : Inv X pins σ H s) (L : LamS1 X.env.scope scope a) (hi : X.N[i]? = some a) (hN : X.N.Nodup) (rx : L2.RelV x u)
    (e0 : Env0 X.prog X.w X.K X.mg X.base A outer s1 HZ) (hd : A.handled = none)
    (un : Un (frs X.stack) [] H HZ s.heap s1.heap) (hns : h₁.Ns s1.heap.objs.size fun y => ([(a, u)] : List (Str × Value)).reverse.lookup y) (kp : ∀ b o, s1.heap.get? b = some o → h₁.get? b = some o) :
    Inv (lamCx X A outer s1 HZ E scope f c') [] (σ.set i (some x)) HZ { s1 with heap := h₁, toks := tk } := by
  have hfree := L.has I.ok
  have cm : ∀ {y c}, (cloFrom X.env.cells scope.names []).lookup y = some c → X.env.cells.lookup y = some c := fun {y c} e => by
    rcases cloFrom_mem (PySem.mem_of_lookup e) with hm | ⟨h1, h2⟩
    · cases hm
    · obtain ⟨c1, hc⟩ := hfree _ h1 rfl
      have hc : X.env.cells.lookup y = some c1 := hc
      have e2 : c = c1 := by
        rw [h2, hc] <;> rfl
      rw [e2]
      exact hc
  have look : ∀ {y}, scope.names.lookup y = some .free → ∃ c, (cloFrom X.env.cells scope.names []).lookup y = some c := fun {y} hl => by
    have hy : (y, NameKind.free) ∈ scope.names := PySem.mem_of_lookup hl
    exact mem_lookup (cloFrom_has (cells := X.env.cells) (acc := []) hy)
  have cellK : ∀ {c : Addr} {v : Option Value}, H c = none → s.heap.IsCell c v → h₁.IsCell c v := fun {c v} n ⟨o, ho, hd⟩ => by
    obtain ⟨sl, q⟩ := un.any ho n (by simp)
    exact ⟨_, kp _ _ q, hd⟩
  have noA : ∀ b : Addr, b ∉ (lamCx X A outer s1 HZ E scope f c').ex := fun b z => absurd (show b ∈ ([] : List Addr) from z) (by simp)
  refine ⟨⟨e0.mod, L.kind, rfl, rfl, Nat.le_refl _, fun y z c e1 e2 => I.ok.inj y z c (cm e1) (cm e2), fun y hy => ?_, fun y c z _ => ?_, fun _ => hd, Around.frames_deeper e0.frames, .inr ⟨rfl, rfl⟩, fun b z => absurd z (noA b), e0.bs, e0.bsz, fun b _ _ => noA b,
      fun b z => absurd z (noA b), e0.funs, e0.frf⟩,
    rfl, e0.bare, Un.kept kp, ⟨_, hns, fun j y v e1 e2 e3 => ?_⟩, fun y c e => ?_, e0.hok.fresh (Nat.le_refl _), fun y c e => ?_, fun q hq => absurd (show q ∈ ([] : List (Addr × Obj)) ++ [] from hq) (by simp), e0.hok.kept kp, by rw [List.length_set]; exact I.len⟩
  · have hy : scope.names.lookup y = some .cell ∨ scope.names.lookup y = some .free := hy
    rcases hy with hy | hy
    · exact absurd rfl (L.own _ (PySem.mem_of_lookup hy)).2
    · exact look hy
  · have z : false = true := z
    cases z
  · have e1 : X.N[j]? = some y := e1
    have e3 : Vis scope y := e3
    rcases e3 with k | k | k
    · have ya : y = a := (L.own _ (PySem.mem_of_lookup k)).1 rfl
      subst ya
      have ji : j = i := nd_ix hN e1 hi
      subst ji
      have hjl : j < σ.length := by
        have h1 := (List.getElem?_eq_some_iff.mp e1).1
        have h2 := I.len
        omega
      rw [List.getElem?_set_self hjl] at e2
      cases e2
      exact ⟨u, rx, .inl ⟨k, by simp [List.lookup]⟩⟩
    · exact absurd rfl (L.own _ (PySem.mem_of_lookup k)).2
    · have ya : y ≠ a := fun q => by
        have h1 := L.par
        rw [← q, k] at h1
        cases h1
      have ji : i ≠ j := fun q => ya (by
        rw [q] at hi
        rw [hi] at e1
        exact (Option.some.inj e1).symm)
      rw [List.getElem?_set_ne ji] at e2
      obtain ⟨m, hn, hl⟩ := I.loc
      have hvis : Vis X.env.scope y := (L.free _ (PySem.mem_of_lookup k) rfl).elim (fun k => .inr (.inl k)) (fun k => .inr (.inr k))
      obtain ⟨w', r, q⟩ := hl j y v e1 e2 hvis
      obtain ⟨c2, h2⟩ := look k
      refine ⟨w', r, .inr ⟨.inr k, c2, h2, ?_⟩⟩
      have c1 := cm h2
      rcases q with ⟨k', _⟩ | ⟨_, c3, e', z⟩
      · have k' : X.env.scope.names.lookup y = some .local := k'
        rcases L.free _ (PySem.mem_of_lookup k) rfl with k2 | k2 <;> rw [show X.env.scope.names.lookup y = _ from k2] at k' <;> cases k'
      · rw [c1] at e'
        cases e'
        exact cellK (I.freeC y _ c1) z
  · obtain ⟨w', z⟩ := I.cell y c (cm e)
    exact ⟨w', cellK (I.freeC y c (cm e)) z⟩
  · obtain ⟨v, o, ho, hd⟩ := I.cell y c (cm e)
    exact un.free c o ho (I.freeC y c (cm e)) (by simp)
/-- the lambda at f called with x -/
theorem lam_call1 {k : Nat} {f c' : Addr} {pm ctv : Value} {params : Arguments} {body : Expr} {scope : Scope} {tb : TE} {x : V} {u : Value} {Q : VK} {A : Around} (I : Inv X pins σ H s) (L : LamS1 X.env.scope scope a) (hi : X.N[i]? = some a) (hN : X.N.Nodup) (rx : L2.RelV x u)
    (hf : s.heap.get? f = some (PySem.W.kla_obj "<lambda>" (X.env.qual ++ "<lambda>") params body scope (cloFrom X.env.cells scope.names []) pm c' ctv))
    (hbind : bindArgs (PySem.W.kla_fn "<lambda>" (X.env.qual ++ "<lambda>") params body scope (cloFrom X.env.cells scope.names []) pm (.ref c') ctv) ⟨[u], []⟩ = pure [(a, u)])
    (e0 : Env0 X.prog X.w X.K X.mg X.base A X.stack s H) (hr : Room (k + 1) A) (hco : H c' = some (CodeO c' (X.env.qual ++ "<lambda>")))
    (hbody : ∀ (A : Around) (outer : List Env) (s : Shared) (H : Hp) (E : XK), Room k (A.deeper (lamEnv X scope s.heap.objs.size f c')) → PE (lamCx X A outer s H E scope f c') body tb)
    (h : tb (σ.set i (some x)) H Q) (E : Value → Shared → Prop) : wpAny (model X.prog X.w) A (call (.ref f) [u]) (fun k s' => EP X pins σ (fun y H' => Q y H' ∧ Un (frs X.stack) [] H H' s.heap s'.heap) k s') E s := by
  obtain ⟨⟨oc, vs, t, hoc, hdc, hvc⟩, _, _⟩ := I.hok c' _ hco
  have rc : codeAny (model X.prog X.w) A (.call (.ref f) ⟨[u], []⟩) (CR (L2.CX X.prog X.w) X.stack X.prog X.w H s Q (fun _ _ _ => False)) s := by
    refine PySem.W.kla_callFunE hr.depth hf rfl L.co L.gen rfl ⟨c', oc, vs, t, rfl, hoc, hdc, hvc⟩ ?_
    rw [hbind]
    refine wpAny_pure (wpAny_newFunctionEnv (fun y hy => (L.own y hy).2) (fun y hy => by
      rw [List.mem_singleton.mp hy]
      exact L.par) (fun h₁ hns hsb => ⟨I.nolimit.fresh _ hsb, ?_⟩) L.kind)
    show codeAny _ _ (.expr body (lamEnv X scope s.heap.objs.size f c')) _ _
    have kp : ∀ b o, s.heap.get? b = some o → h₁.get? b = some o := fun b o e => hsb.extBut b o (Nat.ne_of_lt (Heap.lt_size e)) (Heap.get?_push_of_some _ e)
    have J : Inv (lamCx X A X.stack s H (fun _ _ _ => False) scope f c') [] (σ.set i (some x)) H { s with heap := h₁, toks := s.toks + ([(a, u)] : List (Str × Value)).length } :=
      lam_start1 I L hi hN rx e0 hr.hd (Un.kept fun _ _ e => e) hns kp
    refine PySem.W.kla_codeExpr (wpAny_mono ((hbody _ _ s H (fun _ _ _ => False) (hr.deeper _)).run [] _ _ H Q J h) (fun v s' hq => ?_) fun e s' hq => hq)
    obtain ⟨w', H', J', rv, q⟩ := hq
    exact ⟨w', H', J'.os, J'.bare, J'.base, J'.hok, rv, q⟩
  refine wpAny_call (codeAny_mono rc fun r s' hq => ?_)
  cases r with
  | error e =>
    obtain ⟨_, _, _, _, _, _, _, _, _, _, _, _, z⟩ := hq
    exact z.elim
  | ok fl =>
    cases fl with
    | ret u =>
      obtain ⟨y, H', os, bare, un, hok, rv, q⟩ := hq
      exact I.after ⟨y, H', os, bare, un, hok, rv, q, un⟩
    | next => exact False.elim hq
    | brk => exact False.elim hq
    | cont => exact False.elim hq
end
/-- the lambda's object -/
def LamO (f : Addr) (o : Obj) : HO := .ext fun h => h.get? f = some o
theorem lamO_ok {P : Program} {w : World} {H : Hp} {h : Heap} {f : Addr} {o : Obj} (e : h.get? f = some o) : ObjOk P w H h f (LamO f o) := ⟨e, ⟨_, e⟩, fun _ _ a st => st _ a⟩
section
variable {X : Cx} {pins : List (Addr × Obj)} {σ : L2.St} {H : Hp} {s : Shared}
/-- the lambda is made, its object known -/
theorem lam_make3 {T : List (Addr × Str)} {c P : Addr} {params : Arguments} {body : Expr} {scope : Scope} {pos : Pos} {E : Value → Shared → Prop} {Q : Value → Shared → Prop} (I : Inv X pins σ H s) (TB : TabB X.base X.mg c P) (hcode : X.env.code = .ref c)
    (hm : (P, X.env.qual ++ "<lambda>") ∈ T) (hu : ∀ p ∈ T, p.1 = P → p.2 = X.env.qual ++ "<lambda>") (hT : Tabs T H) (hdef : defaultsOf params X.env = ([], [])) (hfree : ∀ y ∈ scope.names, y.2 = .free → ∃ c, X.env.cells.lookup y.1 = some c)
    (h : ∀ (f c' : Addr) (pm ctv : Value) (H1 : Hp) (s' : Shared), Inv X pins σ H1 s' → ExtN H H1 → Tabs T H1 →
      H1 f = some (LamO f (PySem.W.kla_obj "<lambda>" (X.env.qual ++ "<lambda>") params body scope (cloFrom X.env.cells scope.names []) pm c' ctv)) → H1 c' = some (CodeO c' (X.env.qual ++ "<lambda>")) → Q (.ref f) s') :
    wpAny (model X.prog X.w) X.A (eval (.Lambda params body scope pos) X.env) Q E s := by
  obtain ⟨ps, hP, ht, ha⟩ := hT _ hm
  refine PySem.W.kla_eval hdef ?_
  have bP : s.heap.BuiltinsAt X.mg P := TB.bm.keeps I.bk
  have hP' : s.heap.get? P = some { cls := .none, data := .fields ps } := I.hok P _ hP
  -- what is left once the object is laid
  have fin : ∀ {H0 : Hp} {h' : Heap} {tk : Nat} {c' : Addr} {pm ctv : Value}, Inv X pins σ H0 { s with heap := h', toks := tk } → ExtN H H0 → Tabs T H0 → H0 c' = some (CodeO c' (X.env.qual ++ "<lambda>")) →
      Q (.ref h'.objs.size) { s with heap := h'.push (PySem.W.kla_obj "<lambda>" (X.env.qual ++ "<lambda>") params body scope (cloFrom X.env.cells scope.names []) pm c' ctv), toks := tk } := by
    intro H0 h' tk c' pm ctv I0 e0 t0 hc0
    have n0 : H0 h'.objs.size = none := I0.hok.fresh (Nat.le_refl _)
    have keep : ∀ b o, H0 b = some o → upd H0 h'.objs.size (LamO h'.objs.size (PySem.W.kla_obj "<lambda>" (X.env.qual ++ "<lambda>") params body scope (cloFrom X.env.cells scope.names []) pm c' ctv)) b = some o := fun b o e => by
      rw [upd_ne (ne_of_none e n0)]
      exact e
    exact h h'.objs.size c' pm ctv _ _ (I0.laid (t' := tk) (h' := h'.push (PySem.W.kla_obj "<lambda>" (X.env.qual ++ "<lambda>") params body scope (cloFrom X.env.cells scope.names []) pm c' ctv)) (fun b o e => Heap.get?_push_of_some _ e) (Nat.le_refl _) (lamO_ok (Heap.get?_push_size _ rfl)))
      (e0.trans (ExtN.of keep)) (t0.ext keep) upd_same (keep _ _ hc0)
  cases hc : codeAmong pos ps.toList with
  | none =>
    refine PySem.W.kla_makeFunction (mg := X.mg) (c := c) (P := P) (ps := ps) (closure_ok hfree) I.ok.glob (I.mod.glob.keeps I.bk) hcode (TB.code.keeps I.bk) hP' ht hc TB.gP bP fun c' ctv h' tk hx hge hlt hrec htb => ?_
    obtain ⟨c2, oc, vs, t, e2, hoc, hd, hv⟩ := hrec
    cases e2
    have nC : H c' = none := I.hok.fresh hge
    have I0 := inv_table (q := X.env.qual ++ "<lambda>") (t' := tk) (more := #[rawInt pos.line, rawInt pos.col, .ref c']) (h' := h') I hP hx htb hge ⟨oc, vs, t, hoc, hd, hv⟩
    have hE : ExtN H (upd (upd H P (.tbl (ps ++ #[rawInt pos.line, rawInt pos.col, .ref c']))) c' (CodeO c' (X.env.qual ++ "<lambda>"))) := fun b o e n => by
      rw [upd_ne (ne_of_none e nC), upd_ne (fun z => n ps (Option.some.inj (e.symm.trans (by rw [z]; exact hP))))]
      exact e
    have eL : (ps ++ #[rawInt pos.line, rawInt pos.col, .ref c']).toList = ps.toList ++ [rawInt pos.line, rawInt pos.col, .ref c'] := by simp
    refine fin I0 hE (fun p hp => ?_) upd_same
    by_cases hb : p.1 = P
    · rw [hu p hp hb, hb]
      refine ⟨_, by rw [upd_ne (ne_of_none hP nC), upd_same], by rw [eL]; exact PySem.TriplesOk_snoc _ _ _ _ ht, fun p' cv hcv => ?_⟩
      rw [eL] at hcv
      rcases among_app _ ht hcv with z | z
      · obtain ⟨c0, e1, e2⟩ := ha p' cv z
        exact ⟨c0, e1, hE _ _ e2 codeO_ne⟩
      · exact ⟨c', z, upd_same⟩
    · obtain ⟨ps', a1, a2, a3⟩ := hT p hp
      refine ⟨ps', by rw [upd_ne (ne_of_none a1 nC), upd_ne hb]; exact a1, a2, fun p' cv hcv => ?_⟩
      obtain ⟨c0, e1, e2⟩ := a3 p' cv hcv
      exact ⟨c0, e1, hE _ _ e2 codeO_ne⟩
  | some cv =>
    obtain ⟨c', e, hco⟩ := ha pos cv hc
    subst e
    refine PySem.W.kla_makeFunctionHit (mg := X.mg) (c := c) (P := P) (ps := ps) (closure_ok hfree) I.ok.glob (I.mod.glob.keeps I.bk) hcode (TB.code.keeps I.bk) hP' ht hc bP fun ctv h' tk hx hsz => ?_
    exact fin (I.kept (t' := tk) hx) (ExtN.refl H) hT hco
/-- records of ours at ch have turned -/
theorem turnedL {h' : Heap} {t' : Nat} {ch : List Addr} (I : Inv X pins σ H s) (k : ∀ b o, b ∉ ch → s.heap.get? b = some o → h'.get? b = some o) (hf : ∀ b ∈ ch, FpOk X pins H b) : Inv X pins σ H { s with heap := h', toks := t' } := by
  have nit : ∀ b u, H b = some u → b ∉ ch := fun b u e z => by
    have q := (hf b z).1
    rw [q] at e; cases e
  refine I.step (g' := s.gens) (d' := s.drawn) (ch := ch) (fun b hb => ⟨(hf b hb).2.2.2.1, (hf b hb).2.1, (hf b hb).2.2.2.2.1, (hf b hb).2.2.2.2.2⟩) (fun b o _ _ hc e _ => k b o hc e) (fun b o _ _ hc e _ => ⟨o.slots, k b o hc e⟩)
    (fun _ _ _ _ n => n) (fun b o hc e => ⟨o, k b o hc e⟩) (fun _ _ e => e) (fun _ _ _ e => e) (fun b ps e => ⟨#[], by rw [e]; simp⟩) (fun m hm => ?_) (fun b u e => ?_) I.bare
  · obtain ⟨o, es, ep, ho, r⟩ := hm
    exact ⟨o, es, ep, k _ o (fun z => (hf _ z).2.1 rfl) ho, r⟩
  · refine (I.hok b u e).stay (fun c v hc q => k c v ?_ q) (fun _ q => q) fun _ _ q => q
    rcases hc with z | z
    · rw [z]; exact nit b u e
    · exact fun m => by
        have q := (hf c m).1
        rw [q] at z; cases z
end
/-! ### the least by its key -/
theorem best_min {ks : List Int} : ∀ n, n < ks.length → argBest (fun i j => decide (ks.getD i 0 < ks.getD j 0)) n ≤ n ∧ ∀ j, j ≤ n → ks.getD (argBest (fun i j => decide (ks.getD i 0 < ks.getD j 0)) n) 0 ≤ ks.getD j 0 ∧ (j < argBest (fun i j => decide (ks.getD i 0 < ks.getD j 0)) n → ks.getD (argBest (fun i j => decide (ks.getD i 0 < ks.getD j 0)) n) 0 < ks.getD j 0)
  | 0, _ => ⟨Nat.le_refl _, fun j hj => by
    have e : j = 0 := by omega
    subst e
    exact ⟨Int.le_refl _, fun h => absurd h (Nat.lt_irrefl _)⟩⟩
  | n + 1, h => by
    obtain ⟨h1, h2⟩ := best_min (ks := ks) n (by omega)
    unfold argBest
    split
    · rename_i hc
      have hc2 := of_decide_eq_true hc
      refine ⟨Nat.le_refl _, fun j hj => ?_⟩
      by_cases q : j = n + 1
      · subst q
        exact ⟨Int.le_refl _, fun h => absurd h (Nat.lt_irrefl _)⟩
      · have := (h2 j (by omega)).1
        exact ⟨by omega, fun _ => by omega⟩
    · rename_i hc
      have hc2 : ¬ ks.getD (n + 1) 0 < ks.getD (argBest (fun i j => decide (ks.getD i 0 < ks.getD j 0)) n) 0 := fun q => hc (decide_eq_true q)
      refine ⟨by omega, fun j hj => ?_⟩
      by_cases q : j = n + 1
      · subst q
        exact ⟨by omega, fun h => by omega⟩
      · exact h2 j (by omega)
end LK

set_option Elab.async false
set_option linter.all false
set_option maxRecDepth 100000
set_option maxHeartbeats 2000000
/-! LK2: min(xs, key=lambda a: body, default=None). -/
namespace LK
open PySem PySem.Spec PyProof.Rows L2 LamX
theorem walksV {prog : Program} {w : World} {A : Around} (hh : A.handled = none) (I l : Addr) (hne : l ≠ I) (xs : List V) :
    WalksS prog w A I [I, l] [I] (fun a b => b = a) xs.length (fun i v => ∃ x, xs[i]? = some x ∧ L2.RelV x v) (fun i s => ∃ its : List Value, s.heap.IsListIter I l i ∧ s.heap.IsList l its.toArray ∧ Vals xs its) where
  sub := fun b hb => by simp at hb; simp [hb]
  grefl := fun _ => rfl
  gtrans := fun _ _ _ h1 h2 => h2.trans h1
  frame := fun i s h' tk ⟨its, a, b, r⟩ _ hk => ⟨its, a.at fun o e => hk I (by simp) o e, b.at fun o e => hk l (by simp) o e, r⟩
  item := fun i s Q E hi ⟨its, a, b, r⟩ hQ => by
    have hx : xs[i]? = some xs[i] := List.getElem?_eq_getElem hi
    obtain ⟨u, hu, ru⟩ := r.get hx
    refine wpAny_pyNext_list_item a b (x := u) (by simpa using hu) fun h' a' sb => ?_
    exact hQ u _ ⟨_, hx, ru⟩ ⟨its, a', b.extBut sb.extBut hne, r⟩ ⟨fun c o hc e => sb.extBut c o (fun z => hc (by simp [z])) e, rfl, rfl, rfl, Nat.le_refl _⟩
  done := fun s Q E ⟨its, a, b, r⟩ hQ => by
    have hl := r.length
    exact wpAny_pyNext_list_end hh a b (by simp; omega) fun h' eb => hQ _ ⟨fun c o hc e => eb c o (fun z => hc (by simp [z])) e, rfl, rfl, rfl, Nat.le_refl _⟩
  self := fun i s Q E ⟨its, a, _⟩ h => wpAny_pyIter_listiter a h
section
variable {X : Cx} {pins : List (Addr × Obj)} {σ : L2.St} {H : Hp} {s : Shared} {a : Str} {i : Nat}
theorem min_run {k : Nat} {f c' b : Addr} {pm ctv : Value} {params : Arguments} {body : Expr} {scope : Scope} {tb : TE} {xs : List V} {ks : List Int} {Q : VK} (I : Inv X pins σ H s) (hd : X.A.handled = none) (L : LamS1 X.env.scope scope a) (hi : X.N[i]? = some a) (hN : X.N.Nodup)
    (hf : H f = some (LamO f (PySem.W.kla_obj "<lambda>" (X.env.qual ++ "<lambda>") params body scope (cloFrom X.env.cells scope.names []) pm c' ctv))) (hco : H c' = some (CodeO c' (X.env.qual ++ "<lambda>")))
    (hbind : ∀ u, bindArgs (PySem.W.kla_fn "<lambda>" (X.env.qual ++ "<lambda>") params body scope (cloFrom X.env.cells scope.names []) pm (.ref c') ctv) ⟨[u], []⟩ = pure [(a, u)])
    (hr : Room (k + 2) X.A) (hbody : ∀ (A : Around) (outer : List Env) (s : Shared) (H : Hp) (E : XK), Room k (A.deeper (lamEnv X scope s.heap.objs.size f c')) → PE (lamCx X A outer s H E scope f c') body tb)
    (hq : SqL X.K H b xs) (hl : xs.length = ks.length) (hk : ∀ (j : Nat) (x : V) (kk : Int), xs[j]? = some x → ks[j]? = some kk → tb (σ.set i (some x)) H fun y H' => y = .int kk ∧ H' = H)
    (h0 : xs = [] → Q .non H) (h1 : ∀ (m : Nat) (x : V) (kk : Int), xs[m]? = some x → ks[m]? = some kk → (∀ (j : Nat) (kj : Int), ks[j]? = some kj → kk ≤ kj ∧ (j < m → kk < kj)) → Q x H) :
    wpAny (model X.prog X.w) X.A (call (.builtin "min") [.ref b] [(Str.ofString "key", .ref f), (Str.ofString "default", .none)]) (EP X pins σ Q) X.xe s := by
  obtain ⟨its, rv, p, hz⟩ := I.list hq
  have hlt : b < s.heap.objs.size := by
    obtain ⟨_, e, _⟩ := p.isList
    exact Heap.lt_size e
  have hIS : (s.heap.push { cls := .type "list_iterator", data := .fields #[.ref b, .int 0 0] }).objs.size = s.heap.objs.size + 1 := Heap.size_push ..
  have fpI : FpOk X pins H s.heap.objs.size := I.fpOk (Nat.le_refl _) (I.hok.fresh (Nat.le_refl _))
  have fpS : FpOk X pins H (s.heap.objs.size + 1) := I.fpOk (Nat.le_succ _) (I.hok.fresh (Nat.le_succ _))
  have nfr : ∀ c, FpOk X pins H c → c ∉ frs X.stack := fun c h z => (List.mem_cons.mp (I.stkSub c z)).elim h.2.1 h.2.2.1
  refine call_min_walkKD (wpAny_pyIter_list p.isList ?_)
  refine ⟨s.heap.objs.size, [s.heap.objs.size, b], [s.heap.objs.size], fun a b => b = a, xs.length, _, _, fun s' => Inv X pins σ H s', fun j kv _ => ∃ t, kv = .int (ks.getD j 0) t, fun i j => decide (ks.getD i 0 < ks.getD j 0), rfl,
    walksV (A := X.A.in1) (by exact hd) _ b (Nat.ne_of_lt hlt) xs, ⟨its, ⟨_, Heap.get?_push_size _ rfl, rfl, rfl⟩, p.isList.push _, rv⟩, fun c hc => ?_, ?_, I.kept (t' := s.toks) fun c o e => Heap.get?_push_of_some _ e, fun hn s' J => ?_, fun hn v s' hP J => ?_⟩
  · show c < (s.heap.push _).objs.size
    rw [hIS]
    rcases List.mem_cons.mp hc with rfl | hc
    · exact Nat.lt_succ_self _
    · rw [List.mem_singleton.mp hc]
      exact Nat.lt_succ_of_lt hlt
  · show KeyRun X.prog X.w X.A.in1 (.ref f) .Lt (s.heap.push { cls := .type "list_iterator", data := .fields #[.ref b, .int 0 0] }).objs.size _ _ _ _ _ _ _ _
    rw [hIS]
    refine ⟨fun s1 s2 J m => ?_, fun _ _ _ _ v _ => v, fun j v s1 o Q' E' hj hP J hst hS hQ => ?_, fun i j ki kj s1 Q' E' J v1 v2 h => ?_⟩
    · obtain ⟨h2, g2, d2, t2, o2⟩ := s2
      obtain rfl : g2 = s1.gens := m.gens
      obtain rfl : d2 = s1.drawn := m.drawn
      obtain rfl : o2 = s1.os := m.os
      refine turnedL (h' := h2) (t' := t2) (ch := [s.heap.objs.size + 1, s.heap.objs.size]) J (fun c o hc e => m.heap c o hc e) fun c hc => ?_
      rcases List.mem_cons.mp hc with rfl | hc
      · exact fpS
      · rw [List.mem_singleton.mp hc]
        exact fpI
    · obtain ⟨x, hx, rx⟩ := hP
      obtain ⟨its', a', b', r'⟩ := hst
      have hjk : j < ks.length := by rw [← hl]; exact hj
      have hkk : ks[j]? = some ks[j] := List.getElem?_eq_getElem hjk
      have hgd : ks.getD j 0 = ks[j] := by rw [List.getD_eq_getElem?_getD, hkk]; rfl
      obtain ⟨hfo, _, _⟩ := J.hok f _ hf
      refine wpAny_mono (lam_call1 (A := X.A.in1) J L hi hN rx hfo (hbind v) J.env0.in1 hr.in1 hco hbody (hk j x _ hx hkk) E') (fun kv s2 hp => ?_) (fun _ _ e => e)
      obtain ⟨y, H', J', ry, ⟨ey, eH⟩, un⟩ := hp
      subst ey eH
      obtain ⟨t, rfl⟩ := ry
      obtain ⟨its2, rv2, p2, _⟩ := J'.list hq
      exact hQ _ s2 J' ⟨its2, a'.at (fun o e => un.keep _ o e fpI.1 (nfr _ fpI) (by simp)), p2.isList, rv2⟩ (un.keep _ o hS fpS.1 (nfr _ fpS) (by simp)) ⟨t, by rw [hgd]⟩ (fun _ _ v => v)
    · obtain ⟨t, rfl⟩ := v1
      obtain ⟨u, rfl⟩ := v2
      exact wpAny_lt_int h
  · have e : xs = [] := List.length_eq_zero_iff.mp hn
    exact ⟨.non, H, J, rfl, h0 e⟩
  · obtain ⟨x, hx, rx⟩ := hP
    have hb := best_min (ks := ks) (xs.length - 1) (by omega)
    obtain ⟨b1, b2⟩ := hb
    refine ⟨x, H, J, rx, h1 _ x _ hx (List.getElem?_eq_getElem (by omega)) fun j kj hj => ?_⟩
    have hjl := (List.getElem?_eq_some_iff.mp hj).1
    have e1 : ks.getD j 0 = kj := by rw [List.getD_eq_getElem?_getD, hj]; rfl
    have e2 : ks.getD (argBest (fun i j => decide (ks.getD i 0 < ks.getD j 0)) (xs.length - 1)) 0 = ks[argBest (fun i j => decide (ks.getD i 0 < ks.getD j 0)) (xs.length - 1)]'(by omega) := by
      rw [List.getD_eq_getElem?_getD, List.getElem?_eq_getElem (by omega)]
      rfl
    have := b2 j (by omega)
    rw [e1, e2] at this
    exact this
end
theorem SqL_ext {K : PySem.W.Frag} {H H' : Hp} {b : Addr} {xs : List V} (h : SqL K H b xs) (e : ExtN H H') : SqL K H' b xs := by
  rcases h with (h | ⟨o, h⟩) | h
  · exact .inl (.inl (e _ _ h fun _ z => nomatch z))
  · exact .inl (.inr ⟨o, e _ _ h fun _ z => nomatch z⟩)
  · exact .inr h
/-- the lambda as a value -/
def tLamO (T : List (Addr × Str)) (q : Str) (mk : Value → Addr → Value → Obj) : TE := fun _ H Q => Tabs T H ∧ ∀ f c' pm ctv H1, ExtN H H1 → Tabs T H1 → H1 f = some (LamO f (mk pm c' ctv)) → H1 c' = some (CodeO c' q) → Q (.ref f) H1
/-- min(xs, key=lambda a: body, default=None): the first with the least key -/
def tMinK (K : PySem.W.Frag) (T : List (Addr × Str)) (i : Nat) (te tb : TE) : TE := fun σ H Q => te σ H fun v H1 => Tabs T H1 ∧ ∃ (b : Addr) (xs : List V) (ks : List Int), v = .ref b ∧ SqL K H1 b xs ∧ xs.length = ks.length ∧ ∀ H2, ExtN H1 H2 → Tabs T H2 →
  (∀ (j : Nat) (x : V) (kk : Int), xs[j]? = some x → ks[j]? = some kk → tb (σ.set i (some x)) H2 fun y H' => y = .int kk ∧ H' = H2) ∧ (xs = [] → Q .non H2) ∧ ∀ (m : Nat) (x : V) (kk : Int), xs[m]? = some x → ks[m]? = some kk → (∀ (j : Nat) (kj : Int), ks[j]? = some kj → kk ≤ kj ∧ (j < m → kk < kj)) → Q x H2
section
variable {X : Cx} {a : Str} {i k : Nat} {T : List (Addr × Str)} {c P : Addr} {e : Expr} {te tb : TE} {params : Arguments} {body : Expr} {scope : Scope} {p pos lpos kp kp2 dp : Pos} {dj : Nat}
theorem pe_lam (hcode : X.env.code = .ref c) (TB : TabB X.base X.mg c P) (hm : (P, X.env.qual ++ "<lambda>") ∈ T) (hu : ∀ p ∈ T, p.1 = P → p.2 = X.env.qual ++ "<lambda>") (L : LamS1 X.env.scope scope a) (hdef : defaultsOf params X.env = ([], [])) :
    PE X (.Lambda params body scope lpos) (tLamO T (X.env.qual ++ "<lambda>") fun pm c' ctv => PySem.W.kla_obj "<lambda>" (X.env.qual ++ "<lambda>") params body scope (cloFrom X.env.cells scope.names []) pm c' ctv) := by
  refine ⟨fun pins s σ H Q I h => ?_⟩
  obtain ⟨hT, h⟩ := h
  exact lam_make3 I TB hcode hm hu hT hdef (L.has I.ok) fun f c' pm ctv H1 s' I1 e1 t1 hf hc => ⟨.ref f, H1, I1, rfl, h f c' pm ctv H1 e1 t1 hf hc⟩
theorem pe_minLam (hc : X.calm = true) (hg : Gl X "min") (hmg : X.mg "min" = none) (he : PE X e te) (hcode : X.env.code = .ref c) (TB : TabB X.base X.mg c P) (hm : (P, X.env.qual ++ "<lambda>") ∈ T) (hu : ∀ p ∈ T, p.1 = P → p.2 = X.env.qual ++ "<lambda>") (L : LamS1 X.env.scope scope a)
    (hi : X.N[i]? = some a) (hN : X.N.Nodup) (hr : Room (k + 2) X.A) (hdef : defaultsOf params X.env = ([], []))
    (hbind : ∀ (q : Str) (cl : List (Str × Addr)) (pm cv ctv u : Value), bindArgs (PySem.W.kla_fn "<lambda>" q params body scope cl pm cv ctv) ⟨[u], []⟩ = pure [(a, u)])
    (hbody : ∀ (A : Around) (outer : List Env) (s : Shared) (H : Hp) (E : XK) (f c' : Addr), Room k (A.deeper (lamEnv X scope s.heap.objs.size f c')) → PE (lamCx X A outer s H E scope f c') body tb)
    (hs : starEach [e] X.env = (false, eval e X.env) :: starEach [] X.env := by rfl) (hse : backTo pos (starEach [e] X.env) = (false, eval e X.env) :: backTo pos (starEach [] X.env) := by rfl) (hpl : (backTo pos (starEach [e] X.env)).any (·.1) = false := by rfl) :
    PE X (.Call (.Name "min" p) [e] [⟨some "key", .Lambda params body scope lpos, kp⟩, ⟨some "default", .Constant .none dj dp, kp2⟩] pos) (tMinK X.K T i te tb) := by
  refine ⟨fun pins s σ H Q I h => ?_⟩
  refine wpAny_Call_Name_kw (ld_blt I hg hmg boot_min ?_)
  refine PyProof.Rows.callWith_kw (thn ((pa_cons he pa_nil hs).run pos pins s σ H (fun vs H1 => match vs with
    | [v] => Tabs T H1 ∧ ∃ (b : Addr) (xs : List V) (ks : List Int), v = .ref b ∧ SqL X.K H1 b xs ∧ xs.length = ks.length ∧ ∀ H2, ExtN H1 H2 → Tabs T H2 →
      (∀ (j : Nat) (x : V) (kk : Int), xs[j]? = some x → ks[j]? = some kk → tb (σ.set i (some x)) H2 fun y H' => y = .int kk ∧ H' = H2) ∧ (xs = [] → Q .non H2) ∧ ∀ (m : Nat) (x : V) (kk : Int), xs[m]? = some x → ks[m]? = some kk → (∀ (j : Nat) (kj : Int), ks[j]? = some kj → kk ≤ kj ∧ (j < m → kk < kj)) → Q x H2
    | _ => False) I h) fun us s1 ⟨vs, H1, I1, r1, q1⟩ => ?_) hse hpl (by rfl) (by rfl)
  match vs, q1 with
  | [v], q1 =>
    obtain ⟨hT, b, xs, ks, rfl, hq, hl, hrest⟩ := q1
    refine thn ((pk_cons (pe_lam hcode TB hm hu L hdef) (pk_cons pe_non pk_nil)).run pos pins s1 σ H1 (fun zs H2 => ∃ f c' pm ctv, zs = [.ref f, .non] ∧ ExtN H1 H2 ∧ Tabs T H2 ∧ H2 f = some (LamO f (PySem.W.kla_obj "<lambda>" (X.env.qual ++ "<lambda>") params body scope (cloFrom X.env.cells scope.names []) pm c' ctv)) ∧ H2 c' = some (CodeO c' (X.env.qual ++ "<lambda>"))) I1
      ⟨hT, fun f c' pm ctv H2 e1 t1 hf hco => ⟨f, c', pm, ctv, rfl, e1, t1, hf, hco⟩⟩) fun ws s2 ⟨zs, H2, I2, r2, q2⟩ => ?_
    obtain ⟨f, c', pm, ctv, rfl, e1, t1, hf, hco⟩ := q2
    obtain ⟨k1, k2, k3⟩ := hrest H2 e1 t1
    cases r1 with
    | cons ra rb =>
      cases rb
      cases ra
      cases r2 with
      | cons rc rd =>
        cases rd with
        | cons re rf =>
          cases rf
          cases rc
          cases re
          exact min_run I2 (I2.ok.hd hc) L hi hN hf hco (hbind _ _ _ _ _) hr (fun A outer s H E hr2 => hbody A outer s H E f c' hr2) (SqL_ext hq e1) hl k1 k2 k3
end
end LK

set_option Elab.async false
set_option linter.all false
set_option maxRecDepth 100000
set_option maxHeartbeats 1000000
namespace K85
open PySem PySem.Spec PyProof.Rows L2 RP LamX
section
variable {P : Program} {w : World} {K : PySem.W.Frag} {mg : Str → Option Value} {base : Heap}
/-! ### next_of -/
theorem sc_next_of : FnScope ["guests", "used", "best", "name", "promise", "ceiling", "below"] ["guests", "used"] (defScope s_next_of) := ⟨rfl, rfl, rfl, by decide +kernel, rfl, by decide +kernel, by decide +kernel⟩
def spNext (K : PySem.W.Frag) : Sp := fun vs H Q _ => ∃ (R : Hp) (vg : V) (len : Int) (gs : List G3) (u : Nat → Int) (ud : Addr), vs = [vg, .ref ud] ∧ Same R H ∧ Plain R ∧ Rep K R vg (gD gs) ∧ GsOk len gs ∧ H ud = some (.dK (usedK gs u)) ∧
  (∀ i, i < gs.length → 0 ≤ u i ∧ u i ≤ 60) ∧ Tabs (TT K) H ∧ ∀ o H', DealR gs u (fun _ => true) o → ExtN H H' → Tabs (TT K) H' → Q (nameV gs o) H'
theorem ok_next_of (T : Txt K mg) (TB : TabB base mg (He.cT K ("next_of", none)).1 (He.cT K ("next_of", none)).2) (hTu : ∀ p ∈ TT K, p.1 = (He.cT K ("next_of", none)).2 → p.2 = qN) : Def P w K mg base 3 "next_of" ["guests", "used"] (spNext K) := by
  have hTm : ((He.cT K ("next_of", none)).2, qN) ∈ TT K := List.mem_cons_self
  obtain ⟨fd, F⟩ := T.a_next_of
  refine Def.mkC F rfl sc_next_of (fun _ _ _ _ _ _ us hl => match us, hl with | [_, _], _ => rfl) (fun vs H Q E h => ?_) (fun A outer s H vs Q E hr h => ?_)
  · obtain ⟨R, vg, len, gs, u, ud, rfl, _⟩ := h
    rfl
  · obtain ⟨R, vg, len, gs, u, ud, rfl, sR, pR, hg, ok, hud, hu, hT, hq⟩ := h
    cases hg with
    | @dct a kvs _ hk rk =>
    have hRa : R a = some (.dK kvs) := pR.rd hk
    have hHa := sR _ _ hRa
    have hl : kvs.length = gs.length := by rw [rk.len, List.length_map]
    have n6 := ok.n6
    have hlen := ok.len
    have lookU : ∀ {i : Nat} {H' : Hp}, Rd H' ud (.dK (usedK gs u)) → i < gs.length → DGet H' ud (.str (nmAt gs i)) (some (.int (u i))) := fun s hi => .inl ⟨usedK gs u, .inr (nmAt gs _), s, rfl, (used_at ok hi).symm⟩
    have lookG : ∀ {i : Nat} {H' : Hp}, Lq R H' → i < gs.length → ∃ a1, DGet H' a (.str (nmAt gs i)) (some (.ref a1)) ∧ SqT K H' a1 [.int (pA gs i), .int (cA gs i)] := fun {i H'} s hi => by
      obtain ⟨p, c, e, e1, e2⟩ := nm_some hi
      obtain ⟨v, g1, g2⟩ := (rk.mono s).get_of (s _ _ hk) (dlook_gs ok.nd e)
      obtain ⟨a1, rfl, g3⟩ := sh_of g2
      rw [e1, e2]
      exact ⟨a1, g1, g3⟩
    have bnd : ∀ {i : Nat}, i < gs.length → 0 ≤ pA gs i ∧ pA gs i ≤ 60 ∧ 0 ≤ u i ∧ u i ≤ 60 := fun {i} hi => by
      have h1 := ok.at_sh hi
      have h2 := hu i hi
      omega
    refine ⟨_, (pss_cons (ps_set (i := 2) sc_next_of.nd rfl (Or.inl rfl) pe_non)
      (pss_cons (ps_lock (ps_for (passes_of rfl) rfl (pi_items (pv 0)) (kpg_tup K rfl (n := 2) rfl (pgs_cons (pg_name (i := 3) sc_next_of.nd rfl (Or.inl rfl)) (pgs_cons (kpg_tup K rfl (n := 2) rfl (pgs_cons (pg_name (i := 4) sc_next_of.nd rfl (Or.inl rfl)) (pgs_cons (pg_name (i := 5) sc_next_of.nd rfl (Or.inl rfl)) pgs_nil))) pgs_nil)))
        (pss_one (ps_if (PW.pt (pw_and (pt_cmpR op_lt (pe_dget (hu_of hr) (pv 1) (pv 3) (fun _ _ => rfl)) (pv 4) (nomark _)) (pw_and1 (PW.pt (pw_or (pt_cmpR op_isN (pv 2) pe_non (nomark _)) (pw_or1 (pt_cmpR op_lt (pe_op op_mulW (pe_dget (hu_of hr) (pv 1) (pv 3) (fun _ _ => rfl)) (pe_ix (kix_tup K rfl) (pe_dget (hu_of hr) (pv 0) (pv 2) (fun _ _ => rfl)) pe_int (fun _ _ => rfl))) (pe_op op_mulW (pe_dget (hu_of hr) (pv 1) (pv 2) (fun _ _ => rfl)) (pv 4)) (nomark _)))))))) (pss_one (ps_set (i := 2) sc_next_of.nd rfl (Or.inl rfl) (pv 3))) pss_nil))))
      (pss_cons (ps_if (pt_cmpR op_notN (pv 2) pe_non (nomark _)) (pss_one (ps_ret (pv 2))) pss_nil)
      (pss_cons (ps_lock (ps_setLc (i := 6) (own := [("name", 3), ("promise", 4), ("ceiling", 5)]) rfl sc_next_of.nd rfl rfl (sw_true rfl rfl rfl (by decide +kernel)) (pi_items (pv 0)) (blkOk_by (own := [("name", 3), ("promise", 4), ("ceiling", 5)]) (N := ["guests", "used", "best", "name", "promise", "ceiling", "below"]) (sc := defScope s_next_of) (by decide +kernel)) (fun _ _ _ _ _ => (kpg_tup K rfl (n := 2) rfl (pgs_cons (pg_name (i := 3) sc_next_of.nd rfl (Or.inl rfl)) (pgs_cons (kpg_tup K rfl (n := 2) rfl (pgs_cons (pg_name (i := 4) sc_next_of.nd rfl (Or.inl rfl)) (pgs_cons (pg_name (i := 5) sc_next_of.nd rfl (Or.inl rfl)) pgs_nil))) pgs_nil)))) (fun _ _ _ _ _ => (pts_one (pt_cmpR op_lt (pe_dget (hu_of hr) (pv 1) (pv 3) (fun _ _ => rfl)) (pv 5) (nomark _)))) (fun _ _ _ _ _ => (pv 3))))
      (pss_one (ps_ret (LK.pe_minLam (k := 0) (i := 3) rfl (by rfl) T.b_min (pv 6) rfl TB hTm hTu (LK.lamS1_by (sc := defScope s_next_of) (by decide +kernel)) rfl sc_next_of.nd (hr.mono (by decide)) rfl (fun _ _ _ _ _ _ => rfl) (fun _ _ _ _ _ _ _ hr => (pe_dget (hu_of hr) (pv 1) (pv 3) (fun _ _ => rfl)))))))))), ?_⟩
    have item : ∀ {i : Nat} {ky : Key × V} {H' : Hp}, kvs[i]? = some ky → Lq R H' → i < gs.length ∧ ky.1 = .inr (nmAt gs i) ∧ ∃ a1, ky.2 = .ref a1 ∧ SqT K H' a1 [.int (pA gs i), .int (cA gs i)] := fun {i ky H'} hky s => by
      obtain ⟨k, v⟩ := ky
      obtain ⟨y, d, hd, e1, hy, rd⟩ := (rk.mono s).get hky
      rw [List.getElem?_map] at hd
      obtain ⟨e, he, hd⟩ := Option.map_eq_some_iff.mp hd
      cases hd
      have hi : i < gs.length := (List.getElem?_eq_some_iff.mp he).1
      obtain ⟨p, c, e3, e4, e5⟩ := nm_some hi
      rw [he] at e3
      have e6 := Option.some.inj e3
      rw [e6] at e1 rd
      obtain ⟨a1, e7, g3⟩ := sh_of rd
      refine ⟨hi, e1, a1, e7, ?_⟩
      rw [e4, e5]
      exact g3
    refine ⟨a, .dK kvs, hHa, True.intro, fun od => ⟨_, rfl, a, od, kvs, rfl, upd_same, ?_⟩⟩
    have lq0 : Lq H (upd H a (.frz od (.dK kvs))) := (Lq.refl H).lock hHa True.intro
    refine for_it (w := walk_items) (fun t σ H' => ∃ (b : Option Nat) (o3 o4 o5 o6 : Option V), σ = [some (.ref a), some (.ref ud), some (nameV gs b), o3, o4, o5, o6] ∧ P1t gs u (fun _ => true) t b ∧ Same (upd H a (.frz od (.dK kvs))) H')
      ⟨none, none, none, none, none, rfl, P1t.zero, Same.refl _⟩ (fun t σ H' _ ⟨_, _, _, _, _, _, _, s⟩ => s _ _ upd_same) ?_ ?_
    · rintro i x σ H1 H2 hi ⟨b, o3, o4, o5, o6, rfl, hb, s1⟩ ⟨t, kx, vx, rfl, ht, rfl, hkx, hvx⟩
      obtain ⟨ky, hky, rfl⟩ := Option.map_eq_some_iff.mp hkx
      obtain ⟨kz, hkz, rfl⟩ := Option.map_eq_some_iff.mp hvx
      rw [hky] at hkz
      cases hkz
      have s2 : Same (upd H a (.frz od (.dK kvs))) (upd H1 t (.tup [kV ky.1, ky.2])) := s1.trans (same_new ht)
      have lq : Lq H (upd H1 t (.tup [kV ky.1, ky.2])) := lq0.trans (Lq.of s2)
      have lqR : Lq R (upd H1 t (.tup [kV ky.1, ky.2])) := (Lq.of sR).trans lq
      obtain ⟨hig, e1, a1, e2, g3⟩ := item hky lqR
      have ht2 : upd H1 t (.tup [kV ky.1, ky.2]) t = some (.tup [.str (nmAt gs i), .ref a1]) := by
        rw [upd_same, e1, e2]
        rfl
      generalize upd H1 t (.tup [kV ky.1, ky.2]) = H2 at s2 lq lqR g3 ht2 ⊢
      have hu2 : Rd H2 ud (.dK (usedK gs u)) := lq _ _ (.inl hud)
      refine ⟨t, [.str (nmAt gs i), .ref a1], rfl, SqT.of ht2, rfl, _, _, rfl, _, _, rfl, a1, [.int (pA gs i), .int (cA gs i)], rfl, g3, rfl, _, _, rfl, _, _, rfl, rfl, rfl, ?_⟩
      have bi := bnd hig
      refine ⟨_, rfl, _, rfl, ud, _, rfl, lookU hu2 hig, _, rfl, _, _, rfl, rfl, _, rfl, ?_⟩
      refine ite_dec (fun c => ?_) (fun c => ?_)
      · have c1 := fstB_yes (rd := fun _ => true) (of_decide_eq_true c) rfl
        cases b with
        | none => exact ⟨_, rfl, rfl, _, rfl, iteT ⟨_, rfl, some i, _, _, _, _, rfl, hb.first c1, s2⟩⟩
        | some b =>
          have hbl : b < gs.length := by have := hb.mem; omega
          have bb := bnd hbl
          obtain ⟨a2, g4, g5⟩ := lookG lqR hbl
          refine ⟨_, rfl, rfl, _, rfl, iteF ?_⟩
          refine ⟨_, rfl, _, rfl, ud, _, rfl, lookU hu2 hig, _, rfl, _, rfl, a, _, rfl, g4, a2, _, _, _, rfl, rfl, g5, rfl, _, _, rfl, rfl, wmul (by omega) (by omega), ?_⟩
          refine ⟨_, rfl, _, rfl, ud, _, rfl, lookU hu2 hbl, _, rfl, _, _, rfl, rfl, wmul (by omega) (by omega), ?_⟩
          refine ⟨_, _, rfl, rfl, _, rfl, ?_⟩
          refine ite_dec (fun c => ?_) (fun c => ?_)
          · exact ⟨_, rfl, some i, _, _, _, _, rfl, hb.new c1 (fun k hk => (hu k (by omega)).1) (of_decide_eq_true c), s2⟩
          · exact ⟨some b, _, _, _, _, rfl, hb.keep c1 (of_decide_eq_false c), s2⟩
      · exact ⟨b, _, _, _, _, rfl, hb.skip (fstB_no1 (of_decide_eq_false c)), s2⟩
    · rintro σ H1 ⟨b, o3, o4, o5, o6, rfl, hb, s1⟩
      rw [hl] at hb
      have hb2 := hb.end
      refine ⟨s1 _ _ upd_same, ?_⟩
      have su : Same H (upd H1 a (.dK kvs)) := Same.unlock hHa s1
      have hua : upd H1 a (.dK kvs) a = some (.dK kvs) := upd_same
      generalize upd H1 a (.dK kvs) = Hu at su hua ⊢
      cases b with
      | some b => exact ⟨_, rfl, rfl, _, rfl, iteT ⟨_, rfl, hq (some b) Hu (deal_1 hb2) su.ext (tabs_same hT su)⟩⟩
      | none =>
        refine ⟨_, rfl, rfl, _, rfl, iteF ?_⟩
        refine ⟨a, .dK kvs, hua, True.intro, fun od2 => ⟨_, rfl, a, od2, kvs, rfl, upd_same, fun L hL => ?_⟩⟩
        have lq1 : Lq H (upd Hu a (.frz od2 (.dK kvs))) := (Lq.of su).lock hua True.intro
        refine lc_vals (w := walk_items) (fun i => if decide (u i < cA gs i) = true then some (.str (nmAt gs i)) else none) hL (by omega) (fun H2 s2 => s2 _ _ upd_same) ?_ ?_
        · rintro i x H2 H3 Y2 N2 hi s2 hnL ⟨t, kx, vx, rfl, ht, rfl, hkx, hvx⟩ k3 k4
          obtain ⟨ky, hky, rfl⟩ := Option.map_eq_some_iff.mp hkx
          obtain ⟨kz, hkz, rfl⟩ := Option.map_eq_some_iff.mp hvx
          rw [hky] at hkz
          cases hkz
          have s3 : Same (upd Hu a (.frz od2 (.dK kvs))) (upd H2 t (.tup [kV ky.1, ky.2])) := s2.trans (same_new ht)
          have s23 : Same H2 (upd H2 t (.tup [kV ky.1, ky.2])) := same_new ht
          have lq : Lq H (upd H2 t (.tup [kV ky.1, ky.2])) := lq1.trans (Lq.of s3)
          obtain ⟨hig, e1, a1, e2, g3⟩ := item hky ((Lq.of sR).trans lq)
          have ht2 : upd H2 t (.tup [kV ky.1, ky.2]) t = some (.tup [.str (nmAt gs i), .ref a1]) := by
            rw [upd_same, e1, e2]
            rfl
          generalize upd H2 t (.tup [kV ky.1, ky.2]) = H3 at s3 s23 lq g3 ht2 k3 k4 ⊢
          refine ⟨t, [.str (nmAt gs i), .ref a1], rfl, SqT.of ht2, rfl, _, _, rfl, _, _, rfl, a1, [.int (pA gs i), .int (cA gs i)], rfl, g3, rfl, _, _, rfl, _, _, rfl, rfl, rfl, rfl, ?_⟩
          refine ⟨_, rfl, _, rfl, ud, _, rfl, lookU (lq _ _ (.inl hud)) hig, _, rfl, _, _, rfl, rfl, _, rfl, ?_⟩
          refine ite_dec (fun c => ?_) (fun c => ?_)
          · exact ⟨_, rfl, k3 _ _ (if_pos c) s23⟩
          · exact k4 _ (if_neg (by rw [c]; exact fun z => nomatch z)) s23
        · intro H2 s2 h2
          rw [fm_ifT, hl] at h2
          change H2 L = some (.lst ((below gs u).map fun i => V.str (nmAt gs i))) at h2
          have hLa : L ≠ a := fun e => by
            rw [e, upd_same] at hL
            cases hL
          refine ⟨s2 _ _ upd_same, ?_⟩
          have su2 : Same H (upd H2 a (.dK kvs)) := su.trans (Same.unlock hua s2)
          have hLu : upd H2 a (.dK kvs) L = some (.lst ((below gs u).map fun i => V.str (nmAt gs i))) := by rw [upd_ne hLa]; exact h2
          generalize upd H2 a (.dK kvs) = Hv at su2 hLu ⊢
          refine ⟨_, rfl, tabs_same hT su2, L, (below gs u).map fun i => V.str (nmAt gs i), (below gs u).map u, rfl, SqL.of hLu, by rw [List.length_map, List.length_map], fun H4 e4 t4 => ⟨fun j x kk hx hkk => ?_, fun h0 => ?_, fun m x kk hx hkk hm => ?_⟩⟩
          · rw [List.getElem?_map] at hx hkk
            obtain ⟨i, hi, rfl⟩ := Option.map_eq_some_iff.mp hx
            rw [hi] at hkk
            cases hkk
            have hig := (below_mem.mp (List.mem_of_getElem? hi)).1
            exact ⟨_, rfl, _, rfl, ud, _, rfl, lookU (.inl (e4 _ _ (su2 _ _ hud) fun _ z => nomatch z)) hig, rfl, rfl⟩
          · have hnil : below gs u = [] := by
              cases hbl : below gs u with
              | nil => rfl
              | cons x l => rw [hbl] at h0; cases h0
            exact hq none H4 (deal_nil hnil) (su2.ext.trans e4) t4
          · rw [List.getElem?_map] at hx hkk
            obtain ⟨i, hi, rfl⟩ := Option.map_eq_some_iff.mp hx
            rw [hi] at hkk
            cases hkk
            refine hq (some i) H4 (deal_min (fun k hk q => ?_) hi fun k z hz => ?_) (su2.ext.trans e4) t4
            · have e : firsts gs u (fun _ => true) = [] := hb2
              have := (firsts_mem (rd := fun _ => true)).mpr ⟨⟨hk, rfl⟩, q⟩
              rw [e] at this
              cases this
            · exact hm k (u z) (by rw [List.getElem?_map, hz]; rfl)
end
end K85

set_option Elab.async false
set_option linter.all false
set_option maxRecDepth 100000
set_option maxHeartbeats 1000000
namespace K85
open PySem PySem.Spec PyProof.Rows L2 RP LamX
/-- all ready at all turns -/
def rdA : Nat → Nat → Bool := fun _ _ => true
/-- who is dealt each turn when all are ready -/
noncomputable def dealtL (gs : List G3) (n : Nat) : List V := (List.range n).map fun t => nameV gs (dealF gs (stAt gs rdA t) (rdA t))
theorem dealtL_succ (gs : List G3) (n : Nat) : dealtL gs (n + 1) = dealtL gs n ++ [nameV gs (dealF gs (stAt gs rdA n) (rdA n))] := by
  unfold dealtL
  rw [List.range_succ, List.map_append]
  rfl
theorem dealtL_len (gs : List G3) (n : Nat) : (dealtL gs n).length = n := by
  unfold dealtL
  rw [List.length_map, List.length_range]
section
variable {P : Program} {w : World} {K : PySem.W.Frag} {mg : Str → Option Value} {base : Heap}
/-! ### worst -/
theorem sc_worst : FnScope ["length", "guests", "used", "found", "name", "turn", "best"] ["length", "guests"] (defScope s_worst) := ⟨rfl, rfl, rfl, by decide +kernel, rfl, by decide +kernel, by decide +kernel⟩
def spWorstT (K : PySem.W.Frag) : Sp := fun vs H Q _ => ∃ (R : Hp) (vg : V) (len : Int) (gs : List G3), vs = [.int len, vg] ∧ Same R H ∧ Plain R ∧ Nt R ∧ Rep K R vg (gD gs) ∧ GsOk len gs ∧ Tabs (TT K) H ∧
  ∀ q H', ExtN H H' → Tabs (TT K) H' → H' q = some (.lst (dealtL gs len.toNat)) → Q (.ref q) H'
theorem ok_worst (T : Txt K mg) (G_need_length : Def P w K mg base 3 "need_length" ["length"] (spNeedLen K)) (G_are_shares : Def P w K mg base 3 "are_shares" ["thing", "length"] (spShares K)) (G_next_of : Def P w K mg base 3 "next_of" ["guests", "used"] (spNext K)) :
    Def P w K mg base 4 "worst" ["length", "guests"] (spWorstT K) := by
  obtain ⟨f, fd, F⟩ := T.a_worst
  refine Def.mk F sc_worst (fun _ _ _ _ _ _ us hl => match us, hl with | [_, _], _ => rfl) (fun vs H Q E h => ?_) (fun cdv A outer s H vs Q E hr h => ?_)
  · obtain ⟨R, vg, len, gs, rfl, _⟩ := h
    rfl
  · obtain ⟨R, vg, len, gs, rfl, sR, pR, nR, hg, ok, hT, hq⟩ := h
    have hg0 := hg
    cases hg with
    | @dct a kvs _ hk rk =>
    have hRa : R a = some (.dK kvs) := pR.rd hk
    have hHa := sR _ _ hRa
    have hl : kvs.length = gs.length := by rw [rk.len, List.length_map]
    have n6 := ok.n6
    have hlen := ok.len
    refine ⟨_, (pss_cons (ps_expr (pe_dX G_need_length (hr.mono (by decide)) (by rfl) tkB (pa_cons (pv 0) pa_nil)))
      (pss_cons (ps_if (pt_not (pt_val (pe_d G_are_shares (hr.mono (by decide)) (by rfl) (pa_cons (pv 1) (pa_cons (pv 0) pa_nil))))) (pss_one (ps_raise rfl tkB (pmk_NoShare hr T (pa_cons (pv 1) pa_nil)))) pss_nil)
      (pss_cons (ps_par (i := 2) (j := 3) rfl sc_worst.nd rfl rfl (by decide) rfl rfl (pa_cons (pe_callTy (kcall_dictP K rfl rfl) (by rfl) T.b_dict (by decide +kernel) (pa_cons (pe_lock (pe_lc (own := [("name", 4)]) rfl sc_worst.nd (pi_keys (pv 1)) (blkOk_by (own := [("name", 4)]) (N := ["length", "guests", "used", "found", "name", "turn", "best"]) (sc := defScope s_worst) (by decide +kernel)) (fun _ _ _ _ _ => (pg_name (i := 4) sc_worst.nd rfl (Or.inl rfl))) (fun _ _ _ _ _ => pts_nil) (fun _ _ _ _ _ => (pe_tup (pa_cons (pv 4) (pa_cons pe_int pa_nil)))))) pa_nil)) (pa_cons (pe_lst pa_nil) pa_nil)) (by rfl))
      (pss_cons (ps_for (passes_of rfl) rfl (pi_range1 (by rfl) T.b_range (pa_cons (pv 0) pa_nil)) (pg_name (i := 5) sc_worst.nd rfl (Or.inl rfl))
        (pss_cons (ps_set (i := 6) sc_worst.nd rfl (Or.inl rfl) (pe_d G_next_of (hr.mono (by decide)) (by rfl) (pa_cons (pv 1) (pa_cons (pv 2) pa_nil))))
      (pss_cons (ps_if (pt_cmpR op_notN (pv 6) pe_non (nomark _)) (pss_one (ps_daug (hu_of hr) (pv 2) (pv 6) pe_int in_add (fun _ _ _ => rfl))) pss_nil)
      (pss_one (ps_expr (kpe_bm K rfl (pe_bm PySem.F.plainAttrs_list PySem.F.slot_list_append PySem.F.type_list_append mt_append (pv 3) (pa_cons (pv 6) pa_nil))))))))
      (pss_one (ps_ret (pv 3))))))), ?_⟩
    have hw : (D.int len).whole 4 60 = true := ok.whole
    refine ⟨_, rfl, .int len, .int len, rfl, .int len, fun _ => ?_, fun q => absurd hw (by rw [q]; decide)⟩
    refine ⟨_, rfl, _, rfl, R, .ref a, gD gs, len, rfl, sR, pR, hg0, fun H0 s0 => ?_⟩
    rw [ok.shares]
    refine ⟨_, rfl, iteF ?_⟩
    have hHa0 := s0 _ _ hHa
    refine ⟨a, .dK kvs, hHa0, True.intro, fun od => ⟨_, rfl, a, od, rfl, .inl ⟨kvs, upd_same, fun L hL => ?_⟩⟩⟩
    refine lc_reps (K := K) (w := walk_keys) (R := fun _ => none) (fun i => some (.tup [.str (nmAt gs i), .int 0])) hL (by omega) (fun _ _ h => nomatch h) Plain.none (fun H1 s1 => s1 _ _ upd_same) ?_ ?_
    · rintro i x H1 H2 R1 Y2 N2 hi s1 hnL gr pl sr ⟨rfl, k, v, hkv, rfl⟩ k3 k4
      obtain ⟨y, d, hd, rfl, hy, rd⟩ := rk.get hkv
      have e1 : y = nmAt gs i := by
        rw [List.getElem?_map] at hd
        obtain ⟨e, he, hd⟩ := Option.map_eq_some_iff.mp hd
        cases hd
        exact (nmAt_of (z := e.1) (p := e.2.1) (c := e.2.2) he).symm
      subst e1
      refine ⟨rfl, ⟨_, rfl, (show 2 ≤ sizeLine by decide), fun T3 hT3 => ?_⟩⟩
      exact k3 _ _ (upd R1 T3 (.tup [.str (nmAt gs i), .int 0])) (.tup [.str (nmAt gs i), .int 0]) rfl (same_new hT3) ((Grow.refl _ _).put hT3 (sr.out hT3)) (pl.put (fun _ _ z => nomatch z)) sr.put (.tup (SqT.of upd_same) (.cons (.str _ hy) (.cons (.int _) .nil)))
    · intro H1 R1 zs s1 gr pl sr hRL hLz rz
      have ez : (List.range kvs.length).filterMap (fun i => some (D.tup [.str (nmAt gs i), .int 0])) = (((List.range gs.length).map fun i => (nmAt gs i, (0 : Int))).map fun e => (e.1, D.int e.2)).map fun e => D.tup [.str e.1, e.2] := by
        rw [fm_some, hl, List.map_map, List.map_map]
        rfl
      rw [ez] at rz
      obtain ⟨ps, kvs', rfl, pp, rk'⟩ := pairs_of rz
      have ek : kvs' = usedK gs fun _ => 0 := by
        rw [repK_ints rk', List.map_map]
        rfl
      have em : mergeK [] kvs' = usedK gs fun _ => 0 := by
        have := merge_nodup (kvs := kvs') (acc := []) (by rw [List.nil_append, ek]; exact used_nd ok)
        rw [this, List.nil_append, ek]
      have hR1a : R1 a = none := gr.off upd_same rfl
      have hLa : L ≠ a := fun e => by
        rw [e, upd_same] at hL
        cases hL
      have su : Same H (upd H1 a (.dK kvs)) := s0.trans (Same.unlock hHa0 s1)
      have sr1 : Same R1 (upd H1 a (.dK kvs)) := sr.skip hR1a
      refine ⟨s1 _ _ upd_same, L, ps, kvs', rfl, SqL.of (by rw [upd_ne hLa]; exact hLz), paired_mono (fun _ _ h => (Lq.of sr1).tup h) pp, fun ud hud => ?_⟩
      rw [em]
      generalize upd H1 a (.dK kvs) = Hu at su sr1 hud ⊢
      refine ⟨Nat.zero_le _, fun F hF => ?_⟩
      have nud : Nw H ud := nw_none (su.free hud)
      have s2 : Same H (upd Hu ud (.dK (usedK gs fun _ => 0))) := su.trans (same_new hud)
      have nF : Nw H F := nw_none (s2.free hF)
      have hFu : F ≠ ud := fun e => by
        rw [e, upd_same] at hF
        cases hF
      have h0ud : upd (upd Hu ud (.dK (usedK gs fun _ => 0))) F (.lst []) ud = some (.dK (usedK gs fun _ => 0)) := by rw [upd_ne (Ne.symm hFu), upd_same]
      have h0F : upd (upd Hu ud (.dK (usedK gs fun _ => 0))) F (.lst []) F = some (.lst []) := upd_same
      have s3 : Same H (upd (upd Hu ud (.dK (usedK gs fun _ => 0))) F (.lst [])) := s2.trans (same_new hF)
      generalize upd (upd Hu ud (.dK (usedK gs fun _ => 0))) F (.lst []) = H0 at h0ud h0F s3 ⊢
      refine ⟨_, _, rfl, _, rfl, len, rfl, by omega, by omega, ?_⟩
      refine for_it (w := walk_range) (fun t σ H' => ∃ (o4 o5 o6 : Option V), σ = [some (.int len), some (.ref a), some (.ref ud), some (.ref F), o4, o5, o6] ∧ (∀ i, i < gs.length → 0 ≤ stAt gs rdA t i ∧ stAt gs rdA t i ≤ cA gs i) ∧ ExtN H H' ∧ Tabs (TT K) H' ∧ H' ud = some (.dK (usedK gs (stAt gs rdA t))) ∧ H' F = some (.lst (dealtL gs t)))
        ⟨none, none, none, rfl, fun i hi => ⟨Int.le_refl 0, by have := ok.at_sh hi; show (0 : Int) ≤ _; omega⟩, s3.ext, tabs_same hT s3, h0ud, h0F⟩ (fun _ _ _ _ _ => True.intro) ?_ ?_
      · rintro t x σ H3 H4 ht ⟨o4, o5, o6, rfl, I, e4, t4, hu4, hF4⟩ ⟨rfl, hx⟩
        have tl : t < len.toNat := ht
        refine ⟨_, rfl, _, rfl, R, .ref a, len, gs, stAt gs rdA t, ud, rfl, nR.ext sR e4, pR, hg0, ok, hu4, fun i hi => ?_, t4, fun o H7 hd e7 t7 => ?_⟩
        · have h1 := I i hi
          have h2 := ok.at_sh hi
          omega
        have hu7 := e7 _ _ hu4 (fun _ z => nomatch z)
        have hF7 := e7 _ _ hF4 (fun _ z => nomatch z)
        have e8 : ExtN H H7 := e4.trans e7
        have es : stAt gs rdA (t + 1) = nxU (stAt gs rdA t) o := stepF_eq ok hd
        have ef : dealtL gs (t + 1) = dealtL gs t ++ [nameV gs o] := by rw [dealtL_succ, dealF_eq ok (show DealR gs (stAt gs rdA t) (rdA t) o from hd)]
        have hlt : (dealtL gs t).length < sizeLine := by
          rw [dealtL_len]
          have : 100 < sizeLine := by decide
          omega
        cases o with
        | none =>
          refine ⟨_, rfl, rfl, _, rfl, iteF ?_⟩
          refine ⟨_, rfl, .inl ⟨rfl, _, SqL.of hF7⟩, _, rfl, F, _, _, rfl, rfl, hF7, hlt, ?_⟩
          exact ⟨_, _, _, rfl, by rw [es]; exact I, ext_skip e8 nF, tabs_put t7 hF7 dat_lst, by rw [upd_ne (Ne.symm hFu), es]; exact hu7, by rw [upd_same, ef]⟩
        | some b =>
          have hbl := hd.1
          refine ⟨_, rfl, rfl, _, rfl, iteT ?_⟩
          have I9 := addAt_b ok I hd
          refine ⟨_, rfl, _, rfl, ud, _, rfl, .inl ⟨usedK gs (stAt gs rdA t), .inr (nmAt gs b), .inl hu7, rfl, (used_at ok hbl).symm⟩, _, _, rfl, rfl, _, DPut.k (k := .inr (nmAt gs b)) hu7 ?_, ?_⟩
          · unfold usedK
            rw [List.length_map, List.length_range]
            have : 100 < sizeLine := by decide
            omega
          rw [used_put ok hbl]
          have e9 : ExtN H (upd H7 ud (.dK (usedK gs (addAt (stAt gs rdA t) b)))) := ext_skip e8 nud
          have t9 : Tabs (TT K) (upd H7 ud (.dK (usedK gs (addAt (stAt gs rdA t) b)))) := tabs_put t7 hu7 dat_dK
          have hu9 : upd H7 ud (.dK (usedK gs (addAt (stAt gs rdA t) b))) ud = some (.dK (usedK gs (addAt (stAt gs rdA t) b))) := upd_same
          have hF9 : upd H7 ud (.dK (usedK gs (addAt (stAt gs rdA t) b))) F = some (.lst (dealtL gs t)) := by rw [upd_ne hFu]; exact hF7
          generalize upd H7 ud (.dK (usedK gs (addAt (stAt gs rdA t) b))) = H9 at e9 t9 hu9 hF9 ⊢
          refine ⟨_, rfl, .inl ⟨rfl, _, SqL.of hF9⟩, _, rfl, F, _, _, rfl, rfl, hF9, hlt, ?_⟩
          exact ⟨_, _, _, rfl, by rw [es]; exact I9, ext_skip e9 nF, tabs_put t9 hF9 dat_lst, by rw [upd_ne (Ne.symm hFu), es]; exact hu9, by rw [upd_same, ef]⟩
      · rintro σ H3 ⟨o4, o5, o6, rfl, I, e4, t4, hu4, hF4⟩
        exact ⟨_, rfl, hq F H3 e4 t4 hF4⟩
end
end K85

set_option Elab.async false
set_option linter.all false
set_option maxRecDepth 100000
set_option maxHeartbeats 1000000
namespace K85
open PySem PySem.Spec PyProof.Rows L2 RP
section
variable {P : Program} {w : World} {K : PySem.W.Frag} {mg : Str → Option Value} {base : Heap}
/-! ### _law_cell -/
theorem sc__law_cell : FnScope ["script", "k"] ["script", "k"] (defScope s__law_cell) := ⟨rfl, rfl, rfl, by decide +kernel, rfl, by decide +kernel, by decide +kernel⟩
def spCell (K : PySem.W.Frag) : Sp := fun vs H Q _ => ∃ (v : V) (a : Addr) (ns : List Int) (k : Nat), vs = [v, .int (k : Nat)] ∧ v = .ref a ∧ SqL K H a (ns.map V.int) ∧ k ≤ 1000 ∧ ∀ i H', Same H H' → Q (.int i) H'
theorem ok__law_cell (T : Txt K mg) : Def P w K mg base 1 "_law_cell" ["script", "k"] (spCell K) := by
  obtain ⟨f, fd, F⟩ := T.a__law_cell
  refine Def.mk F sc__law_cell (fun _ _ _ _ _ _ us hl => match us, hl with | [_, _], _ => rfl) (fun vs H Q E h => ?_) (fun cdv A outer s H vs Q E hr h => ?_)
  · obtain ⟨v, a, ns, k, rfl, _⟩ := h
    rfl
  · obtain ⟨_, a, ns, k, rfl, rfl, hS, hk, hq⟩ := h
    refine ⟨_, (pss_one (ps_ret (pe_ifExp (pt_cmpR op_lt (pv 1) (pe_callB (kcall_len_seq K rfl) (by rfl) T.b_len (by decide +kernel) (pa_cons (pv 0) pa_nil)) (nomark _)) (pe_ix (kix_list K rfl) (pv 0) (pv 1) (fun _ _ => rfl)) (pe_op op_add (pe_op op_add (pe_op op_mulW pe_int (pv 1)) pe_int) (pe_op op_mod (pe_callTy call_int1 (by rfl) T.b_int (by decide +kernel) (pa_cons (pe_callB (kcr_sum K rfl rfl) (by rfl) T.b_sum (by decide +kernel) (pa_cons (pe_slice (ksl_list K rfl) (pv 0) po_none (po_some pe_int)) pa_nil)) pa_nil)) pe_int))))), ?_⟩
    refine ⟨_, rfl, _, rfl, a, _, rfl, .inl hS, _, _, rfl, rfl, _, rfl, ?_⟩
    refine ite_dec (fun c => ?_) (fun c => ?_)
    · have c2 := of_decide_eq_true c
      have c3 : k < ns.length := by
        rw [List.length_map] at c2
        omega
      exact ⟨_, rfl, _, rfl, a, _, _, _, rfl, rfl, hS, atI_nat (by rw [List.getElem?_map, List.getElem?_eq_getElem c3]; rfl), hq _ H (Same.refl H)⟩
    · refine ⟨_, rfl, _, _, rfl, rfl, wmul (by decide) (by omega), _, _, rfl, rfl, _, rfl, _, rfl, a, _, rfl, hS, fun p hp => ?_⟩
      have e : ∃ ms : List Int, cutV (ns.map V.int) none (some 1) = ms.map V.int := by
        unfold cutV
        rw [← List.map_drop, ← List.map_take]
        exact ⟨_, rfl⟩
      obtain ⟨ms, e⟩ := e
      rw [e]
      exact ⟨p, ms, rfl, SqL.of upd_same, .inl ⟨_, rfl, _, _, rfl, rfl, (show (0 : Int) < 1000003 by decide), _, _, rfl, rfl, hq _ _ (same_new hp)⟩⟩
/-! ### _law_box -/
theorem sc__law_box : FnScope ["cell", "great"] ["cell"] (defScope s__law_box) := ⟨rfl, rfl, rfl, by decide +kernel, rfl, by decide +kernel, by decide +kernel⟩
/-- the box at a, n turns drawn at most -/
def BoxAt (H : Hp) (a : Addr) (n : Int) : Prop := ∃ b s c : Int, H a = some (.lst [.int b, .int s, .int c]) ∧ 0 ≤ b ∧ 0 ≤ s ∧ s < 2 ^ 31 ∧ 0 ≤ c ∧ c ≤ n
def spBox (K : PySem.W.Frag) : Sp := fun vs H Q _ => ∃ (i : Int), vs = [.int i] ∧ ∀ a H', Same H H' → H a = none → BoxAt H' a 0 → Q (.ref a) H'
theorem ok__law_box (T : Txt K mg) : Def P w K mg base 1 "_law_box" ["cell"] (spBox K) := by
  obtain ⟨f, fd, F⟩ := T.a__law_box
  refine Def.mk F sc__law_box (fun _ _ _ _ _ _ us hl => match us, hl with | [_], _ => rfl) (fun vs H Q E h => ?_) (fun cdv A outer s H vs Q E hr h => ?_)
  · obtain ⟨i, rfl, _⟩ := h
    rfl
  · obtain ⟨i, rfl, hq⟩ := h
    refine ⟨_, (pss_cons (ps_set (i := 1) sc__law_box.nd rfl (Or.inl rfl) (pe_callB call_abs (by rfl) T.b_abs (by decide +kernel) (pa_cons (pv 0) pa_nil)))
      (pss_one (ps_ret (pe_lst (pa_cons (pe_ifExp (pt_cmpR op_ge (pv 1) (pe_op op_pow pe_int pe_int) (nomark _)) (pv 1) pe_int) (pa_cons (pe_op op_mod (pe_callTy call_int1 (by rfl) T.b_int (by decide +kernel) (pa_cons (pv 1) pa_nil)) pe_int) (pa_cons pe_int pa_nil))))))), ?_⟩
    refine ⟨_, rfl, _, rfl, _, rfl, _, _, rfl, rfl, ⟨by decide, by decide, by decide⟩, _, _, rfl, rfl, _, rfl, ?_⟩
    generalize ha : (if i < 0 then -i else i) = g
    have hg : 0 ≤ g := by rw [← ha]; split <;> omega
    have fin : ∀ b : Int, 0 ≤ b → ∀ p, H p = none → Q (.ref p) (upd H p (.lst [.int b, .int (g % 2147483629), .int 0])) := fun b hb p hp =>
      hq p _ (same_new hp) hp ⟨b, g % 2147483629, 0, upd_same, hb, Int.emod_nonneg _ (by decide), by have := Int.emod_lt_of_pos g (show (0 : Int) < 2147483629 by decide); omega, Int.le_refl _, Int.le_refl _⟩
    refine ite_dec (fun c => ?_) (fun c => ?_)
    · refine ⟨_, rfl, _, rfl, .inl ⟨_, rfl, _, _, rfl, rfl, (show (0 : Int) < 2147483629 by decide), (show 3 ≤ sizeLine by decide), fun p hp => ?_⟩⟩
      exact fin g hg p hp
    · refine ⟨_, rfl, .inl ⟨_, rfl, _, _, rfl, rfl, (show (0 : Int) < 2147483629 by decide), (show 3 ≤ sizeLine by decide), fun p hp => ?_⟩⟩
      exact fin 0 (Int.le_refl _) p hp
/-! ### _law_take -/
theorem sc__law_take : FnScope ["box", "many", "digit", "one", "two"] ["box", "many"] (defScope s__law_take) := ⟨rfl, rfl, rfl, by decide +kernel, rfl, by decide +kernel, by decide +kernel⟩
def spTake (K : PySem.W.Frag) : Sp := fun vs H Q _ => ∃ (a : Addr) (n m : Int), vs = [.ref a, .int m] ∧ BoxAt H a n ∧ n < 1000000000 ∧ 0 < m ∧ m ≤ 1000000 ∧ ∀ r H', 0 ≤ r → r < m → BoxAt H' a (n + 1) → But a H H' → Q (.int r) H'
theorem ok__law_take (T : Txt K mg) : Def P w K mg base 1 "_law_take" ["box", "many"] (spTake K) := by
  obtain ⟨f, fd, F⟩ := T.a__law_take
  refine Def.mk F sc__law_take (fun _ _ _ _ _ _ us hl => match us, hl with | [_, _], _ => rfl) (fun vs H Q E h => ?_) (fun cdv A outer s H vs Q E hr h => ?_)
  · obtain ⟨a, n, m, rfl, _⟩ := h
    rfl
  · obtain ⟨a, n, m, rfl, ⟨b, s, c, hH, hb, hs, hs2, hc, hcn⟩, hn, m0, m1, hq⟩ := h
    have hS : SqL K H a [.int b, .int s, .int c] := SqL.of hH
    refine ⟨_, (pss_cons (ps_if (pt_cmpR op_gt (pe_ix (kix_list K rfl) (pv 0) pe_int (fun _ _ => rfl)) pe_int (nomark _)) (pss_cons (ps_set (i := 2) sc__law_take.nd rfl (Or.inl rfl) (pe_op op_mod (pe_callTy call_int1 (by rfl) T.b_int (by decide +kernel) (pa_cons (pe_ix (kix_list K rfl) (pv 0) pe_int (fun _ _ => rfl)) pa_nil)) (pv 1)))
      (pss_cons (ps_asg (pe_op op_fdivW (pe_ix (kix_list K rfl) (pv 0) pe_int (fun _ _ => rfl)) (pv 1)) (pg_sub (pv 0) pe_int set_list))
      (pss_one (ps_ret (pv 2))))) pss_nil)
      (pss_cons (ps_asg (pe_op op_add (pe_ix (kix_list K rfl) (pv 0) pe_int (fun _ _ => rfl)) pe_int) (pg_sub (pv 0) pe_int set_list))
      (pss_cons (ps_set (i := 3) sc__law_take.nd rfl (Or.inl rfl) (pe_op op_mod (pe_callTy call_int1 (by rfl) T.b_int (by decide +kernel) (pa_cons (pe_op op_pow (pe_op op_add (pe_op op_add (pe_ix (kix_list K rfl) (pv 0) pe_int (fun _ _ => rfl)) (pe_op op_mulW pe_int (pe_ix (kix_list K rfl) (pv 0) pe_int (fun _ _ => rfl)))) pe_int) pe_int) pa_nil)) pe_int))
      (pss_cons (ps_set (i := 4) sc__law_take.nd rfl (Or.inl rfl) (pe_op op_mod (pe_callTy call_int1 (by rfl) T.b_int (by decide +kernel) (pa_cons (pe_op op_pow (pe_op op_add (pe_op op_add (pe_op op_fdivW (pv 3) pe_int) (pe_op op_mulW pe_int (pe_ix (kix_list K rfl) (pv 0) pe_int (fun _ _ => rfl)))) pe_int) pe_int) pa_nil)) pe_int))
      (pss_one (ps_ret (pe_op op_mod (pe_callTy call_int1 (by rfl) T.b_int (by decide +kernel) (pa_cons (pe_op op_add (pe_op op_fdivW (pv 3) pe_int) (pe_op op_mulW pe_int (pe_op op_fdivW (pv 4) pe_int))) pa_nil)) (pv 1)))))))), ?_⟩
    refine ⟨_, rfl, a, _, 0, _, rfl, rfl, hS, rfl, _, _, rfl, rfl, _, rfl, ?_⟩
    refine ite_dec (fun k => ?_) (fun k => ?_)
    · have kb := of_decide_eq_true k
      refine ⟨_, rfl, a, _, 0, _, rfl, rfl, hS, rfl, .inl ⟨_, rfl, _, rfl, _, _, rfl, rfl, m0, ?_⟩⟩
      refine ⟨_, rfl, a, _, 0, _, rfl, rfl, hS, rfl, _, rfl, _, _, rfl, rfl, wdiv m0 (by omega), ?_⟩
      refine ⟨_, rfl, a, _, 0, 0, rfl, rfl, hH, rfl, _, rfl, hq (b % m) _ (Int.emod_nonneg _ (by omega)) (Int.emod_lt_of_pos _ m0) ?_ But.write⟩
      exact ⟨b / m, s, c, upd_same, Int.ediv_nonneg hb (by omega), hs, hs2, hc, by omega⟩
    · refine ⟨_, rfl, a, _, 2, _, rfl, rfl, hS, rfl, _, _, rfl, rfl, ?_⟩
      refine ⟨_, rfl, a, _, 2, 2, rfl, rfl, hH, rfl, ?_⟩
      have h2 : upd H a (.lst ([V.int b, V.int s, V.int c].set 2 (.int (c + 1)))) a = some (.lst [.int b, .int s, .int (c + 1)]) := upd_same
      have bt : But a H (upd H a (.lst ([V.int b, V.int s, V.int c].set 2 (.int (c + 1))))) := But.write
      generalize upd H a (.lst ([V.int b, V.int s, V.int c].set 2 (.int (c + 1)))) = H2 at h2 bt ⊢
      have hS2 : SqL K H2 a [.int b, .int s, .int (c + 1)] := SqL.of h2
      have box2 : BoxAt H2 a (n + 1) := ⟨b, s, c + 1, h2, hb, hs, hs2, by omega, by omega⟩
      refine ⟨_, rfl, a, _, 1, _, rfl, rfl, hS2, rfl, _, rfl, a, _, 2, _, rfl, rfl, hS2, rfl, _, _, rfl, rfl, wmul (by decide) (by omega), _, _, rfl, rfl, _, _, rfl, rfl, _, _, rfl, rfl, ⟨by decide, by decide, by omega⟩, .inl ⟨_, rfl, _, _, rfl, rfl, (show (0 : Int) < 2147483647 by decide), ?_⟩⟩
      generalize h1 : (s + 7919 * (c + 1) + 29) ^ (Int.toNat 5) % 2147483647 = one
      have b1 : 0 ≤ one ∧ one < 2147483647 := by
        rw [← h1]
        exact ⟨Int.emod_nonneg _ (by decide), Int.emod_lt_of_pos _ (by decide)⟩
      refine ⟨_, rfl, _, _, rfl, rfl, wdiv (by decide) (by decide), _, rfl, a, _, 2, _, rfl, rfl, hS2, rfl, _, _, rfl, rfl, wmul (by decide) (by omega), _, _, rfl, rfl, _, _, rfl, rfl, _, _, rfl, rfl, ⟨by decide, by decide, by omega⟩, .inl ⟨_, rfl, _, _, rfl, rfl, (show (0 : Int) < 2147483629 by decide), ?_⟩⟩
      generalize h3 : (one / 8 + 104729 * (c + 1) + 11) ^ (Int.toNat 3) % 2147483629 = two
      have b2 : 0 ≤ two ∧ two < 2147483629 := by
        rw [← h3]
        exact ⟨Int.emod_nonneg _ (by decide), Int.emod_lt_of_pos _ (by decide)⟩
      refine ⟨_, rfl, _, _, rfl, rfl, wdiv (by decide) (by decide), _, rfl, _, _, rfl, rfl, wdiv (by decide) (by decide), _, _, rfl, rfl, wmul (by decide) (by omega), _, _, rfl, rfl, .inl ⟨_, rfl, _, rfl, _, _, rfl, rfl, m0, ?_⟩⟩
      exact hq _ H2 (Int.emod_nonneg _ (by omega)) (Int.emod_lt_of_pos _ m0) box2 bt
end
end K85

set_option Elab.async false
set_option linter.all false
set_option maxRecDepth 100000
set_option maxHeartbeats 1000000
namespace RP
open PySem PySem.Spec PyProof.Rows L2
theorem atI_lt {xs : List V} {i : Int} (h0 : 0 ≤ i) (h1 : i < xs.length) : ∃ v, atI xs i = some v ∧ v ∈ xs := by
  have h2 : i.toNat < xs.length := by omega
  have e : ((i.toNat : Nat) : Int) = i := by omega
  have h3 : xs[i.toNat]? = some xs[i.toNat] := List.getElem?_eq_getElem h2
  have h4 := atI_nat h3
  rw [e] at h4
  exact ⟨_, h4, List.getElem_mem h2⟩
theorem But.frame {b : Addr} {H H' : Hp} (k : But b H H') {a : Addr} {o : HO} (n : a ≠ b) (h : H a = some o) : H' a = some o := k a o n h
theorem ne_at {H : Hp} {a p : Addr} {o : HO} (h : H a = some o) (hp : H p = none) : p ≠ a := fun e => by
  rw [e, h] at hp
  cases hp
theorem But.new {b : Addr} {H : Hp} {p : Addr} {o : HO} (h : H p = none) : But b H (upd H p o) := But.of (same_new h)
theorem RepK.snoc {K : PySem.W.Frag} {H : Hp} {x : Str} {v : V} {d : D} (hx : x.length ≤ sizeLine) (hd : Rep K H v d) : ∀ {kvs : List (Key × V)} {es : List (Str × D)}, RepK K H kvs es → RepK K H (kvs ++ [(.inr x, v)]) (es ++ [(x, d)])
  | _, _, .nil => .cons hx hd .nil
  | _, _, .cons h1 h2 t => .cons h1 h2 (RepK.snoc hx hd t)
theorem valV_none {l : List (Key × V)} {k : Key} (h : k ∉ l.map (·.1)) : valV l k = none := by
  cases c : valV l k with
  | none => rfl
  | some v =>
    exfalso
    unfold valV at c
    obtain ⟨e, he, _⟩ := Option.map_eq_some_iff.mp c
    have h1 := List.find?_some he
    have h2 := List.mem_of_find?_eq_some he
    exact h (List.mem_map.mpr ⟨e, h2, of_decide_eq_true h1⟩)
theorem erase_map {α β : Type} (f : α → β) : ∀ (l : List α) (k : Nat), (l.map f).eraseIdx k = (l.eraseIdx k).map f
  | [], _ => rfl
  | _ :: _, 0 => rfl
  | a :: l, k + 1 => by
    show f a :: (l.map f).eraseIdx k = f a :: (l.eraseIdx k).map f
    rw [erase_map f l k]
theorem erase_perm {α : Type} : ∀ {l : List α} {k : Nat} {y : α}, l[k]? = some y → (y :: l.eraseIdx k).Perm l
  | [], _, _, h => nomatch h
  | a :: l, 0, y, h => by
    cases h
    exact List.Perm.refl _
  | a :: l, k + 1, y, h => by
    have ih := erase_perm (l := l) (k := k) h
    show (y :: a :: l.eraseIdx k).Perm (a :: l)
    exact (List.Perm.swap a y _).trans (ih.cons a)
end RP
namespace K85
open PySem PySem.Spec PyProof.Rows L2 RP
def six : List Str := ["ann", "bo", "cy", "di", "ed", "flo"]
theorem six_nd : six.Nodup := by decide +kernel
theorem six_ok : ∀ z ∈ six, okName z = true := by decide +kernel
theorem six_len : ∀ z ∈ six, z.length ≤ 8 := by decide +kernel
theorem BoxAt.mono {H : Hp} {a : Addr} {n m : Int} (b : BoxAt H a n) (h : n ≤ m) : BoxAt H a m := by
  obtain ⟨x, s, c, e, h1, h2, h3, h4, h5⟩ := b
  exact ⟨x, s, c, e, h1, h2, h3, h4, by omega⟩
theorem BoxAt.off {H : Hp} {a p : Addr} {n : Int} {o : HO} (b : BoxAt H a n) (h : p ≠ a) : BoxAt (upd H p o) a n := by
  obtain ⟨x, s, c, e, q⟩ := b
  exact ⟨x, s, c, by rw [upd_ne (Ne.symm h)]; exact e, q⟩
theorem BoxAt.ne {H : Hp} {a p : Addr} {n : Int} (b : BoxAt H a n) (hp : H p = none) : p ≠ a := by
  obtain ⟨x, s, c, e, q⟩ := b
  exact ne_at e hp
theorem BoxAt.at' {H H' : Hp} {a : Addr} {n : Int} (b : BoxAt H a n) (h : H' a = H a) : BoxAt H' a n := by
  obtain ⟨x, s, c, e, q⟩ := b
  exact ⟨x, s, c, h.trans e, q⟩
theorem BoxAt.same {H H' : Hp} {a : Addr} {n : Int} (b : BoxAt H a n) (s : Same H H') : BoxAt H' a n := by
  obtain ⟨x, y, c, e, q⟩ := b
  exact ⟨x, y, c, s _ _ e, q⟩
/-- the guest of a name -/
def byName (gs : List G3) (z : Str) : G3 := (gs.find? fun e => decide (e.1 = z)).getD (z, 0, 0)
theorem byName_mem : ∀ {gs : List G3}, (gs.map (·.1)).Nodup → ∀ e ∈ gs, byName gs e.1 = e
  | [], _, _, h => nomatch h
  | a :: gs, n, e, h => by
    rw [List.map_cons, List.nodup_cons] at n
    unfold byName
    rw [List.find?_cons]
    rcases List.mem_cons.mp h with q | q
    · rw [← q]
      simp
    · have ne : ¬ a.1 = e.1 := fun q2 => n.1 (by rw [q2]; exact List.mem_map.mpr ⟨e, q, rfl⟩)
      rw [decide_eq_false ne]
      exact byName_mem n.2 e q
theorem byName_all {gs : List G3} (n : (gs.map (·.1)).Nodup) : (gs.map (·.1)).map (byName gs) = gs := by
  rw [List.map_map]
  exact (List.map_congr_left (g := id) fun e he => byName_mem n e he).trans (List.map_id _)
/-- the guests laid so far -/
structure CaseI (len left : Int) (nms : List Str) (t : Nat) (gs : List G3) : Prop where
  nm : gs.map (·.1) = nms.take t
  sh : ∀ e ∈ gs, 0 ≤ e.2.1 ∧ e.2.1 ≤ len ∧ max 1 e.2.1 ≤ e.2.2 ∧ e.2.2 ≤ len
  sum : (gs.map (·.2.1)).sum + left = len
  left : 0 ≤ left
theorem CaseI.next {len left : Int} {nms : List Str} {t : Nat} {gs : List G3} {z : Str} {p c : Int} (I : CaseI len left nms t gs) (hz : nms[t]? = some z) (p0 : 0 ≤ p) (p1 : p ≤ left) (c0 : max 1 p ≤ c) (c1 : c ≤ len) : CaseI len (left - p) nms (t + 1) (gs ++ [(z, p, c)]) := by
  have hs : 0 ≤ (gs.map (·.2.1)).sum := by
    have : ∀ l : List G3, (∀ e ∈ l, 0 ≤ e.2.1) → 0 ≤ (l.map (·.2.1)).sum := by
      intro l
      induction l with
      | nil => intro _; exact Int.le_refl _
      | cons a l ih =>
        intro h
        rw [List.map_cons, List.sum_cons]
        have h1 := h a List.mem_cons_self
        have h2 := ih fun e he => h e (List.mem_cons_of_mem _ he)
        omega
    exact this gs fun e he => (I.sh e he).1
  have hsum := I.sum
  refine ⟨?_, fun e he => ?_, ?_, by omega⟩
  · rw [List.map_append, I.nm, take_next hz]
    rfl
  · rcases List.mem_append.mp he with h | h
    · exact I.sh e h
    · rw [List.mem_singleton.mp h]
      exact ⟨p0, by show p ≤ len; omega, c0, c1⟩
  · rw [List.map_append, List.sum_append, List.map_singleton, List.sum_singleton]
    show (gs.map (·.2.1)).sum + p + (left - p) = len
    omega
theorem sum_perm {l m : List Int} (h : l.Perm m) : l.sum = m.sum := by
  induction h with
  | nil => rfl
  | cons a _ ih => rw [List.sum_cons, List.sum_cons, ih]
  | swap a b l => rw [List.sum_cons, List.sum_cons, List.sum_cons, List.sum_cons]; omega
  | trans _ _ h1 h2 => exact h1.trans h2
/-- the guests in their order -/
theorem case_ok {len left : Int} {k : Nat} {gs gs' : List G3} (hl : 4 ≤ len ∧ len ≤ 60) (I : CaseI len left (six.take k) k gs) (hk : 1 ≤ k ∧ k ≤ 6) (h : gs'.Perm gs) : GsOk len gs' ∧ 1 ≤ gs'.length ∧ ∀ e ∈ gs', e.1 ∈ six := by
  have hnm : gs.map (·.1) = six.take k := by
    rw [I.nm, List.take_take, Nat.min_self]
  have hlen : gs.length = k := by
    have := congrArg List.length hnm
    rw [List.length_map, List.length_take] at this
    have : six.length = 6 := rfl
    omega
  have hp := h.length_eq
  refine ⟨⟨by omega, ?_, fun e he => ?_, fun e he => I.sh e (h.mem_iff.mp he), ?_, hl⟩, by omega, fun e he => ?_⟩
  · refine (h.map (·.1)).nodup_iff.mpr ?_
    rw [hnm]
    exact six_nd.sublist (List.take_sublist _ _)
  · have h1 : e.1 ∈ six.take k := by
      rw [← hnm]
      exact List.mem_map.mpr ⟨e, h.mem_iff.mp he, rfl⟩
    exact six_ok _ (List.mem_of_mem_take h1)
  · rw [sum_perm (h.map (·.2.1))]
    have := I.sum
    have := I.left
    omega
  · have h1 : e.1 ∈ six.take k := by
      rw [← hnm]
      exact List.mem_map.mpr ⟨e, h.mem_iff.mp he, rfl⟩
    exact List.mem_of_mem_take h1
section
variable {P : Program} {w : World} {K : PySem.W.Frag} {mg : Str → Option Value} {base : Heap}
/-! ### _law_case -/
theorem sc__law_case : FnScope ["box", "length", "left", "guests", "name", "promise", "low", "ceiling", "names", "order", "k"] ["box"] (defScope s__law_case) := ⟨rfl, rfl, rfl, by decide +kernel, rfl, by decide +kernel, by decide +kernel⟩
def spCase (K : PySem.W.Frag) : Sp := fun vs H Q _ => ∃ (a : Addr) (n : Int), vs = [.ref a] ∧ BoxAt H a n ∧ n ≤ 1000 ∧ ∀ (len : Int) (gs : List G3) (R' H' : Hp) (v : V), GsOk len gs → 1 ≤ gs.length → (∀ e ∈ gs, e.1 ∈ six) → Plain R' → Same R' H' → R' a = none → Rep K R' v (.tup [.int len, gD gs]) → BoxAt H' a (n + 100) → But a H H' → Q v H'
theorem ok__law_case (T : Txt K mg) (G__law_take : Def P w K mg base 1 "_law_take" ["box", "many"] (spTake K)) : Def P w K mg base 2 "_law_case" ["box"] (spCase K) := by
  obtain ⟨f, fd, F⟩ := T.a__law_case
  refine Def.mk F sc__law_case (fun _ _ _ _ _ _ us hl => match us, hl with | [_], _ => rfl) (fun vs H Q E h => ?_) (fun cdv A outer s H vs Q E hr h => ?_)
  · obtain ⟨a, n, rfl, _⟩ := h
    rfl
  · obtain ⟨a, n, rfl, box, hn, hq⟩ := h
    refine ⟨_, (pss_cons (ps_asg (pe_tup (pa_cons (pe_op op_add pe_int (pe_d G__law_take (hr.mono (by decide)) (by rfl) (pa_cons (pv 0) (pa_cons (pe_ix (kix_list K rfl) (pe_lst (pa_cons pe_int (pa_cons pe_int (pa_cons pe_int pa_nil)))) (pe_d G__law_take (hr.mono (by decide)) (by rfl) (pa_cons (pv 0) (pa_cons pe_int pa_nil))) (fun _ _ => rfl)) pa_nil)))) (pa_cons pe_int (pa_cons pe_dnewK pa_nil)))) (kpg_tup K rfl (n := 3) rfl (pgs_cons (pg_name (i := 1) sc__law_case.nd rfl (Or.inl rfl)) (pgs_cons (pg_name (i := 2) sc__law_case.nd rfl (Or.inl rfl)) (pgs_cons (pg_name (i := 3) sc__law_case.nd rfl (Or.inr rfl)) pgs_nil)))))
      (pss_cons (ps_set (i := 2) sc__law_case.nd rfl (Or.inl rfl) (pv 1))
      (pss_cons (ps_for (passes_of rfl) rfl (kpi_list K rfl (pe_slice (ksl_list K rfl) (pe_lst (pa_cons pe_str (pa_cons pe_str (pa_cons pe_str (pa_cons pe_str (pa_cons pe_str (pa_cons pe_str pa_nil))))))) po_none (po_some (pe_op op_add pe_int (pe_d G__law_take (hr.mono (by decide)) (by rfl) (pa_cons (pv 0) (pa_cons pe_int pa_nil))))))) (pg_name (i := 4) sc__law_case.nd rfl (Or.inl rfl))
        (pss_cons (ps_set (i := 5) sc__law_case.nd rfl (Or.inl rfl) (pe_ix (kix_list K rfl) (pe_lst (pa_cons pe_int (pa_cons pe_int (pa_cons (pe_d G__law_take (hr.mono (by decide)) (by rfl) (pa_cons (pv 0) (pa_cons (pe_op op_add (pv 2) pe_int) pa_nil))) (pa_cons (pe_d G__law_take (hr.mono (by decide)) (by rfl) (pa_cons (pv 0) (pa_cons (pe_op op_add (pe_callB (call_min2 rfl) (by rfl) T.b_min (by decide +kernel) (pa_cons (pv 2) (pa_cons pe_int pa_nil))) pe_int) pa_nil))) pa_nil))))) (pe_d G__law_take (hr.mono (by decide)) (by rfl) (pa_cons (pv 0) (pa_cons pe_int pa_nil))) (fun _ _ => rfl)))
      (pss_cons (ps_set (i := 5) sc__law_case.nd rfl (Or.inl rfl) (pe_callB (call_min2 rfl) (by rfl) T.b_min (by decide +kernel) (pa_cons (pv 5) (pa_cons (pv 2) pa_nil))))
      (pss_cons (ps_set (i := 2) sc__law_case.nd rfl (Or.inl rfl) (pe_op op_sub (pv 2) (pv 5)))
      (pss_cons (ps_set (i := 6) sc__law_case.nd rfl (Or.inl rfl) (pe_callB (call_max2 rfl) (by rfl) T.b_max (by decide +kernel) (pa_cons pe_int (pa_cons (pv 5) pa_nil))))
      (pss_cons (ps_set (i := 7) sc__law_case.nd rfl (Or.inl rfl) (pe_ix (kix_list K rfl) (pe_lst (pa_cons (pv 1) (pa_cons (pv 6) (pa_cons (pe_op op_add (pv 6) (pe_d G__law_take (hr.mono (by decide)) (by rfl) (pa_cons (pv 0) (pa_cons (pe_op op_add (pe_op op_sub (pv 1) (pv 6)) pe_int) pa_nil)))) pa_nil)))) (pe_d G__law_take (hr.mono (by decide)) (by rfl) (pa_cons (pv 0) (pa_cons pe_int pa_nil))) (fun _ _ => rfl)))
      (pss_one (ps_dput (hu_of hr) (pv 3) (pv 4) (pe_tup (pa_cons (pv 5) (pa_cons (pv 7) pa_nil))) rfl))))))))
      (pss_cons (ps_set (i := 8) sc__law_case.nd rfl (Or.inr rfl) (pe_callTy (call_listD rfl) (by rfl) T.b_list (by decide +kernel) (pa_cons (pv 3) pa_nil)))
      (pss_cons (ps_setLc (i := 9) (own := [("k", 10)]) rfl sc__law_case.nd rfl rfl (sw_true rfl rfl rfl (by decide +kernel)) (pi_range1 (by rfl) T.b_range (pa_cons (pe_callB call_lenD (by rfl) T.b_len (by decide +kernel) (pa_cons (pv 3) pa_nil)) pa_nil)) (blkOk_by (own := [("k", 10)]) (N := ["box", "length", "left", "guests", "name", "promise", "low", "ceiling", "names", "order", "k"]) (sc := defScope s__law_case) (by decide +kernel)) (fun _ _ _ _ _ => (pg_name (i := 10) sc__law_case.nd rfl (Or.inl rfl))) (fun _ _ _ _ _ => pts_nil) (fun _ _ _ _ _ => (kpe_bm K rfl (pe_bm PySem.F.plainAttrs_list PySem.F.slot_list_pop PySem.F.type_list_pop mt_popAt (pv 8) (pa_cons (pe_d G__law_take (hr.mono (by decide)) (by rfl) (pa_cons (pv 0) (pa_cons (pe_callB (kcall_len_seq K rfl) (by rfl) T.b_len (by decide +kernel) (pa_cons (pv 8) pa_nil)) pa_nil))) pa_nil)))))
      (pss_one (ps_ret (pe_tup (pa_cons (pv 1) (pa_cons (pe_callTy (kcall_dictP K rfl rfl) (by rfl) T.b_dict (by decide +kernel) (pa_cons (pe_lc (own := [("name", 4)]) rfl sc__law_case.nd (kpi_list K rfl (pv 9)) (blkOk_by (own := [("name", 4)]) (N := ["box", "length", "left", "guests", "name", "promise", "low", "ceiling", "names", "order", "k"]) (sc := defScope s__law_case) (by decide +kernel)) (fun _ _ _ _ _ => (pg_name (i := 4) sc__law_case.nd rfl (Or.inl rfl))) (fun _ _ _ _ _ => pts_nil) (fun _ _ _ _ _ => (pe_tup (pa_cons (pv 4) (pa_cons (pe_dget (hu_of hr) (pv 3) (pv 4) (fun _ _ => rfl)) pa_nil))))) pa_nil)) pa_nil)))))))))), ?_⟩
    refine ⟨_, rfl, (show 3 ≤ sizeLine by decide), fun p1 hp1 => ⟨_, rfl, a, n, 3, rfl, box.off (box.ne hp1), by omega, by omega, by omega, fun r1 H1 r10 r11 box1 bt1 => ?_⟩⟩
    have hl1 : H1 p1 = some (.lst [.int 4, .int 12, .int 57]) := bt1 _ _ (box.ne hp1) upd_same
    have B1 : But a H H1 := (But.new hp1).trans bt1
    obtain ⟨v, hv1, hv2⟩ := atI_lt (xs := [.int 4, .int 12, .int 57]) r10 r11
    obtain ⟨m, rfl, m0, m1⟩ : ∃ m, v = .int m ∧ 4 ≤ m ∧ m ≤ 57 := by
      simp only [List.mem_cons, List.not_mem_nil, or_false] at hv2
      rcases hv2 with rfl | rfl | rfl
      · exact ⟨4, rfl, by decide, by decide⟩
      · exact ⟨12, rfl, by decide, by decide⟩
      · exact ⟨57, rfl, by decide, by decide⟩
    refine ⟨p1, _, r1, _, rfl, rfl, SqL.of hl1, hv1, a, n + 1, m, rfl, box1, by omega, by omega, by omega, fun r2 H2 r20 r21 box2 bt2 => ?_⟩
    have B2 := B1.trans bt2
    refine ⟨_, _, rfl, rfl, fun ga hga => ⟨(show 3 ≤ sizeLine by decide), fun T0 hT0 => ?_⟩⟩
    have nga := box2.ne hga
    have hT0g : T0 ≠ ga := ne_at upd_same hT0
    have nT0 : T0 ≠ a := (box2.off nga).ne hT0
    refine ⟨T0, _, rfl, SqT.of upd_same, rfl, _, _, rfl, _, _, rfl, _, _, rfl, rfl, ?_⟩
    have hlen : 4 ≤ 4 + r2 ∧ 4 + r2 ≤ 60 := by omega
    have h3g : upd (upd H2 ga (.dK [])) T0 (.tup [.int (4 + r2), .int 0, .ref ga]) ga = some (.dK []) := by rw [upd_ne (Ne.symm hT0g), upd_same]
    have B3 : But a H (upd (upd H2 ga (.dK [])) T0 (.tup [.int (4 + r2), .int 0, .ref ga])) := B2.trans ((But.new hga).trans (But.new hT0))
    have box3 : BoxAt (upd (upd H2 ga (.dK [])) T0 (.tup [.int (4 + r2), .int 0, .ref ga])) a (n + 1 + 1) := (box2.off nga).off nT0
    have n3g : H ga = none := B2.free nga hga
    generalize upd (upd H2 ga (.dK [])) T0 (.tup [.int (4 + r2), .int 0, .ref ga]) = H3 at h3g B3 box3 ⊢
    refine ⟨_, rfl, (show 6 ≤ sizeLine by decide), fun p4 hp4 => ⟨_, rfl, a, n + 2, 6, rfl, (box3.mono (by omega)).off (box3.ne hp4), by omega, by omega, by omega, fun r5 H5 r50 r51 box5 bt5 => ?_⟩⟩
    have hl5 : H5 p4 = some (.lst (six.map V.str)) := bt5 _ _ (box3.ne hp4) upd_same
    have B5 := B3.trans ((But.new hp4).trans bt5)
    have h5g : H5 ga = some (.dK []) := bt5 _ _ nga ((same_new hp4) _ _ h3g)
    refine ⟨_, _, rfl, rfl, _, rfl, p4, _, rfl, SqL.of hl5, fun L hL => ?_⟩
    obtain ⟨k, hk, ek⟩ : ∃ k, (1 ≤ k ∧ k ≤ 6) ∧ cutV (six.map V.str) none (some (1 + r5)) = (six.take k).map V.str := by
      refine ⟨(1 + r5).toNat, by omega, ?_⟩
      have e1 : (1 : Int) + r5 = (((1 + r5).toNat : Nat) : Int) := by omega
      unfold cutV
      rw [← List.map_drop, ← List.map_take, HT.sIx_none]
      have e2 : HT.sIx (six.map V.str).length (six.map V.str).length (some (1 + r5)) = (1 + r5).toNat := by
        rw [e1, HT.sIx_nat]
        have : (six.map V.str).length = 6 := rfl
        omega
      rw [e2]
      rfl
    rw [ek]
    have nL := box5.ne hL
    have hLg : L ≠ ga := ne_at h5g hL
    have B6 : But a H (upd H5 L (.lst ((six.take k).map V.str))) := B5.trans (But.new hL)
    have box6 : BoxAt (upd H5 L (.lst ((six.take k).map V.str))) a (n + 3) := (box5.mono (by omega)).off nL
    have h6g : upd H5 L (.lst ((six.take k).map V.str)) ga = some (.dK []) := by rw [upd_ne (Ne.symm hLg)]; exact h5g
    have h6L : upd H5 L (.lst ((six.take k).map V.str)) L = some (.lst ((six.take k).map V.str)) := upd_same
    generalize upd H5 L (.lst ((six.take k).map V.str)) = H6 at B6 box6 h6g h6L ⊢
    refine ⟨L, rfl, ⟨_, SqL.of h6L⟩, ?_⟩
    refine for_it (w := walk_list) (fun t σ H' => ∃ (left : Int) (gs : List G3) (R' : Hp) (kvs : List (Key × V)) (o4 o5 o6 o7 : Option V), σ = [some (.ref a), some (.int (4 + r2)), some (.int left), some (.ref ga), o4, o5, o6, o7, none, none, none] ∧ CaseI (4 + r2) left (six.take k) t gs ∧ Plain R' ∧ Same R' H' ∧ R' a = none ∧ R' ga = none ∧ RepK K R' kvs (gs.map fun e => (e.1, D.tup [.int e.2.1, .int e.2.2])) ∧
        H' ga = some (.dK kvs) ∧ H' L = some (.lst ((six.take k).map V.str)) ∧ BoxAt H' a (n + 3 + 5 * t) ∧ But a H H')
      ⟨(4 + r2), [], fun _ => none, [], none, none, none, none, rfl, ⟨rfl, (fun _ h => nomatch h), by simp, by omega⟩, Plain.none, (fun _ _ h => nomatch h), rfl, rfl, .nil, h6g, h6L, box6.mono (by omega), B6⟩ (fun t σ H' _ ⟨_, _, _, _, _, _, _, _, _, _, _, _, _, _, _, _, h, _⟩ => SqL.of h) ?_ ?_
    · rintro t x σ H7 H8 ht ⟨left, gs, R, kvs, o4, o5, o6, o7, rfl, I, pR, sR, nRa, nRg, rk, hg, hL7, bx, BB⟩ ⟨rfl, hx⟩
      rw [List.getElem?_map] at hx
      obtain ⟨z, hz, rfl⟩ := Option.map_eq_some_iff.mp hx
      have ht6 : t < 6 := by
        rw [List.length_map, List.length_take] at ht
        omega
      have hleft := I.left
      have hsum := I.sum
      have hs0 : 0 ≤ (gs.map (·.2.1)).sum := by
        have : ∀ l : List G3, (∀ e ∈ l, 0 ≤ e.2.1) → 0 ≤ (l.map (·.2.1)).sum := by
          intro l
          induction l with
          | nil => intro _; exact Int.le_refl _
          | cons a l ih =>
            intro h
            rw [List.map_cons, List.sum_cons]
            have h1 := h a List.mem_cons_self
            have h2 := ih fun e he => h e (List.mem_cons_of_mem _ he)
            omega
        exact this gs fun e he => (I.sh e he).1
      -- the promise
      refine ⟨_, rfl, _, rfl, _, _, rfl, rfl, a, n + 3 + 5 * t, left + 1, rfl, bx, by omega, by omega, by omega, fun q1 Ha q10 q11 bxa ba => ?_⟩
      refine ⟨_, rfl, _, rfl, _, _, rfl, _, _, rfl, rfl, a, _, _, rfl, bxa, by omega, ?_, ?_, fun q2 Hb q20 q21 bxb bb => ?_⟩
      · split <;> omega
      · split <;> omega
      refine ⟨(show 4 ≤ sizeLine by decide), fun p hp => ⟨_, rfl, a, _, 4, rfl, bxb.off (bxb.ne hp), by omega, by omega, by omega, fun q3 Hc q30 q31 bxc bc => ?_⟩⟩
      obtain ⟨v, hv1, hv2⟩ := atI_lt (xs := [.int 0, .int 1, .int q1, .int q2]) q30 q31
      obtain ⟨pr, rfl, pr0⟩ : ∃ m, v = .int m ∧ 0 ≤ m := by
        simp only [List.mem_cons, List.not_mem_nil, or_false] at hv2
        rcases hv2 with rfl | rfl | rfl | rfl
        · exact ⟨0, rfl, by decide⟩
        · exact ⟨1, rfl, by decide⟩
        · exact ⟨q1, rfl, q10⟩
        · exact ⟨q2, rfl, q20⟩
      have hpc : Hc p = some (.lst [.int 0, .int 1, .int q1, .int q2]) := bc _ _ (bxb.ne hp) upd_same
      refine ⟨p, _, q3, _, rfl, rfl, SqL.of hpc, hv1, ?_⟩
      have Bc : But a H8 Hc := (ba.trans bb).trans ((But.new hp).trans bc)
      refine ⟨_, rfl, _, rfl, _, _, rfl, ?_⟩
      have pm : ∃ m, (if left < pr then left else pr) = m ∧ 0 ≤ m ∧ m ≤ left := ⟨_, rfl, by split <;> omega, by split <;> omega⟩
      obtain ⟨pm, epm, pm0, pm1⟩ := pm
      rw [epm]
      refine ⟨_, rfl, _, rfl, _, _, rfl, rfl, ?_⟩
      refine ⟨_, rfl, _, _, rfl, ?_⟩
      have lw : ∃ m, (if pm > 1 then pm else 1) = m ∧ max 1 pm = m ∧ 1 ≤ m ∧ m ≤ (4 + r2) := ⟨_, rfl, by split <;> omega, by split <;> omega, by split <;> omega⟩
      obtain ⟨lw, elw, elw2, lw0, lw1⟩ := lw
      rw [elw]
      -- the ceiling
      refine ⟨_, rfl, _, rfl, _, rfl, _, rfl, _, rfl, _, rfl, _, _, rfl, rfl, _, _, rfl, rfl, a, _, _, rfl, bxc, by omega, by omega, by omega, fun q4 Hd q40 q41 bxd bd => ?_⟩
      refine ⟨_, _, rfl, rfl, (show 3 ≤ sizeLine by decide), fun p2 hp2 => ⟨_, rfl, a, _, 3, rfl, bxd.off (bxd.ne hp2), by omega, by omega, by omega, fun q5 He q50 q51 bxe be => ?_⟩⟩
      obtain ⟨v, hv3, hv4⟩ := atI_lt (xs := [.int (4 + r2), .int lw, .int (lw + q4)]) q50 q51
      obtain ⟨ce, rfl, ce0, ce1⟩ : ∃ m, v = .int m ∧ lw ≤ m ∧ m ≤ (4 + r2) := by
        simp only [List.mem_cons, List.not_mem_nil, or_false] at hv4
        rcases hv4 with rfl | rfl | rfl
        · exact ⟨(4 + r2), rfl, lw1, Int.le_refl _⟩
        · exact ⟨lw, rfl, Int.le_refl _, lw1⟩
        · exact ⟨lw + q4, rfl, by omega, by omega⟩
      have hp2e : He p2 = some (.lst [.int (4 + r2), .int lw, .int (lw + q4)]) := be _ _ (bxd.ne hp2) upd_same
      refine ⟨p2, _, q5, _, rfl, rfl, SqL.of hp2e, hv3, ?_⟩
      have Be : But a H8 He := Bc.trans (bd.trans ((But.new hp2).trans be))
      -- laid
      refine ⟨_, rfl, _, rfl, (show 2 ≤ sizeLine by decide), fun T hT => ?_⟩
      have nga : ga ≠ a := nga
      have hge : He ga = some (.dK kvs) := Be _ _ nga hg
      have hTg : T ≠ ga := ne_at hge hT
      have hTa : T ≠ a := bxe.ne hT
      have sRe : Same R He := Be.same nRa sR
      have nRT : R T = none := sRe.out hT
      have hgT : upd He T (.tup [.int pm, .int ce]) ga = some (.dK kvs) := by rw [upd_ne (Ne.symm hTg)]; exact hge
      refine ⟨_, rfl, _, rfl, ga, _, rfl, DPut.k (k := .inr z) hgT ?_, ?_⟩
      · have h1 : kvs.length = gs.length := by rw [rk.len, List.length_map]
        have h2 : gs.length = t := by
          have := congrArg List.length I.nm
          rw [List.length_map, List.length_take, List.length_take] at this
          have h3 : six.length = 6 := rfl
          rw [List.length_map, List.length_take] at ht
          omega
        have : 100 < sizeLine := by decide
        omega
      have hzn : z ∉ (six.take k).take t := fun hm => by
        obtain ⟨m, hm⟩ := List.mem_iff_getElem?.mp hm
        have hm2 : m < t ∧ (six.take k)[m]? = some z := by
          rw [List.getElem?_take] at hm
          split at hm
          · exact ⟨by assumption, hm⟩
          · cases hm
        have := nd_ix (six_nd.sublist (List.take_sublist k six)) hm2.2 hz
        omega
      have hnew : valV kvs (.inr z) = none := valV_none (by
        rw [rk.keysN, List.map_map]
        intro hm
        obtain ⟨e, he, q⟩ := List.mem_map.mp hm
        have q2 : e.1 = z := Sum.inr.inj q
        refine hzn ?_
        rw [← I.nm, ← q2]
        exact List.mem_map.mpr ⟨e, he, rfl⟩)
      rw [putK_new _ hnew]
      have sT : Same (upd R T (.tup [.int pm, .int ce])) (upd He T (.tup [.int pm, .int ce])) := sRe.put
      have nTg : upd R T (.tup [.int pm, .int ce]) ga = none := by rw [upd_ne (Ne.symm hTg)]; exact nRg
      refine ⟨left - pm, gs ++ [(z, pm, ce)], upd R T (.tup [.int pm, .int ce]), _, _, _, _, _, rfl, I.next hz pm0 pm1 (by omega) ce1, pR.put (fun _ _ z => nomatch z), sT.skip nTg, by rw [upd_ne (Ne.symm hTa)]; exact nRa, nTg, ?_, upd_same, ?_, ?_, ?_⟩
      · rw [List.map_append]
        refine RepK.snoc ?_ ?_ (rk.same (same_new nRT))
        · have := six_len z (List.mem_of_mem_take (List.mem_of_getElem? hz))
          have : 100 < sizeLine := by decide
          omega
        · exact .tup (SqT.of upd_same) (.cons (.int _) (.cons (.int _) .nil))
      · have hLe : He L = some (.lst ((six.take k).map V.str)) := Be _ _ nL hL7
        have hTL : T ≠ L := ne_at hLe hT
        rw [upd_ne hLg, upd_ne (Ne.symm hTL)]
        exact hLe
      · exact ((bxe.off hTa).off (Ne.symm (Ne.symm nga))).mono (by omega)
      · have BB' := BB.trans (Be.trans (But.new (o := .tup [.int pm, .int ce]) hT))
        exact fun b o hb e => by
          rw [upd_ne (fun q => by rw [q, n3g] at e; cases e)]
          exact BB' b o hb e
    · rintro σ H7 ⟨left, gs, R, kvs, o4, o5, o6, o7, rfl, I, pR, sR, nRa, nRg, rk, hg, hL7, bx, BB⟩
      have el : ((six.take k).map V.str).length = k := by
        rw [List.length_map, List.length_take]
        have : six.length = 6 := rfl
        omega
      rw [el] at I bx
      have hnm : gs.map (·.1) = six.take k := by
        rw [I.nm, List.take_take, Nat.min_self]
      have hnd : (gs.map (·.1)).Nodup := by
        rw [hnm]
        exact six_nd.sublist (List.take_sublist _ _)
      have hgl : gs.length = k := by
        have := congrArg List.length hnm
        rw [List.length_map, List.length_take] at this
        have : six.length = 6 := rfl
        omega
      have hkl : kvs.length = gs.length := by rw [rk.len, List.length_map]
      have ekeys : (kvs.map fun kv => kV kv.1) = (gs.map (·.1)).map V.str := by
        rw [rk.keys, List.map_map, List.map_map]
        rfl
      refine ⟨_, rfl, ga, kvs, rfl, .inl hg, fun nl hnl => ?_⟩
      rw [ekeys]
      have nnl := bx.ne hnl
      have hnlg : nl ≠ ga := ne_at hg hnl
      have nRnl : R nl = none := sR.out hnl
      have s8 : Same H7 (upd H7 nl (.lst ((gs.map (·.1)).map V.str))) := same_new hnl
      have h8 : upd H7 nl (.lst ((gs.map (·.1)).map V.str)) nl = some (.lst ((gs.map (·.1)).map V.str)) := upd_same
      generalize upd H7 nl (.lst ((gs.map (·.1)).map V.str)) = H8 at s8 h8 ⊢
      refine ⟨_, rfl, ga, kvs, rfl, s8 _ _ hg, _, rfl, by omega, by omega, fun L2 hL2 => ?_⟩
      have nL2 := (bx.same s8).ne hL2
      have hL2g : L2 ≠ ga := ne_at (s8 _ _ hg) hL2
      have hL2n : L2 ≠ nl := ne_at h8 hL2
      have nRL2 : R L2 = none := (sR.trans s8).out hL2
      rw [Int.toNat_natCast, hkl]
      refine lc_it (w := walk_range) (fun i H' => ∃ (ord rest : List Str), H' L2 = some (.lst (ord.map V.str)) ∧ H' nl = some (.lst (rest.map V.str)) ∧ (ord ++ rest).Perm (gs.map (·.1)) ∧ ord.length = i ∧ BoxAt H' a (n + 33 + i) ∧ ∀ b o, b ≠ a → b ≠ nl → b ≠ L2 → H8 b = some o → H' b = some o)
        ⟨[], gs.map (·.1), upd_same, by rw [upd_ne (Ne.symm hL2n)]; exact h8, List.Perm.refl _, rfl, ((bx.same s8).off nL2).mono (by omega), fun b o _ _ h3 e => by rw [upd_ne h3]; exact e⟩ (fun _ _ _ _ => True.intro) ?_ ?_
      · rintro i x H9 H10 hi ⟨ord, rest, g1, g2, g3, g4, g5, g6⟩ ⟨rfl, hx⟩
        have hrl : ord.length + rest.length = gs.length := by
          have := g3.length_eq
          rw [List.length_append, List.length_map] at this
          exact this
        refine ⟨rfl, ⟨_, rfl, .inl ⟨rfl, _, SqL.of g2⟩, _, rfl, _, rfl, nl, _, rfl, .inl (SqL.of g2), a, _, _, rfl, g5, by omega, ?_, ?_, fun r H11 r0 r1 b11 t11 => ?_⟩⟩
        · rw [List.length_map]; omega
        · rw [List.length_map]; omega
        · rw [List.length_map] at r1
          have hr : r.toNat < rest.length := by omega
          have hy : rest[r.toNat]? = some rest[r.toNat] := List.getElem?_eq_getElem hr
          have hn11 : H11 nl = some (.lst (rest.map V.str)) := t11 _ _ nnl g2
          refine ⟨nl, _, r, r.toNat, .str rest[r.toNat], rfl, rfl, hn11, by omega, by omega, ?_, by rw [List.getElem?_map, hy]; rfl, ord.map V.str, ?_, ?_, ord ++ [rest[r.toNat]], rest.eraseIdx r.toNat, ?_, ?_, ?_, ?_, ?_, ?_⟩
          · refine (ixN_seq (show ixN (rest.map V.str).length r = some r.toNat from ?_)).1
            unfold ixN
            rw [List.length_map, if_pos r0, if_pos (by omega)]
          · rw [upd_ne hL2n]
            exact t11 _ _ nL2 g1
          · rw [List.length_map]
            have : 100 < sizeLine := by decide
            omega
          · rw [upd_same, List.map_append]
            rfl
          · rw [upd_ne (Ne.symm hL2n), upd_same, erase_map]
          · rw [List.append_assoc]
            exact (List.Perm.append_left ord (erase_perm hy)).trans g3
          · rw [List.length_append, g4]
            rfl
          · exact ((b11.off nnl).off nL2).mono (by omega)
          · intro b o h1 h2 h3 e
            rw [upd_ne h3, upd_ne h2]
            exact t11 _ _ h1 (g6 b o h1 h2 h3 e)
      · rintro H9 ⟨ord, rest, g1, g2, g3, g4, g5, g6⟩
        have hrest : rest = [] := by
          have := g3.length_eq
          rw [List.length_append, List.length_map] at this
          exact List.length_eq_zero_iff.mp (by omega)
        subst hrest
        rw [List.append_nil] at g3
        have gsp : (ord.map (byName gs)).Perm gs := by
          have := g3.map (byName gs)
          rw [byName_all hnd] at this
          exact this
        obtain ⟨okG, okL, ok6⟩ := case_ok hlen I hk gsp
        have sR9 : Same R H9 := fun b o e => g6 b o (fun q => by rw [q, nRa] at e; cases e) (fun q => by rw [q, nRnl] at e; cases e) (fun q => by rw [q, nRL2] at e; cases e) (s8 _ _ (sR _ _ e))
        have hg9 : H9 ga = some (.dK kvs) := g6 _ _ nga (Ne.symm hnlg) (Ne.symm hL2g) (s8 _ _ hg)
        have BB9 : But a H H9 := fun b o hb e => by
          have e7 := BB b o hb e
          exact g6 b o hb (fun q => by rw [q, hnl] at e7; cases e7) (fun q => by rw [q] at e7; rw [s8 _ _ e7] at hL2; cases hL2) (s8 _ _ e7)
        refine ⟨_, rfl, _, rfl, L2, rfl, ⟨_, SqL.of g1⟩, fun M hM => ?_⟩
        have hol : ord.length ≤ 6 := by omega
        refine lc_reps (K := K) (w := walk_list) (R := R) (fun i => (ord.map (byName gs))[i]?.map fun e => D.tup [.str e.1, .tup [.int e.2.1, .int e.2.2]]) hM (by rw [List.length_map]; omega) sR9 pR (fun H' s' => SqL.of (s' _ _ g1)) ?_ ?_
        · rintro i x H10 H11 R1 Y2 N2 hi s10 hnM gr pl sr ⟨rfl, hx⟩ k3 k4
          rw [List.getElem?_map] at hx
          obtain ⟨z, hz, rfl⟩ := Option.map_eq_some_iff.mp hx
          obtain ⟨e, he, ez⟩ := List.mem_map.mp (g3.mem_iff.mp (List.mem_of_getElem? hz))
          have eb : byName gs z = e := by
            rw [← ez]
            exact byName_mem hnd e he
          obtain ⟨idx, hidx⟩ := List.mem_iff_getElem?.mp he
          have hidx2 : gs[idx]? = some (z, e.2.1, e.2.2) := by
            rw [hidx, ← ez]
          obtain ⟨v, g7, g8⟩ : ∃ v, valV kvs (.inr z) = some v ∧ Rep K R v (.tup [.int e.2.1, .int e.2.2]) := by
            have hd := dlook_gs hnd hidx2
            rcases rk.val z with ⟨v, d, e1, e2, q⟩ | ⟨_, e2⟩
            · rw [hd] at e2
              cases e2
              exact ⟨v, e1, q⟩
            · rw [hd] at e2
              cases e2
          have hzl : z.length ≤ sizeLine := by
            have h1 : z ∈ six.take k := by
              rw [← hnm]
              exact List.mem_map.mpr ⟨e, he, ez⟩
            have := six_len z (List.mem_of_mem_take h1)
            have : 100 < sizeLine := by decide
            omega
          refine ⟨rfl, ⟨_, rfl, _, rfl, _, rfl, ga, v, rfl, .inl ⟨kvs, .inr z, .inl (s10 _ _ hg9), rfl, g7.symm⟩, (show 2 ≤ sizeLine by decide), fun T3 hT3 => ?_⟩⟩
          refine k3 _ _ (upd R1 T3 (.tup [.str z, v])) (.tup [.str z, .tup [.int e.2.1, .int e.2.2]]) ?_ (same_new hT3) ((Grow.refl _ _).put hT3 (sr.out hT3)) (pl.put (fun _ _ z => nomatch z)) sr.put (.tup (SqT.of upd_same) (.cons (.str _ hzl) (.cons (g8.same (gr.same.trans (same_new (sr.out hT3)))) .nil)))
          rw [List.getElem?_map, hz]
          show some (D.tup [.str (byName gs z).1, .tup [.int (byName gs z).2.1, .int (byName gs z).2.2]]) = _
          rw [eb, ez]
        · intro H10 R1 zs s10 gr pl sr hRM hMz rz
          have ez : (List.range (ord.map V.str).length).filterMap (fun i => (ord.map (byName gs))[i]?.map fun e => D.tup [.str e.1, .tup [.int e.2.1, .int e.2.2]]) = ((ord.map (byName gs)).map fun e => (e.1, D.tup [.int e.2.1, .int e.2.2])).map fun e => D.tup [.str e.1, e.2] := by
            have : (ord.map V.str).length = (ord.map (byName gs)).length := by rw [List.length_map, List.length_map]
            rw [this, range_all]
            generalize ord.map (byName gs) = gg
            rw [List.map_map]
            rfl
          rw [ez] at rz
          obtain ⟨ps, kvs', rfl, pp, rk'⟩ := pairs_of rz
          refine ⟨M, ps, kvs', rfl, SqL.of hMz, paired_mono (fun _ _ h => (Lq.of sr).tup h) pp, fun p9 hp9 => ⟨(show 2 ≤ sizeLine by decide), fun TT hTT => ?_⟩⟩
          have nd2 : ((((ord.map (byName gs)).map fun e => (e.1, D.tup [.int e.2.1, .int e.2.2]))).map (·.1)).Nodup := by
            rw [List.map_map]
            exact okG.nd
          rw [rk'.merge nd2]
          have bx10 := g5.same s10
          have np9 := bx10.ne hp9
          have nTT := (bx10.off np9 (o := .dK (mergeK [] kvs'))).ne hTT
          have n1 : R1 p9 = none := sr.out hp9
          have sp : Same (upd R1 p9 (.dK kvs')) (upd H10 p9 (.dK kvs')) := sr.put
          have hTT2 : upd H10 p9 (.dK kvs') TT = none := by
            rw [rk'.merge nd2] at hTT
            exact hTT
          have n2 : upd R1 p9 (.dK kvs') TT = none := sp.out hTT2
          have nR1a : R1 a = none := by
            obtain ⟨x, y, c, e, _⟩ := g5
            rw [gr.old a (by rw [e]; exact fun z => nomatch z)]
            exact nRa
          refine hq _ (ord.map (byName gs)) (upd (upd R1 p9 (.dK kvs')) TT (.tup [.int (4 + r2), .ref p9])) _ _ okG okL ok6 (Plain.put (Plain.put pl (by exact fun _ _ z => nomatch z)) (by exact fun _ _ z => nomatch z)) sp.put ?_ ?_ ?_ ?_
          · rw [upd_ne (Ne.symm nTT), upd_ne (Ne.symm np9)]
            exact nR1a
          · refine .tup (SqT.of upd_same) (.cons (.int _) (.cons ?_ .nil))
            exact .dct (.inl (same_new n2 _ _ upd_same)) (rk'.same ((same_new n1).trans (same_new n2)))
          · exact ((bx10.off np9).off nTT).mono (by omega)
          · exact BB9.trans ((But.of s10).trans ((But.new hp9).trans (But.new hTT2)))
end
end K85

set_option Elab.async false
set_option linter.all false
set_option maxRecDepth 100000
set_option maxHeartbeats 1000000
namespace K85
open PySem PySem.Spec PyProof.Rows L2 RP LamX
/-! the fields -/
def pF (p c np nc u : Int) : List (Str × V) := [("told_promise", .int p), ("told_ceiling", .int c), ("now_promise", .int np), ("now_ceiling", .int nc), ("turns_used", .int u)]
def sF (len : Int) (pd : Addr) (t : Int) (ad : Addr) : List (Str × V) := [("own_length", .int len), ("portions", .ref pd), ("turns_passed", .int t), ("all_dealt", .ref ad)]
abbrev CP (K : PySem.W.Frag) : Addr := He.ga K "Portion"
abbrev CS (K : PySem.W.Frag) : Addr := He.ga K "Shares"
/-- where the parts of a Shares stand -/
structure Sha where
  S : Addr
  dS : Addr
  pd : Addr
  ad : Addr
  pa : Nat → Addr
  dp : Nat → Addr
def portK (gs : List G3) (n : Nat) (pa : Nat → Addr) : List (Key × V) := (List.range n).map fun i => (.inr (nmAt gs i), .ref (pa i))
/-- a Shares as it is read -/
structure ShR (K : PySem.W.Frag) (H : Hp) (s : Sha) (len t : Int) (gs : List G3) (n : Nat) (u : Nat → Int) : Prop where
  hs : H s.S = some (.ins (CS K) s.dS (sF len s.pd t s.ad))
  hd : Rd H s.pd (.dK (portK gs n s.pa))
  hp : ∀ i, i < n → H (s.pa i) = some (.ins (CP K) (s.dp i) (pF (pA gs i) (cA gs i) (pA gs i) (cA gs i) (u i)))
structure ShS (K : PySem.W.Frag) (H : Hp) (s : Sha) (len t : Int) (gs : List G3) (n : Nat) (u : Nat → Int) (xs : List V) : Prop where
  hs : H s.S = some (.ins (CS K) s.dS (sF len s.pd t s.ad))
  hd : H s.pd = some (.dK (portK gs n s.pa))
  hp : ∀ i, i < n → H (s.pa i) = some (.ins (CP K) (s.dp i) (pF (pA gs i) (cA gs i) (pA gs i) (cA gs i) (u i)))
  ha : H s.ad = some (.lst xs)
  inj : ∀ i k, i < n → k < n → s.pa i = s.pa k → i = k
theorem ShS.r {K : PySem.W.Frag} {H : Hp} {s : Sha} {len t : Int} {gs : List G3} {n : Nat} {u : Nat → Int} {xs : List V} (h : ShS K H s len t gs n u xs) : ShR K H s len t gs n u := ⟨h.hs, .inl h.hd, h.hp⟩
theorem ShS.ext {K : PySem.W.Frag} {H H' : Hp} {s : Sha} {len t : Int} {gs : List G3} {n : Nat} {u : Nat → Int} {xs : List V} (h : ShS K H s len t gs n u xs) (e : ExtN H H') : ShS K H' s len t gs n u xs :=
  ⟨e _ _ h.hs fun _ z => (nomatch z), e _ _ h.hd fun _ z => (nomatch z), fun i hi => e _ _ (h.hp i hi) fun _ z => (nomatch z), e _ _ h.ha fun _ z => (nomatch z), h.inj⟩
theorem ShR.same {K : PySem.W.Frag} {H H' : Hp} {s : Sha} {len t : Int} {gs : List G3} {n : Nat} {u : Nat → Int} (h : ShR K H s len t gs n u) (e : Same H H') : ShR K H' s len t gs n u :=
  ⟨e _ _ h.hs, (Lq.of e) _ _ h.hd, fun i hi => e _ _ (h.hp i hi)⟩
/-- the dict of the portions is locked -/
theorem ShR.lock {K : PySem.W.Frag} {H : Hp} {s : Sha} {len t : Int} {gs : List G3} {n : Nat} {u : Nat → Int} {kvs : List (Key × V)} {od : Obj} (h : ShR K H s len t gs n u) (hd : H s.pd = some (.dK kvs)) : ShR K (upd H s.pd (.frz od (.dK kvs))) s len t gs n u := by
  have ne : ∀ {a : Addr} {C dx : Addr} {fs : List (Str × V)}, H a = some (.ins C dx fs) → a ≠ s.pd := fun e q => by
    rw [q, hd] at e
    cases e
  exact ⟨by rw [upd_ne (ne h.hs)]; exact h.hs, ((Lq.refl H).lock hd True.intro) _ _ h.hd, fun i hi => by rw [upd_ne (ne (h.hp i hi))]; exact h.hp i hi⟩
theorem portK_keys (gs : List G3) (n : Nat) (pa : Nat → Addr) : (portK gs n pa).map (·.1) = (List.range n).map fun i => Sum.inr (nmAt gs i) := by
  unfold portK
  rw [List.map_map]
  rfl
theorem portK_nd {len : Int} {gs : List G3} {n : Nat} {pa : Nat → Addr} (g : GsOk len gs) (hn : n ≤ gs.length) : ((portK gs n pa).map (·.1)).Nodup := by
  rw [portK_keys]
  refine List.pairwise_map.mpr (List.Pairwise.imp_of_mem ?_ List.nodup_range)
  intro a b ha hb q e
  exact q (nm_inj g (by have := List.mem_range.mp ha; omega) (by have := List.mem_range.mp hb; omega) (Sum.inr.inj e))
theorem portK_at {len : Int} {gs : List G3} {n : Nat} {pa : Nat → Addr} (g : GsOk len gs) (hn : n ≤ gs.length) {i : Nat} (hi : i < n) : valV (portK gs n pa) (.inr (nmAt gs i)) = some (.ref (pa i)) :=
  valV_mem (portK_nd g hn) (List.mem_map.mpr ⟨i, List.mem_range.mpr hi, rfl⟩)
theorem portK_none {len : Int} {gs : List G3} {n : Nat} {pa : Nat → Addr} (g : GsOk len gs) {m : Nat} (hm : m < gs.length) (hn : n ≤ m) : valV (portK gs n pa) (.inr (nmAt gs m)) = none := valV_none (by
  rw [portK_keys]
  intro h
  obtain ⟨i, hi, e⟩ := List.mem_map.mp h
  have hi2 := List.mem_range.mp hi
  have := nm_inj g (by omega) hm (Sum.inr.inj e)
  omega)
def paPut (pa : Nat → Addr) (n : Nat) (q : Addr) : Nat → Addr := fun i => if i = n then q else pa i
theorem portK_put {len : Int} {gs : List G3} {n : Nat} {pa : Nat → Addr} {q : Addr} (g : GsOk len gs) (hn : n < gs.length) : putK (portK gs n pa) (.inr (nmAt gs n)) (.ref q) = portK gs (n + 1) (paPut pa n q) := by
  rw [putK_new _ (portK_none g hn (Nat.le_refl n))]
  unfold portK
  rw [List.range_succ, List.map_append]
  congr 1
  · refine List.map_congr_left fun i hi => ?_
    have := List.mem_range.mp hi
    unfold paPut
    rw [if_neg (by omega)]
  · simp [paPut]
def sumP (gs : List G3) (n : Nat) : Int := ((List.range n).map (pA gs)).sum
theorem sumP_succ (gs : List G3) (n : Nat) : sumP gs (n + 1) = sumP gs n + pA gs n := by
  unfold sumP
  rw [List.range_succ, List.map_append, List.sum_append]
  simp
theorem sumP_all (gs : List G3) : sumP gs gs.length = (gs.map (·.2.1)).sum := by
  unfold sumP
  congr 1
  refine List.ext_getElem (by simp) fun i h1 h2 => ?_
  have h : i < gs.length := by simpa using h1
  obtain ⟨p, c, e, e1, _⟩ := nm_some h
  have e2 : gs[i] = (nmAt gs i, p, c) := by
    rw [List.getElem?_eq_getElem h] at e
    exact Option.some.inj e
  simp [e2, e1]
theorem sumP_le {len : Int} {gs : List G3} (g : GsOk len gs) : ∀ k n, n + k = gs.length → sumP gs n ≤ len
  | 0, n, h => by
    have e : n = gs.length := by omega
    rw [e, sumP_all]
    exact g.sum
  | k + 1, n, h => by
    have h1 := sumP_le g k (n + 1) (by omega)
    rw [sumP_succ] at h1
    have h2 := g.at_sh (i := n) (by omega)
    omega
theorem okName_line {z : Str} (h : okName z = true) : z.length ≤ sizeLine := by
  unfold okName at h
  have h1 := of_decide_eq_true (Bool.and_eq_true_iff.mp (Bool.and_eq_true_iff.mp h).2).1
  have : 100 ≤ sizeLine := by decide
  omega
section
variable {P : Program} {w : World} {K : PySem.W.Frag} {mg : Str → Option Value} {base : Heap}
theorem clP (T : Txt K mg) : Cls K (CP K) := by obtain ⟨_, F⟩ := T.i_Portion; exact F.c
theorem clS (T : Txt K mg) : Cls K (CS K) := by obtain ⟨_, F⟩ := T.i_Shares; exact F.c
/-! ### Portion.__init__ -/
theorem sc_Portion_init : FnScope ["self", "promise", "ceiling", "at_once"] ["self", "promise", "ceiling", "at_once"] (defScope s_Portion_init) := ⟨rfl, rfl, rfl, by decide +kernel, rfl, by decide +kernel, by decide +kernel⟩
def spPor (K : PySem.W.Frag) : Sp := fun vs H Q _ => ∃ (x dx : Addr) (p c : Int) (b : Bool), vs = [.ref x, .int p, .int c, .bl b] ∧ b = true ∧ H x = some (.ins (CP K) dx []) ∧ ∀ H', But x H H' → H' x = some (.ins (CP K) dx (pF p c p c 0)) → Q .non H'
theorem ok_Portion_init (T : Txt K mg) : IDefK P w K mg base 1 "Portion" ["self", "promise", "ceiling", "at_once"] 2 ["at_once"] (spPor K) := by
  have c := clP T
  obtain ⟨fd, F⟩ := T.i_Portion
  refine IDefK.mk (n := 2) (ks := ["at_once"]) F sc_Portion_init (fun _ _ _ _ _ _ us ws hl hm => match us, ws, hl, hm with | [_, _, _], [_], _, _ => rfl) (fun vs H Q E h => ?_) (fun A outer s H vs Q E hr h => ?_)
  · obtain ⟨x, dx, p, c, b, rfl, _⟩ := h
    rfl
  · obtain ⟨x, dx, p, q, b, rfl, rfl, hx, hq⟩ := h
    refine ⟨_, (pss_cons (ps_fld (pv 0) (pv 1) rfl)
      (pss_cons (ps_fld (pv 0) (pv 2) rfl)
      (pss_cons (ps_fld (pv 0) (pe_ifExp (pt_val (pv 3)) (pv 1) pe_int) rfl)
      (pss_cons (ps_fld (pv 0) (pv 2) rfl)
      (pss_one (ps_fld (pv 0) pe_int rfl)))))), ?_⟩
    refine ⟨_, rfl, _, rfl, x, _, dx, _, rfl, hx, c, T.n_Portion_told_promise, (Nat.le_of_ble_eq_true rfl), ?_⟩
    refine ⟨_, rfl, _, rfl, x, _, dx, _, rfl, upd_same, c, T.n_Portion_told_ceiling, (Nat.le_of_ble_eq_true rfl), ?_⟩
    refine ⟨_, rfl, _, rfl, iteT ⟨_, rfl, _, rfl, x, _, dx, _, rfl, upd_same, c, T.n_Portion_now_promise, (Nat.le_of_ble_eq_true rfl), ?_⟩⟩
    refine ⟨_, rfl, _, rfl, x, _, dx, _, rfl, upd_same, c, T.n_Portion_now_ceiling, (Nat.le_of_ble_eq_true rfl), ?_⟩
    refine ⟨_, rfl, x, _, dx, _, rfl, upd_same, c, T.n_Portion_turns_used, (Nat.le_of_ble_eq_true rfl), ?_⟩
    exact hq _ ((((But.write.trans But.write).trans But.write).trans But.write).trans But.write) upd_same
/-! ### Portion.begin -/
theorem sc_Portion_begin : FnScope ["self"] ["self"] (defScope s_Portion_begin) := ⟨rfl, rfl, rfl, by decide +kernel, rfl, by decide +kernel, by decide +kernel⟩
def spBegin (K : PySem.W.Frag) : Sp := fun vs H Q _ => ∃ (x dx : Addr) (p c np nc u : Int), vs = [.ref x] ∧ H x = some (.ins (CP K) dx (pF p c np nc u)) ∧ ∀ H', But x H H' → H' x = some (.ins (CP K) dx (pF p c p c 0)) → Q .non H'
theorem ok_Portion_begin (T : Txt K mg) : MDef P w K mg base 1 "Portion" "begin" ["self"] [] (spBegin K) := by
  have c := clP T
  obtain ⟨fd, F⟩ := T.m_Portion_begin
  refine MDef.mk F sc_Portion_begin (fun _ _ _ _ _ _ us hl => match us, hl with | [_], _ => rfl) (fun vs H Q E h => ?_) (fun A outer s H vs Q E hr h => ?_)
  · obtain ⟨x, dx, p, c, np, nc, u, rfl, _⟩ := h
    rfl
  · obtain ⟨x, dx, p, q, np, nc, u, rfl, hx, hq⟩ := h
    refine ⟨_, (pss_cons (ps_asg (pe_tup (pa_cons (kpe_fld K rfl (pv 0) rfl) (pa_cons (kpe_fld K rfl (pv 0) rfl) pa_nil))) (kpg_tup K rfl (n := 2) rfl (pgs_cons (pg_fld (pv 0)) (pgs_cons (pg_fld (pv 0)) pgs_nil))))
      (pss_one (ps_fld (pv 0) pe_int rfl))), ?_⟩
    refine ⟨_, rfl, x, _, dx, _, _, rfl, hx, c, T.n_Portion_told_promise, rfl, _, rfl, x, _, dx, _, _, rfl, hx, c, T.n_Portion_told_ceiling, rfl, (show 2 ≤ sizeLine by decide), fun t ht => ?_⟩
    have ne : t ≠ x := ne_at hx ht
    refine ⟨t, _, rfl, SqT.of upd_same, rfl, _, _, rfl, _, rfl, x, _, dx, _, rfl, by rw [upd_ne (Ne.symm ne)]; exact hx, c, T.n_Portion_now_promise, (by show 5 < 1000; decide), ?_⟩
    refine ⟨_, _, rfl, _, rfl, x, _, dx, _, rfl, upd_same, c, T.n_Portion_now_ceiling, (by show 5 < 1000; decide), rfl, ?_⟩
    refine ⟨_, rfl, x, _, dx, _, rfl, upd_same, c, T.n_Portion_turns_used, (by show 5 < 1000; decide), ?_⟩
    exact hq _ ((((But.new ht).trans But.write).trans But.write).trans But.write) upd_same
/-! ### Shares.__init__ -/
theorem sc_Shares_init : FnScope ["self", "length"] ["self", "length"] (defScope s_Shares_init) := ⟨rfl, rfl, rfl, by decide +kernel, rfl, by decide +kernel, by decide +kernel⟩
def spShI (K : PySem.W.Frag) : Sp := fun vs H Q _ => ∃ (x dx : Addr) (len : Int), vs = [.ref x, .int len] ∧ 4 ≤ len ∧ len ≤ 60 ∧ H x = some (.ins (CS K) dx []) ∧ ∀ pd ad H', But x H H' → H pd = none → H ad = none → H' x = some (.ins (CS K) dx (sF len pd 0 ad)) → H' pd = some (.dK []) → H' ad = some (.lst []) → Q .non H'
theorem ok_Shares_init (T : Txt K mg) (G_need_length : Def P w K mg base 3 "need_length" ["length"] (spNeedLen K)) : IDef P w K mg base 4 "Shares" ["self", "length"] (spShI K) := by
  have c := clS T
  obtain ⟨fd, F⟩ := T.i_Shares
  refine IDef.mk F sc_Shares_init (fun _ _ _ _ _ _ us hl => match us, hl with | [_, _], _ => rfl) (fun vs H Q E h => ?_) (fun A outer s H vs Q E hr h => ?_)
  · obtain ⟨x, dx, len, rfl, _⟩ := h
    rfl
  · obtain ⟨x, dx, len, rfl, h4, h60, hx, hq⟩ := h
    have hw : (D.int len).whole 4 60 = true := by
      show (decide (4 ≤ len) && decide (len ≤ 60)) = true
      rw [decide_eq_true h4, decide_eq_true h60]
      rfl
    refine ⟨_, (pss_cons (ps_expr (pe_d G_need_length (hr.mono (by decide)) (by rfl) (pa_cons (pv 1) pa_nil)))
      (pss_cons (ps_fld (pv 0) (pv 1) rfl)
      (pss_cons (ps_fld (pv 0) pe_dnewK rfl)
      (pss_cons (ps_fld (pv 0) pe_int rfl)
      (pss_one (ps_fld (pv 0) (pe_lst pa_nil) rfl)))))), ?_⟩
    refine ⟨_, rfl, .int len, .int len, rfl, .int len, fun _ => ?_, fun q => absurd hw (by rw [q]; decide)⟩
    refine ⟨_, rfl, _, rfl, x, _, dx, _, rfl, hx, c, T.n_Shares_own_length, (Nat.le_of_ble_eq_true rfl), ?_⟩
    refine fun pd hpd => ?_
    have npd : pd ≠ x := ne_at upd_same hpd
    have hpd0 : H pd = none := by rw [upd_ne npd] at hpd; exact hpd
    refine ⟨_, rfl, x, _, dx, _, rfl, by rw [upd_ne (Ne.symm npd)]; exact upd_same, c, T.n_Shares_portions, (Nat.le_of_ble_eq_true rfl), ?_⟩
    refine ⟨_, rfl, x, _, dx, _, rfl, upd_same, c, T.n_Shares_turns_passed, (Nat.le_of_ble_eq_true rfl), ?_⟩
    refine ⟨Nat.zero_le _, fun ad had => ?_⟩
    have nad : ad ≠ x := ne_at upd_same had
    have nap : ad ≠ pd := fun q => by
      rw [q, upd_ne npd, upd_ne npd, upd_same] at had
      cases had
    have had0 : H ad = none := by
      rw [upd_ne nad, upd_ne nad, upd_ne nap, upd_ne nad] at had
      exact had
    refine ⟨_, rfl, x, _, dx, _, rfl, by rw [upd_ne (Ne.symm nad)]; exact upd_same, c, T.n_Shares_all_dealt, (Nat.le_of_ble_eq_true rfl), ?_⟩
    refine hq pd ad _ (((((But.write.trans (But.new hpd)).trans But.write).trans But.write).trans (But.new had)).trans But.write) hpd0 had0 upd_same ?_ ?_
    · rw [upd_ne npd, upd_ne (Ne.symm nap), upd_ne npd, upd_ne npd, upd_same]
    · rw [upd_ne nad, upd_same]
/-! ### need_share -/
theorem sc_need_share : FnScope ["length", "promise", "ceiling"] ["length", "promise", "ceiling"] (defScope s_need_share) := ⟨rfl, rfl, rfl, by decide +kernel, rfl, by decide +kernel, by decide +kernel⟩
def spNeedSh (K : PySem.W.Frag) : Sp := fun vs H Q _ => ∃ (len p c : Int), vs = [.int len, .int p, .int c] ∧ 0 ≤ p ∧ p ≤ len ∧ max 1 p ≤ c ∧ c ≤ len ∧ Q .non H
theorem ok_need_share (T : Txt K mg) (G_is_whole : Def P w K mg base 1 "is_whole" ["thing", "low", "high"] (spWhole K)) : Def P w K mg base 2 "need_share" ["length", "promise", "ceiling"] (spNeedSh K) := by
  obtain ⟨f, fd, F⟩ := T.a_need_share
  refine Def.mk F sc_need_share (fun _ _ _ _ _ _ us hl => match us, hl with | [_, _, _], _ => rfl) (fun vs H Q E h => ?_) (fun cdv A outer s H vs Q E hr h => ?_)
  · obtain ⟨len, p, c, rfl, _⟩ := h
    rfl
  · obtain ⟨len, p, c, rfl, h0, h1, h2, h3, hq⟩ := h
    have w1 : (D.int p).whole 0 len = true := by
      show (decide (0 ≤ p) && decide (p ≤ len)) = true
      rw [decide_eq_true h0, decide_eq_true h1]
      rfl
    have w2 : (D.int c).whole (if p > 1 then p else 1) len = true := by
      have e : (if p > 1 then p else 1) ≤ c := by split <;> omega
      show (decide ((if p > 1 then p else 1) ≤ c) && decide (c ≤ len)) = true
      rw [decide_eq_true e, decide_eq_true h3]
      rfl
    refine ⟨_, (pss_cons (ps_if (pt_not (pt_val (pe_d G_is_whole (hr.mono (by decide)) (by rfl) (pa_cons (pv 1) (pa_cons pe_int (pa_cons (pv 0) pa_nil)))))) (pss_one ps_never) pss_nil)
      (pss_one (ps_if (pt_not (pt_val (pe_d G_is_whole (hr.mono (by decide)) (by rfl) (pa_cons (pv 2) (pa_cons (pe_callB (call_max2 rfl) (by rfl) T.b_max (by decide +kernel) (pa_cons pe_int (pa_cons (pv 1) pa_nil))) (pa_cons (pv 0) pa_nil)))))) (pss_one ps_never) pss_nil))), ?_⟩
    refine ⟨_, rfl, _, rfl, .int p, .int p, 0, len, rfl, .int p, _, rfl, ?_⟩
    rw [w1]
    refine iteF ?_
    refine ⟨_, rfl, _, rfl, _, _, rfl, _, rfl, .int c, .int c, _, len, rfl, .int c, _, rfl, ?_⟩
    rw [w2]
    exact iteF hq
/-! ### Shares.need_guest -/
theorem sc_Shares_need_guest : FnScope ["self", "name"] ["self", "name"] (defScope s_Shares_need_guest) := ⟨rfl, rfl, rfl, by decide +kernel, rfl, by decide +kernel, by decide +kernel⟩
def spNeedG (K : PySem.W.Frag) : Sp := fun vs H Q _ => ∃ (s : Sha) (len l t : Int) (gs : List G3) (n : Nat) (u : Nat → Int) (i : Nat), vs = [.ref s.S, .str (nmAt gs i)] ∧ ShR K H s len t gs n u ∧ GsOk l gs ∧ n ≤ gs.length ∧ i < n ∧ Q .non H
theorem GsOk.nl {len : Int} {gs : List G3} (g : GsOk len gs) {i : Nat} (hi : i < gs.length) : (nmAt gs i).length ≤ sizeLine := by
  obtain ⟨p, c, e, _⟩ := nm_some hi
  have h := g.nm _ (List.mem_of_getElem? e)
  exact okName_line h
theorem ok_Shares_need_guest (T : Txt K mg) : MDef P w K mg base 1 "Shares" "need_guest" ["self", "name"] [] (spNeedG K) := by
  have c := clS T
  obtain ⟨fd, F⟩ := T.m_Shares_need_guest
  refine MDef.mk F sc_Shares_need_guest (fun _ _ _ _ _ _ us hl => match us, hl with | [_, _], _ => rfl) (fun vs H Q E h => ?_) (fun A outer s H vs Q E hr h => ?_)
  · obtain ⟨s, len, l, t, gs, n, u, i, rfl, _⟩ := h
    rfl
  · obtain ⟨s, len, l, t, gs, n, u, i, rfl, hS, ok, hn, hi, hq⟩ := h
    refine ⟨_, (pss_one (ps_if (PW.pt (pw_or (pt_not (pt_val (pe_callB (kcall_is K rfl) (by rfl) T.b_isinstance (by decide +kernel) (pa_cons (pv 1) (pa_cons (pe_bltn (v := .ty "str") (by rfl) T.b_str (by decide +kernel) rfl) pa_nil))))) (pw_or1 (pt_cmp (pc_dnotin (hu_of hr) (pv 1) (kpe_fld K rfl (pv 0) rfl)))))) (pss_one ps_never) pss_nil)), ?_⟩
    refine ⟨_, rfl, rd_isi (.str _ (ok.nl (by omega))) ⟨_, rfl, iteF ?_⟩⟩
    refine ⟨_, rfl, _, rfl, s.S, _, _, _, _, rfl, hS.hs, c, T.n_Shares_portions, rfl, s.pd, _, rfl, .inl ⟨portK gs n s.pa, .inr (nmAt gs i), hS.hd, rfl, (portK_at ok hn hi).symm⟩, _, rfl, ?_⟩
    exact hq
end
end K85

set_option Elab.async false
set_option linter.all false
set_option maxRecDepth 100000
set_option maxHeartbeats 1000000
namespace K85
open PySem PySem.Spec PyProof.Rows L2 RP LamX
theorem fm_ints (f : Nat → Int) (n : Nat) : ((List.range n).filterMap fun i => some (V.int (f i))) = ((List.range n).map f).map V.int := by
  rw [fm_some, List.map_map]
  rfl
section
variable {P : Program} {w : World} {K : PySem.W.Frag} {mg : Str → Option Value} {base : Heap}
/-! ### Shares.promised -/
theorem sc_Shares_promised : FnScope ["self", "portion"] ["self"] (defScope s_Shares_promised) := ⟨rfl, rfl, rfl, by decide +kernel, rfl, by decide +kernel, by decide +kernel⟩
def spPromd (K : PySem.W.Frag) : Sp := fun vs H Q _ => ∃ (s : Sha) (len t : Int) (gs : List G3) (n : Nat) (u : Nat → Int) (xs : List V), vs = [.ref s.S] ∧ ShS K H s len t gs n u xs ∧ n ≤ 6 ∧ ∀ H', Same H H' → Q (.int (sumP gs n)) H'
theorem portK_len (gs : List G3) (n : Nat) (pa : Nat → Addr) : (portK gs n pa).length = n := by
  unfold portK
  rw [List.length_map, List.length_range]
theorem portK_get {gs : List G3} {n : Nat} {pa : Nat → Addr} {i : Nat} (h : i < n) : (portK gs n pa)[i]? = some (.inr (nmAt gs i), .ref (pa i)) := by
  unfold portK
  rw [List.getElem?_map, List.getElem?_range h]
  rfl
theorem ok_Shares_promised (T : Txt K mg) : MDef P w K mg base 1 "Shares" "promised" ["self"] [] (spPromd K) := by
  have c := clS T
  have cp := clP T
  obtain ⟨fd, F⟩ := T.m_Shares_promised
  refine MDef.mk F sc_Shares_promised (fun _ _ _ _ _ _ us hl => match us, hl with | [_], _ => rfl) (fun vs H Q E h => ?_) (fun A outer s H vs Q E hr h => ?_)
  · obtain ⟨s, len, t, gs, n, u, xs, rfl, _⟩ := h
    rfl
  · obtain ⟨s, len, t, gs, n, u, xs, rfl, hS, hn, hq⟩ := h
    refine ⟨_, (pss_one (ps_ret (pe_callB (kcr_sum K rfl rfl) (by rfl) T.b_sum (by decide +kernel) (pa_cons (pe_lock (pe_lc (own := [("portion", 1)]) rfl sc_Shares_promised.nd (pi_values (kpe_fld K rfl (pv 0) rfl)) (blkOk_by (own := [("portion", 1)]) (N := ["self", "portion"]) (sc := defScope s_Shares_promised) (by decide +kernel)) (fun _ _ _ _ _ => (pg_name (i := 1) sc_Shares_promised.nd rfl (Or.inl rfl))) (fun _ _ _ _ _ => pts_nil) (fun _ _ _ _ _ => (kpe_fld K rfl (pv 1) rfl)))) pa_nil)))), ?_⟩
    refine ⟨s.pd, _, hS.hd, True.intro, fun od => ⟨_, rfl, s.S, _, _, _, _, rfl, (hS.r.lock hS.hd).hs, c, T.n_Shares_portions, rfl, s.pd, od, _, rfl, upd_same, fun L hL => ?_⟩⟩
    have R0 := hS.r.lock (od := od) hS.hd
    refine lc_vals (w := walk_values) (fun i => some (.int (pA gs i))) hL (by rw [portK_len]; omega) (fun H1 s1 => s1 _ _ upd_same) ?_ ?_
    · rintro i x H1 H2 Y2 N2 hi s1 hnL ⟨rfl, k, hk⟩ k3 k4
      rw [portK_len] at hi
      rw [portK_get hi] at hk
      cases hk
      exact ⟨rfl, _, rfl, s.pa i, _, _, _, _, rfl, (R0.same s1).hp i hi, cp, T.n_Portion_told_promise, rfl, k3 _ _ rfl (Same.refl _)⟩
    · intro H1 s1 h1
      rw [portK_len, fm_ints] at h1
      have hLa : L ≠ s.pd := fun e => by
        rw [e, upd_same] at hL
        cases hL
      refine ⟨s1 _ _ upd_same, L, (List.range n).map (pA gs), rfl, SqL.of (by rw [upd_ne hLa]; exact h1), ?_⟩
      exact hq _ (Same.unlock hS.hd s1)
/-! ### Shares.need_room_for -/
theorem sc_Shares_need_room_for : FnScope ["self", "promise", "but", "together"] ["self", "promise", "but"] (defScope s_Shares_need_room_for) := ⟨rfl, rfl, rfl, by decide +kernel, rfl, by decide +kernel, by decide +kernel⟩
def spRoom (K : PySem.W.Frag) : Sp := fun vs H Q _ => ∃ (s : Sha) (len t : Int) (gs : List G3) (n : Nat) (u : Nat → Int) (xs : List V) (q : Int), vs = [.ref s.S, .int q, .int 0] ∧ ShS K H s len t gs n u xs ∧ n ≤ 6 ∧ sumP gs n + q ≤ len ∧ ∀ H', Same H H' → Q .non H'
theorem ok_Shares_need_room_for (T : Txt K mg) (M_Shares_promised : MDef P w K mg base 1 "Shares" "promised" ["self"] [] (spPromd K)) : MDef P w K mg base 2 "Shares" "need_room_for" ["self", "promise", "but"] [.int 0] (spRoom K) := by
  have c := clS T
  obtain ⟨fd, F⟩ := T.m_Shares_need_room_for
  refine MDef.mkD F sc_Shares_need_room_for 2 (by simp) rfl (fun _ _ _ _ _ _ us ks hl hm => match us, ks, hl, hm with | [_, _], [_], _, _ => ⟨_, _, _, _, _, _, rfl, rfl, rfl⟩) (fun vs H Q E h => ?_) (fun A outer s H vs Q E hr h => ?_)
  · obtain ⟨s, len, t, gs, n, u, xs, q, rfl, _⟩ := h
    rfl
  · obtain ⟨s, len, t, gs, n, u, xs, q, rfl, hS, hn, hle, hq⟩ := h
    refine ⟨_, (pss_cons (ps_set (i := 3) sc_Shares_need_room_for.nd rfl (Or.inl rfl) (pe_op op_add (pe_op op_sub (pe_m0 (pv 0) M_Shares_promised (hr.mono (by decide))) (pv 2)) (pv 1)))
      (pss_one (ps_if (pt_cmpR op_gt (pv 3) (kpe_fld K rfl (pv 0) rfl) (nomark _)) (pss_one ps_never) pss_nil))), ?_⟩
    refine ⟨_, rfl, s.S, _, _, rfl, hS.hs, rfl, s, len, t, gs, n, u, xs, rfl, hS, hn, fun H1 s1 => ?_⟩
    refine ⟨_, rfl, _, _, rfl, rfl, _, rfl, _, _, rfl, rfl, ?_⟩
    refine ⟨_, rfl, _, rfl, s.S, _, _, _, _, rfl, s1 _ _ hS.hs, c, T.n_Shares_own_length, rfl, _, _, rfl, rfl, _, rfl, ?_⟩
    have e : ¬ (sumP gs n - 0 + q > len) := by omega
    show if decide (sumP gs n - 0 + q > len) = true then _ else _
    rw [decide_eq_false e]
    exact iteF (hq H1 s1)
/-! ### Shares.come -/
theorem sc_Shares_come : FnScope ["self", "name", "promise", "ceiling"] ["self", "name", "promise", "ceiling"] (defScope s_Shares_come) := ⟨rfl, rfl, rfl, by decide +kernel, rfl, by decide +kernel, by decide +kernel⟩
def spCome (K : PySem.W.Frag) : Sp := fun vs H Q _ => ∃ (s : Sha) (len : Int) (gs : List G3) (n : Nat) (xs : List V), vs = [.ref s.S, .str (nmAt gs n), .int (pA gs n), .int (cA gs n)] ∧ GsOk len gs ∧ n < gs.length ∧ ShS K H s len 0 gs n (fun _ => 0) xs ∧
  ∀ p dx H', H p = none → But s.pd H H' → ShS K H' ⟨s.S, s.dS, s.pd, s.ad, paPut s.pa n p, paPut s.dp n dx⟩ len 0 gs (n + 1) (fun _ => 0) xs → Q .non H'
theorem ok_Shares_come (T : Txt K mg) (G_is_name : Def P w K mg base 1 "is_name" ["thing"] (spName K)) (G_need_share : Def P w K mg base 2 "need_share" ["length", "promise", "ceiling"] (spNeedSh K))
    (M_Shares_need_room_for : MDef P w K mg base 2 "Shares" "need_room_for" ["self", "promise", "but"] [.int 0] (spRoom K)) (I_Portion : IDefK P w K mg base 1 "Portion" ["self", "promise", "ceiling", "at_once"] 2 ["at_once"] (spPor K)) :
    MDef P w K mg base 3 "Shares" "come" ["self", "name", "promise", "ceiling"] [] (spCome K) := by
  have c := clS T
  obtain ⟨fd, F⟩ := T.m_Shares_come
  refine MDef.mk F sc_Shares_come (fun _ _ _ _ _ _ us hl => match us, hl with | [_, _, _, _], _ => rfl) (fun vs H Q E h => ?_) (fun A outer s H vs Q E hr h => ?_)
  · obtain ⟨s, len, gs, n, xs, rfl, _⟩ := h
    rfl
  · obtain ⟨s, len, gs, n, xs, rfl, ok, hn, hS, hq⟩ := h
    have n6 := ok.n6
    have hsh := ok.at_sh hn
    have hnm : okName (nmAt gs n) = true := by
      obtain ⟨p, c, e, _⟩ := nm_some hn
      have := ok.nm _ (List.mem_of_getElem? e)
      exact this
    refine ⟨_, (pss_cons (ps_if (pt_not (pt_val (pe_d G_is_name (hr.mono (by decide)) (by rfl) (pa_cons (pv 1) pa_nil)))) (pss_one ps_never) pss_nil)
      (pss_cons (ps_expr (pe_d G_need_share (hr.mono (by decide)) (by rfl) (pa_cons (kpe_fld K rfl (pv 0) rfl) (pa_cons (pv 2) (pa_cons (pv 3) pa_nil)))))
      (pss_cons (ps_if (pt_cmp (pc_din (hu_of hr) (pv 1) (kpe_fld K rfl (pv 0) rfl))) (pss_one ps_never) pss_nil)
      (pss_cons (ps_if (pt_cmpR op_eq (pe_callB call_lenD (by rfl) T.b_len (by decide +kernel) (pa_cons (kpe_fld K rfl (pv 0) rfl) pa_nil)) (pe_gi (by rfl) T.c_MOST_GUESTS) (nomark _)) (pss_one ps_never) pss_nil)
      (pss_cons (ps_expr (pe_m (pv 0) M_Shares_need_room_for (hr.mono (by decide)) (pa_cons (pv 2) pa_nil)))
      (pss_one (ps_dput (hu_of hr) (kpe_fld K rfl (pv 0) rfl) (pv 1) (pe_iK I_Portion (hr.mono (by decide)) (by rfl) (pa_cons (pv 2) (pa_cons (pv 3) pa_nil)) (pk_cons (pe_cmpR op_eq (kpe_fld K rfl (pv 0) rfl) pe_int (nomark _)) pk_nil)) rfl))))))), ?_⟩
    refine ⟨_, rfl, .str (nmAt gs n), .str (nmAt gs n), rfl, .str _ (ok.nl hn), fun H1 s1 => ?_⟩
    rw [show (D.str (nmAt gs n)).name = true from hnm]
    have S1 := hS.ext s1.ext
    refine ⟨_, rfl, iteF ?_⟩
    refine ⟨_, rfl, s.S, _, _, _, _, rfl, S1.hs, c, T.n_Shares_own_length, rfl, _, rfl, _, rfl, len, pA gs n, cA gs n, rfl, by omega, by omega, by omega, by omega, ?_⟩
    refine ⟨_, rfl, _, rfl, s.S, _, _, _, _, rfl, S1.hs, c, T.n_Shares_portions, rfl, s.pd, _, rfl, .inl ⟨portK gs n s.pa, .inr (nmAt gs n), .inl S1.hd, rfl, (portK_none ok hn (Nat.le_refl n)).symm⟩, _, rfl, ?_⟩
    refine iteF ?_
    refine ⟨_, rfl, s.S, _, _, _, _, rfl, S1.hs, c, T.n_Shares_portions, rfl, s.pd, _, rfl, S1.hd, rfl, _, rfl, ?_⟩
    rw [portK_len]
    have e6 : ¬ (V.int (n : Nat) = V.int 6) := fun q => by
      injection q with q
      omega
    rw [decide_eq_false e6]
    refine iteF ?_
    have hs1 := sumP_le ok (gs.length - (n + 1)) (n + 1) (by omega)
    rw [sumP_succ] at hs1
    refine ⟨_, rfl, s.S, _, _, rfl, S1.hs, rfl, _, rfl, s, len, 0, gs, n, _, xs, _, rfl, S1, by omega, hs1, fun H2 s2 => ?_⟩
    have S2 := S1.ext s2.ext
    have s12 := s1.trans s2
    refine ⟨_, rfl, _, rfl, _, rfl, s.S, _, _, _, _, rfl, S2.hs, c, T.n_Shares_turns_passed, rfl, rfl, rfl, rfl, fun x dx nx ndx ne => ?_⟩
    refine ⟨x, dx, pA gs n, cA gs n, _, rfl, decide_eq_true rfl, upd_same, fun H3 b3 hx3 => ⟨rfl, ?_⟩⟩
    have s3 : Same H2 H3 := fun a o h => by
      have nax : a ≠ x := ne_of_none h nx
      have nad : a ≠ dx := ne_of_none h ndx
      refine b3 a o nax ?_
      rw [upd_ne nax, upd_ne nad]
      exact h
    have S3 := S2.ext s3.ext
    have nHx : H x = none := s12.free nx
    refine ⟨_, rfl, s.S, _, _, _, _, rfl, S3.hs, c, T.n_Shares_portions, rfl, _, rfl, s.pd, _, rfl, DPut.k (k := .inr (nmAt gs n)) S3.hd ?_, ?_⟩
    · rw [portK_len]
      have : 100 < sizeLine := by decide
      omega
    rw [portK_put ok hn]
    have nins : ∀ {a : Addr} {C dx : Addr} {fs : List (Str × V)}, H3 a = some (.ins C dx fs) → a ≠ s.pd := fun e q => by
      rw [q, S3.hd] at e
      cases e
    have nxp : ∀ i, i < n → s.pa i ≠ x := fun i hi q => by
      have := hS.hp i hi
      rw [q, nHx] at this
      cases this
    refine hq x dx _ nHx ((But.of (s12.trans s3)).trans But.write) ⟨?_, upd_same, fun i hi => ?_, ?_, fun i k hi hk e => ?_⟩
    · show upd H3 s.pd _ s.S = _
      rw [upd_ne (nins S3.hs)]
      exact S3.hs
    · show upd H3 s.pd _ (paPut s.pa n x i) = some (.ins _ (paPut s.dp n dx i) _)
      unfold paPut
      by_cases q : i = n
      · subst q
        rw [if_pos rfl, if_pos rfl, upd_ne (nins hx3)]
        exact hx3
      · rw [if_neg q, if_neg q, upd_ne (nins (S3.hp i (by omega)))]
        exact S3.hp i (by omega)
    · show upd H3 s.pd _ s.ad = _
      have : s.ad ≠ s.pd := fun q => by
        have := S3.ha
        rw [q, S3.hd] at this
        cases this
      rw [upd_ne this]
      exact S3.ha
    · have e : paPut s.pa n x i = paPut s.pa n x k := e
      unfold paPut at e
      by_cases q : i = n
      · by_cases q2 : k = n
        · omega
        · rw [if_pos q, if_neg q2] at e
          exact absurd e.symm (nxp k (by omega))
      · by_cases q2 : k = n
        · rw [if_neg q, if_pos q2] at e
          exact absurd e (nxp i (by omega))
        · rw [if_neg q, if_neg q2] at e
          exact hS.inj i k (by omega) (by omega) e
end
end K85

set_option Elab.async false
set_option linter.all false
set_option maxRecDepth 100000
set_option maxHeartbeats 1000000
namespace K85
open PySem PySem.Spec PyProof.Rows L2 RP LamX
theorem ShS.bnd {len : Int} {gs : List G3} {u : Nat → Int} (ok : GsOk len gs) (hu : ∀ i, i < gs.length → 0 ≤ u i ∧ u i ≤ 60) {i : Nat} (hi : i < gs.length) : 0 ≤ pA gs i ∧ pA gs i ≤ 60 ∧ 0 ≤ u i ∧ u i ≤ 60 := by
  have h1 := ok.at_sh hi
  have h2 := hu i hi
  have := ok.len
  omega
section
variable {P : Program} {w : World} {K : PySem.W.Frag} {mg : Str → Option Value} {base : Heap}
/-! ### Shares.promised_one -/
theorem sc_Shares_promised_one : FnScope ["self", "ready", "best", "name", "portion", "kept"] ["self", "ready"] (defScope s_Shares_promised_one) := ⟨rfl, rfl, rfl, by decide +kernel, rfl, by decide +kernel, by decide +kernel⟩
def spP1 (K : PySem.W.Frag) : Sp := fun vs H Q _ => ∃ (s : Sha) (len t : Int) (gs : List G3) (u : Nat → Int) (xs : List V) (rl : Addr) (ys : List V) (rd : Nat → Bool), vs = [.ref s.S, .ref rl] ∧ GsOk len gs ∧ ShS K H s len t gs gs.length u xs ∧ (∀ i, i < gs.length → 0 ≤ u i ∧ u i ≤ 60) ∧
  H rl = some (.lst ys) ∧ ys.all flatV = true ∧ (∀ i, i < gs.length → inV (.str (nmAt gs i)) ys = rd i) ∧ ∀ o H', P1 gs u (firsts gs u rd) o → Same H H' → Q (nameV gs o) H'
theorem ok_Shares_promised_one (T : Txt K mg) : MDef P w K mg base 1 "Shares" "promised_one" ["self", "ready"] [] (spP1 K) := by
  have c := clS T
  have cp := clP T
  obtain ⟨fd, F⟩ := T.m_Shares_promised_one
  refine MDef.mk F sc_Shares_promised_one (fun _ _ _ _ _ _ us hl => match us, hl with | [_, _], _ => rfl) (fun vs H Q E h => ?_) (fun A outer s H vs Q E hr h => ?_)
  · obtain ⟨s, len, t, gs, u, xs, rl, ys, rd, rfl, _⟩ := h
    rfl
  · obtain ⟨s, len, tt, gs, u, xs, rl, ys, rd, rfl, ok, hS, hu, hrl, hfl, hin, hq⟩ := h
    have hlen := ok.len
    refine ⟨_, (pss_cons (ps_set (i := 2) sc_Shares_promised_one.nd rfl (Or.inl rfl) pe_non)
      (pss_cons (ps_lock (ps_for (passes_of rfl) rfl (pi_items (kpe_fld K rfl (pv 0) rfl)) (kpg_tup K rfl (n := 2) rfl (pgs_cons (pg_name (i := 3) sc_Shares_promised_one.nd rfl (Or.inl rfl)) (pgs_cons (pg_name (i := 4) sc_Shares_promised_one.nd rfl (Or.inl rfl)) pgs_nil)))
        (pss_one (ps_if (PW.pt (pw_and (pt_cmpR (kop_in_seq K rfl) (pv 3) (pv 1) (by rfl)) (pw_and1 (pt_cmpR op_lt (kpe_fld K rfl (pv 4) rfl) (kpe_fld K rfl (pv 4) rfl) (nomark _))))) (pss_cons (ps_set (i := 5) sc_Shares_promised_one.nd rfl (Or.inl rfl) (pe_dget (hu_of hr) (kpe_fld K rfl (pv 0) rfl) (pe_ifExp (pt_cmpR op_isN (pv 2) pe_non (nomark _)) (pv 3) (pv 2)) (fun _ _ => rfl)))
      (pss_one (ps_if (PW.pt (pw_or (pt_cmpR op_isN (pv 2) pe_non (nomark _)) (pw_or1 (pt_cmpR op_lt (pe_op op_mulW (kpe_fld K rfl (pv 4) rfl) (kpe_fld K rfl (pv 5) rfl)) (pe_op op_mulW (kpe_fld K rfl (pv 5) rfl) (kpe_fld K rfl (pv 4) rfl)) (nomark _))))) (pss_one (ps_set (i := 2) sc_Shares_promised_one.nd rfl (Or.inl rfl) (pv 3))) pss_nil))) pss_nil))))
      (pss_one (ps_ret (pv 2))))), ?_⟩
    refine ⟨s.pd, _, hS.hd, True.intro, fun od => ?_⟩
    have R0 := hS.r.lock (od := od) hS.hd
    have lq0 : Lq H (upd H s.pd (.frz od (.dK (portK gs gs.length s.pa)))) := (Lq.refl H).lock hS.hd True.intro
    refine ⟨_, rfl, s.S, _, _, _, _, rfl, R0.hs, c, T.n_Shares_portions, rfl, s.pd, od, _, rfl, upd_same, ?_⟩
    refine for_it (w := walk_items) (fun t σ H' => ∃ (b : Option Nat) (o3 o4 o5 : Option V), σ = [some (.ref s.S), some (.ref rl), some (nameV gs b), o3, o4, o5] ∧ P1t gs u rd t b ∧ Same (upd H s.pd (.frz od (.dK (portK gs gs.length s.pa)))) H')
      ⟨none, none, none, none, rfl, P1t.zero, Same.refl _⟩ (fun t σ H' _ ⟨_, _, _, _, _, _, s⟩ => s _ _ upd_same) ?_ ?_
    · rintro i x σ H1 H2 hi ⟨b, o3, o4, o5, rfl, hb, s1⟩ ⟨t, kx, vx, rfl, ht, rfl, hkx, hvx⟩
      rw [portK_len] at hi
      obtain ⟨ky, hky, rfl⟩ := Option.map_eq_some_iff.mp hkx
      obtain ⟨kz, hkz, rfl⟩ := Option.map_eq_some_iff.mp hvx
      rw [portK_get hi] at hky hkz
      cases hky
      cases hkz
      have s2 : Same (upd H s.pd (.frz od (.dK (portK gs gs.length s.pa)))) (upd H1 t (.tup [kV (.inr (nmAt gs i)), .ref (s.pa i)])) := s1.trans (same_new ht)
      have ht2 : upd H1 t (.tup [kV (.inr (nmAt gs i)), .ref (s.pa i)]) t = some (.tup [.str (nmAt gs i), .ref (s.pa i)]) := upd_same
      refine ⟨t, [.str (nmAt gs i), .ref (s.pa i)], rfl, SqT.of ht2, rfl, _, _, rfl, _, _, rfl, rfl, ?_⟩
      have R2 := R0.same s2
      have hr2 : SqL K (upd H1 t (.tup [kV (.inr (nmAt gs i)), .ref (s.pa i)])) rl ys := (Lq.of s2).seq (lq0.seq (SqL.of hrl))
      generalize upd H1 t (.tup [kV (.inr (nmAt gs i)), .ref (s.pa i)]) = H2 at s2 R2 hr2 ht2 ⊢
      have bi := ShS.bnd ok hu hi
      refine ⟨_, rfl, _, rfl, rl, ys, rfl, .inl hr2, rfl, hfl, _, rfl, ?_⟩
      show if inV (V.str (nmAt gs i)) ys = true then _ else _
      rw [hin i hi]
      refine ite_dec (fun cr => ?_) (fun cr => ?_)
      · refine ⟨_, rfl, s.pa i, _, _, _, _, rfl, R2.hp i hi, cp, T.n_Portion_turns_used, rfl, _, rfl, s.pa i, _, _, _, _, rfl, R2.hp i hi, cp, T.n_Portion_now_promise, rfl, _, _, rfl, rfl, _, rfl, ?_⟩
        refine ite_dec (fun cc => ?_) (fun cc => ?_)
        · have c1 := fstB_yes (of_decide_eq_true cc) cr
          cases b with
          | none =>
            refine ⟨_, rfl, s.S, _, _, _, _, rfl, R2.hs, c, T.n_Shares_portions, rfl, _, rfl, rfl, _, rfl, iteT ⟨_, rfl, s.pd, _, rfl, .inl ⟨portK gs gs.length s.pa, .inr (nmAt gs i), R2.hd, rfl, (portK_at ok (Nat.le_refl _) hi).symm⟩, ?_⟩⟩
            refine ⟨_, rfl, rfl, _, rfl, iteT ⟨_, rfl, some i, _, _, _, rfl, hb.first c1, s2⟩⟩
          | some b =>
            have hbl : b < gs.length := by have := hb.mem; omega
            have bb := ShS.bnd ok hu hbl
            refine ⟨_, rfl, s.S, _, _, _, _, rfl, R2.hs, c, T.n_Shares_portions, rfl, _, rfl, rfl, _, rfl, iteF ⟨_, rfl, s.pd, _, rfl, .inl ⟨portK gs gs.length s.pa, .inr (nmAt gs b), R2.hd, rfl, (portK_at ok (Nat.le_refl _) hbl).symm⟩, ?_⟩⟩
            refine ⟨_, rfl, rfl, _, rfl, iteF ?_⟩
            refine ⟨_, rfl, s.pa i, _, _, _, _, rfl, R2.hp i hi, cp, T.n_Portion_turns_used, rfl, _, rfl, s.pa b, _, _, _, _, rfl, R2.hp b hbl, cp, T.n_Portion_now_promise, rfl, _, _, rfl, rfl, wmul (by omega) (by omega), ?_⟩
            refine ⟨_, rfl, s.pa b, _, _, _, _, rfl, R2.hp b hbl, cp, T.n_Portion_turns_used, rfl, _, rfl, s.pa i, _, _, _, _, rfl, R2.hp i hi, cp, T.n_Portion_now_promise, rfl, _, _, rfl, rfl, wmul (by omega) (by omega), ?_⟩
            refine ⟨_, _, rfl, rfl, _, rfl, ?_⟩
            refine ite_dec (fun cc => ?_) (fun cc => ?_)
            · exact ⟨_, rfl, some i, _, _, _, rfl, hb.new c1 (fun k hk => (hu k (by omega)).1) (of_decide_eq_true cc), s2⟩
            · exact ⟨some b, _, _, _, rfl, hb.keep c1 (of_decide_eq_false cc), s2⟩
        · exact ⟨b, _, _, _, rfl, hb.skip (fstB_no1 (of_decide_eq_false cc)), s2⟩
      · exact ⟨b, _, _, _, rfl, hb.skip (fstB_no2 cr), s2⟩
    · rintro σ H1 ⟨b, o3, o4, o5, rfl, hb, s1⟩
      rw [portK_len] at hb
      exact ⟨s1 _ _ upd_same, _, rfl, hq b _ hb.end (Same.unlock hS.hd s1)⟩
/-! ### Shares.free_one -/
theorem sc_Shares_free_one : FnScope ["self", "ready", "below", "name"] ["self", "ready"] (defScope s_Shares_free_one) := ⟨rfl, rfl, rfl, by decide +kernel, rfl, by decide +kernel, by decide +kernel⟩
def spF1 (K : PySem.W.Frag) : Sp := fun vs H Q _ => ∃ (s : Sha) (len t : Int) (gs : List G3) (u : Nat → Int) (xs : List V) (rl : Addr) (ys : List V) (rd : Nat → Bool), vs = [.ref s.S, .ref rl] ∧ GsOk len gs ∧ ShS K H s len t gs gs.length u xs ∧ (∀ i, i < gs.length → 0 ≤ u i ∧ u i ≤ 60) ∧
  H rl = some (.lst ys) ∧ ys.all flatV = true ∧ (∀ i, i < gs.length → inV (.str (nmAt gs i)) ys = rd i) ∧ P1 gs u (firsts gs u rd) none ∧ Tabs (TT K) H ∧ ∀ o H', DealR gs u rd o → ExtN H H' → Tabs (TT K) H' → Q (nameV gs o) H'
theorem ok_Shares_free_one (T : Txt K mg) (TB : TabB base mg (He.cT K ("Shares", some "free_one")).1 (He.cT K ("Shares", some "free_one")).2) (hTu : ∀ p ∈ TT K, p.1 = (He.cT K ("Shares", some "free_one")).2 → p.2 = qF) : MDef P w K mg base 3 "Shares" "free_one" ["self", "ready"] [] (spF1 K) := by
  have hTm : ((He.cT K ("Shares", some "free_one")).2, qF) ∈ TT K := List.mem_cons_of_mem _ List.mem_cons_self
  have c := clS T
  have cp := clP T
  obtain ⟨fd, F⟩ := T.m_Shares_free_one
  refine MDef.mk F sc_Shares_free_one (fun _ _ _ _ _ _ us hl => match us, hl with | [_, _], _ => rfl) (fun vs H Q E h => ?_) (fun A outer s H vs Q E hr h => ?_)
  · obtain ⟨s, len, t, gs, u, xs, rl, ys, rd, rfl, _⟩ := h
    rfl
  · obtain ⟨s, len, tt, gs, u, xs, rl, ys, rd, rfl, ok, hS, hu, hrl, hfl, hin, hp0, hT, hq⟩ := h
    have hlen := ok.len
    have n6 := ok.n6
    refine ⟨_, (pss_cons (ps_lock (ps_setLc (i := 2) (own := [("name", 3)]) rfl sc_Shares_free_one.nd rfl rfl (sw_true rfl rfl rfl (by decide +kernel)) (pi_keys (kpe_fld K rfl (pv 0) rfl)) (blkOk_by (own := [("name", 3)]) (N := ["self", "ready", "below", "name"]) (sc := defScope s_Shares_free_one) (by decide +kernel)) (fun _ _ _ _ _ => (pg_name (i := 3) sc_Shares_free_one.nd rfl (Or.inl rfl))) (fun _ _ _ _ _ => (pts_one (pt_cmpR (kop_in_seq K rfl) (pv 3) (pv 1) (by rfl)))) (fun _ _ _ _ _ => (pv 3))))
      (pss_cons (ps_setLc (i := 2) (own := [("name", 3)]) rfl sc_Shares_free_one.nd rfl rfl (sw_true rfl rfl rfl (by decide +kernel)) (kpi_list K rfl (pv 2)) (blkOk_by (own := [("name", 3)]) (N := ["self", "ready", "below", "name"]) (sc := defScope s_Shares_free_one) (by decide +kernel)) (fun _ _ _ _ _ => (pg_name (i := 3) sc_Shares_free_one.nd rfl (Or.inl rfl))) (fun _ _ _ _ _ => (pts_one (pt_cmpR op_lt (kpe_fld K rfl (pe_dget (hu_of hr) (kpe_fld K rfl (pv 0) rfl) (pv 3) (fun _ _ => rfl)) rfl) (kpe_fld K rfl (pe_dget (hu_of hr) (kpe_fld K rfl (pv 0) rfl) (pv 3) (fun _ _ => rfl)) rfl) (nomark _)))) (fun _ _ _ _ _ => (pv 3)))
      (pss_one (ps_ret (LK.pe_minLam (k := 0) (i := 3) rfl (by rfl) T.b_min (pv 2) rfl TB hTm hTu (LK.lamS1_by (sc := defScope s_Shares_free_one) (by decide +kernel)) rfl sc_Shares_free_one.nd (hr.mono (by decide)) rfl (fun _ _ _ _ _ _ => rfl) (fun _ _ _ _ _ _ _ hr => (kpe_fld K rfl (pe_dget (hu_of hr) (kpe_fld K rfl (pv 0) rfl) (pv 3) (fun _ _ => rfl)) rfl))))))), ?_⟩
    refine ⟨s.pd, _, hS.hd, True.intro, fun od => ?_⟩
    have R0 := hS.r.lock (od := od) hS.hd
    have lq0 : Lq H (upd H s.pd (.frz od (.dK (portK gs gs.length s.pa)))) := (Lq.refl H).lock hS.hd True.intro
    refine ⟨_, rfl, s.S, _, _, _, _, rfl, R0.hs, c, T.n_Shares_portions, rfl, s.pd, od, rfl, .inl ⟨_, upd_same, fun L hL => ?_⟩⟩
    refine lc_vals (w := walk_keys) (fun i => if rd i = true then some (.str (nmAt gs i)) else none) hL (by rw [portK_len]; omega) (fun H1 s1 => s1 _ _ upd_same) ?_ ?_
    · rintro i x H1 H2 Y2 N2 hi s1 hnL ⟨rfl, k, v, hkv, rfl⟩ k3 k4
      rw [portK_len] at hi
      rw [portK_get hi] at hkv
      cases hkv
      have hr2 : SqL K H2 rl ys := (Lq.of s1).seq (lq0.seq (SqL.of hrl))
      refine ⟨rfl, ⟨_, rfl, _, rfl, rl, ys, rfl, .inl hr2, rfl, hfl, _, rfl, ?_⟩⟩
      show if inV (V.str (nmAt gs i)) ys = true then _ else _
      rw [hin i hi]
      refine ite_dec (fun cr => ?_) (fun cr => ?_)
      · exact ⟨_, rfl, k3 _ _ (if_pos cr) (Same.refl _)⟩
      · exact k4 _ (if_neg (by rw [cr]; exact fun z => nomatch z)) (Same.refl _)
    · intro H1 s1 h1
      rw [fm_ifT, portK_len] at h1
      change H1 L = some (.lst ((readyL gs rd).map fun i => V.str (nmAt gs i))) at h1
      have hLa : L ≠ s.pd := fun e => by
        rw [e, upd_same] at hL
        cases hL
      refine ⟨s1 _ _ upd_same, ?_⟩
      have su : Same H (upd H1 s.pd (.dK (portK gs gs.length s.pa))) := Same.unlock hS.hd s1
      have hLu : upd H1 s.pd (.dK (portK gs gs.length s.pa)) L = some (.lst ((readyL gs rd).map fun i => V.str (nmAt gs i))) := by rw [upd_ne hLa]; exact h1
      generalize upd H1 s.pd (.dK (portK gs gs.length s.pa)) = Hu at su hLu ⊢
      have at_names : ∀ {i : Nat} {x : V}, ((readyL gs rd).map fun i => V.str (nmAt gs i))[i]? = some x → ∃ y, (readyL gs rd)[i]? = some y ∧ (y < gs.length ∧ rd y = true) ∧ x = .str (nmAt gs y) := fun {i x} h => by
        rw [List.getElem?_map] at h
        obtain ⟨y, hy, rfl⟩ := Option.map_eq_some_iff.mp h
        exact ⟨y, hy, readyL_mem.mp (List.mem_of_getElem? hy), rfl⟩
      have hrl2 := readyL_len gs rd
      refine ⟨_, rfl, L, rfl, ⟨_, SqL.of hLu⟩, fun M hM => ?_⟩
      refine lc_vals (w := walk_list) (fun t => if decide (u ((readyL gs rd).getD t 0) < cA gs ((readyL gs rd).getD t 0)) = true then some (.str (nmAt gs ((readyL gs rd).getD t 0))) else none) hM (by rw [List.length_map]; omega) (fun H2 s2 => SqL.of (s2 _ _ hLu)) ?_ ?_
      · rintro i x H2 H3 Y2 N2 hi s2 hnL ⟨rfl, hx⟩ k3 k4
        obtain ⟨y, hy, ⟨hi2, _⟩, rfl⟩ := at_names hx
        have ey : (readyL gs rd).getD i 0 = y := by rw [List.getD_eq_getElem?_getD, hy]; rfl
        rw [ey] at k3 k4
        have R2 := hS.r.same (su.trans s2)
        refine ⟨rfl, ⟨_, rfl, s.S, _, _, _, _, rfl, R2.hs, c, T.n_Shares_portions, rfl, _, rfl, s.pd, _, rfl, .inl ⟨portK gs gs.length s.pa, .inr (nmAt gs y), R2.hd, rfl, (portK_at ok (Nat.le_refl _) hi2).symm⟩, s.pa y, _, _, _, _, rfl, R2.hp y hi2, cp, T.n_Portion_turns_used, rfl,
          _, rfl, s.S, _, _, _, _, rfl, R2.hs, c, T.n_Shares_portions, rfl, _, rfl, s.pd, _, rfl, .inl ⟨portK gs gs.length s.pa, .inr (nmAt gs y), R2.hd, rfl, (portK_at ok (Nat.le_refl _) hi2).symm⟩, s.pa y, _, _, _, _, rfl, R2.hp y hi2, cp, T.n_Portion_now_ceiling, rfl, _, _, rfl, rfl, _, rfl, ?_⟩⟩
        refine ite_dec (fun cc => ?_) (fun cc => ?_)
        · exact ⟨_, rfl, k3 _ _ (if_pos cc) (Same.refl _)⟩
        · exact k4 _ (if_neg (by rw [cc]; exact fun z => nomatch z)) (Same.refl _)
      · intro H2 s2 h2
        rw [List.length_map, fm_getD (readyL gs rd) (fun i => if decide (u i < cA gs i) = true then some (V.str (nmAt gs i)) else none), fm_ifT (fun i => decide (u i < cA gs i)) (fun i => V.str (nmAt gs i))] at h2
        change H2 M = some (.lst ((belowR gs u rd).map fun i => V.str (nmAt gs i))) at h2
        have s12 := su.trans s2
        refine ⟨_, rfl, tabs_same hT s12, M, (belowR gs u rd).map fun i => V.str (nmAt gs i), (belowR gs u rd).map u, rfl, SqL.of h2, by rw [List.length_map, List.length_map], fun H4 e4 t4 => ⟨fun j x kk hx hkk => ?_, fun h0 => ?_, fun m x kk hx hkk hm => ?_⟩⟩
        · rw [List.getElem?_map] at hx hkk
          obtain ⟨i, hi, rfl⟩ := Option.map_eq_some_iff.mp hx
          rw [hi] at hkk
          cases hkk
          have hig := (belowR_mem.mp (List.mem_of_getElem? hi)).1.1
          have R4 := ((hS.ext s12.ext).ext e4).r
          exact ⟨_, rfl, s.S, _, _, _, _, rfl, R4.hs, c, T.n_Shares_portions, rfl, _, rfl, s.pd, _, rfl, .inl ⟨portK gs gs.length s.pa, .inr (nmAt gs i), R4.hd, rfl, (portK_at ok (Nat.le_refl _) hig).symm⟩, s.pa i, _, _, _, _, rfl, R4.hp i hig, cp, T.n_Portion_turns_used, rfl, rfl, rfl⟩
        · have hnil : belowR gs u rd = [] := by
            cases hbl : belowR gs u rd with
            | nil => rfl
            | cons x l => rw [hbl] at h0; cases h0
          exact hq none H4 (dealR_nil hnil) (s12.ext.trans e4) t4
        · rw [List.getElem?_map] at hx hkk
          obtain ⟨i, hi, rfl⟩ := Option.map_eq_some_iff.mp hx
          rw [hi] at hkk
          cases hkk
          refine hq (some i) H4 (dealR_min hp0 hi fun k z hz => ?_) (s12.ext.trans e4) t4
          exact hm k (u z) (by rw [List.getElem?_map, hz]; rfl)
end
end K85

set_option Elab.async false
set_option linter.all false
set_option maxRecDepth 100000
set_option maxHeartbeats 1000000
namespace RP
open PySem PySem.Spec PyProof.Rows L2 LamX
/-- all but what is owned, and the tables, stays -/
def Fr (own : Addr → Prop) (H H' : Hp) : Prop := ∀ a o, ¬ own a → (∀ ps, o ≠ .tbl ps) → H a = some o → H' a = some o
theorem Fr.refl (own : Addr → Prop) (H : Hp) : Fr own H H := fun _ _ _ _ h => h
theorem Fr.trans {own : Addr → Prop} {A B C : Hp} (h : Fr own A B) (k : Fr own B C) : Fr own A C := fun a o n t e => k a o n t (h a o n t e)
theorem Fr.ext {own : Addr → Prop} {H H' : Hp} (e : ExtN H H') : Fr own H H' := fun a o _ t h => e a o h t
theorem Fr.but {own : Addr → Prop} {H H' : Hp} {b : Addr} (k : But b H H') (o : own b) : Fr own H H' := fun a u n _ h => k a u (fun q => n (by rw [q]; exact o)) h
theorem Fr.put {own : Addr → Prop} {H : Hp} {b : Addr} {u : HO} (o : own b) : Fr own H (upd H b u) := Fr.but But.write o
theorem Fr.same {own : Addr → Prop} {R H H' : Hp} (k : Fr own H H') (n : Nt R) (o : ∀ a, own a → R a = none) (s : Same R H) : Same R H' := fun a u e => k a u (fun q => by rw [o a q] at e; cases e) (n a u e) (s a u e)
theorem reps_strs {K : PySem.W.Frag} {H : Hp} : ∀ {ns : List Str}, (∀ z ∈ ns, z.length ≤ sizeLine) → Reps K H (ns.map V.str) (ns.map D.str)
  | [], _ => .nil
  | z :: ns, h => .cons (.str z (h z List.mem_cons_self)) (reps_strs fun y hy => h y (List.mem_cons_of_mem _ hy))
end RP
namespace K85
open PySem PySem.Spec PyProof.Rows L2 RP LamX
/-- what a Shares owns -/
def own (s : Sha) (n : Nat) (a : Addr) : Prop := a = s.S ∨ a = s.ad ∨ a = s.pd ∨ ∃ i, i < n ∧ a = s.pa i
section
variable {K : PySem.W.Frag} {H : Hp} {s : Sha} {len t : Int} {gs : List G3} {n : Nat} {u : Nat → Int} {xs : List V}
theorem pF_ne_sF {C C' dx dx' : Addr} {p c np nc v len t : Int} {pd ad : Addr} : (HO.ins C dx (pF p c np nc v)) ≠ .ins C' dx' (sF len pd t ad) := fun q => by
  injection q with _ _ q
  exact absurd (congrArg List.length q) (by show ¬ (5 = 4); decide)
theorem ShS.nes (h : ShS K H s len t gs n u xs) {i : Nat} (hi : i < n) : s.pa i ≠ s.S ∧ s.pa i ≠ s.pd ∧ s.pa i ≠ s.ad := by
  refine ⟨fun q => ?_, fun q => ?_, fun q => ?_⟩
  · have e := h.hp i hi
    rw [q, h.hs] at e
    exact pF_ne_sF (Option.some.inj e).symm
  · have e := h.hp i hi
    rw [q, h.hd] at e
    cases e
  · have e := h.hp i hi
    rw [q, h.ha] at e
    cases e
theorem ShS.ned (h : ShS K H s len t gs n u xs) : s.S ≠ s.pd ∧ s.S ≠ s.ad ∧ s.ad ≠ s.pd := by
  refine ⟨fun q => ?_, fun q => ?_, fun q => ?_⟩
  · have e := h.hs
    rw [q, h.hd] at e
    cases e
  · have e := h.hs
    rw [q, h.ha] at e
    cases e
  · have e := h.ha
    rw [q, h.hd] at e
    cases e
theorem ShS.putU (h : ShS K H s len t gs n u xs) {b : Nat} (hb : b < n) : ShS K (upd H (s.pa b) (.ins (CP K) (s.dp b) (pF (pA gs b) (cA gs b) (pA gs b) (cA gs b) (u b + 1)))) s len t gs n (addAt u b) xs := by
  obtain ⟨n1, n2, n3⟩ := h.nes hb
  refine ⟨by rw [upd_ne (Ne.symm n1)]; exact h.hs, by rw [upd_ne (Ne.symm n2)]; exact h.hd, fun i hi => ?_, by rw [upd_ne (Ne.symm n3)]; exact h.ha, h.inj⟩
  by_cases q : i = b
  · subst q
    rw [upd_same]
    unfold addAt
    rw [if_pos rfl]
  · rw [upd_ne (fun e => q (h.inj i b hi hb e)), h.hp i hi]
    unfold addAt
    rw [if_neg q]
theorem ShS.putX (h : ShS K H s len t gs n u xs) (ys : List V) : ShS K (upd H s.ad (.lst ys)) s len t gs n u ys := by
  obtain ⟨n1, n2, n3⟩ := h.ned
  exact ⟨by rw [upd_ne n2]; exact h.hs, by rw [upd_ne (Ne.symm n3)]; exact h.hd, fun i hi => by rw [upd_ne (h.nes hi).2.2]; exact h.hp i hi, upd_same, h.inj⟩
theorem ShS.putT (h : ShS K H s len t gs n u xs) (t' : Int) : ShS K (upd H s.S (.ins (CS K) s.dS (sF len s.pd t' s.ad))) s len t' gs n u xs := by
  obtain ⟨n1, n2, n3⟩ := h.ned
  exact ⟨upd_same, by rw [upd_ne (Ne.symm n1)]; exact h.hd, fun i hi => by rw [upd_ne (h.nes hi).1]; exact h.hp i hi, by rw [upd_ne (Ne.symm n2)]; exact h.ha, h.inj⟩
end
section
variable {P : Program} {w : World} {K : PySem.W.Frag} {mg : Str → Option Value} {base : Heap}
/-! ### Shares.deal -/
theorem sc_Shares_deal : FnScope ["self", "ready", "name", "portion"] ["self", "ready"] (defScope s_Shares_deal) := ⟨rfl, rfl, rfl, by decide +kernel, rfl, by decide +kernel, by decide +kernel⟩
def spShDeal (K : PySem.W.Frag) : Sp := fun vs H Q _ => ∃ (s : Sha) (len t : Int) (gs : List G3) (u : Nat → Int) (xs : List V) (rl : Addr) (ns : List Str) (rd : Nat → Bool), vs = [.ref s.S, .ref rl] ∧ GsOk len gs ∧ ShS K H s len t gs gs.length u xs ∧ (∀ i, i < gs.length → 0 ≤ u i ∧ u i ≤ cA gs i) ∧ xs.length ≤ 1000 ∧
  H rl = some (.lst (ns.map V.str)) ∧ (∀ z ∈ ns, ∃ i, i < gs.length ∧ z = nmAt gs i) ∧ (∀ i, i < gs.length → inV (.str (nmAt gs i)) (ns.map V.str) = rd i) ∧ Tabs (TT K) H ∧
  ∀ o H', DealR gs u rd o → (t + 1 ≠ len → ShS K H' s len (t + 1) gs gs.length (nxU u o) (xs ++ [nameV gs o])) → Fr (own s gs.length) H H' → Tabs (TT K) H' → Q (nameV gs o) H'
theorem ok_Shares_deal (T : Txt K mg) (M_Shares_need_guest : MDef P w K mg base 1 "Shares" "need_guest" ["self", "name"] [] (spNeedG K)) (M_Shares_promised_one : MDef P w K mg base 1 "Shares" "promised_one" ["self", "ready"] [] (spP1 K))
    (M_Shares_free_one : MDef P w K mg base 3 "Shares" "free_one" ["self", "ready"] [] (spF1 K)) (M_Portion_begin : MDef P w K mg base 1 "Portion" "begin" ["self"] [] (spBegin K)) : MDef P w K mg base 4 "Shares" "deal" ["self", "ready"] [] (spShDeal K) := by
  have c := clS T
  have cp := clP T
  obtain ⟨fd, F⟩ := T.m_Shares_deal
  refine MDef.mk F sc_Shares_deal (fun _ _ _ _ _ _ us hl => match us, hl with | [_, _], _ => rfl) (fun vs H Q E h => ?_) (fun A outer s H vs Q E hr h => ?_)
  · obtain ⟨s, len, t, gs, u, xs, rl, ns, rd, rfl, _⟩ := h
    rfl
  · obtain ⟨s, len, t, gs, u, xs, rl, ns, rd, rfl, ok, hS, hu, hxs, hrl, hns, hin, hT, hq⟩ := h
    have hlen := ok.len
    have n6 := ok.n6
    have hu60 : ∀ i, i < gs.length → 0 ≤ u i ∧ u i ≤ 60 := fun i hi => by
      have h1 := hu i hi
      have h2 := ok.at_sh hi
      omega
    refine ⟨_, (pss_cons (ps_if (pt_not (pt_val (pe_callB (kcall_isLT K rfl) (by rfl) T.b_isinstance (by decide +kernel) (pa_cons (pv 1) (pa_cons (pe_tup (pa_cons (pe_bltn (v := .ty "list") (by rfl) T.b_list (by decide +kernel) rfl) (pa_cons (pe_bltn (v := .ty "tuple") (by rfl) T.b_tuple (by decide +kernel) rfl) pa_nil))) pa_nil))))) (pss_one ps_never) pss_nil)
      (pss_cons (ps_for (passes_of rfl) rfl (kpi_list K rfl (pv 1)) (pg_name (i := 2) sc_Shares_deal.nd rfl (Or.inl rfl))
        (pss_one (ps_expr (pe_m (pv 0) M_Shares_need_guest (hr.mono (by decide)) (pa_cons (pv 2) pa_nil)))))
      (pss_cons (ps_set (i := 2) sc_Shares_deal.nd rfl (Or.inl rfl) (pe_m (pv 0) M_Shares_promised_one (hr.mono (by decide)) (pa_cons (pv 1) pa_nil)))
      (C8.pss_cut (ps_if (pt_cmpR op_isN (pv 2) pe_non (nomark _)) (pss_one (ps_set (i := 2) sc_Shares_deal.nd rfl (Or.inl rfl) (pe_m (pv 0) M_Shares_free_one (hr.mono (by decide)) (pa_cons (pv 1) pa_nil)))) pss_nil)
      (C8.pss_cut (ps_if (pt_cmpR op_notN (pv 2) pe_non (nomark _)) (pss_one (ps_fldaug (pe_dget (hu_of hr) (kpe_fld K rfl (pv 0) rfl) (pv 2) (fun _ _ => rfl)) pe_int in_add)) pss_nil)
      (pss_cons (ps_expr (kpe_bm K rfl (pe_bm PySem.F.plainAttrs_list PySem.F.slot_list_append PySem.F.type_list_append mt_append (kpe_fld K rfl (pv 0) rfl) (pa_cons (pv 2) pa_nil))))
      (pss_cons (ps_fldaug (pv 0) pe_int in_add)
      (pss_cons (ps_if (pt_cmpR op_eq (kpe_fld K rfl (pv 0) rfl) (kpe_fld K rfl (pv 0) rfl) (nomark _)) (pss_cons (ps_fld (pv 0) pe_int rfl)
      (pss_one (ps_lock (ps_for (passes_of rfl) rfl (pi_values (kpe_fld K rfl (pv 0) rfl)) (pg_name (i := 3) sc_Shares_deal.nd rfl (Or.inl rfl))
        (pss_one (ps_expr (pe_m0 (pv 3) M_Portion_begin (hr.mono (by decide))))))))) pss_nil)
      (pss_one (ps_ret (pv 2))))))))))), ?_⟩
    have hrep : Rep K H (.ref rl) (.lst (ns.map D.str)) := .lst (SqL.of hrl) (reps_strs fun z hz => by
      obtain ⟨i, hi, rfl⟩ := hns z hz
      exact ok.nl hi)
    refine ⟨_, rfl, (show 2 ≤ sizeLine by decide), fun p hp => rd_isiLT hrep hp ⟨_, rfl, iteF ?_⟩⟩
    have s1 : Same H (upd H p (.tup [.ty "list", .ty "tuple"])) := same_new hp
    generalize upd H p (.tup [.ty "list", .ty "tuple"]) = H1 at s1 ⊢
    refine ⟨_, rfl, rl, rfl, ⟨_, SqL.of (s1 _ _ hrl)⟩, ?_⟩
    refine for_it (w := walk_list) (fun k σ H' => ∃ (o2 o3 : Option V), σ = [some (.ref s.S), some (.ref rl), o2, o3] ∧ Same H H') ⟨none, none, rfl, s1⟩ (fun k σ H' _ ⟨_, _, _, s⟩ => SqL.of (s _ _ hrl)) ?_ ?_
    · rintro k x σ H2 H3 hk ⟨o2, o3, rfl, s2⟩ ⟨rfl, hx⟩
      rw [List.getElem?_map] at hx
      obtain ⟨z, hz, rfl⟩ := Option.map_eq_some_iff.mp hx
      obtain ⟨i, hi, rfl⟩ := hns z (List.mem_of_getElem? hz)
      exact ⟨_, rfl, s.S, _, _, rfl, s2 _ _ hS.hs, rfl, _, rfl, s, len, len, t, gs, gs.length, u, i, rfl, (hS.ext s2.ext).r, ok, Nat.le_refl _, hi, _, _, rfl, s2⟩
    · rintro σ H2 ⟨o2, o3, rfl, s2⟩
      have S2 := hS.ext s2.ext
      have fl : (ns.map V.str).all flatV = true := flat_strs _
      refine ⟨_, rfl, s.S, _, _, rfl, S2.hs, rfl, _, rfl, s, len, t, gs, u, xs, rl, _, rd, rfl, ok, S2, hu60, s2 _ _ hrl, fl, hin, fun o H3 hp1 s3 => ?_⟩
      have s23 := s2.trans s3
      have S3 := hS.ext s23.ext
      refine ⟨fun σ H' => ∃ (o : Option Nat) (o3 : Option V), σ = [some (.ref s.S), some (.ref rl), some (nameV gs o), o3] ∧ DealR gs u rd o ∧ ExtN H H' ∧ Tabs (TT K) H', ?_, ?_⟩
      · cases o with
        | some b => exact ⟨_, rfl, rfl, _, rfl, iteF ⟨some b, _, rfl, deal_1 hp1, s23.ext, tabs_same hT s23⟩⟩
        | none =>
          refine ⟨_, rfl, rfl, _, rfl, iteT ?_⟩
          exact ⟨_, rfl, s.S, _, _, rfl, S3.hs, rfl, _, rfl, s, len, t, gs, u, xs, rl, _, rd, rfl, ok, S3, hu60, s23 _ _ hrl, fl, hin, hp1, tabs_same hT s23, fun o H4 hd e4 t4 => ⟨o, _, rfl, hd, s23.ext.trans e4, t4⟩⟩
      rintro σ H4 ⟨o, o3, rfl, hd, e4, t4⟩
      have S4 := hS.ext e4
      refine ⟨fun σ H' => ∃ (o3 : Option V), σ = [some (.ref s.S), some (.ref rl), some (nameV gs o), o3] ∧ ShS K H' s len t gs gs.length (nxU u o) xs ∧ Fr (own s gs.length) H H' ∧ Tabs (TT K) H', ?_, ?_⟩
      · cases o with
        | none => exact ⟨_, rfl, rfl, _, rfl, iteF ⟨_, rfl, S4, Fr.ext e4, t4⟩⟩
        | some b =>
          have hb := hd.1
          refine ⟨_, rfl, rfl, _, rfl, iteT ?_⟩
          refine ⟨_, rfl, s.S, _, _, _, _, rfl, S4.hs, c, T.n_Shares_portions, rfl, _, rfl, s.pd, _, rfl, .inl ⟨portK gs gs.length s.pa, .inr (nmAt gs b), .inl S4.hd, rfl, (portK_at ok (Nat.le_refl _) hb).symm⟩, s.pa b, _, _, _, _, rfl, S4.hp b hb, cp, T.n_Portion_turns_used, rfl, _, _, rfl, rfl, _, _, S4.hp b hb, (Nat.le_of_ble_eq_true rfl), ?_⟩
          exact ⟨_, rfl, S4.putU hb, (Fr.ext e4).trans (Fr.put (.inr (.inr (.inr ⟨b, hb, rfl⟩)))), tabs_put t4 (S4.hp b hb) dat_ins⟩
      rintro σ H5 ⟨o3, rfl, S5, f5, t5⟩
      have hxl : xs.length < sizeLine := by
        have : 2000 < sizeLine := by decide
        omega
      refine ⟨_, rfl, s.S, _, _, _, _, rfl, S5.hs, c, T.n_Shares_all_dealt, rfl, .inl ⟨rfl, _, SqL.of S5.ha⟩, _, rfl, s.ad, _, _, rfl, rfl, S5.ha, hxl, ?_⟩
      have S6 := S5.putX (xs ++ [nameV gs o])
      have f6 : Fr (own s gs.length) H (upd H5 s.ad (.lst (xs ++ [nameV gs o]))) := f5.trans (Fr.put (.inr (.inl rfl)))
      have t6 : Tabs (TT K) (upd H5 s.ad (.lst (xs ++ [nameV gs o]))) := tabs_put t5 S5.ha dat_lst
      generalize upd H5 s.ad (.lst (xs ++ [nameV gs o])) = H6 at S6 f6 t6 ⊢
      refine ⟨_, rfl, s.S, _, _, _, _, rfl, S6.hs, c, T.n_Shares_turns_passed, rfl, _, _, rfl, rfl, _, _, S6.hs, (Nat.le_of_ble_eq_true rfl), ?_⟩
      have S7 := S6.putT (t + 1)
      have f7 : Fr (own s gs.length) H (upd H6 s.S (.ins (CS K) s.dS (sF len s.pd (t + 1) s.ad))) := f6.trans (Fr.put (.inl rfl))
      have t7 : Tabs (TT K) (upd H6 s.S (.ins (CS K) s.dS (sF len s.pd (t + 1) s.ad))) := tabs_put t6 S6.hs dat_ins
      change ∃ _, _
      refine ⟨_, rfl, s.S, _, _, _, _, rfl, S7.hs, c, T.n_Shares_turns_passed, rfl, _, rfl, s.S, _, _, _, _, rfl, S7.hs, c, T.n_Shares_own_length, rfl, rfl, _, rfl, ?_⟩
      show if decide (V.int (t + 1) = V.int len) = true then _ else _
      by_cases ht : t + 1 = len
      · rw [decide_eq_true (by rw [ht])]
        refine iteT ?_
        refine ⟨_, rfl, s.S, _, _, _, rfl, S7.hs, c, T.n_Shares_turns_passed, (Nat.le_of_ble_eq_true rfl), ?_⟩
        have S8 := S7.putT 0
        have f8 : Fr (own s gs.length) H (upd (upd H6 s.S (.ins (CS K) s.dS (sF len s.pd (t + 1) s.ad))) s.S (.ins (CS K) s.dS (sF len s.pd 0 s.ad))) := f7.trans (Fr.put (.inl rfl))
        have t8 : Tabs (TT K) (upd (upd H6 s.S (.ins (CS K) s.dS (sF len s.pd (t + 1) s.ad))) s.S (.ins (CS K) s.dS (sF len s.pd 0 s.ad))) := tabs_put t7 S7.hs dat_ins
        change ∃ _, _
        generalize hh : upd (upd H6 s.S (.ins (CS K) s.dS (putF "turns_passed" (.int (t + 1)) (sF len s.pd t s.ad)))) s.S (.ins (CS K) s.dS (putF "turns_passed" (.int 0) (sF len s.pd (t + 1) s.ad))) = H8
        replace S8 : ShS K H8 s len 0 gs gs.length (nxU u o) (xs ++ [nameV gs o]) := by rw [← hh]; exact S8
        replace f8 : Fr (own s gs.length) H H8 := by rw [← hh]; exact f8
        replace t8 : Tabs (TT K) H8 := by rw [← hh]; exact t8
        refine ⟨s.pd, _, S8.hd, True.intro, fun od => ?_⟩
        have R8 := S8.r.lock (od := od) S8.hd
        have nfr : Fr (own s gs.length) H8 (upd H8 s.pd (.frz od (.dK (portK gs gs.length s.pa)))) := Fr.put (.inr (.inr (.inl rfl)))
        refine ⟨_, rfl, s.S, _, _, _, _, rfl, R8.hs, c, T.n_Shares_portions, rfl, s.pd, od, _, rfl, upd_same, ?_⟩
        refine for_it (w := walk_values) (fun k σ H' => ∃ (o3 : Option V), σ = [some (.ref s.S), some (.ref rl), some (nameV gs o), o3] ∧ H' s.pd = some (.frz od (.dK (portK gs gs.length s.pa))) ∧ (∀ i, i < gs.length → ∃ p c np nc v, H' (s.pa i) = some (.ins (CP K) (s.dp i) (pF p c np nc v))) ∧ Fr (own s gs.length) H H' ∧ Tabs (TT K) H')
          ⟨_, rfl, upd_same, fun i hi => ⟨_, _, _, _, _, R8.hp i hi⟩, f8.trans nfr, tabs_put t8 S8.hd dat_dK⟩ (fun k σ H' _ ⟨_, _, h, _⟩ => h) ?_ ?_
        · rintro i x σ H9 HA hi ⟨o4, rfl, hd9, hp9, f9, t9⟩ ⟨rfl, k, hk⟩
          rw [portK_len] at hi
          rw [portK_get hi] at hk
          cases hk
          obtain ⟨p, cc, np, nc, v, hpi⟩ := hp9 i hi
          refine ⟨_, rfl, s.pa i, _, _, rfl, hpi, rfl, s.pa i, _, p, cc, np, nc, v, rfl, hpi, fun HB bB hB => ?_⟩
          have npd : s.pd ≠ s.pa i := fun q => by
            rw [q, hpi] at hd9
            cases hd9
          refine ⟨_, rfl, bB _ _ npd hd9, fun k hk => ?_, f9.trans (Fr.but bB (.inr (.inr (.inr ⟨i, hi, rfl⟩)))), tabs_but t9 hpi dat_ins bB⟩
          by_cases q : k = i
          · subst q
            exact ⟨_, _, _, _, _, hB⟩
          · obtain ⟨a1, a2, a3, a4, a5, a6⟩ := hp9 k hk
            exact ⟨a1, a2, a3, a4, a5, bB _ _ (fun e => q (hS.inj k i hk hi e)) a6⟩
        · rintro σ H9 ⟨o4, rfl, hd9, hp9, f9, t9⟩
          refine ⟨hd9, _, rfl, hq o _ hd (fun q => absurd ht q) (f9.trans (Fr.put (.inr (.inr (.inl rfl))))) (tabs_put t9 hd9 dat_frz)⟩
      · rw [decide_eq_false (fun q => ht (by injection q))]
        exact iteF ⟨_, rfl, hq o _ hd (fun _ => S7) f7 t7⟩
end
end K85

set_option Elab.async false
set_option linter.all false
set_option maxRecDepth 100000
set_option maxHeartbeats 1000000
namespace RP
open PySem PySem.Spec PyProof.Rows L2 LamX
theorem ext_fr {own : Addr → Prop} {H H1 H2 : Hp} (e : ExtN H H1) (f : Fr own H1 H2) (n : ∀ a, own a → Nw H a) : ExtN H H2 := fun a o h t => f a o (fun q => by
  obtain ⟨ps, z⟩ := n a q o h
  exact t ps z) t (e a o h t)
end RP
namespace K85
open PySem PySem.Spec PyProof.Rows L2 RP LamX
section
variable {P : Program} {w : World} {K : PySem.W.Frag} {mg : Str → Option Value} {base : Heap}
/-! ### _law_by_shares -/
theorem sc__law_by_shares : FnScope ["guests", "length", "name", "readiness", "shares", "found", "one", "promise", "ceiling", "turn"] ["guests", "length", "name", "readiness"] (defScope s__law_by_shares) := ⟨rfl, rfl, rfl, by decide +kernel, rfl, by decide +kernel, by decide +kernel⟩
def spByS (K : PySem.W.Frag) : Sp := fun vs H Q _ => ∃ (R : Hp) (vg : V) (len : Int) (gs : List G3) (j : Nat) (z : Str) (p c : Int) (cl : Addr) (ols : List V) (ns : Nat → List Str), vs = [vg, .int len, .str z, .ref cl] ∧ Same R H ∧ Plain R ∧ Nt R ∧ Rep K R vg (gD gs) ∧ GsOk len gs ∧ gs[j]? = some (z, p, c) ∧
  H cl = some (.lst ols) ∧ (∀ t, t < len.toNat → ∃ o : Addr, ols[t]? = some (.ref o) ∧ H o = some (.lst ((ns t).map V.str)) ∧ (ns t).length ≤ 90 ∧ ∀ y ∈ ns t, ∃ i, i < gs.length ∧ y = nmAt gs i) ∧ Tabs (TT K) H ∧
  ∀ L H', ExtN H H' → Tabs (TT K) H' → H' L = some (.lst ((fndAt gs (rdN gs z ns) j len.toNat).map V.int)) → Q (.ref L) H'
theorem ok__law_by_shares (T : Txt K mg) (I_Shares : IDef P w K mg base 4 "Shares" ["self", "length"] (spShI K)) (M_Shares_come : MDef P w K mg base 3 "Shares" "come" ["self", "name", "promise", "ceiling"] [] (spCome K)) (M_Shares_deal : MDef P w K mg base 4 "Shares" "deal" ["self", "ready"] [] (spShDeal K)) :
    Def P w K mg base 6 "_law_by_shares" ["guests", "length", "name", "readiness"] (spByS K) := by
  obtain ⟨f, fd, F⟩ := T.a__law_by_shares
  refine Def.mk F sc__law_by_shares (fun _ _ _ _ _ _ us hl => match us, hl with | [_, _, _, _], _ => rfl) (fun vs H Q E h => ?_) (fun cdv A outer s H vs Q E hr h => ?_)
  · obtain ⟨R, vg, len, gs, j, z, p, c, cl, ols, ns, rfl, _⟩ := h
    rfl
  · obtain ⟨R, vg, len, gs, j, z, p, c, cl, ols, ns, rfl, sR, pR, nR, hg, ok, hj, hcl, hols, hT, hq⟩ := h
    cases hg with
    | @dct a kvs _ hk rk =>
    have hRa : R a = some (.dK kvs) := pR.rd hk
    have hHa := sR _ _ hRa
    have hl : kvs.length = gs.length := by rw [rk.len, List.length_map]
    have n6 := ok.n6
    have hlen := ok.len
    have hjl : j < gs.length := (List.getElem?_eq_some_iff.mp hj).1
    have nj := nmAt_of hj
    have item : ∀ {i : Nat} {ky : Key × V} {H' : Hp}, kvs[i]? = some ky → Lq R H' → i < gs.length ∧ ky.1 = .inr (nmAt gs i) ∧ ∃ a1, ky.2 = .ref a1 ∧ SqT K H' a1 [.int (pA gs i), .int (cA gs i)] := fun {i ky H'} hky s => by
      obtain ⟨k, v⟩ := ky
      obtain ⟨y, d, hd, e1, hy, rd⟩ := (rk.mono s).get hky
      rw [List.getElem?_map] at hd
      obtain ⟨e, he, hd⟩ := Option.map_eq_some_iff.mp hd
      cases hd
      have hi : i < gs.length := (List.getElem?_eq_some_iff.mp he).1
      obtain ⟨p, c, e3, e4, e5⟩ := nm_some hi
      rw [he] at e3
      have e6 := Option.some.inj e3
      rw [e6] at e1 rd
      obtain ⟨a1, e7, g3⟩ := sh_of rd
      refine ⟨hi, e1, a1, e7, ?_⟩
      rw [e4, e5]
      exact g3
    refine ⟨_, (pss_cons (ps_par (i := 4) (j := 5) rfl sc__law_by_shares.nd rfl rfl (by decide) rfl rfl (pa_cons (pe_i I_Shares (hr.mono (by decide)) (by rfl) (pa_cons (pv 1) pa_nil)) (pa_cons (pe_lst pa_nil) pa_nil)) (by rfl))
      (pss_cons (ps_lock (ps_for (passes_of rfl) rfl (pi_items (pv 0)) (kpg_tup K rfl (n := 2) rfl (pgs_cons (pg_name (i := 6) sc__law_by_shares.nd rfl (Or.inl rfl)) (pgs_cons (kpg_tup K rfl (n := 2) rfl (pgs_cons (pg_name (i := 7) sc__law_by_shares.nd rfl (Or.inl rfl)) (pgs_cons (pg_name (i := 8) sc__law_by_shares.nd rfl (Or.inl rfl)) pgs_nil))) pgs_nil)))
        (pss_one (ps_expr (pe_m (pv 4) M_Shares_come (hr.mono (by decide)) (pa_cons (pv 6) (pa_cons (pv 7) (pa_cons (pv 8) pa_nil))))))))
      (pss_cons (ps_for (passes_of rfl) rfl (pi_range1 (by rfl) T.b_range (pa_cons (pv 1) pa_nil)) (pg_name (i := 9) sc__law_by_shares.nd rfl (Or.inl rfl))
        (pss_one (ps_if (pt_cmpR op_eq (pe_m (pv 4) M_Shares_deal (hr.mono (by decide)) (pa_cons (pe_op op_cat (pe_ix (kix_list K rfl) (pv 3) (pv 9) (fun _ _ => rfl)) (pe_lst (pa_cons (pv 2) pa_nil))) pa_nil)) (pv 2) (nomark _)) (pss_one (ps_expr (kpe_bm K rfl (pe_bm PySem.F.plainAttrs_list PySem.F.slot_list_append PySem.F.type_list_append mt_append (pv 5) (pa_cons (pe_op op_add (pv 9) pe_int) pa_nil))))) pss_nil)))
      (pss_one (ps_ret (pv 5)))))), ?_⟩
    refine ⟨_, rfl, fun x dx nx ndx ne => ⟨x, dx, len, rfl, by omega, by omega, upd_same, fun pd ad H1 b1 npd nad hx hpd had => ⟨rfl, ?_⟩⟩⟩
    have pdx : pd ≠ x := fun q => by
      rw [q, upd_same] at npd
      cases npd
    have adx : ad ≠ x := fun q => by
      rw [q, upd_same] at nad
      cases nad
    have pddx : pd ≠ dx := fun q => by
      rw [q, upd_ne ne, upd_same] at npd
      cases npd
    have addx : ad ≠ dx := fun q => by
      rw [q, upd_ne ne, upd_same] at nad
      cases nad
    have npd0 : H pd = none := by rw [upd_ne pdx, upd_ne pddx] at npd; exact npd
    have nad0 : H ad = none := by rw [upd_ne adx, upd_ne addx] at nad; exact nad
    have s1 : Same H H1 := fun b o h => by
      have n1 : b ≠ x := ne_of_none h nx
      have n2 : b ≠ dx := ne_of_none h ndx
      refine b1 b o n1 ?_
      rw [upd_ne n1, upd_ne n2]
      exact h
    refine ⟨Nat.zero_le _, fun F hF => ?_⟩
    have s2 : Same H (upd H1 F (.lst [])) := s1.trans (same_new hF)
    have s12 : Same H1 (upd H1 F (.lst [])) := same_new hF
    have nF : H F = none := s1.free hF
    have Fad : F ≠ ad := fun q => by
      rw [q, had] at hF
      cases hF
    have hF2 : upd H1 F (.lst []) F = some (.lst []) := upd_same
    have hx2 := s12 _ _ hx
    have hpd2 := s12 _ _ hpd
    have had2 := s12 _ _ had
    generalize upd H1 F (.lst []) = H2 at s2 s12 hF2 hx2 hpd2 had2 ⊢
    refine ⟨_, _, rfl, a, _, s2 _ _ hHa, True.intro, fun od => ⟨_, rfl, a, od, kvs, rfl, upd_same, ?_⟩⟩
    have apd : a ≠ pd := ne_of_none hHa npd0
    have lq2 : Lq R (upd H2 a (.frz od (.dK kvs))) := (Lq.of (sR.trans s2)).lock (s2 _ _ hHa) True.intro
    have sOff : ∀ {b : Addr} {o : HO}, b ≠ a → H2 b = some o → upd H2 a (.frz od (.dK kvs)) b = some o := fun n e => by
      rw [upd_ne n]
      exact e
    have xa : x ≠ a := fun q => by
      rw [q, hHa] at nx
      cases nx
    have ada : ad ≠ a := fun q => by
      rw [q, hHa] at nad0
      cases nad0
    have Fa : F ≠ a := fun q => by
      rw [q, hHa] at nF
      cases nF
    refine for_it (w := walk_items) (fun t σ H' => ∃ (o6 o7 o8 o9 : Option V) (pa dp : Nat → Addr), σ = [some (.ref a), some (.int len), some (.str z), some (.ref cl), some (.ref x), some (.ref F), o6, o7, o8, o9] ∧ ShS K H' ⟨x, dx, pd, ad, pa, dp⟩ len 0 gs t (fun _ => 0) [] ∧ (∀ k, k < t → Nw H (pa k)) ∧ But pd (upd H2 a (.frz od (.dK kvs))) H')
      ⟨none, none, none, none, fun _ => 0, fun _ => 0, rfl, ⟨sOff xa hx2, sOff (Ne.symm apd) hpd2, (fun i h => absurd h (Nat.not_lt_zero _)), sOff ada had2, fun i k h => absurd h (Nat.not_lt_zero _)⟩, (fun k h => absurd h (Nat.not_lt_zero _)), But.refl _ _⟩ (fun t σ H' _ ⟨_, _, _, _, _, _, _, _, _, b⟩ => b _ _ apd upd_same) ?_ ?_
    · rintro i y σ H3 H4 hi ⟨o6, o7, o8, o9, pa, dp, rfl, S3, nw3, b3⟩ ⟨t, kx, vx, rfl, ht, rfl, hkx, hvx⟩
      obtain ⟨ky, hky, rfl⟩ := Option.map_eq_some_iff.mp hkx
      obtain ⟨kz, hkz, rfl⟩ := Option.map_eq_some_iff.mp hvx
      rw [hky] at hkz
      cases hkz
      have s34 : Same H3 (upd H3 t (.tup [kV ky.1, ky.2])) := same_new ht
      have b4 : But pd (upd H2 a (.frz od (.dK kvs))) (upd H3 t (.tup [kV ky.1, ky.2])) := b3.trans (But.of s34)
      have lqR : Lq R (upd H3 t (.tup [kV ky.1, ky.2])) := fun b u r => by
        have hRb := pR.rd r
        have nb : b ≠ pd := fun q => by
          rw [q] at hRb
          rw [sR _ _ hRb] at npd0
          cases npd0
        rcases lq2 b u r with q | ⟨o, q⟩
        · exact .inl (b4 b _ nb q)
        · exact .inr ⟨o, b4 b _ nb q⟩
      obtain ⟨hig, e1, a1, e2, g3⟩ := item hky lqR
      have ht2 : upd H3 t (.tup [kV ky.1, ky.2]) t = some (.tup [.str (nmAt gs i), .ref a1]) := by
        rw [upd_same, e1, e2]
        rfl
      have S4 := S3.ext s34.ext
      generalize upd H3 t (.tup [kV ky.1, ky.2]) = H4 at s34 b4 lqR g3 ht2 S4 ⊢
      refine ⟨t, [.str (nmAt gs i), .ref a1], rfl, SqT.of ht2, rfl, _, _, rfl, _, _, rfl, a1, [.int (pA gs i), .int (cA gs i)], rfl, g3, rfl, _, _, rfl, _, _, rfl, rfl, rfl, ?_⟩
      refine ⟨_, rfl, x, _, _, rfl, S4.hs, rfl, _, rfl, _, rfl, _, rfl, ⟨x, dx, pd, ad, pa, dp⟩, len, gs, i, [], rfl, ok, hig, S4, fun p dxp H5 np b5 S5 => ?_⟩
      have nHp : H p = none := by
        cases h : H p with
        | none => rfl
        | some o =>
          exfalso
          by_cases q : p = a
          · rw [q, b4 _ _ apd upd_same] at np
            cases np
          · rw [b4 p o (ne_of_none h npd0) (by rw [upd_ne q]; exact s2 _ _ h)] at np
            cases np
      refine ⟨_, _, _, _, paPut pa i p, paPut dp i dxp, rfl, S5, fun k hk => ?_, b4.trans b5⟩
      unfold paPut
      by_cases q : k = i
      · rw [if_pos q]
        exact nw_none nHp
      · rw [if_neg q]
        exact nw3 k (by omega)
    · rintro σ H3 ⟨o6, o7, o8, o9, pa, dp, rfl, S3, nw3, b3⟩
      rw [hl] at S3 nw3
      have hf3 : H3 a = some (.frz od (.dK kvs)) := b3 _ _ apd upd_same
      refine ⟨hf3, ?_⟩
      have s3 : Same H (upd H3 a (.dK kvs)) := fun b o h => by
        by_cases q : b = a
        · rw [q] at h ⊢
          rw [hHa] at h
          rw [upd_same]
          exact h
        · rw [upd_ne q]
          exact b3 b o (ne_of_none h npd0) (by rw [upd_ne q]; exact s2 _ _ h)
      have paa : ∀ k, k < gs.length → pa k ≠ a := fun k hk q => by
        obtain ⟨ps, e⟩ := nw3 k hk _ (by rw [q]; exact hHa)
        cases e
      have Su : ShS K (upd H3 a (.dK kvs)) ⟨x, dx, pd, ad, pa, dp⟩ len 0 gs gs.length (fun _ => 0) [] :=
        ⟨by rw [upd_ne xa]; exact S3.hs, by rw [upd_ne (Ne.symm apd)]; exact S3.hd, fun i hi => by rw [upd_ne (paa i hi)]; exact S3.hp i hi, by rw [upd_ne ada]; exact S3.ha, S3.inj⟩
      have Fpd : F ≠ pd := fun q => by
        rw [q, hpd2] at hF2
        cases hF2
      have hFu : upd H3 a (.dK kvs) F = some (.lst []) := by
        rw [upd_ne Fa]
        exact b3 _ _ Fpd (sOff Fa hF2)
      generalize upd H3 a (.dK kvs) = Hu at s3 Su hFu ⊢
      have nown : ∀ b, own ⟨x, dx, pd, ad, pa, dp⟩ gs.length b → Nw H b := fun b hb => by
        rcases hb with rfl | rfl | rfl | ⟨i, hi, rfl⟩
        · exact nw_none nx
        · exact nw_none nad0
        · exact nw_none npd0
        · exact nw3 i hi
      have nF2 : ¬ own ⟨x, dx, pd, ad, pa, dp⟩ gs.length F := fun hb => by
        rcases hb with q | q | q | ⟨i, hi, q⟩
        · have e := Su.hs
          rw [← q, hFu] at e
          cases e
        · exact Fad q
        · exact Fpd q
        · have e := Su.hp i hi
          rw [← q, hFu] at e
          cases e
      refine ⟨_, rfl, len, rfl, by omega, by omega, ?_⟩
      refine for_it (w := walk_range) (fun t σ H' => ∃ (o6 o7 o8 o9 : Option V), σ = [some (.ref a), some (.int len), some (.str z), some (.ref cl), some (.ref x), some (.ref F), o6, o7, o8, o9] ∧ (∀ i, i < gs.length → 0 ≤ stAt gs (rdN gs z ns) t i ∧ stAt gs (rdN gs z ns) t i ≤ cA gs i) ∧
          (t < len.toNat → ∃ xs, xs.length = t ∧ ShS K H' ⟨x, dx, pd, ad, pa, dp⟩ len (t : Nat) gs gs.length (stAt gs (rdN gs z ns) t) xs) ∧ ExtN H H' ∧ Tabs (TT K) H' ∧ H' F = some (.lst ((fndAt gs (rdN gs z ns) j t).map V.int)))
        ⟨_, _, _, _, rfl, fun i hi => ⟨Int.le_refl 0, by have := ok.at_sh hi; show (0 : Int) ≤ _; omega⟩, fun _ => ⟨[], rfl, Su⟩, s3.ext, tabs_same hT s3, hFu⟩ (fun _ _ _ _ _ => True.intro) ?_ ?_
      · rintro t y σ Hx H4 ht ⟨o6, o7, o8, o9, rfl, I, hSt, e4, t4, hF4⟩ ⟨rfl, hy⟩
        have hy2 : y = .int ((t : Nat) : Int) := by
          rw [hy]
          show V.int (0 + (t : Int)) = _
          rw [Int.zero_add]
        subst hy2
        have tl : t < len.toNat := ht
        have hne : t + 1 < len.toNat → ((t : Nat) : Int) + 1 ≠ len := fun h q => by omega
        obtain ⟨xs, hxs, S4⟩ := hSt tl
        clear hSt
        obtain ⟨ol, e1, e2, e3, e33⟩ := hols t tl
        refine ⟨_, rfl, x, _, _, rfl, S4.hs, rfl, _, rfl, _, rfl, cl, _, (t : Nat), .ref ol, rfl, rfl, SqL.of (e4 _ _ hcl fun _ z => nomatch z), atI_nat e1, ?_⟩
        refine ⟨_, rfl, (show 1 ≤ sizeLine by decide), fun q hq' => ?_⟩
        have s5 : Same H4 (upd H4 q (.lst [.str z])) := same_new hq'
        have hq5 : upd H4 q (.lst [.str z]) q = some (.lst [.str z]) := upd_same
        generalize upd H4 q (.lst [.str z]) = H5 at s5 hq5 ⊢
        refine ⟨ol, q, _, _, rfl, rfl, s5 _ _ (e4 _ _ e2 fun _ z => nomatch z), hq5, ?_, fun rl hrl => ?_⟩
        · rw [List.length_map]
          show (ns t).length + 1 ≤ sizeLine
          have : 100 ≤ sizeLine := by decide
          omega
        have eo : ((ns t).map V.str) ++ [.str z] = (ns t ++ [z]).map V.str := by
          rw [List.map_append]
          rfl
        rw [eo]
        have s6 : Same H5 (upd H5 rl (.lst ((ns t ++ [z]).map V.str))) := same_new hrl
        have h6 : upd H5 rl (.lst ((ns t ++ [z]).map V.str)) rl = some (.lst ((ns t ++ [z]).map V.str)) := upd_same
        generalize upd H5 rl (.lst ((ns t ++ [z]).map V.str)) = H6 at s6 h6 ⊢
        have s46 : Same H4 H6 := s5.trans s6
        have hnames : ∀ y ∈ ns t ++ [z], ∃ i, i < gs.length ∧ y = nmAt gs i := fun y hy => by
          rcases List.mem_append.mp hy with q | q
          · exact e33 y q
          · rw [List.mem_singleton.mp q]
            exact ⟨j, hjl, nj.symm⟩
        refine ⟨⟨x, dx, pd, ad, pa, dp⟩, len, (t : Nat), gs, stAt gs (rdN gs z ns) t, xs, rl, ns t ++ [z], rdN gs z ns t, rfl, ok, S4.ext s46.ext, I, by omega, h6, hnames, fun i hi => inV_strs _ _, tabs_same t4 s46, fun o H7 hd S7 f7 t7 => ?_⟩
        have e7 : ExtN H H7 := ext_fr (e4.trans s46.ext) f7 nown
        have hF7 : H7 F = some (.lst ((fndAt gs (rdN gs z ns) j t).map V.int)) := f7 _ _ nF2 (fun _ z => nomatch z) (s46 _ _ hF4)
        have es : stAt gs (rdN gs z ns) (t + 1) = nxU (stAt gs (rdN gs z ns) t) o := stepF_eq ok hd
        have ef : fndAt gs (rdN gs z ns) j (t + 1) = fndAt gs (rdN gs z ns) j t ++ (if o = some j then [(t : Int) + 1] else []) := by rw [fndAt_next, dealF_eq ok hd]
        have I7 : ∀ i, i < gs.length → 0 ≤ stAt gs (rdN gs z ns) (t + 1) i ∧ stAt gs (rdN gs z ns) (t + 1) i ≤ cA gs i := by
          rw [es]
          cases o with
          | none => exact I
          | some b => exact addAt_b ok I hd
        have St : ∀ {H'' : Hp}, Same H7 H'' ∨ But F H7 H'' → t + 1 < len.toNat → ∃ xs, xs.length = t + 1 ∧ ShS K H'' ⟨x, dx, pd, ad, pa, dp⟩ len ((t + 1 : Nat) : Int) gs gs.length (stAt gs (rdN gs z ns) (t + 1)) xs := fun {H''} hh hlt => by
          have z7 := S7 (hne hlt)
          rw [← es] at z7
          refine ⟨_, ?_, (?_ : ShS K H'' _ _ _ _ _ _ (xs ++ [nameV gs o]))⟩
          · rw [List.length_append, hxs]
            rfl
          · have ec : (((t + 1 : Nat)) : Int) = (t : Int) + 1 := by omega
            rw [ec]
            rcases hh with hh | hh
            · exact z7.ext hh.ext
            · have nw : ∀ b, own ⟨x, dx, pd, ad, pa, dp⟩ gs.length b → b ≠ F := fun b hb q => nF2 (by rw [← q]; exact hb)
              exact ⟨hh _ _ (nw _ (.inl rfl)) z7.hs, hh _ _ (nw _ (.inr (.inr (.inl rfl)))) z7.hd, fun i hi => hh _ _ (nw _ (.inr (.inr (.inr ⟨i, hi, rfl⟩)))) (z7.hp i hi), hh _ _ (nw _ (.inr (.inl rfl))) z7.ha, z7.inj⟩
        refine ⟨_, rfl, (by cases o <;> rfl), _, rfl, ?_⟩
        show if decide (nameV gs o = V.str z) = true then _ else _
        by_cases e : o = some j
        · subst e
          rw [if_pos rfl] at ef
          rw [decide_eq_true (by show V.str (nmAt gs j) = _; rw [nj])]
          have hlt : ((fndAt gs (rdN gs z ns) j t).map V.int).length < sizeLine := by
            rw [List.length_map]
            have h1 := fndAt_len gs (rdN gs z ns) j t
            have : 100 < sizeLine := by decide
            omega
          refine iteT ⟨_, rfl, .inl ⟨rfl, _, SqL.of hF7⟩, _, rfl, _, _, rfl, rfl, F, _, _, rfl, rfl, hF7, hlt, ?_⟩
          refine ⟨_, _, _, _, rfl, I7, St (.inr But.write), ext_skip e7 (nw_none nF), tabs_put t7 hF7 dat_lst, ?_⟩
          rw [upd_same, ef, List.map_append]
          rfl
        · rw [if_neg e, List.append_nil] at ef
          have en : ¬ nameV gs o = V.str z := by
            cases o with
            | none => exact fun q => nomatch q
            | some b =>
              intro q
              have q2 : V.str (nmAt gs b) = V.str z := q
              injection q2 with q2
              exact e (by rw [nm_inj ok hd.1 hjl (by rw [q2, nj])])
          rw [decide_eq_false en]
          exact iteF ⟨_, _, _, _, rfl, I7, St (.inl (Same.refl _)), e7, t7, by rw [ef]; exact hF7⟩
      · rintro σ H4 ⟨o6, o7, o8, o9, rfl, I, hSt, e4, t4, hF4⟩
        exact ⟨_, rfl, hq F H4 e4 t4 hF4⟩
end
end K85

set_option Elab.async false
set_option linter.all false
set_option maxRecDepth 100000
set_option maxHeartbeats 1000000
namespace RP
open PySem PySem.Spec PyProof.Rows L2 LamX
theorem paired_snoc {α β : Type} {F : α → β → Prop} {x : α} {y : β} (h : F x y) : ∀ {xs : List α} {ys : List β}, Paired F xs ys → Paired F (xs ++ [x]) (ys ++ [y])
  | _, _, .nil => .cons h .nil
  | _, _, .cons k t => .cons k (paired_snoc h t)
theorem paired_mem {α β : Type} {F : α → β → Prop} : ∀ {xs : List α} {ys : List β}, Paired F xs ys → ∀ x ∈ xs, ∃ y, F x y
  | _, _, .nil, x, h => nomatch h
  | _, _, .cons k t, x, h => by
    rcases List.mem_cons.mp h with rfl | h
    · exact ⟨_, k⟩
    · exact paired_mem t x h
theorem paired_len {α β : Type} {F : α → β → Prop} : ∀ {xs : List α} {ys : List β}, Paired F xs ys → xs.length = ys.length
  | _, _, .nil => rfl
  | _, _, .cons k t => by rw [List.length_cons, List.length_cons, paired_len t]
end RP
namespace K85
open PySem PySem.Spec PyProof.Rows L2 RP LamX
theorem BoxAt.ni {H : Hp} {b p : Addr} {n : Int} {o : HO} (x : BoxAt H b n) (h : H p = some o) (ho : ∀ xs, o ≠ .lst xs) : p ≠ b := fun q => by
  obtain ⟨_, _, _, e, _⟩ := x
  rw [q, e] at h
  cases h
  exact ho _ rfl
theorem BoxAt.live {H : Hp} {b : Addr} {n : Int} (x : BoxAt H b n) : H b ≠ none := fun q => by
  obtain ⟨_, _, _, e, _⟩ := x
  rw [q] at e
  cases e
section
variable {g : TG} {tt : L2.TT} {te : TE} {vs : List Nat} {σ : L2.St} {H1 : Hp} {L O b : Addr} {Qd : Hp → Prop} {K : PySem.W.Frag}
/-- some of the names; a box may be drawn from -/
theorem lc_sub (names : List Str) (m : Int) (hL : H1 L = none) (box : BoxAt H1 b m) (hO : H1 O = some (.lst (names.map V.str))) (nO : O ≠ b) (hn : names.length ≤ 100)
    (hs : ∀ (i : Nat) (z : Str) (H : Hp) (Y2 : V → Hp → Prop) (N2 : Hp → Prop), names[i]? = some z → But b H1 H → BoxAt H b (m + i) → (∀ H4, But b H H4 → BoxAt H4 b (m + i + 1) → Y2 (.str z) H4) → (∀ H3, But b H H3 → BoxAt H3 b (m + i + 1) → N2 H3) →
      g (.str z) (wipe σ vs) H fun σ2 H2 => wipe σ2 vs = wipe σ vs ∧ tt σ2 H2 fun c H3 => if c = true then te σ2 H3 Y2 else N2 H3)
    (hd : ∀ H (l : List Str), But b H1 H → BoxAt H b (m + names.length) → H L = some (.lst (l.map V.str)) → (∀ z ∈ l, z ∈ names) → l.length ≤ names.length → Qd H) :
    ∃ W : Nat → Nat → Hp → Prop, (∃ m, W 0 m (upd H1 L (.lst []))) ∧ ∀ i m H, W i m H →
      ((Itl K O).stop i H ∧ Qd H) ∨ ((Itl K O).go i H ∧ ∃ Nx : Hp → Prop, (∀ H', Nx H' → ∃ m', m' < m ∧ W (i + 1) m' H') ∧ ∀ x H', (Itl K O).yld i H x H' → g x (wipe σ vs) H' fun σ2 H2 => wipe σ2 vs = wipe σ vs ∧ tt σ2 H2 fun c H3 =>
        if c = true then te σ2 H3 fun y H4 => ∃ acc, H4 L = some (.lst acc) ∧ acc.length < sizeLine ∧ Nx (upd H4 L (.lst (acc ++ [y]))) else Nx H3) := by
  have nLb : L ≠ b := fun q => box.live (by rw [← q]; exact hL)
  refine lc_it (w := walk_list (K := K) (a := O) (xs := names.map V.str)) (fun i H => ∃ l : List Str, But b H1 H ∧ BoxAt H b (m + i) ∧ H L = some (.lst (l.map V.str)) ∧ (∀ z ∈ l, z ∈ names) ∧ l.length ≤ i)
    ⟨[], But.of (same_new hL), by simpa using box.same (same_new hL), upd_same, (fun _ h => nomatch h), Nat.le_refl 0⟩ (fun i H _ ⟨_, bb, _⟩ => SqL.of (bb _ _ nO hO)) ?_ ?_
  · rintro i x H H' hi ⟨l, bb, bx, hl, hm, hlen⟩ ⟨rfl, hx⟩
    rw [List.getElem?_map] at hx
    obtain ⟨z, hz, rfl⟩ := Option.map_eq_some_iff.mp hx
    have hzn := List.mem_of_getElem? hz
    rw [List.length_map] at hi
    refine hs i z _ _ _ hz bb bx (fun H4 b4 bx4 => ?_) (fun H3 b3 bx3 => ?_)
    · have h4 := b4 _ _ nLb hl
      refine ⟨_, h4, ?_, l ++ [z], ?_, ?_, by rw [upd_same, List.map_append]; rfl, fun y hy => ?_, ?_⟩
      · rw [List.length_map]
        have : 1000 < sizeLine := by decide
        omega
      · have b5 := bb.trans b4
        exact fun a o n e => by
          rw [upd_ne (fun q => by rw [q, hL] at e; cases e)]
          exact b5 a o n e
      · have e : m + ((i + 1 : Nat) : Int) = m + i + 1 := by omega
        rw [e]
        exact bx4.off nLb
      · rcases List.mem_append.mp hy with q | q
        · exact hm y q
        · rw [List.mem_singleton.mp q]
          exact hzn
      · rw [List.length_append]
        show l.length + 1 ≤ i + 1
        omega
    · refine ⟨l, bb.trans b3, ?_, b3 _ _ nLb hl, hm, by omega⟩
      have e : m + ((i + 1 : Nat) : Int) = m + i + 1 := by omega
      rw [e]
      exact bx3
  · rintro H ⟨l, bb, bx, hl, hm, hlen⟩
    rw [List.length_map] at bx hlen
    exact hd H l bb bx hl hm hlen
end
section
variable {P : Program} {w : World} {K : PySem.W.Frag} {mg : Str → Option Value} {base : Heap}
/-! ### _law_readiness -/
theorem sc__law_readiness : FnScope ["box", "guests", "length", "name", "others", "way", "one", "first", "found", "turn", "drawn", "late", "early"] ["box", "guests", "length", "name"] (defScope s__law_readiness) := ⟨rfl, rfl, rfl, by decide +kernel, rfl, by decide +kernel, by decide +kernel⟩
/-- lists of names, one for each turn -/
def RowsAt (H : Hp) (cl : Addr) (ols : List V) (gs : List G3) (len : Int) (ns : Nat → List Str) : Prop := H cl = some (.lst ols) ∧ ∀ t, t < len.toNat → ∃ o : Addr, ols[t]? = some (.ref o) ∧ H o = some (.lst ((ns t).map V.str)) ∧ (ns t).length ≤ 90 ∧ ∀ y ∈ ns t, ∃ i, i < gs.length ∧ y = nmAt gs i
def spReady (K : PySem.W.Frag) : Sp := fun vs H Q _ => ∃ (R : Hp) (b : Addr) (n : Int) (vg : V) (len : Int) (gs : List G3) (j : Nat) (z : Str) (p c : Int), vs = [.ref b, vg, .int len, .str z] ∧ BoxAt H b n ∧ n ≤ 1000000 ∧ Same R H ∧ Plain R ∧ R b = none ∧ Rep K R vg (gD gs) ∧ GsOk len gs ∧ gs[j]? = some (z, p, c) ∧
  ∀ cl ols ns H', But b H H' → BoxAt H' b (n + 1300) → H cl = none → RowsAt H' cl ols gs len ns → Q (.ref cl) H'
theorem ok__law_readiness (T : Txt K mg) (G__law_take : Def P w K mg base 1 "_law_take" ["box", "many"] (spTake K)) : Def P w K mg base 2 "_law_readiness" ["box", "guests", "length", "name"] (spReady K) := by
  obtain ⟨f, fd, F⟩ := T.a__law_readiness
  refine Def.mk F sc__law_readiness (fun _ _ _ _ _ _ us hl => match us, hl with | [_, _, _, _], _ => rfl) (fun vs H Q E h => ?_) (fun cdv A outer s H vs Q E hr h => ?_)
  · obtain ⟨R, b, n, vg, len, gs, j, z, p, c, rfl, _⟩ := h
    rfl
  · obtain ⟨R, b, n, vg, len, gs, j, z, p, c, rfl, box, hn, sR, pR, nRb, hg, ok, hj, hq⟩ := h
    cases hg with
    | @dct a kvs _ hk rk =>
    have hRa : R a = some (.dK kvs) := pR.rd hk
    have hHa := sR _ _ hRa
    have hl : kvs.length = gs.length := by rw [rk.len, List.length_map]
    have n6 := ok.n6
    have hlen := ok.len
    have hjl : j < gs.length := (List.getElem?_eq_some_iff.mp hj).1
    have nj := nmAt_of hj
    refine ⟨_, (pss_cons (ps_par (i := 4) (j := 5) rfl sc__law_readiness.nd rfl rfl (by decide) rfl rfl (pa_cons (pe_lock (pe_lc (own := [("one", 6)]) rfl sc__law_readiness.nd (pi_keys (pv 1)) (blkOk_by (own := [("one", 6)]) (N := ["box", "guests", "length", "name", "others", "way", "one", "first", "found", "turn", "drawn", "late", "early"]) (sc := defScope s__law_readiness) (by decide +kernel)) (fun _ _ _ _ _ => (pg_name (i := 6) sc__law_readiness.nd rfl (Or.inl rfl))) (fun _ _ _ _ _ => (pts_one (pt_cmpR op_ne (pv 6) (pv 3) (nomark _)))) (fun _ _ _ _ _ => (pv 6)))) (pa_cons (pe_d G__law_take (hr.mono (by decide)) (by rfl) (pa_cons (pv 0) (pa_cons pe_int pa_nil))) pa_nil)) (by rfl))
      (pss_cons (ps_set (i := 7) sc__law_readiness.nd rfl (Or.inr rfl) (pe_callTy (kcall_dictP K rfl rfl) (by rfl) T.b_dict (by decide +kernel) (pa_cons (pe_lc (own := [("one", 6)]) rfl sc__law_readiness.nd (kpi_list K rfl (pv 4)) (blkOk_by (own := [("one", 6)]) (N := ["box", "guests", "length", "name", "others", "way", "one", "first", "found", "turn", "drawn", "late", "early"]) (sc := defScope s__law_readiness) (by decide +kernel)) (fun _ _ _ _ _ => (pg_name (i := 6) sc__law_readiness.nd rfl (Or.inl rfl))) (fun _ _ _ _ _ => pts_nil) (fun _ _ _ _ _ => (pe_tup (pa_cons (pv 6) (pa_cons (pe_d G__law_take (hr.mono (by decide)) (by rfl) (pa_cons (pv 0) (pa_cons (pe_op op_add (pv 2) pe_int) pa_nil))) pa_nil))))) pa_nil)))
      (pss_cons (ps_set (i := 8) sc__law_readiness.nd rfl (Or.inl rfl) (pe_lst pa_nil))
      (pss_cons (ps_for (passes_of rfl) rfl (pi_range1 (by rfl) T.b_range (pa_cons (pv 2) pa_nil)) (pg_name (i := 9) sc__law_readiness.nd rfl (Or.inr rfl))
        (pss_cons (ps_setLc (i := 10) (own := [("one", 6)]) rfl sc__law_readiness.nd rfl rfl (sw_true rfl rfl rfl (by decide +kernel)) (kpi_list K rfl (pv 4)) (blkOk_by (own := [("one", 6)]) (N := ["box", "guests", "length", "name", "others", "way", "one", "first", "found", "turn", "drawn", "late", "early"]) (sc := defScope s__law_readiness) (by decide +kernel)) (fun _ _ _ _ _ => (pg_name (i := 6) sc__law_readiness.nd rfl (Or.inl rfl))) (fun _ _ _ _ _ => (pts_one (pt_cmpR op_eq (pe_d G__law_take (hr.mono (by decide)) (by rfl) (pa_cons (pv 0) (pa_cons pe_int pa_nil))) pe_int (nomark _)))) (fun _ _ _ _ _ => (pv 6)))
      (pss_cons (ps_setLc (i := 11) (own := [("one", 6)]) rfl sc__law_readiness.nd rfl rfl (sw_true rfl rfl rfl (by decide +kernel)) (kpi_list K rfl (pv 4)) (blkOk_by (own := [("one", 6)]) (N := ["box", "guests", "length", "name", "others", "way", "one", "first", "found", "turn", "drawn", "late", "early"]) (sc := defScope s__law_readiness) (by decide +kernel)) (fun _ _ _ _ _ => (pg_name (i := 6) sc__law_readiness.nd rfl (Or.inl rfl))) (fun _ _ _ _ _ => (pts_one (pt_cmpR op_ge (pv 9) (pe_dget (hu_of hr) (pv 7) (pv 6) (fun _ _ => rfl)) (nomark _)))) (fun _ _ _ _ _ => (pv 6)))
      (pss_cons (ps_setLc (i := 12) (own := [("one", 6)]) rfl sc__law_readiness.nd rfl rfl (sw_true rfl rfl rfl (by decide +kernel)) (kpi_list K rfl (pv 4)) (blkOk_by (own := [("one", 6)]) (N := ["box", "guests", "length", "name", "others", "way", "one", "first", "found", "turn", "drawn", "late", "early"]) (sc := defScope s__law_readiness) (by decide +kernel)) (fun _ _ _ _ _ => (pg_name (i := 6) sc__law_readiness.nd rfl (Or.inl rfl))) (fun _ _ _ _ _ => (pts_one (pt_cmpR op_lt (pv 9) (pe_dget (hu_of hr) (pv 7) (pv 6) (fun _ _ => rfl)) (nomark _)))) (fun _ _ _ _ _ => (pv 6)))
      (pss_one (ps_expr (kpe_bm K rfl (pe_bm PySem.F.plainAttrs_list PySem.F.slot_list_append PySem.F.type_list_append mt_append (pv 8) (pa_cons (pe_ix (kix_list K rfl) (pe_lst (pa_cons (pe_callTy (kcall_list_of K rfl) (by rfl) T.b_list (by decide +kernel) (pa_cons (pv 4) pa_nil)) (pa_cons (pe_lst pa_nil) (pa_cons (pv 10) (pa_cons (pv 11) (pa_cons (pv 12) pa_nil)))))) (pv 5) (fun _ _ => rfl)) pa_nil)))))))))
      (pss_one (ps_ret (pv 8))))))), ?_⟩
    refine ⟨a, .dK kvs, hHa, True.intro, fun od => ⟨_, rfl, a, od, rfl, .inl ⟨kvs, upd_same, fun O hO => ?_⟩⟩⟩
    have ab : a ≠ b := fun q => by
      rw [q, nRb] at hRa
      cases hRa
    refine lc_vals (w := walk_keys) (fun i => if i = j then none else some (.str (nmAt gs i))) hO (by omega) (fun H1 s1 => s1 _ _ upd_same) ?_ ?_
    · rintro i x H1 H2 Y2 N2 hi s1 hnL ⟨rfl, k, v, hkv, rfl⟩ k3 k4
      obtain ⟨y, d, hd, rfl, hy, rd⟩ := rk.get hkv
      have hig : i < gs.length := by omega
      have e1 : y = nmAt gs i := by
        rw [List.getElem?_map] at hd
        obtain ⟨e, he, hd⟩ := Option.map_eq_some_iff.mp hd
        cases hd
        exact (nmAt_of (z := e.1) (p := e.2.1) (c := e.2.2) he).symm
      subst e1
      refine ⟨rfl, ⟨_, rfl, _, rfl, rfl, _, rfl, ?_⟩⟩
      show if (!decide (V.str (nmAt gs i) = V.str z)) = true then _ else _
      by_cases e : i = j
      · subst e
        rw [decide_eq_true (by rw [nj])]
        exact k4 _ (if_pos rfl) (Same.refl _)
      · have e2 : ¬ V.str (nmAt gs i) = V.str z := fun q => e (nm_inj ok hig hjl (by
          injection q with q
          rw [q, nj]))
        rw [decide_eq_false e2]
        exact ⟨_, rfl, k3 _ _ (if_neg e) (Same.refl _)⟩
    · intro H1 s1 h1
      rw [hl, fm_if (fun i => i = j) (fun i => V.str (nmAt gs i))] at h1
      have hOa : O ≠ a := fun e => by
        rw [e, upd_same] at hO
        cases hO
      refine ⟨s1 _ _ upd_same, ?_⟩
      have su : Same H (upd H1 a (.dK kvs)) := Same.unlock hHa s1
      obtain ⟨ol, hol⟩ : ∃ ol, ol = (List.range gs.length).filter fun i => decide (¬ i = j) := ⟨_, rfl⟩
      rw [← hol] at h1
      have olm : ∀ i ∈ ol, i < gs.length := fun i hi => by
        rw [hol] at hi
        exact List.mem_range.mp (List.mem_filter.mp hi).1
      have oll : ol.length ≤ 6 := by
        rw [hol]
        have := List.length_filter_le (fun i => decide (¬ i = j)) (List.range gs.length)
        rw [List.length_range] at this
        omega
      have olnd : (ol.map fun i => (Sum.inr (nmAt gs i) : Key)).Nodup := by
        refine List.pairwise_map.mpr (List.Pairwise.imp_of_mem ?_ (show ol.Nodup by rw [hol]; exact List.nodup_range.sublist List.filter_sublist))
        intro x y hx hy q e
        exact q (nm_inj ok (olm x hx) (olm y hy) (Sum.inr.inj e))
      have nmS : ((ol.map fun i => nmAt gs i).map V.str) = ol.map fun i => V.str (nmAt gs i) := by
        rw [List.map_map]
        rfl
      rw [← nmS] at h1
      have hOu : upd H1 a (.dK kvs) O = some (.lst ((ol.map fun i => nmAt gs i).map V.str)) := by rw [upd_ne hOa]; exact h1
      have bx1 := box.same su
      have nOb : O ≠ b := fun q => box.live (by
        have e : upd H a (.frz od (.dK kvs)) b = none := by rw [← q]; exact hO
        rw [upd_ne (Ne.symm ab)] at e
        exact e)
      have nHO : H O = none := by
        rw [upd_ne hOa] at hO
        exact hO
      generalize upd H1 a (.dK kvs) = Hu at su hOu bx1 ⊢
      -- way
      refine ⟨_, rfl, b, n, 5, rfl, bx1, by omega, by omega, by omega, fun way H2 w0 w1 bx2 b2 => ?_⟩
      have hO2 := b2 _ _ nOb hOu
      refine ⟨_, _, rfl, ?_⟩
      -- first
      refine ⟨_, rfl, O, rfl, ⟨_, SqL.of hO2⟩, fun L hL => ?_⟩
      have nLb : L ≠ b := fun q => bx2.live (by rw [← q]; exact hL)
      refine lc_it (w := walk_list (K := K) (a := O) (xs := (ol.map fun i => nmAt gs i).map V.str)) (fun i H' => ∃ (ps : List Addr) (kvs : List (Key × V)), But b H2 H' ∧ BoxAt H' b (n + 1 + i) ∧ H' L = some (.lst (ps.map V.ref)) ∧ Paired (fun p kv => H' p = some (.tup [kV kv.1, kv.2])) ps kvs ∧
          kvs.map (·.1) = (ol.take i).map (fun k => Sum.inr (nmAt gs k)) ∧ ∀ kv ∈ kvs, ∃ r, kv.2 = .int r)
        ⟨[], [], But.of (same_new hL), by simpa using bx2.same (same_new hL), upd_same, .nil, rfl, (fun _ h => nomatch h)⟩ (fun i H _ ⟨_, _, bb, _⟩ => SqL.of (bb _ _ nOb hO2)) ?_ ?_
      · rintro i x H3 H4 hi ⟨ps, kv, b3, bx3, hl3, pp, kk, ki⟩ ⟨rfl, hx⟩
        rw [List.getElem?_map, List.getElem?_map] at hx
        obtain ⟨y, hy, rfl⟩ := Option.map_eq_some_iff.mp hx
        obtain ⟨k, hk, rfl⟩ := Option.map_eq_some_iff.mp hy
        rw [List.length_map, List.length_map] at hi
        refine ⟨rfl, _, rfl, _, rfl, _, rfl, _, _, rfl, rfl, b, _, len + 1, rfl, bx3, by omega, by omega, by omega, fun q Ha q0 q1 bxa ba => ⟨(show 2 ≤ sizeLine by decide), fun T hT => ?_⟩⟩
        have hla := ba _ _ nLb hl3
        have nTL : L ≠ T := fun e => by
          rw [e, hT] at hla
          cases hla
        have nTb := bxa.ne hT
        have hpl : ps.length ≤ 6 := by
          have e1 := paired_len pp
          have e2 := congrArg List.length kk
          rw [List.length_map, List.length_map, List.length_take] at e2
          omega
        have old : ∀ {p : Addr} {u : HO}, H4 p = some u → (∀ xs, u ≠ .lst xs) → upd (upd Ha T (.tup [.str (nmAt gs k), .int q])) L (.lst (ps.map V.ref ++ [.ref T])) p = some u := fun {p u} hp hu => by
          have npb : p ≠ b := bx3.ni hp hu
          have hpa := ba _ _ npb hp
          have npT : p ≠ T := ne_of_none hpa hT
          have npL : p ≠ L := fun e => by
            rw [e, hla] at hpa
            cases hpa
            exact hu _ rfl
          rw [upd_ne npL, upd_ne npT]
          exact hpa
        refine ⟨ps.map V.ref, by rw [upd_ne nTL]; exact hla, ?_, ps ++ [T], kv ++ [(.inr (nmAt gs k), .int q)], ?_, ?_, by rw [upd_same, List.map_append]; rfl, paired_snoc ?_ (paired_mono ?_ pp), ?_, ?_⟩
        · rw [List.length_map]
          have : 100 < sizeLine := by decide
          omega
        · have b4 := b3.trans ba
          exact fun x o nx e => by
            have h1 := b4 x o nx e
            rw [upd_ne (fun q => by rw [q, hL] at e; cases e), upd_ne (ne_of_none h1 hT)]
            exact h1
        · have e : n + 1 + ((i + 1 : Nat) : Int) = n + 1 + i + 1 := by omega
          rw [e]
          exact (bxa.off nTb).off nLb
        · rw [upd_ne (Ne.symm nTL), upd_same]
          rfl
        · exact fun x y hxy => old hxy (fun _ z => nomatch z)
        · rw [List.map_append, kk, take_next hk, List.map_append]
          rfl
        · intro e he
          rcases List.mem_append.mp he with h | h
          · exact ki e h
          · rw [List.mem_singleton.mp h]
            exact ⟨q, rfl⟩
      · rintro H3 ⟨ps, kv, b3, bx3, hl3, pp, kk, ki⟩
        rw [List.length_map, List.length_map] at bx3 kk
        rw [List.take_length] at kk
        have hm : mergeK [] kv = kv := by
          have := merge_nodup (kvs := kv) (acc := []) (by rw [List.nil_append, kk]; exact olnd)
          rw [this, List.nil_append]
        refine ⟨L, ps, kv, rfl, SqL.of hl3, paired_mono (fun _ _ h => SqT.of h) pp, fun F hF => ?_⟩
        rw [hm]
        have nFb := bx3.ne hF
        have look : ∀ k ∈ ol, ∃ r, valV kv (.inr (nmAt gs k)) = some (.int r) := fun k hk => by
          have h1 : Sum.inr (nmAt gs k) ∈ kv.map (·.1) := by
            rw [kk]
            exact List.mem_map.mpr ⟨k, hk, rfl⟩
          obtain ⟨e, he, e1⟩ := List.mem_map.mp h1
          obtain ⟨r, hr⟩ := ki e he
          refine ⟨r, ?_⟩
          rw [← hr]
          refine valV_mem (by rw [kk]; exact olnd) ?_
          rw [← e1]
          exact he
        have hF4 : upd H3 F (.dK kv) F = some (.dK kv) := upd_same
        have hO4 : upd H3 F (.dK kv) O = some (.lst ((ol.map fun i => nmAt gs i).map V.str)) := (same_new hF) _ _ (b3 _ _ nOb hO2)
        have bx4 : BoxAt (upd H3 F (.dK kv)) b (n + 10) := (bx3.mono (by omega)).same (same_new hF)
        have b4 : But b Hu (upd H3 F (.dK kv)) := (b2.trans b3).trans (But.of (same_new hF))
        generalize upd H3 F (.dK kv) = H4 at hF4 hO4 bx4 b4 ⊢
        refine ⟨Nat.zero_le _, fun Fd hFd => ?_⟩
        have nFd := bx4.ne hFd
        have nFdH : H Fd = none := by
          cases h : H Fd with
          | none => rfl
          | some o =>
            rw [b4 _ _ nFd (su _ _ h)] at hFd
            cases hFd
        have s5 : Same H4 (upd H4 Fd (.lst [])) := same_new hFd
        have h5 : upd H4 Fd (.lst []) Fd = some (.lst []) := upd_same
        have nFFd : F ≠ Fd := ne_of_none hF4 hFd
        have nOFd : O ≠ Fd := ne_of_none hO4 hFd
        generalize upd H4 Fd (.lst []) = H5 at s5 h5 ⊢
        refine ⟨_, rfl, len, rfl, by omega, by omega, ?_⟩
        refine for_it (w := walk_range) (fun t σ H' => ∃ (o6 o9 o10 o11 o12 : Option V) (ols : List V) (ns : Nat → List Str), σ = [some (.ref b), some (.ref a), some (.int len), some (.str z), some (.ref O), some (.int way), o6, some (.ref F), some (.ref Fd), o9, o10, o11, o12] ∧
            H' Fd = some (.lst ols) ∧ ols.length = t ∧ (∀ k, k < t → ∃ o : Addr, ols[k]? = some (.ref o) ∧ H' o = some (.lst ((ns k).map V.str)) ∧ o ≠ Fd ∧ o ≠ b ∧ (ns k).length ≤ 90 ∧ ∀ y ∈ ns k, ∃ i, i < gs.length ∧ y = nmAt gs i) ∧ BoxAt H' b (n + 10 + 20 * t) ∧ But b H4 H')
          ⟨_, none, none, none, none, [], fun _ => [], rfl, h5, rfl, (fun k h => absurd h (Nat.not_lt_zero _)), by simpa using bx4.same s5, But.of s5⟩ (fun _ _ _ _ _ => True.intro) ?_ ?_
        · rintro t x σ Hx H6 ht ⟨o6, o9, o10, o11, o12, ols, ns, rfl, hd6, hlen6, hrows, bx6, b6⟩ ⟨rfl, hx⟩
          have hx2 : x = .int ((t : Nat) : Int) := by
            rw [hx]
            show V.int (0 + (t : Int)) = _
            rw [Int.zero_add]
          subst hx2
          have tl : t < len.toNat := ht
          have hO6 := b6 _ _ nOb hO4
          -- drawn
          refine ⟨_, rfl, O, rfl, ⟨_, SqL.of hO6⟩, fun L1 hL1 => ?_⟩
          have nL1 := bx6.ne hL1
          refine lc_sub (ol.map fun i => nmAt gs i) _ hL1 bx6 hO6 nOb (by rw [List.length_map]; omega) ?_ ?_
          · intro i y H7 Y2 N2 hy b7 bx7 k3 k4
            have hil : i < ol.length := by
              have := (List.getElem?_eq_some_iff.mp hy).1
              rw [List.length_map] at this
              exact this
            refine ⟨rfl, _, rfl, b, _, 2, rfl, bx7, by omega, by omega, by omega, fun q Ha q0 q1 bxa ba => ⟨rfl, _, rfl, ?_⟩⟩
            refine ite_dec (fun cc => ?_) (fun cc => ?_)
            · exact ⟨_, rfl, k3 Ha ba bxa⟩
            · exact k4 Ha ba bxa
          intro H7 l1 b7 bx7 hl1 m1 len1
          rw [List.length_map] at bx7 len1
          have b67 := b6.trans b7
          have hO7 := b67 _ _ nOb hO4
          -- late
          refine ⟨_, rfl, O, rfl, ⟨_, SqL.of hO7⟩, fun L2' hL2 => ?_⟩
          have nL2 := bx7.ne hL2
          refine lc_sub (ol.map fun i => nmAt gs i) _ hL2 bx7 hO7 nOb (by rw [List.length_map]; omega) ?_ ?_
          · intro i y H8 Y2 N2 hy b8 bx8 k3 k4
            rw [List.getElem?_map] at hy
            obtain ⟨k, hk, rfl⟩ := Option.map_eq_some_iff.mp hy
            obtain ⟨r, hr⟩ := look k (List.mem_of_getElem? hk)
            refine ⟨rfl, _, rfl, _, rfl, _, rfl, F, _, rfl, .inl ⟨kv, .inr (nmAt gs k), .inl (b8 _ _ nFb (b67 _ _ nFb hF4)), rfl, hr.symm⟩, _, _, rfl, rfl, _, rfl, ?_⟩
            refine ite_dec (fun cc => ?_) (fun cc => ?_)
            · exact ⟨_, rfl, k3 _ (But.refl _ _) (bx8.mono (by omega))⟩
            · exact k4 _ (But.refl _ _) (bx8.mono (by omega))
          intro H8 l2 b8 bx8 hl2 m2 len2
          rw [List.length_map] at bx8 len2
          have b68 := b67.trans b8
          have hO8 := b68 _ _ nOb hO4
          -- early
          refine ⟨_, rfl, O, rfl, ⟨_, SqL.of hO8⟩, fun L3 hL3 => ?_⟩
          have nL3 := bx8.ne hL3
          refine lc_sub (ol.map fun i => nmAt gs i) _ hL3 bx8 hO8 nOb (by rw [List.length_map]; omega) ?_ ?_
          · intro i y H9 Y2 N2 hy b9 bx9 k3 k4
            rw [List.getElem?_map] at hy
            obtain ⟨k, hk, rfl⟩ := Option.map_eq_some_iff.mp hy
            obtain ⟨r, hr⟩ := look k (List.mem_of_getElem? hk)
            refine ⟨rfl, _, rfl, _, rfl, _, rfl, F, _, rfl, .inl ⟨kv, .inr (nmAt gs k), .inl (b9 _ _ nFb (b68 _ _ nFb hF4)), rfl, hr.symm⟩, _, _, rfl, rfl, _, rfl, ?_⟩
            refine ite_dec (fun cc => ?_) (fun cc => ?_)
            · exact ⟨_, rfl, k3 _ (But.refl _ _) (bx9.mono (by omega))⟩
            · exact k4 _ (But.refl _ _) (bx9.mono (by omega))
          intro H9 l3 b9 bx9 hl3' m3 len3
          rw [List.length_map] at bx9 len3
          have hO9 := b9 _ _ nOb hO8
          have b69 := b68.trans b9
          have nL1F : L1 ≠ Fd := fun q => by
            rw [q, hd6] at hL1
            cases hL1
          have hd7 := b7 _ _ nFd hd6
          have nL2F : L2' ≠ Fd := fun q => by
            rw [q, hd7] at hL2
            cases hL2
          have hd8 := b8 _ _ nFd hd7
          have nL3F : L3 ≠ Fd := fun q => by
            rw [q, hd8] at hL3
            cases hL3
          have hd9 := b9 _ _ nFd hd8
          have hl19 := b9 _ _ nL1 (b8 _ _ nL1 hl1)
          have hl29 := b9 _ _ nL2 hl2
          refine ⟨_, rfl, .inl ⟨rfl, _, SqL.of hd9⟩, _, rfl, O, _, rfl, .inl (SqL.of hO9), fun c1 hc1 => ?_⟩
          have sA : Same H9 (upd H9 c1 (.lst ((ol.map fun i => nmAt gs i).map V.str))) := same_new hc1
          have hcA : upd H9 c1 (.lst ((ol.map fun i => nmAt gs i).map V.str)) c1 = some (.lst ((ol.map fun i => nmAt gs i).map V.str)) := upd_same
          have nc1b := bx9.ne hc1
          have nc1F : c1 ≠ Fd := fun q => by
            rw [q, hd9] at hc1
            cases hc1
          generalize upd H9 c1 (.lst ((ol.map fun i => nmAt gs i).map V.str)) = HA at sA hcA ⊢
          refine ⟨Nat.zero_le _, fun c2 hc2 => ?_⟩
          have sB : Same HA (upd HA c2 (.lst [])) := same_new hc2
          have hcB : upd HA c2 (.lst []) c2 = some (.lst []) := upd_same
          have nc2b := (bx9.same sA).ne hc2
          have nc2F : c2 ≠ Fd := fun q => by
            rw [q, sA _ _ hd9] at hc2
            cases hc2
          generalize upd HA c2 (.lst []) = HB at sB hcB ⊢
          refine ⟨_, rfl, _, rfl, _, rfl, (show 5 ≤ sizeLine by decide), fun q hq' => ?_⟩
          have sC : Same HB (upd HB q (.lst [.ref c1, .ref c2, .ref L1, .ref L2', .ref L3])) := same_new hq'
          have hcC : upd HB q (.lst [.ref c1, .ref c2, .ref L1, .ref L2', .ref L3]) q = some (.lst [.ref c1, .ref c2, .ref L1, .ref L2', .ref L3]) := upd_same
          generalize upd HB q (.lst [.ref c1, .ref c2, .ref L1, .ref L2', .ref L3]) = HC at sC hcC ⊢
          have s9C : Same H9 HC := sA.trans (sB.trans sC)
          obtain ⟨v, hv1, hv2⟩ := atI_lt (xs := [.ref c1, .ref c2, .ref L1, .ref L2', .ref L3]) w0 w1
          have hnm : ∀ {l : List Str}, (∀ z ∈ l, z ∈ ol.map fun i => nmAt gs i) → ∀ y ∈ l, ∃ i, i < gs.length ∧ y = nmAt gs i := fun h y hy => by
            obtain ⟨i, hi, e⟩ := List.mem_map.mp (h y hy)
            exact ⟨i, olm i hi, e.symm⟩
          obtain ⟨o, l, rfl, ho, oF, ob, ll, ln⟩ : ∃ (o : Addr) (l : List Str), v = .ref o ∧ HC o = some (.lst (l.map V.str)) ∧ o ≠ Fd ∧ o ≠ b ∧ l.length ≤ 90 ∧ ∀ y ∈ l, ∃ i, i < gs.length ∧ y = nmAt gs i := by
            simp only [List.mem_cons, List.not_mem_nil, or_false] at hv2
            rcases hv2 with rfl | rfl | rfl | rfl | rfl
            · exact ⟨c1, _, rfl, sC _ _ (sB _ _ hcA), nc1F, nc1b, by rw [List.length_map]; omega, hnm fun z hz => hz⟩
            · exact ⟨c2, [], rfl, sC _ _ hcB, nc2F, nc2b, Nat.zero_le _, fun _ h => nomatch h⟩
            · exact ⟨L1, l1, rfl, s9C _ _ hl19, nL1F, nL1, by omega, hnm m1⟩
            · exact ⟨L2', l2, rfl, s9C _ _ hl29, nL2F, nL2, by omega, hnm m2⟩
            · exact ⟨L3, l3, rfl, s9C _ _ hl3', nL3F, nL3, by omega, hnm m3⟩
          have hdC := s9C _ _ hd9
          refine ⟨_, rfl, q, _, way, .ref o, rfl, rfl, SqL.of hcC, hv1, Fd, _, _, rfl, rfl, hdC, ?_, ?_⟩
          · have : 100 < sizeLine := by decide
            omega
          refine ⟨_, _, _, _, _, ols ++ [.ref o], fun k => if k = t then l else ns k, rfl, upd_same, by rw [List.length_append, hlen6]; rfl, fun k hk => ?_, ?_, ?_⟩
          · dsimp only
            by_cases q : k = t
            · subst q
              rw [if_pos rfl]
              refine ⟨o, ?_, by rw [upd_ne oF]; exact ho, oF, ob, ll, ln⟩
              rw [List.getElem?_append_right (by omega), hlen6, Nat.sub_self]
              rfl
            · obtain ⟨o', a1, a2, a3, a4, a5, a6⟩ := hrows k (by omega)
              rw [if_neg q]
              refine ⟨o', ?_, ?_, a3, a4, a5, a6⟩
              · rw [List.getElem?_append_left (by omega)]
                exact a1
              · rw [upd_ne a3]
                exact s9C _ _ (b9 _ _ a4 (b8 _ _ a4 (b7 _ _ a4 a2)))
          · refine BoxAt.mono ((bx9.same s9C).off (Ne.symm (Ne.symm nFd))) ?_
            omega
          · have bC := b69.trans (But.of s9C)
            exact fun x o nx e => by
              rw [upd_ne (fun q => by rw [q, hFd] at e; cases e)]
              exact bC x o nx e
        · rintro σ H6 ⟨o6, o9, o10, o11, o12, ols, ns, rfl, hd6, hlen6, hrows, bx6, b6⟩
          refine ⟨_, rfl, hq Fd ols ns H6 ((But.of su).trans (b4.trans b6)) (bx6.mono (by omega)) nFdH ⟨hd6, fun t ht => ?_⟩⟩
          obtain ⟨o, a1, a2, a3, a4, a5, a6⟩ := hrows t ht
          exact ⟨o, a1, a2, a5, a6⟩
end
end K85

set_option Elab.async false
set_option linter.all false
set_option maxRecDepth 100000
set_option maxHeartbeats 1000000
/-! IT: walks over a list or a tuple; enumerate of a tuple. -/
namespace RP
open PySem PySem.Spec PyProof.Rows L2
/-- enumerate(v), v told by what its iterator is -/
theorem meets_enum1B {v : Value} {o : Obj} {H : Heap → Prop} (B : Begins v o H) :
    Meets (Builtin.«enumerate.__new__» ⟨[.type "enumerate", v], []⟩) (fun _ R s => H s.heap ∧
      R (.ok (.ret (.ref (s.heap.push o).objs.size))) { s with heap := (s.heap.push o).push { cls := .type "enumerate", data := .fields #[.none, .bool false, .ref s.heap.objs.size, rawInt 0, .none, .none] } }) :=
  .of_wp fun prog w A R s h => by
    obtain ⟨hp, g, d, tk, os⟩ := s; obtain ⟨h1, h⟩ := h
    have hsub := sub_enumerate
    have q1 : ∀ {A' : Around} {E : Value → Shared → Prop} {Q : Value → Shared → Prop}, Q (.ref hp.objs.size) ⟨hp.push o, g, d, tk, os⟩ → wpAny (model prog w) A' (pyIter v) Q E ⟨hp, g, d, tk, os⟩ :=
      fun q => B.iter prog w _ _ ⟨hp, g, d, tk, os⟩ _ h1 q
    wp_walk using q1
    refine wpAny_stack_any fun st => wpAny_pure ?_
    split
    · rename_i c _ _ _ _ _
      cases (c == Value.type "enumerate")
      · wp_walk using q1
        exact ⟨_, rfl, h⟩
      · wp_walk using q1
        exact ⟨_, rfl, h⟩
    · wp_walk using q1
      exact ⟨_, rfl, h⟩
section
variable {prog : Program} {w : World} {A : Around} {E : Value → Shared → Prop} {s : Shared}
theorem enum1_begins {v : Value} {o : Obj} {H : Heap → Prop} {Q : Value → Shared → Prop} (B : Begins v o H) (h1 : H s.heap)
    (h : ∀ h', IsEnum h' (s.heap.objs.size + 1) s.heap.objs.size 0 .none → h'.get? s.heap.objs.size = some o → h'.objs.size = s.heap.objs.size + 2 →
      (∀ b o, s.heap.get? b = some o → h'.get? b = some o) → Q (.ref (s.heap.objs.size + 1)) { s with heap := h' }) :
    wpAny (model prog w) A (call (.type "enumerate") [v]) Q E s := by
  refine callType_new F.called_enumerate (by decide) (F.typeCall_enumerate_1 _) (F.newCall_enumerate_1 _) (fun obj => F.args_object_init_2 obj _) F.entry_enumerate_new
    (meets_enum1B B) ⟨h1, ?_⟩
  have hz : (s.heap.push o).objs.size = s.heap.objs.size + 1 := Heap.size_push ..
  show _ ∧ _
  rw [hz]
  have he : IsEnum ((s.heap.push o).push { cls := .type "enumerate", data := .fields #[.none, .bool false, .ref s.heap.objs.size, rawInt 0, .none, .none] }) (s.heap.objs.size + 1) s.heap.objs.size 0 .none := by
    have := Heap.get?_push_size (s.heap.push o) (o := { cls := .type "enumerate", data := .fields #[.none, .bool false, .ref s.heap.objs.size, rawInt 0, .none, .none] }) rfl
    rw [hz] at this; exact this
  refine ⟨⟨_, he, rfl⟩, h _ he (Heap.get?_push_of_some _ (Heap.get?_push_size _ B.free)) (by rw [Heap.size_push, hz]) fun b o x => Heap.get?_push_of_some _ (Heap.get?_push_of_some _ x)⟩
end
/-- the tuple at a, each item in a new pair -/
def IteT (K : PySem.W.Frag) (a : Addr) : It :=
  ⟨fun i H => ∃ (xs : List V) (x : V), SqT K H a xs ∧ xs[i]? = some x, fun i H v H' => ∃ T x, v = .ref T ∧ H T = none ∧ H' = upd H T (.tup [.int (i : Nat), x]) ∧ ∀ xs, SqT K H a xs → xs[i]? = some x, fun i H => ∃ xs : List V, SqT K H a xs ∧ xs.length ≤ i⟩
theorem enum_apart {h : Heap} {e it a : Addr} {c : Int} {old : Value} {its : Array Value} {i : Nat} (he : IsEnum h e it c old) (hit : h.IsTupleIter it a i) (p : h.IsTuple a its) : a ≠ it ∧ e ∉ [it, a] := by
  obtain ⟨o1, h1, c1, d1⟩ := hit
  obtain ⟨o2, h2, c2, n2, d2⟩ := p
  have ne : ∀ {x y : Addr} {o o' : Obj}, h.get? x = some o → h.get? y = some o' → o.cls ≠ o'.cls → x ≠ y := fun hx hy q z => by
    rw [z, hy] at hx
    exact q (by rw [Option.some.inj hx])
  refine ⟨ne h2 h1 (by rw [c1, c2]; decide), fun m => ?_⟩
  rcases List.mem_cons.mp m with z | z
  · exact ne he h1 (by show Value.type "enumerate" ≠ _; rw [c1]; decide) z
  · rw [List.mem_singleton] at z
    exact ne he h2 (by show Value.type "enumerate" ≠ _; rw [c2]; decide) z
theorem turn_enumT {P : Program} {w : World} {K : PySem.W.Frag} {elts : List Expr} {kk : Nat} {tpos : Pos} (a e it : Addr) :
    Turn P w K (.Tuple elts kk tpos) (IteT K a) [e, it] e (fun i h => (∃ old, IsEnum h e it ((i : Nat) : Int) old) ∧ h.IsTupleIter it a i ∧ e ≠ it) where
  mem := by simp
  obj := fun i h st b hb => by
    obtain ⟨⟨old, he⟩, ⟨o, ho, hc, hd⟩, _⟩ := st
    have e' : b = e ∨ b = it := by simpa using hb
    rcases e' with z | z
    · rw [z]; exact ⟨_, he, fun v q => nomatch q⟩
    · rw [z]; exact ⟨o, ho, fun v q => by rw [hd] at q; cases q⟩
  keep := fun i h h' st k => let ⟨⟨old, he⟩, hi, hne⟩ := st; ⟨⟨old, k e (by simp) _ he⟩, hi.at fun o q => k it (by simp) o q, hne⟩
  item := by
    intro X hP hw hK hc i pins s σ H E I hf st hg
    subst hP hw hK
    obtain ⟨⟨old, he⟩, hit, hne⟩ := st
    obtain ⟨xs, x, hq, hx⟩ := hg
    obtain ⟨its, rv, p, hz⟩ := I.tuple hq
    have p' : s.heap.IsTuple a its.toArray := p
    obtain ⟨u, hu, ru⟩ := rv.get hx
    have hel : e < s.heap.objs.size := Heap.lt_size he
    have hil : it < s.heap.objs.size := by obtain ⟨_, q, _⟩ := hit; exact Heap.lt_size q
    obtain ⟨hai, hea⟩ := enum_apart he hit p'
    have hli : i < its.toArray.size := by
      have := (List.getElem?_eq_some_iff.mp hu).1
      simpa using this
    refine wpAny_pyNext_enum_itemD (Draws.tuple (A := X.A.in1) (by exact I.ok.hd hc) it a hai its.toArray) he ⟨hit, p'⟩ hli hne hea fun y h' tk hP ho hst hT hsz hk => ?_
    obtain ⟨hit', _⟩ := hst
    have hy : y = u := by
      have q : its.toArray[i]? = some u := by simpa using hu
      rw [q] at hP
      exact (Option.some.inj hP).symm
    subst hy
    refine ⟨_, rfl, wpAny_letOwnedTupleGo_enum (s := { s with heap := h', toks := tk + 1 }) ho fun h'' he' sb => ?_⟩
    have hT2 : h''.get? s.heap.objs.size = some { cls := .type "tuple", data := .seq #[.int i tk, y] } := (sb.2 _ (Nat.ne_of_gt hel)).trans hT
    have new : ObjOk X.prog X.w (upd H s.heap.objs.size (.tup [.int (i : Nat), x])) h'' s.heap.objs.size (.tup [.int (i : Nat), x]) :=
      ⟨by show 2 ≤ sizeLine; decide, [.int i tk, y], .cons ⟨_, rfl⟩ (.cons ru .nil), ⟨_, hT2, rfl, _, rfl⟩⟩
    have I1 : Inv X pins σ (upd H s.heap.objs.size (.tup [.int (i : Nat), x])) { s with heap := h'', toks := tk + 1 } :=
      I.turnedNew (ch := [e, it]) (fun b ob hb q => (sb.2 b (fun z => hb (by simp [z]))).trans (hk b ob (fun z => hb (by simp [z])) (fun z => hb (by simp [z])) q)) hf (Nat.le_refl _) new
    refine ⟨.ref s.heap.objs.size, _, I1, rfl, ⟨_, x, rfl, I.hok.fresh (Nat.le_refl _), rfl, fun ys hy => by rw [I.tuple_inj hy hq]; exact hx⟩, ⟨⟨y, ?_⟩, hit'.at fun o q => (sb.2 it (Ne.symm hne)).trans q, hne⟩, fun b hb => ?_⟩
    · have e1 : ((i + 1 : Nat) : Int) = (i : Int) + 1 := by omega
      rw [e1]; exact he'
    · have hb' : b < s.heap.objs.size := by
        have e' : b = e ∨ b = it := by simpa using hb
        rcases e' with z | z
        · rw [z]; exact hel
        · rw [z]; exact hil
      rw [upd_ne (Nat.ne_of_lt hb')]
      exact (hf b hb).1
  done := by
    intro X hP hw hK hc i pins s σ H E I hf st hg
    subst hP hw hK
    obtain ⟨⟨old, he⟩, hit, hne⟩ := st
    obtain ⟨xs, hq, hx⟩ := hg
    obtain ⟨its, rv, p, hz⟩ := I.tuple hq
    have p' : s.heap.IsTuple a its.toArray := p
    obtain ⟨f0, f1, f2, f3, f4, f5⟩ := hf it (by simp)
    have hl := rv.length
    have hT : s.TypeIs (.ref e) "enumerate" := ⟨_, he, rfl⟩
    have fin : wpAny (model X.prog X.w) X.A (pyNext (.ref e)) (fun r s1 => r = none ∧ Inv X pins σ H s1) E s := by
      unfold pyNext
      refine wpAny_bind (wpAny_attempt (wpAny_callSpecial?_slot (name := Str.ofString "__next__") hT F.slot_enumerate_next
        (wpAny_call_entry F.slot_enumerate_next hT F.entry_enumerate_next ?_ (F.args_enumerate_next_1 _))))
      show wpAny _ _ (field (.ref e) 2 >>= _) _ _ _
      refine wpAny_bind (wpAny_field he rfl (x := .ref it) rfl ?_)
      refine wpAny_bind (wpAny_nextOf_tuple_end (by exact I.ok.hd hc) hit p' (by simp; omega) fun h' x eb hx' => ?_)
      obtain ⟨o, ho, hc'⟩ := hx'
      refine wpAny_bind (wpAny_isInstance (T := "StopIteration") (b := true) ⟨o, ho, hc'⟩ isSubtype_stop ?_)
      exact wpAny_pure ⟨rfl, I.turned (t' := s.toks) (fun b o hb q => eb b o hb q) f0 f1 f3 f4 f5⟩
    exact fin
  self := fun A i s Q E st h => let ⟨⟨_, he⟩, _⟩ := st; wpAny_pyIter_enum he h
/-! ### the rules: a list (true) or a tuple (false) -/
def Sq (b : Bool) (K : PySem.W.Frag) (H : Hp) (a : Addr) (xs : List V) : Prop := match b with
  | true => SqL K H a xs
  | false => SqT K H a xs
def ItB (b : Bool) (K : PySem.W.Frag) (a : Addr) : It := match b with
  | true => Itl K a
  | false => Itt K a
def ItEB (b : Bool) (K : PySem.W.Frag) (a : Addr) : It := match b with
  | true => Ite K a
  | false => IteT K a
theorem Sq.or {b : Bool} {K : PySem.W.Frag} {H : Hp} {a : Addr} {xs : List V} (h : Sq b K H a xs) : SqL K H a xs ∨ SqT K H a xs := by
  cases b with
  | true => exact .inl h
  | false => exact .inr h
theorem Sq.mono {b : Bool} {K : PySem.W.Frag} {R H : Hp} {a : Addr} {xs : List V} (l : Lq R H) (h : Sq b K R a xs) : Sq b K H a xs := by
  cases b with
  | true => exact l.seq h
  | false => exact l.tup h
def iSeq (K : PySem.W.Frag) (tl : TE) : TI := fun σ H R => tl σ H fun x H1 => ∃ a b, x = .ref a ∧ (∃ xs, Sq b K H1 a xs) ∧ R (ItB b K a) H1
theorem pi_seq {X : Cx} {tg l : Expr} {tl : TE} (hl : PE X l tl) : PI X tg l (iSeq X.K tl) := by
  refine ⟨fun pins s σ H R I h => ?_⟩
  refine thn (hl.run pins s σ H _ I h) fun v s1 ⟨x, H1, I1, r1, q1⟩ => ?_
  obtain ⟨a, b, e, ⟨xs, hq⟩, q⟩ := q1
  cases b with
  | true =>
    subst e
    cases r1
    obtain ⟨its, rv, p, hz⟩ := I1.list hq
    refine wpAny_pyIter_list p.isList ?_
    refine ⟨s1.heap.objs.size, [s1.heap.objs.size], _, _, H1, rfl, I1.kept (t' := s1.toks) fun b o e => Heap.get?_push_of_some _ e, turn_list a _, ⟨_, Heap.get?_push_size _ rfl, rfl, rfl⟩, fun b hb => ?_, q⟩
    have e : b = s1.heap.objs.size := by simpa using hb
    subst e
    exact I1.fpOk (Nat.le_refl _) (I1.hok.fresh (Nat.le_refl _))
  | false =>
    subst e
    cases r1
    obtain ⟨its, rv, p, hz⟩ := I1.tuple hq
    refine wpAny_pyIter_tuple (show s1.heap.IsTuple a its.toArray from p) ?_
    refine ⟨s1.heap.objs.size, [s1.heap.objs.size], _, _, H1, rfl, I1.kept (t' := s1.toks) fun b o e => Heap.get?_push_of_some _ e, turn_tuple a _, ⟨_, Heap.get?_push_size _ rfl, rfl, rfl⟩, fun b hb => ?_, q⟩
    have e : b = s1.heap.objs.size := by simpa using hb
    subst e
    exact I1.fpOk (Nat.le_refl _) (I1.hok.fresh (Nat.le_refl _))
theorem kpi_seq {X : Cx} (K : PySem.W.Frag) (h : X.K = K) {tg l : Expr} {tl : TE} (hl : PE X l tl) : PI X tg l (iSeq K tl) := by subst h; exact pi_seq hl
def iEnumS (K : PySem.W.Frag) (ta : TA) : TI := fun σ H R => ta σ H fun vs H1 => ∃ a b xs, vs = [.ref a] ∧ Sq b K H1 a xs ∧ R (ItEB b K a) H1
theorem pi_enumS {X : Cx} {e : Expr} {ta : TA} {p pos tpos : Pos} {elts : List Expr} {kk : Nat} (hg : Gl X "enumerate") (hm : X.mg "enumerate" = none) (ha : PA X [e] ta) (hs : starEach [e] X.env = [(false, eval e X.env)] := by rfl) :
    PI X (.Tuple elts kk tpos) (.Call (.Name "enumerate" p) [e] [] pos) (iEnumS X.K ta) := by
  refine ⟨fun pins s σ H R I h => ?_⟩
  refine Call_ (ld_blt I hg hm boot_enumerate (PyProof.Rows.callWith_type1 (thn (ha.run pos pins s σ H _ I h) fun us s1 ⟨vs, H1, I1, r1, q1⟩ => ?_) hs rfl))
  obtain ⟨a, b, xs, ex, hq, q⟩ := q1
  subst ex
  cases r1 with
  | cons r rr =>
    cases rr
    cases r
    have fin : ∀ {J : It} {tn : Nat → Heap → Prop} {h' : Heap}, (∀ b o, s1.heap.get? b = some o → h'.get? b = some o) → Turn X.prog X.w X.K (.Tuple elts kk tpos) J [s1.heap.objs.size + 1, s1.heap.objs.size] (s1.heap.objs.size + 1) tn → tn 0 h' → R J H1 →
        PIE X pins σ (.Tuple elts kk tpos) R (.ref (s1.heap.objs.size + 1)) { s1 with heap := h' } := fun {J tn h'} hk tr t0 q => by
      refine ⟨s1.heap.objs.size + 1, [s1.heap.objs.size + 1, s1.heap.objs.size], _, _, H1, rfl, I1.kept (t' := s1.toks) hk, tr, t0, fun b hb => ?_, q⟩
      have I2 : Inv X pins σ H1 { s1 with heap := h' } := I1.kept (t' := s1.toks) hk
      have e' : b = s1.heap.objs.size + 1 ∨ b = s1.heap.objs.size := by simpa using hb
      have hle : s1.heap.objs.size ≤ b := by
        rcases e' with z | z
        · rw [z]; exact Nat.le_add_right _ _
        · rw [z]; exact Nat.le_refl _
      exact I1.fpOk hle (I1.hok.fresh hle)
    cases b with
    | true =>
      obtain ⟨its, rv, p', hz⟩ := I1.list hq
      exact call_enumerate_list p'.isList fun h' he hit hsz hk => wpAny_pyIter_enum he (fin hk (turn_enum a _ _) ⟨⟨.none, he⟩, hit, Nat.succ_ne_self _⟩ q)
    | false =>
      obtain ⟨its, rv, p', hz⟩ := I1.tuple hq
      have pt : s1.heap.IsTuple a its.toArray := p'
      exact enum1_begins (begins_tuple a its.toArray) pt fun h' he hit hsz hk => wpAny_pyIter_enum he (fin hk (turn_enumT a _ _) ⟨⟨.none, he⟩, ⟨_, hit, rfl, rfl⟩, Nat.succ_ne_self _⟩ q)
theorem kpi_enumS {X : Cx} (K : PySem.W.Frag) (h : X.K = K) {e : Expr} {ta : TA} {p pos tpos : Pos} {elts : List Expr} {kk : Nat} (hg : Gl X "enumerate") (hm : X.mg "enumerate" = none) (ha : PA X [e] ta) (hs : starEach [e] X.env = [(false, eval e X.env)] := by rfl) :
    PI X (.Tuple elts kk tpos) (.Call (.Name "enumerate" p) [e] [] pos) (iEnumS K ta) := by subst h; exact pi_enumS hg hm ha hs
theorem walk_enumT {K : PySem.W.Frag} {a : Addr} {xs : List V} : Walk (IteT K a) xs.length (fun H => SqT K H a xs) (YPair (fun i => some (.int (i : Nat))) (fun i => xs[i]?)) := by
  refine ⟨fun i _ hi q => ⟨xs, xs[i], q, by simp [hi]⟩, fun _ q => ⟨xs, q, Nat.le_refl _⟩, fun i H v H' _ q y => ?_⟩
  obtain ⟨T, x, h1, h2, h3, h4⟩ := y
  exact ⟨T, .int (i : Nat), x, h1, h2, h3, rfl, h4 xs q⟩
theorem walk_seq {K : PySem.W.Frag} {a : Addr} {xs : List V} : ∀ {b : Bool}, Walk (ItB b K a) xs.length (fun H => Sq b K H a xs) (YAt xs)
  | true => walk_list
  | false => walk_tup
theorem walk_enumS {K : PySem.W.Frag} {a : Addr} {xs : List V} : ∀ {b : Bool}, Walk (ItEB b K a) xs.length (fun H => Sq b K H a xs) (YPair (fun i => some (.int (i : Nat))) (fun i => xs[i]?))
  | true => walk_enum
  | false => walk_enumT
/-! ### a list of whole numbers == [], != [] -/
theorem dp_ints {K : PySem.W.Frag} {H : Hp} : ∀ is : List Int, DpAll K H (is.map V.int) (is.map PyData.int)
  | [] => .nil
  | i :: r => .cons (.int i) (dp_ints r)
theorem ints_can : ∀ is : List Int, PyData.canLayAll0 (is.map PyData.int) = true
  | [] => by unfold PyData.canLayAll0; rfl
  | i :: r => by
    rw [List.map_cons]
    unfold PyData.canLayAll0
    rw [ints_can r]
    unfold PyData.canLay0
    rfl
theorem ints_depth : ∀ is : List Int, PyData.depthAll (is.map PyData.int) = 0
  | [] => by unfold PyData.depthAll; rfl
  | i :: r => by
    rw [List.map_cons]
    unfold PyData.depthAll
    rw [ints_depth r]
    unfold PyData.depth
    rfl
theorem ints_shaped (is : List Int) : SeqAt.shaped (.list (is.map PyData.int)) = true := by
  unfold SeqAt.shaped
  have e1 : PyData.canLay0 (.list (is.map PyData.int)) = true := by
    unfold PyData.canLay0
    exact ints_can is
  have e2 : PyData.depth (.list (is.map PyData.int)) = 1 := by
    unfold PyData.depth
    rw [ints_depth]
  rw [e1, e2]
  rfl
theorem ints_eqv (is : List Int) : PyData.eqv (.list (is.map PyData.int)) (.list []) = is.isEmpty := by
  cases is <;> rfl
def rEqE (K : PySem.W.Frag) : R2 := fun x y H Q => ∃ (a b : Addr) (is : List Int), x = .ref a ∧ y = .ref b ∧ SqL K H a (is.map V.int) ∧ SqL K H b [] ∧ Q (.bl is.isEmpty) H
def rNeE (K : PySem.W.Frag) : R2 := fun x y H Q => ∃ (a b : Addr) (is : List Int), x = .ref a ∧ y = .ref b ∧ SqL K H a (is.map V.int) ∧ SqL K H b [] ∧ Q (.bl (!is.isEmpty)) H
theorem kop_eqE {X : Cx} (K : PySem.W.Frag) (h : X.K = K) (hu : X.A.units + 64 < cLine) : OpR X (compareOp .Eq) (rEqE K) := by
  subst h
  intro pins s σ H x y v u Q I rx ry q
  obtain ⟨a, b, is, rfl, rfl, h1, h2, q⟩ := q
  refine op_eqD hu pins s σ H _ _ v u Q I rx ry ⟨_, _, .lst h1 (dp_ints is), .lst h2 .nil, ints_shaped is, by decide, ?_⟩
  rw [ints_eqv]
  exact q
theorem kop_neE {X : Cx} (K : PySem.W.Frag) (h : X.K = K) (hu : X.A.units + 64 < cLine) : OpR X (compareOp .NotEq) (rNeE K) := by
  subst h
  intro pins s σ H x y v u Q I rx ry q
  obtain ⟨a, b, is, rfl, rfl, h1, h2, q⟩ := q
  refine op_neD hu pins s σ H _ _ v u Q I rx ry ⟨_, _, .lst h1 (dp_ints is), .lst h2 .nil, ints_shaped is, by decide, ?_⟩
  rw [ints_eqv]
  exact q
/-! ### x[i] of a text, a list or a tuple -/
def rIxAny (K : PySem.W.Frag) : R2 := fun x y H Q => rIxS x y H Q ∨ ∃ (b : Bool) (p : Addr) (xs : List V) (i : Int) (v : V), x = .ref p ∧ y = .int i ∧ Sq b K H p xs ∧ atI xs i = some v ∧ Q v H
theorem kix_any {X : Cx} (K : PySem.W.Frag) (h : X.K = K) : IxR X (rIxAny K) := by
  subst h
  intro value slice pins s σ H x y v u Q I rx ry h hs
  rcases h with h | ⟨b, p, xs, i, w, h1, h2, h3, h4, h5⟩
  · exact ix_str value slice pins s σ H x y v u Q I rx ry h hs
  · cases b with
    | true => exact ix_list value slice pins s σ H x y v u Q I rx ry ⟨p, xs, i, w, h1, h2, h3, h4, h5⟩ hs
    | false => exact ix_tup value slice pins s σ H x y v u Q I rx ry ⟨p, xs, i, w, h1, h2, h3, h4, h5⟩ hs
theorem Sq.len {b : Bool} {K : PySem.W.Frag} {H : Hp} {a : Addr} {xs : List V} (h : Sq b K H a xs) : LenV K (.ref a) H xs.length := by
  rcases h.or with h | h
  · exact .inl ⟨xs, h, rfl⟩
  · exact .inr ⟨xs, h, rfl⟩
theorem cut_one {z : Str} {k c : Nat} (h : z.cps.toList[k]? = some c) : cutS z (some (k : Int)) (some ((k : Int) + 1)) = ⟨#[c]⟩ := by
  have hk : k < z.cps.toList.length := (List.getElem?_eq_some_iff.mp h).1
  have hl : z.length = z.cps.toList.length := by show z.cps.size = _; simp
  unfold cutS
  have e1 : HT.sIx z.length 0 (some (k : Int)) = k := by
    rw [HT.sIx_nat]
    omega
  have e2 : HT.sIx z.length z.length (some ((k : Int) + 1)) = k + 1 := by
    have : ((k : Int) + 1) = ((k + 1 : Nat) : Int) := by omega
    rw [this, HT.sIx_nat]
    omega
  rw [e1, e2, show k + 1 - k = 1 by omega]
  have e3 : (z.cps.toList.drop k).take 1 = [c] := by
    have hc : z.cps.toList[k] = c := (List.getElem?_eq_some_iff.mp h).2
    rw [List.drop_eq_getElem_cons hk, hc]
    rfl
  rw [e3]
end RP

set_option Elab.async false
set_option linter.all false
set_option maxRecDepth 100000
set_option maxHeartbeats 1000000
namespace K85
open PySem PySem.Spec PyProof.Rows L2 RP
def pairD (e : Str × D) : D := .tup [.str e.1, e.2]
/-- data of nesting below n, none of it long -/
def Fit : Nat → D → Prop
  | 0, _ => False
  | _ + 1, .non => True
  | _ + 1, .bl _ => True
  | _ + 1, .int _ => True
  | _ + 1, .str z => z.length ≤ 1000
  | n + 1, .lst l => l.length ≤ 1000 ∧ ∀ e ∈ l, Fit n e
  | n + 1, .tup l => l.length ≤ 1000 ∧ ∀ e ∈ l, Fit n e
  | n + 1, .dct l => Fit n (.lst (l.map pairD))
/-- what list(d.items()) gives stands for the pairs -/
theorem items_rep {K : PySem.W.Frag} {R H H' : Hp} {kvs : List (Key × V)} {es : List (Str × D)} {p : Addr} {ts : List Addr} (sR : Same R H) (pR : Plain R) (r : RepK K R kvs es) (keep : ∀ b o, H b = some o → H' b = some o) (hp : H p = none) (hts : ∀ t ∈ ts, H t = none) (hl : H' p = some (.lst (ts.map V.ref)))
    (pp : Paired (fun (t : Addr) (q : Key × V) => H' t = some (.tup [kV q.1, q.2])) ts kvs) : ∃ R', Same R R' ∧ Plain R' ∧ Same R' H' ∧ Rep K R' (.ref p) (.lst (es.map pairD)) := by
  have nR : ∀ t, t = p ∨ t ∈ ts → R t = none := fun t ht => by
    rcases ht with rfl | ht
    · exact sR.out hp
    · exact sR.out (hts t ht)
  have isT : ∀ {ts : List Addr} {kvs : List (Key × V)}, Paired (fun (t : Addr) (q : Key × V) => H' t = some (.tup [kV q.1, q.2])) ts kvs → ∀ t ∈ ts, ∃ xs, H' t = some (.tup xs) := by
    intro ts kvs pp
    induction pp with
    | nil => intro t h; cases h
    | cons h _ ih =>
      intro t ht
      rcases List.mem_cons.mp ht with rfl | ht
      · exact ⟨_, h⟩
      · exact ih t ht
  have sRR : Same R (fun b => if b = p ∨ b ∈ ts then H' b else R b) := fun a o e => by
    show (if a = p ∨ a ∈ ts then H' a else R a) = some o
    rw [if_neg (fun h => by rw [nR a h] at e; cases e)]
    exact e
  refine ⟨fun b => if b = p ∨ b ∈ ts then H' b else R b, sRR, fun a o u e => ?_, fun a o e => ?_, ?_⟩
  · have e2 : (if a = p ∨ a ∈ ts then H' a else R a) = some (.frz o u) := e
    by_cases q : a = p ∨ a ∈ ts
    · rw [if_pos q] at e2
      rcases q with rfl | q
      · rw [hl] at e2; cases e2
      · obtain ⟨xs, h⟩ := isT pp a q
        rw [h] at e2; cases e2
    · rw [if_neg q] at e2
      exact pR _ _ _ e2
  · have e2 : (if a = p ∨ a ∈ ts then H' a else R a) = some o := e
    by_cases q : a = p ∨ a ∈ ts
    · rw [if_pos q] at e2; exact e2
    · rw [if_neg q] at e2
      exact keep _ _ (sR _ _ e2)
  · have at' : ∀ t, t = p ∨ t ∈ ts → (fun b => if b = p ∨ b ∈ ts then H' b else R b) t = H' t := fun t h => if_pos h
    refine .lst (SqL.of ((at' p (.inl rfl)).trans hl)) ?_
    have key : ∀ {ts2 : List Addr} {kvs : List (Key × V)} {es : List (Str × D)}, (∀ t ∈ ts2, t ∈ ts) → RepK K R kvs es → Paired (fun (t : Addr) (q : Key × V) => H' t = some (.tup [kV q.1, q.2])) ts2 kvs → Reps K (fun b => if b = p ∨ b ∈ ts then H' b else R b) (ts2.map V.ref) (es.map pairD) := by
      intro ts2 kvs es hin r pp
      induction pp generalizing es with
      | nil =>
        cases r
        exact .nil
      | @cons t kv ts3 kvs3 h _ ih =>
        cases r with
        | @cons x v d _ _ hx hd tl =>
          refine .cons (.tup (SqT.of ((at' t (.inr (hin t List.mem_cons_self))).trans h)) (.cons (.str _ hx) (.cons (hd.same sRR) .nil))) (ih (fun t ht => hin t (List.mem_cons_of_mem _ ht)) tl)
    exact key (fun _ h => h) r pp
section
variable {P : Program} {w : World} {K : PySem.W.Frag} {mg : Str → Option Value} {base : Heap}
/-! ### _law_same: true of two that stand for the same -/
theorem sc__law_same : FnScope ["told", "due", "same", "k"] ["told", "due"] (defScope s__law_same) := ⟨rfl, rfl, rfl, by decide +kernel, rfl, by decide +kernel, by decide +kernel⟩
def spSame (n : Nat) (K : PySem.W.Frag) : Sp := fun vs H Q _ => ∃ (R : Hp) (v1 v2 : V) (d : D), vs = [v1, v2] ∧ Same R H ∧ Plain R ∧ Rep K R v1 d ∧ Rep K R v2 d ∧ Fit n d ∧ ∀ H', Same H H' → Q (.bl true) H'
theorem ok__law_same0 (T : Txt K mg) : Def P w K mg base 1 "_law_same" ["told", "due"] (spSame 0 K) := by
  obtain ⟨f, fd, F⟩ := T.a__law_same
  refine Def.mk F sc__law_same (fun _ _ _ _ _ _ us hl => match us, hl with | [_, _], _ => rfl) (fun vs H Q E h => ?_) (fun cdv A outer s H vs Q E hr h => ?_)
  · obtain ⟨R, v1, v2, d, rfl, _⟩ := h
    rfl
  · obtain ⟨R, v1, v2, d, rfl, _, _, _, _, hf, _⟩ := h
    exact hf.elim
theorem ok__law_sameS (T : Txt K mg) (n : Nat) (G__law_same : Def P w K mg base (n + 1) "_law_same" ["told", "due"] (spSame n K)) : Def P w K mg base (n + 2) "_law_same" ["told", "due"] (spSame (n + 1) K) := by
  obtain ⟨f, fd, F⟩ := T.a__law_same
  refine Def.mk F sc__law_same (fun _ _ _ _ _ _ us hl => match us, hl with | [_, _], _ => rfl) (fun vs H Q E h => ?_) (fun cdv A outer s H vs Q E hr h => ?_)
  · obtain ⟨R, v1, v2, d, rfl, _⟩ := h
    rfl
  · obtain ⟨R, v1, v2, d, rfl, sR, pR, r1, r2, hf, hq⟩ := h
    have h1 := r1.same sR
    have h2 := r2.same sR
    have hQ := hq H (Same.refl H)
    refine ⟨_, (pss_cons (ps_if (PW.pt (pw_or (pt_cmpR op_isN (pv 1) pe_non (nomark _)) (pw_or1 (pt_val (pe_callB (kcall_is K rfl) (by rfl) T.b_isinstance (by decide +kernel) (pa_cons (pv 1) (pa_cons (pe_bltn (v := .ty "bool") (by rfl) T.b_bool (by decide +kernel) rfl) pa_nil))))))) (pss_one (ps_ret (pe_ifExp (pt_cmpR op_isN (pv 1) pe_non (nomark _)) (pe_cmpR op_isN (pv 0) pe_non (nomark _)) (pe_and (pe_callB (kcall_is K rfl) (by rfl) T.b_isinstance (by decide +kernel) (pa_cons (pv 0) (pa_cons (pe_bltn (v := .ty "bool") (by rfl) T.b_bool (by decide +kernel) rfl) pa_nil))) (pe_one (pe_cmpR op_eq (pe_cmpR op_is_bl (pv 0) pe_bl (nomark _)) (pe_cmpR op_is_bl (pv 1) pe_bl (nomark _)) (nomark _))))))) pss_nil)
      (pss_cons (ps_if (pt_val (pe_callB (kcall_is K rfl) (by rfl) T.b_isinstance (by decide +kernel) (pa_cons (pv 1) (pa_cons (pe_bltn (v := .ty "int") (by rfl) T.b_int (by decide +kernel) rfl) pa_nil)))) (pss_one (ps_ret (pe_and (pe_callB (kcall_is K rfl) (by rfl) T.b_isinstance (by decide +kernel) (pa_cons (pv 0) (pa_cons (pe_bltn (v := .ty "int") (by rfl) T.b_int (by decide +kernel) rfl) pa_nil))) (pe_and (pe_not (pe_callB (kcall_is K rfl) (by rfl) T.b_isinstance (by decide +kernel) (pa_cons (pv 0) (pa_cons (pe_bltn (v := .ty "bool") (by rfl) T.b_bool (by decide +kernel) rfl) pa_nil)))) (pe_one (pe_cmpR op_eq (pe_op op_sub (pe_callTy call_int1 (by rfl) T.b_int (by decide +kernel) (pa_cons (pv 0) pa_nil)) (pv 1)) pe_int (nomark _))))))) pss_nil)
      (pss_cons (ps_if (pt_val (pe_callB (kcall_is K rfl) (by rfl) T.b_isinstance (by decide +kernel) (pa_cons (pv 1) (pa_cons (pe_bltn (v := .ty "str") (by rfl) T.b_str (by decide +kernel) rfl) pa_nil)))) (pss_cons (ps_set (i := 2) sc__law_same.nd rfl (Or.inl rfl) (pe_and (pe_callB (kcall_is K rfl) (by rfl) T.b_isinstance (by decide +kernel) (pa_cons (pv 0) (pa_cons (pe_bltn (v := .ty "str") (by rfl) T.b_str (by decide +kernel) rfl) pa_nil))) (pe_one (pe_cmpR op_eq (pe_callB (kcall_len K rfl) (by rfl) T.b_len (by decide +kernel) (pa_cons (pv 0) pa_nil)) (pe_callB (kcall_len K rfl) (by rfl) T.b_len (by decide +kernel) (pa_cons (pv 1) pa_nil)) (nomark _)))))
      (pss_one (ps_ret (pe_and (pv 2) (pe_one (pe_cmpR (kop_eqE K rfl hr.units) (pe_lc (own := [("k", 3)]) rfl sc__law_same.nd (pi_range1 (by rfl) T.b_range (pa_cons (pe_callB (kcall_len K rfl) (by rfl) T.b_len (by decide +kernel) (pa_cons (pv 1) pa_nil)) pa_nil)) (blkOk_by (own := [("k", 3)]) (N := ["told", "due", "same", "k"]) (sc := defScope s__law_same) (by decide +kernel)) (fun _ _ _ _ _ => (pg_name (i := 3) sc__law_same.nd rfl (Or.inl rfl))) (fun _ _ _ _ _ => (pts_one (pt_cmpR op_ne (pe_slice sl_str (pv 0) (po_some (pv 3)) (po_some (pe_op op_add (pv 3) pe_int))) (pe_ix (kix_any K rfl) (pv 1) (pv 3) (fun _ _ => rfl)) (nomark _)))) (fun _ _ _ _ _ => (pv 3))) (pe_lst pa_nil) (nomark _))))))) pss_nil)
      (pss_cons (ps_if (pt_val (pe_callB (kcall_is K rfl) (by rfl) T.b_isinstance (by decide +kernel) (pa_cons (pv 1) (pa_cons (pe_bltn (v := .ty "dict") (by rfl) T.b_dict (by decide +kernel) rfl) pa_nil)))) (pss_one (ps_ret (pe_and (pe_callB (kcall_is K rfl) (by rfl) T.b_isinstance (by decide +kernel) (pa_cons (pv 0) (pa_cons (pe_bltn (v := .ty "dict") (by rfl) T.b_dict (by decide +kernel) rfl) pa_nil))) (pe_one (pe_d G__law_same (hr.mono (by omega)) (by rfl) (pa_cons (LiI.pe_listItems rfl (pv 0) (by rfl) T.b_list (by decide +kernel)) (pa_cons (LiI.pe_listItems rfl (pv 1) (by rfl) T.b_list (by decide +kernel)) pa_nil))))))) pss_nil)
      (pss_cons (ps_if (PW.pt (pw_or (pt_cmpR op_ne (pe_callB (kcall_is K rfl) (by rfl) T.b_isinstance (by decide +kernel) (pa_cons (pv 0) (pa_cons (pe_bltn (v := .ty "list") (by rfl) T.b_list (by decide +kernel) rfl) pa_nil))) (pe_callB (kcall_is K rfl) (by rfl) T.b_isinstance (by decide +kernel) (pa_cons (pv 1) (pa_cons (pe_bltn (v := .ty "list") (by rfl) T.b_list (by decide +kernel) rfl) pa_nil))) (nomark _)) (pw_or1 (pt_cmpR op_ne (pe_callB (kcall_is K rfl) (by rfl) T.b_isinstance (by decide +kernel) (pa_cons (pv 0) (pa_cons (pe_bltn (v := .ty "tuple") (by rfl) T.b_tuple (by decide +kernel) rfl) pa_nil))) (pe_callB (kcall_is K rfl) (by rfl) T.b_isinstance (by decide +kernel) (pa_cons (pv 1) (pa_cons (pe_bltn (v := .ty "tuple") (by rfl) T.b_tuple (by decide +kernel) rfl) pa_nil))) (nomark _))))) (pss_one (ps_ret pe_bl)) pss_nil)
      (pss_cons (ps_if (PW.pt (pw_or (pt_not (pt_val (pe_callB (kcall_isLT K rfl) (by rfl) T.b_isinstance (by decide +kernel) (pa_cons (pv 0) (pa_cons (pe_tup (pa_cons (pe_bltn (v := .ty "list") (by rfl) T.b_list (by decide +kernel) rfl) (pa_cons (pe_bltn (v := .ty "tuple") (by rfl) T.b_tuple (by decide +kernel) rfl) pa_nil))) pa_nil))))) (pw_or1 (pt_cmpR op_ne (pe_callB (kcall_len K rfl) (by rfl) T.b_len (by decide +kernel) (pa_cons (pv 0) pa_nil)) (pe_callB (kcall_len K rfl) (by rfl) T.b_len (by decide +kernel) (pa_cons (pv 1) pa_nil)) (nomark _))))) (pss_one (ps_ret pe_bl)) pss_nil)
      (pss_one (ps_ret (pe_cmpR (kop_eqE K rfl hr.units) (pe_lc (own := [("k", 3)]) rfl sc__law_same.nd (pi_range1 (by rfl) T.b_range (pa_cons (pe_callB (kcall_len K rfl) (by rfl) T.b_len (by decide +kernel) (pa_cons (pv 1) pa_nil)) pa_nil)) (blkOk_by (own := [("k", 3)]) (N := ["told", "due", "same", "k"]) (sc := defScope s__law_same) (by decide +kernel)) (fun _ _ _ _ _ => (pg_name (i := 3) sc__law_same.nd rfl (Or.inl rfl))) (fun _ _ _ _ _ => (pts_one (pt_not (pt_val (pe_d G__law_same (hr.mono (by omega)) (by rfl) (pa_cons (pe_ix (kix_any K rfl) (pv 0) (pv 3) (fun _ _ => rfl)) (pa_cons (pe_ix (kix_any K rfl) (pv 1) (pv 3) (fun _ _ => rfl)) pa_nil))))))) (fun _ _ _ _ _ => (pv 3))) (pe_lst pa_nil) (nomark _)))))))))), ?_⟩
    cases d with
    | non =>
      cases h1
      cases h2
      exact ⟨_, rfl, rfl, _, rfl, iteT ⟨_, rfl, rfl, _, rfl, iteT ⟨_, rfl, rfl, hQ⟩⟩⟩
    | bl b =>
      cases h1
      cases h2
      refine ⟨_, rfl, rfl, _, rfl, iteF ⟨_, rfl, rd_isi (.bl b) ⟨_, rfl, iteT ?_⟩⟩⟩
      refine ⟨_, rfl, rfl, _, rfl, iteF ⟨_, rfl, rd_isi (.bl b) ⟨_, rfl, iteT ?_⟩⟩⟩
      refine ⟨_, rfl, _, _, rfl, rfl, _, rfl, _, _, rfl, rfl, rfl, ?_⟩
      rw [decide_eq_true rfl]
      exact hQ
    | int i =>
      cases h1
      cases h2
      refine ⟨_, rfl, rfl, _, rfl, iteF ⟨_, rfl, rd_isi (.int i) ⟨_, rfl, iteF ?_⟩⟩⟩
      refine ⟨_, rfl, rd_isi (.int i) ⟨_, rfl, iteT ?_⟩⟩
      refine ⟨_, rfl, rd_isi (.int i) ⟨_, rfl, iteT ⟨_, rfl, rd_isi (.int i) ⟨_, rfl, ⟨_, rfl, iteT ?_⟩⟩⟩⟩⟩
      refine ⟨_, rfl, .inl ⟨i, rfl, _, rfl, _, _, rfl, rfl, rfl, ?_⟩⟩
      show Q (.bl (decide (V.int (i - i) = V.int 0))) H
      rw [Int.sub_self, decide_eq_true rfl]
      exact hQ
    | str z =>
      have hz : z.length ≤ 1000 := hf
      cases h1 with
      | str _ hz1 =>
      cases h2
      have hs : Rep K H (.str z) (.str z) := .str z hz1
      refine ⟨_, rfl, rfl, _, rfl, iteF ⟨_, rfl, rd_isi hs ⟨_, rfl, iteF ?_⟩⟩⟩
      refine ⟨_, rfl, rd_isi hs ⟨_, rfl, iteF ?_⟩⟩
      refine ⟨_, rfl, rd_isi hs ⟨_, rfl, iteT ?_⟩⟩
      refine ⟨_, rfl, rd_isi hs ⟨_, rfl, iteT ?_⟩⟩
      refine ⟨_, rfl, _, z.length, rfl, ⟨hz1, rfl⟩, _, rfl, _, z.length, rfl, ⟨hz1, rfl⟩, rfl, ?_⟩
      rw [show decide (V.int (z.length : Nat) = V.int (z.length : Nat)) = true from decide_eq_true rfl]
      refine ⟨_, rfl, _, rfl, iteT ?_⟩
      refine ⟨_, rfl, _, z.length, rfl, ⟨hz1, rfl⟩, _, rfl, by omega, by omega, fun L hL => ?_⟩
      refine lc_vals (w := walk_range) (fun _ => none) hL (by omega) (fun _ _ => True.intro) ?_ ?_
      · rintro i x H1 H2 Y2 N2 hi s1 hnL ⟨rfl, hx⟩ k3 k4
        have hx2 : x = .int ((i : Nat) : Int) := by
          rw [hx]
          show V.int (0 + (i : Int)) = _
          rw [Int.zero_add]
        subst hx2
        have hi2 : i < z.length := by omega
        obtain ⟨c, hc⟩ : ∃ c, z.cps.toList[i]? = some c := ⟨_, List.getElem?_eq_getElem (by have : z.length = z.cps.size := rfl; simp; omega)⟩
        refine ⟨rfl, ⟨_, rfl, _, rfl, _, rfl, _, rfl, _, _, rfl, rfl, _, rfl, z, rfl, hz1, _, rfl, _, rfl, .inl ⟨z, _, c, rfl, rfl, hz1, atI_nat hc, rfl, _, rfl, ?_⟩⟩⟩
        rw [cut_one hc, decide_eq_true rfl]
        exact iteF (k4 _ rfl (Same.refl _))
      · intro H1 s1 h1
        rw [show (List.range ((z.length : Nat) : Int).toNat).filterMap (fun _ => (none : Option V)) = ([] : List Int).map V.int from by
          generalize List.range _ = l
          induction l with
          | nil => rfl
          | cons a l ih => rw [List.filterMap_cons]; exact ih] at h1
        refine ⟨Nat.zero_le _, fun q hq' => ⟨L, q, [], rfl, rfl, SqL.of (same_new hq' _ _ h1), SqL.of upd_same, ?_⟩⟩
        exact hq _ (s1.trans (same_new hq'))
    | dct l =>
      cases r1 with
      | @dct a1 kvs1 _ hk1 rk1 =>
      cases r2 with
      | @dct a2 kvs2 _ hk2 rk2 =>
      have hd1 := h1
      have hd2 := h2
      refine ⟨_, rfl, rfl, _, rfl, iteF ⟨_, rfl, rd_isi h2 ⟨_, rfl, iteF ?_⟩⟩⟩
      refine ⟨_, rfl, rd_isi h2 ⟨_, rfl, iteF ?_⟩⟩
      refine ⟨_, rfl, rd_isi h2 ⟨_, rfl, iteF ?_⟩⟩
      refine ⟨_, rfl, rd_isi h2 ⟨_, rfl, iteT ?_⟩⟩
      refine ⟨_, rfl, rd_isi h1 ⟨_, rfl, iteT ?_⟩⟩
      refine ⟨_, rfl, a1, kvs1, rfl, sR _ _ (pR.rd hk1), fun H1 p1 ts1 keep1 hp1 hts1 hpt1 hl1 pp1 => ?_⟩
      obtain ⟨R1, u1, u2, u3, u4⟩ := items_rep sR pR rk1 keep1 hp1 hts1 hl1 pp1
      refine ⟨_, rfl, a2, kvs2, rfl, u3 _ _ (u1 _ _ (pR.rd hk2)), fun H2 p2 ts2 keep2 hp2 hts2 hpt2 hl2 pp2 => ?_⟩
      obtain ⟨R2, w1, w2, w3, w4⟩ := items_rep u3 u2 (rk2.same u1) keep2 hp2 hts2 hl2 pp2
      exact ⟨R2, .ref p1, .ref p2, _, rfl, w3, w2, u4.same w1, w4, hf, fun H3 s3 => hq H3 (fun a o e => s3 a o (keep2 a o (keep1 a o e)))⟩
    | lst l =>
      cases r1 with
      | @lst a1 ys1 _ hS1 rs1 =>
      cases r2 with
      | @lst a2 ys2 _ hS2 rs2 =>
      have hl1 := rs1.len
      have hl2 := rs2.len
      obtain ⟨hl, hfe⟩ := hf
      refine ⟨_, rfl, rfl, _, rfl, iteF ⟨_, rfl, rd_isi h2 ⟨_, rfl, iteF ?_⟩⟩⟩
      refine ⟨_, rfl, rd_isi h2 ⟨_, rfl, iteF ?_⟩⟩
      refine ⟨_, rfl, rd_isi h2 ⟨_, rfl, iteF ?_⟩⟩
      refine ⟨_, rfl, rd_isi h2 ⟨_, rfl, iteF ?_⟩⟩
      refine ⟨_, rfl, rd_isi h1 ⟨_, rfl, rd_isi h2 ⟨rfl, _, rfl, iteF ?_⟩⟩⟩
      refine ⟨_, rfl, rd_isi h1 ⟨_, rfl, rd_isi h2 ⟨rfl, _, rfl, iteF ?_⟩⟩⟩
      refine ⟨_, rfl, (show 2 ≤ sizeLine by decide), fun tp htp => rd_isiLT h1 htp ⟨_, rfl, iteF ?_⟩⟩
      have s1 : Same H (upd H tp (.tup [.ty "list", .ty "tuple"])) := same_new htp
      generalize upd H tp (.tup [.ty "list", .ty "tuple"]) = H1 at s1 ⊢
      have sR1 := sR.trans s1
      have q1 : Sq true K H1 a1 ys1 := Sq.mono (b := true) (Lq.of sR1) hS1
      have q2 : Sq true K H1 a2 ys2 := Sq.mono (b := true) (Lq.of sR1) hS2
      refine ⟨_, rfl, _, ys1.length, rfl, q1.len, _, rfl, _, ys2.length, rfl, q2.len, rfl, _, rfl, ?_⟩
      rw [show decide (V.int (ys1.length : Nat) = V.int (ys2.length : Nat)) = true from decide_eq_true (by rw [hl1, hl2])]
      refine iteF ⟨_, rfl, _, ys2.length, rfl, q2.len, _, rfl, by omega, by omega, fun L hL => ?_⟩
      refine lc_vals (w := walk_range) (fun _ => none) hL (by omega) (fun _ _ => True.intro) ?_ ?_
      · rintro i x H2 H3 Y2 N2 hi s2 hnL ⟨rfl, hx⟩ k3 k4
        have hx2 : x = .int ((i : Nat) : Int) := by
          rw [hx]
          show V.int (0 + (i : Int)) = _
          rw [Int.zero_add]
        subst hx2
        obtain ⟨z1, hz1⟩ : ∃ z, ys1[i]? = some z := ⟨_, List.getElem?_eq_getElem (by omega)⟩
        obtain ⟨z2, hz2⟩ : ∃ z, ys2[i]? = some z := ⟨_, List.getElem?_eq_getElem (by omega)⟩
        obtain ⟨d1, hd1, e1⟩ := rs1.get hz1
        obtain ⟨d2, hd2, e2⟩ := rs2.get hz2
        rw [hd1] at hd2
        cases hd2
        refine ⟨rfl, ⟨_, rfl, _, rfl, .inr ⟨true, a1, ys1, _, _, rfl, rfl, Sq.mono (Lq.of s2) q1, atI_nat hz1, _, rfl, _, rfl, .inr ⟨true, a2, ys2, _, _, rfl, rfl, Sq.mono (Lq.of s2) q2, atI_nat hz2, ?_⟩⟩⟩⟩
        exact ⟨R, z1, z2, d1, rfl, sR1.trans s2, pR, e1, e2, hfe d1 (List.mem_of_getElem? hd1), fun H4 s4 => ⟨_, rfl, iteF (k4 _ rfl s4)⟩⟩
      · intro H2 s2 h2
        rw [show (List.range ((ys2.length : Nat) : Int).toNat).filterMap (fun _ => (none : Option V)) = ([] : List Int).map V.int from by
          generalize List.range _ = l
          induction l with
          | nil => rfl
          | cons a l ih => rw [List.filterMap_cons]; exact ih] at h2
        refine ⟨Nat.zero_le _, fun q hq' => ⟨L, q, [], rfl, rfl, SqL.of (same_new hq' _ _ h2), SqL.of upd_same, ?_⟩⟩
        exact hq _ (s1.trans (s2.trans (same_new hq')))
    | tup l =>
      cases r1 with
      | @tup a1 ys1 _ hS1 rs1 =>
      cases r2 with
      | @tup a2 ys2 _ hS2 rs2 =>
      have hl1 := rs1.len
      have hl2 := rs2.len
      obtain ⟨hl, hfe⟩ := hf
      refine ⟨_, rfl, rfl, _, rfl, iteF ⟨_, rfl, rd_isi h2 ⟨_, rfl, iteF ?_⟩⟩⟩
      refine ⟨_, rfl, rd_isi h2 ⟨_, rfl, iteF ?_⟩⟩
      refine ⟨_, rfl, rd_isi h2 ⟨_, rfl, iteF ?_⟩⟩
      refine ⟨_, rfl, rd_isi h2 ⟨_, rfl, iteF ?_⟩⟩
      refine ⟨_, rfl, rd_isi h1 ⟨_, rfl, rd_isi h2 ⟨rfl, _, rfl, iteF ?_⟩⟩⟩
      refine ⟨_, rfl, rd_isi h1 ⟨_, rfl, rd_isi h2 ⟨rfl, _, rfl, iteF ?_⟩⟩⟩
      refine ⟨_, rfl, (show 2 ≤ sizeLine by decide), fun tp htp => rd_isiLT h1 htp ⟨_, rfl, iteF ?_⟩⟩
      have s1 : Same H (upd H tp (.tup [.ty "list", .ty "tuple"])) := same_new htp
      generalize upd H tp (.tup [.ty "list", .ty "tuple"]) = H1 at s1 ⊢
      have sR1 := sR.trans s1
      have q1 : Sq false K H1 a1 ys1 := Sq.mono (b := false) (Lq.of sR1) hS1
      have q2 : Sq false K H1 a2 ys2 := Sq.mono (b := false) (Lq.of sR1) hS2
      refine ⟨_, rfl, _, ys1.length, rfl, q1.len, _, rfl, _, ys2.length, rfl, q2.len, rfl, _, rfl, ?_⟩
      rw [show decide (V.int (ys1.length : Nat) = V.int (ys2.length : Nat)) = true from decide_eq_true (by rw [hl1, hl2])]
      refine iteF ⟨_, rfl, _, ys2.length, rfl, q2.len, _, rfl, by omega, by omega, fun L hL => ?_⟩
      refine lc_vals (w := walk_range) (fun _ => none) hL (by omega) (fun _ _ => True.intro) ?_ ?_
      · rintro i x H2 H3 Y2 N2 hi s2 hnL ⟨rfl, hx⟩ k3 k4
        have hx2 : x = .int ((i : Nat) : Int) := by
          rw [hx]
          show V.int (0 + (i : Int)) = _
          rw [Int.zero_add]
        subst hx2
        obtain ⟨z1, hz1⟩ : ∃ z, ys1[i]? = some z := ⟨_, List.getElem?_eq_getElem (by omega)⟩
        obtain ⟨z2, hz2⟩ : ∃ z, ys2[i]? = some z := ⟨_, List.getElem?_eq_getElem (by omega)⟩
        obtain ⟨d1, hd1, e1⟩ := rs1.get hz1
        obtain ⟨d2, hd2, e2⟩ := rs2.get hz2
        rw [hd1] at hd2
        cases hd2
        refine ⟨rfl, ⟨_, rfl, _, rfl, .inr ⟨false, a1, ys1, _, _, rfl, rfl, Sq.mono (Lq.of s2) q1, atI_nat hz1, _, rfl, _, rfl, .inr ⟨false, a2, ys2, _, _, rfl, rfl, Sq.mono (Lq.of s2) q2, atI_nat hz2, ?_⟩⟩⟩⟩
        exact ⟨R, z1, z2, d1, rfl, sR1.trans s2, pR, e1, e2, hfe d1 (List.mem_of_getElem? hd1), fun H4 s4 => ⟨_, rfl, iteF (k4 _ rfl s4)⟩⟩
      · intro H2 s2 h2
        rw [show (List.range ((ys2.length : Nat) : Int).toNat).filterMap (fun _ => (none : Option V)) = ([] : List Int).map V.int from by
          generalize List.range _ = l
          induction l with
          | nil => rfl
          | cons a l ih => rw [List.filterMap_cons]; exact ih] at h2
        refine ⟨Nat.zero_le _, fun q hq' => ⟨L, q, [], rfl, rfl, SqL.of (same_new hq' _ _ h2), SqL.of upd_same, ?_⟩⟩
        exact hq _ (s1.trans (s2.trans (same_new hq')))
theorem ok__law_same (T : Txt K mg) : ∀ n, Def P w K mg base (n + 1) "_law_same" ["told", "due"] (spSame n K)
  | 0 => ok__law_same0 T
  | n + 1 => ok__law_sameS T n (ok__law_same T n)
end
end K85

set_option Elab.async false
set_option linter.all false
set_option maxRecDepth 100000
set_option maxHeartbeats 1000000
namespace RP
open PySem PySem.Spec PyProof.Rows L2 LamX
theorem rep_flat {α : Type} (x : α) : ∀ n, (List.replicate n [x]).flatten = List.replicate n x
  | 0 => rfl
  | n + 1 => by rw [List.replicate_succ, List.flatten_cons, rep_flat x n]; rfl
theorem range_bind {α β : Type} (g : α → Option β) : ∀ l : List α, ((List.range l.length).filterMap fun i => (l[i]?).bind g) = l.filterMap g := by
  intro l
  have key : ∀ t, t ≤ l.length → ((List.range t).filterMap fun i => (l[i]?).bind g) = (l.take t).filterMap g := by
    intro t
    induction t with
    | zero => intro _; rfl
    | succ t ih =>
      intro h
      have hx : l[t]? = some l[t] := List.getElem?_eq_getElem (by omega)
      rw [range_succ_filterMap, ih (by omega), take_next hx, List.filterMap_append, hx]
      show _ ++ _ = _ ++ [l[t]].filterMap g
      congr 1
      show (match g l[t] with | some y => [y] | none => []) = _
      cases h : g l[t] <;> simp [h]
  rw [key _ (Nat.le_refl _), List.take_length]
/-- what stands at two places -/
def two (p q : Addr) (o : HO) : Hp := fun a => if a = p ∨ a = q then some o else none
theorem two_same {H : Hp} {p q : Addr} {o : HO} (h1 : H p = some o) (h2 : H q = some o) : Same (two p q o) H := fun a u e => by
  have e2 : (if a = p ∨ a = q then some o else none) = some u := e
  by_cases c : a = p ∨ a = q
  · rw [if_pos c] at e2
    cases e2
    rcases c with rfl | rfl
    · exact h1
    · exact h2
  · rw [if_neg c] at e2
    cases e2
theorem two_plain {p q : Addr} {xs : List V} : Plain (two p q (.lst xs)) := fun a o u e => by
  have e2 : (if a = p ∨ a = q then some (HO.lst xs) else none) = some (.frz o u) := e
  split at e2 <;> cases e2
theorem two_rep {K : PySem.W.Frag} {p q : Addr} {xs : List V} {ds : List D} (r : ∀ R : Hp, Reps K R xs ds) : Rep K (two p q (.lst xs)) (.ref p) (.lst ds) ∧ Rep K (two p q (.lst xs)) (.ref q) (.lst ds) :=
  ⟨.lst (SqL.of (if_pos (.inl rfl))) (r _), .lst (SqL.of (if_pos (.inr rfl))) (r _)⟩
theorem reps_map {K : PySem.W.Frag} {R : Hp} {α : Type} {f : α → V} {g : α → D} : ∀ {l : List α}, (∀ a ∈ l, Rep K R (f a) (g a)) → Reps K R (l.map f) (l.map g)
  | [], _ => .nil
  | a :: l, h => .cons (h a List.mem_cons_self) (reps_map fun b hb => h b (List.mem_cons_of_mem _ hb))
end RP
namespace K85
open PySem PySem.Spec PyProof.Rows L2 RP LamX
theorem Cs.of_good {K : PySem.W.Frag} {R H : Hp} {vl vg vn : V} {dl dg dn : D} {E : XK} (c3 : caseR dl dg dn = 3) (s : Same R H) (p : Plain R) (l : Rep K R vl dl) (g : Rep K R vg dg) (n : Rep K R vn dn) : Cs K R H vl vg vn dl dg dn E :=
  ⟨s, p, l, g, n, fun h => absurd (c3.symm.trans h) (by decide), fun h => absurd (c3.symm.trans h) (by decide), fun h => absurd (c3.symm.trans h) (by decide)⟩
def optD : Option Int → D
  | none => .non
  | some i => .int i
theorem rep_opt {K : PySem.W.Frag} {R : Hp} : ∀ o : Option Int, Rep K R (optV o) (optD o)
  | none => .non
  | some i => .int i
theorem fit_flat {n : Nat} {ds : List D} (h : ds.length ≤ 1000) (k : ∀ d ∈ ds, (∃ i, d = .int i) ∨ d = .non ∨ ∃ z : Str, d = .str z ∧ z.length ≤ 1000) : Fit (n + 2) (.lst ds) := by
  refine ⟨h, fun d hd => ?_⟩
  rcases k d hd with ⟨i, rfl⟩ | rfl | ⟨z, rfl, hz⟩
  · exact True.intro
  · exact True.intro
  · exact hz
section
variable {P : Program} {w : World} {K : PySem.W.Frag} {mg : Str → Option Value} {base : Heap}
/-! ### _law_name_right -/
theorem sc__law_name_right : FnScope ["box", "length", "guests", "name", "all_ready", "one", "due", "told", "many", "turn", "readiness", "found", "k", "turns"] ["box", "length", "guests", "name"] (defScope s__law_name_right) := ⟨rfl, rfl, rfl, by decide +kernel, rfl, by decide +kernel, by decide +kernel⟩
theorem BoxAt.ext {H H' : Hp} {a : Addr} {n : Int} (b : BoxAt H a n) (e : ExtN H H') : BoxAt H' a n := by
  obtain ⟨x, y, c, h, q⟩ := b
  exact ⟨x, y, c, e _ _ h fun _ z => (nomatch z), q⟩
abbrev Fb (b : Addr) : Hp → Hp → Prop := Fr fun a => a = b
def spNR (K : PySem.W.Frag) : Sp := fun vs H Q _ => ∃ (R : Hp) (b : Addr) (n : Int) (vg : V) (len : Int) (gs : List G3) (j : Nat) (z : Str) (p c : Int), vs = [.ref b, .int len, vg, .str z] ∧ BoxAt H b n ∧ n ≤ 900000 ∧ Same R H ∧ Plain R ∧ Nt R ∧ R b = none ∧ Rep K R vg (gD gs) ∧ GsOk len gs ∧ gs[j]? = some (z, p, c) ∧ Tabs (TT K) H ∧
  ∀ H', BoxAt H' b (n + 5000) → Fb b H H' → Tabs (TT K) H' → Q (.bl true) H'
theorem ok__law_name_right (T : Txt K mg) (G__law_take : Def P w K mg base 1 "_law_take" ["box", "many"] (spTake K)) (G__law_stretch : Def P w K mg base 2 "_law_stretch" ["guests", "length", "name", "choose"] (spStretch K)) (G_latest : Def P w K mg base 5 "latest" ["length", "guests", "name", "many"] (spLatest K))
    (G__law_same : Def P w K mg base 3 "_law_same" ["told", "due"] (spSame 2 K)) (G__law_readiness : Def P w K mg base 2 "_law_readiness" ["box", "guests", "length", "name"] (spReady K)) (G__law_by_shares : Def P w K mg base 6 "_law_by_shares" ["guests", "length", "name", "readiness"] (spByS K)) (G_at_least : Def P w K mg base 5 "at_least" ["length", "guests", "name", "turns"] (spAtLeast K)) :
    Def P w K mg base 7 "_law_name_right" ["box", "length", "guests", "name"] (spNR K) := by
  obtain ⟨f, fd, F⟩ := T.a__law_name_right
  refine Def.mk F sc__law_name_right (fun _ _ _ _ _ _ us hl => match us, hl with | [_, _, _, _], _ => rfl) (fun vs H Q E h => ?_) (fun cdv A outer s H vs Q E hr h => ?_)
  · obtain ⟨R, b, n, vg, len, gs, j, z, p, c, rfl, _⟩ := h
    rfl
  · obtain ⟨R, b, n, vg, len, gs, j, z, p, c, rfl, box, hn, sR, pR, nR, nRb, hg, ok, hj, hT, hq⟩ := h
    have hg0 := hg
    cases hg with
    | @dct a kvs _ hk rk =>
    have hRa : R a = some (.dK kvs) := pR.rd hk
    have hHa := sR _ _ hRa
    have hl : kvs.length = gs.length := by rw [rk.len, List.length_map]
    have n6 := ok.n6
    have hlen := ok.len
    have hjl : j < gs.length := (List.getElem?_eq_some_iff.mp hj).1
    have nj := nmAt_of hj
    have hzl : z.length ≤ sizeLine := by rw [← nj]; exact ok.nl hjl
    have good : Good (.int len) (gD gs) (.str z) len gs j z p c := ⟨rfl, rfl, rfl, ok, hj⟩
    have ab : a ≠ b := fun q => by
      rw [q, nRb] at hRa
      cases hRa
    refine ⟨_, (pss_cons (ps_set (i := 4) sc__law_name_right.nd rfl (Or.inl rfl) (pe_op op_rep (pe_lst (pa_cons (pe_lock (pe_lc (own := [("one", 5)]) rfl sc__law_name_right.nd (pi_keys (pv 2)) (blkOk_by (own := [("one", 5)]) (N := ["box", "length", "guests", "name", "all_ready", "one", "due", "told", "many", "turn", "readiness", "found", "k", "turns"]) (sc := defScope s__law_name_right) (by decide +kernel)) (fun _ _ _ _ _ => (pg_name (i := 5) sc__law_name_right.nd rfl (Or.inl rfl))) (fun _ _ _ _ _ => (pts_one (pt_cmpR op_ne (pv 5) (pv 3) (nomark _)))) (fun _ _ _ _ _ => (pv 5)))) pa_nil)) (pv 1)))
      (pss_cons (ps_set (i := 6) sc__law_name_right.nd rfl (Or.inr rfl) (pe_d G__law_stretch (hr.mono (by decide)) (by rfl) (pa_cons (pv 2) (pa_cons (pv 1) (pa_cons (pv 3) (pa_cons (pv 4) pa_nil))))))
      (pss_cons (ps_setLc (i := 7) (own := [("many", 8)]) rfl sc__law_name_right.nd rfl rfl (sw_true rfl rfl rfl (by decide +kernel)) (pi_range2 (by rfl) T.b_range (pa_cons pe_int (pa_cons (pe_op op_add (pv 1) pe_int) pa_nil))) (blkOk_by (own := [("many", 8)]) (N := ["box", "length", "guests", "name", "all_ready", "one", "due", "told", "many", "turn", "readiness", "found", "k", "turns"]) (sc := defScope s__law_name_right) (by decide +kernel)) (fun _ _ _ _ _ => (pg_name (i := 8) sc__law_name_right.nd rfl (Or.inl rfl))) (fun _ _ _ _ _ => pts_nil) (fun _ _ _ _ _ => (pe_d G_latest (hr.mono (by decide)) (by rfl) (pa_cons (pv 1) (pa_cons (pv 2) (pa_cons (pv 3) (pa_cons (pv 8) pa_nil)))))))
      (pss_cons (ps_if (pt_not (pt_val (pe_d G__law_same (hr.mono (by decide)) (by rfl) (pa_cons (pv 7) (pa_cons (pe_op op_cat (pv 6) (pe_op op_rep (pe_lst (pa_cons pe_non pa_nil)) (pe_op op_sub (pv 1) (pe_callB (kcall_len_seq K rfl) (by rfl) T.b_len (by decide +kernel) (pa_cons (pv 6) pa_nil))))) pa_nil))))) (pss_one (ps_ret pe_bl)) pss_nil)
      (pss_cons (ps_for (passes_of rfl) rfl (pi_range1 (by rfl) T.b_range (pa_cons pe_int pa_nil)) (pg_name (i := 9) sc__law_name_right.nd rfl (Or.inl rfl))
        (pss_cons (ps_set (i := 10) sc__law_name_right.nd rfl (Or.inl rfl) (pe_d G__law_readiness (hr.mono (by decide)) (by rfl) (pa_cons (pv 0) (pa_cons (pv 2) (pa_cons (pv 1) (pa_cons (pv 3) pa_nil))))))
      (pss_cons (ps_set (i := 11) sc__law_name_right.nd rfl (Or.inr rfl) (pe_d G__law_stretch (hr.mono (by decide)) (by rfl) (pa_cons (pv 2) (pa_cons (pv 1) (pa_cons (pv 3) (pa_cons (pv 10) pa_nil))))))
      (pss_cons (ps_if (PW.pt (pw_or (pt_not (pt_val (pe_d G__law_same (hr.mono (by decide)) (by rfl) (pa_cons (pe_d G__law_by_shares (hr.mono (by decide)) (by rfl) (pa_cons (pv 2) (pa_cons (pv 1) (pa_cons (pv 3) (pa_cons (pv 10) pa_nil))))) (pa_cons (pv 11) pa_nil))))) (pw_or1 (pt_cmpR op_lt (pe_callB (kcall_len_seq K rfl) (by rfl) T.b_len (by decide +kernel) (pa_cons (pv 11) pa_nil)) (pe_callB (kcall_len_seq K rfl) (by rfl) T.b_len (by decide +kernel) (pa_cons (pv 6) pa_nil)) (nomark _))))) (pss_one (ps_ret pe_bl)) pss_nil)
      (pss_one (ps_if (pt_cmpR (kop_neE K rfl hr.units) (pe_lc (own := [("k", 12)]) rfl sc__law_name_right.nd (pi_range1 (by rfl) T.b_range (pa_cons (pe_callB (kcall_len_seq K rfl) (by rfl) T.b_len (by decide +kernel) (pa_cons (pv 6) pa_nil)) pa_nil)) (blkOk_by (own := [("k", 12)]) (N := ["box", "length", "guests", "name", "all_ready", "one", "due", "told", "many", "turn", "readiness", "found", "k", "turns"]) (sc := defScope s__law_name_right) (by decide +kernel)) (fun _ _ _ _ _ => (pg_name (i := 12) sc__law_name_right.nd rfl (Or.inl rfl))) (fun _ _ _ _ _ => (pts_one (pt_cmpR op_gt (pe_ix (kix_list K rfl) (pv 11) (pv 12) (fun _ _ => rfl)) (pe_ix (kix_list K rfl) (pv 6) (pv 12) (fun _ _ => rfl)) (nomark _)))) (fun _ _ _ _ _ => (pv 12))) (pe_lst pa_nil) (nomark _)) (pss_one (ps_ret pe_bl)) pss_nil))))))
      (pss_cons (ps_for (passes_of rfl) rfl (kpi_list K rfl (pe_lst (pa_cons pe_int (pa_cons (pv 1) (pa_cons (pe_d G__law_take (hr.mono (by decide)) (by rfl) (pa_cons (pv 0) (pa_cons (pe_op op_add (pv 1) pe_int) pa_nil))) (pa_cons (pe_d G__law_take (hr.mono (by decide)) (by rfl) (pa_cons (pv 0) (pa_cons pe_int pa_nil))) pa_nil)))))) (pg_name (i := 13) sc__law_name_right.nd rfl (Or.inr rfl))
        (pss_cons (ps_set (i := 8) sc__law_name_right.nd rfl (Or.inl rfl) (pe_op op_add (pe_op op_mulW (pe_op op_fdivW (pv 13) (pv 1)) (pe_callB (kcall_len_seq K rfl) (by rfl) T.b_len (by decide +kernel) (pa_cons (pv 6) pa_nil))) (pe_callB (kcall_len_seq K rfl) (by rfl) T.b_len (by decide +kernel) (pa_cons (pe_lc (own := [("turn", 9)]) rfl sc__law_name_right.nd (kpi_list K rfl (pv 6)) (blkOk_by (own := [("turn", 9)]) (N := ["box", "length", "guests", "name", "all_ready", "one", "due", "told", "many", "turn", "readiness", "found", "k", "turns"]) (sc := defScope s__law_name_right) (by decide +kernel)) (fun _ _ _ _ _ => (pg_name (i := 9) sc__law_name_right.nd rfl (Or.inl rfl))) (fun _ _ _ _ _ => (pts_one (pt_cmpR op_le (pv 9) (pe_op op_mod (pe_callTy call_int1 (by rfl) T.b_int (by decide +kernel) (pa_cons (pv 13) pa_nil)) (pv 1)) (nomark _)))) (fun _ _ _ _ _ => (pv 9))) pa_nil))))
      (pss_one (ps_if (pt_not (pt_val (pe_d G__law_same (hr.mono (by decide)) (by rfl) (pa_cons (pe_d G_at_least (hr.mono (by decide)) (by rfl) (pa_cons (pv 1) (pa_cons (pv 2) (pa_cons (pv 3) (pa_cons (pv 13) pa_nil))))) (pa_cons (pv 8) pa_nil))))) (pss_one (ps_ret pe_bl)) pss_nil))))
      (pss_one (ps_ret pe_bl)))))))), ?_⟩
    refine ⟨a, .dK kvs, hHa, True.intro, fun od => ⟨_, rfl, a, od, rfl, .inl ⟨kvs, upd_same, fun O hO => ?_⟩⟩⟩
    refine lc_vals (w := walk_keys) (fun i => if i = j then none else some (.str (nmAt gs i))) hO (by omega) (fun H1 s1 => s1 _ _ upd_same) ?_ ?_
    · rintro i x H1 H2 Y2 N2 hi s1 hnL ⟨rfl, k, v, hkv, rfl⟩ k3 k4
      obtain ⟨y, d, hd, rfl, hy, rd⟩ := rk.get hkv
      have hig : i < gs.length := by omega
      have e1 : y = nmAt gs i := by
        rw [List.getElem?_map] at hd
        obtain ⟨e, he, hd⟩ := Option.map_eq_some_iff.mp hd
        cases hd
        exact (nmAt_of (z := e.1) (p := e.2.1) (c := e.2.2) he).symm
      subst e1
      refine ⟨rfl, ⟨_, rfl, _, rfl, rfl, _, rfl, ?_⟩⟩
      show if (!decide (V.str (nmAt gs i) = V.str z)) = true then _ else _
      by_cases e : i = j
      · subst e
        rw [decide_eq_true (by rw [nj])]
        exact k4 _ (if_pos rfl) (Same.refl _)
      · have e2 : ¬ V.str (nmAt gs i) = V.str z := fun q => e (nm_inj ok hig hjl (by
          injection q with q
          rw [q, nj]))
        rw [decide_eq_false e2]
        exact ⟨_, rfl, k3 _ _ (if_neg e) (Same.refl _)⟩
    · intro H1 s1 h1
      rw [hl, fm_if (fun i => i = j) (fun i => V.str (nmAt gs i))] at h1
      have hOa : O ≠ a := fun e => by
        rw [e, upd_same] at hO
        cases hO
      refine ⟨s1 _ _ upd_same, ?_⟩
      have su : Same H (upd H1 a (.dK kvs)) := Same.unlock hHa s1
      obtain ⟨ol, hol⟩ : ∃ ol, ol = (List.range gs.length).filter fun i => decide (¬ i = j) := ⟨_, rfl⟩
      rw [← hol] at h1
      have olm : ∀ i, i < gs.length → i ≠ j → i ∈ ol := fun i hi hn => by
        rw [hol]
        exact List.mem_filter.mpr ⟨List.mem_range.mpr hi, decide_eq_true hn⟩
      have oll : ol.length ≤ 6 := by
        rw [hol]
        have := List.length_filter_le (fun i => decide (¬ i = j)) (List.range gs.length)
        rw [List.length_range] at this
        omega
      obtain ⟨nms, hnms⟩ : ∃ nms, nms = ol.map fun i => nmAt gs i := ⟨_, rfl⟩
      have nmS : (ol.map fun i => V.str (nmAt gs i)) = nms.map V.str := by
        rw [hnms, List.map_map]
        rfl
      rw [nmS] at h1
      have nml : nms.length ≤ 6 := by rw [hnms, List.length_map]; exact oll
      have hOu : upd H1 a (.dK kvs) O = some (.lst (nms.map V.str)) := by rw [upd_ne hOa]; exact h1
      generalize upd H1 a (.dK kvs) = Hu at su hOu ⊢
      refine ⟨(show 1 ≤ sizeLine by decide), fun q1 hq1 => ?_⟩
      have s2 : Same Hu (upd Hu q1 (.lst [.ref O])) := same_new hq1
      have h2 : upd Hu q1 (.lst [.ref O]) q1 = some (.lst [.ref O]) := upd_same
      generalize upd Hu q1 (.lst [.ref O]) = H2 at s2 h2 ⊢
      refine ⟨_, rfl, q1, len, _, rfl, rfl, h2, by omega, by omega, ?_, fun ar har => ?_⟩
      · show 1 * len.toNat ≤ sizeLine
        have : 100 < sizeLine := by decide
        omega
      rw [rep_flat]
      have s3 : Same H2 (upd H2 ar (.lst (List.replicate len.toNat (.ref O)))) := same_new har
      have h3 : upd H2 ar (.lst (List.replicate len.toNat (.ref O))) ar = some (.lst (List.replicate len.toNat (.ref O))) := upd_same
      generalize upd H2 ar (.lst (List.replicate len.toNat (.ref O))) = H3 at s3 h3 ⊢
      have s03 : Same H H3 := su.trans (s2.trans s3)
      -- due
      refine ⟨_, rfl, _, rfl, _, rfl, _, rfl, R, .ref a, len, gs, j, z, p, c, ar, _, fun _ => nms, rfl, sR.trans s03, pR, hg0, ok, hj, h3, fun t ht => ⟨O, ?_, s3 _ _ (s2 _ _ hOu), show nms.length ≤ 90 by omega⟩, fun D H4 s4 nD hD => ?_⟩
      · rw [List.getElem?_replicate, if_pos ht]
      have ra : ∀ (t i : Nat), i < gs.length → rdN gs z (fun _ => nms) t i = true := fun t i hi => by
        unfold rdN
        refine decide_eq_true ?_
        by_cases q : i = j
        · refine List.mem_append_right _ (List.mem_singleton.mpr ?_)
          rw [q, nj]
        · refine List.mem_append_left _ ?_
          rw [hnms]
          exact List.mem_map.mpr ⟨i, olm i hi q, rfl⟩
      have eD' : fndAt gs (rdN gs z fun _ => nms) j len.toNat = inLi len gs j len := due_ints ok hjl ra
      rw [eD'] at hD
      have s04 : Same H H4 := s03.trans s4
      have bx4 := box.same s04
      have nDb : D ≠ b := fun q => box.live (by rw [← q]; exact s03.free nD)
      have dueL : (inLi len gs j len).length ≤ len.toNat := by
        have h1 := inN_le len gs j len
        unfold inN at h1
        rw [inL_ints, List.length_map] at h1
        omega
      -- told
      refine ⟨_, rfl, _, _, rfl, rfl, _, _, rfl, ⟨by omega, by omega, by omega, by omega⟩, fun L hL => ?_⟩
      have en : (len + 1 - 1).toNat = len.toNat := by congr 1; omega
      rw [en]
      refine lc_vals (w := walk_range) (fun i => some (optV (turnOf len gs j (1 + (i : Nat))))) hL (by omega) (fun _ _ => True.intro) ?_ ?_
      · rintro i x H5 H6 Y2 N2 hi s5 hn ⟨rfl, rfl⟩ k1 k2
        have hw : (RP.D.int (1 + (i : Nat))).whole 1 len = true := by
          show (decide (1 ≤ (1 : Int) + (i : Nat)) && decide ((1 : Int) + (i : Nat) ≤ len)) = true
          rw [decide_eq_true (by omega), decide_eq_true (by omega)]
          rfl
        refine ⟨rfl, ⟨_, rfl, _, rfl, _, rfl, _, rfl, R, .int len, .ref a, .str z, .int (1 + (i : Nat)), .int len, gD gs, .str z, .int (1 + (i : Nat)), rfl, Cs.of_good good.case (sR.trans (s04.trans s5)) pR (.int _) hg0 (.str _ hzl), .int _, (fun _ q => by rw [show (RP.D.int len).iv = len from rfl, hw] at q; cases q),
          fun _ _ => ⟨len, gs, j, z, p, c, 1 + (i : Nat), good, rfl, fun H7 s7 => k1 _ _ rfl s7⟩⟩⟩
      intro H5 s5 h5
      rw [fm_some] at h5
      have hD5 := s5 _ _ hD
      refine ⟨_, rfl, _, rfl, (show 1 ≤ sizeLine by decide), fun q2 hq2 => ?_⟩
      have s6 : Same H5 (upd H5 q2 (.lst [.non])) := same_new hq2
      have h6 : upd H5 q2 (.lst [.non]) q2 = some (.lst [.non]) := upd_same
      generalize upd H5 q2 (.lst [.non]) = H6 at s6 h6 ⊢
      have hD6 := s6 _ _ hD5
      refine ⟨_, rfl, _, rfl, D, _, rfl, .inl (SqL.of hD6), _, _, rfl, rfl, q2, _, _, rfl, rfl, h6, ?_, ?_, ?_, fun q3 hq3 => ?_⟩
      · rw [List.length_map]; omega
      · rw [List.length_map]; omega
      · show 1 * _ ≤ sizeLine
        rw [List.length_map]
        have : 100 < sizeLine := by decide
        omega
      rw [rep_flat]
      have s7 : Same H6 (upd H6 q3 (.lst (List.replicate (len - (((inLi len gs j len).map V.int).length : Nat)).toNat .non))) := same_new hq3
      have h7 : upd H6 q3 (.lst (List.replicate (len - (((inLi len gs j len).map V.int).length : Nat)).toNat .non)) q3 = some (.lst (List.replicate (len - (((inLi len gs j len).map V.int).length : Nat)).toNat .non)) := upd_same
      generalize upd H6 q3 (.lst (List.replicate (len - (((inLi len gs j len).map V.int).length : Nat)).toNat .non)) = H7 at s7 h7 ⊢
      refine ⟨D, q3, _, _, rfl, rfl, s7 _ _ hD6, h7, ?_, fun cl hcl => ?_⟩
      · rw [List.length_map, List.length_replicate]
        have : 1000 < sizeLine := by decide
        omega
      have etold : (inLi len gs j len).map V.int ++ List.replicate (len - (((inLi len gs j len).map V.int).length : Nat)).toNat .non = (List.range len.toNat).map fun i => optV (turnOf len gs j (1 + (i : Nat))) := by
        rw [told_eq ok hjl, inL_ints, List.length_map]
        congr 2
        omega
      rw [etold]
      have s8 : Same H7 (upd H7 cl (.lst ((List.range len.toNat).map fun i => optV (turnOf len gs j (1 + (i : Nat)))))) := same_new hcl
      have h8 : upd H7 cl (.lst ((List.range len.toNat).map fun i => optV (turnOf len gs j (1 + (i : Nat))))) cl = some (.lst ((List.range len.toNat).map fun i => optV (turnOf len gs j (1 + (i : Nat))))) := upd_same
      generalize upd H7 cl (.lst ((List.range len.toNat).map fun i => optV (turnOf len gs j (1 + (i : Nat))))) = H8 at s8 h8 ⊢
      have h58 := s8 _ _ (s7 _ _ (s6 _ _ h5))
      have rtw := two_rep (K := K) (p := L) (q := cl) (xs := (List.range len.toNat).map fun i => optV (turnOf len gs j (1 + (i : Nat)))) (ds := (List.range len.toNat).map fun i => optD (turnOf len gs j (1 + (i : Nat)))) fun R => reps_map fun i _ => rep_opt _
      refine ⟨_, .ref L, .ref cl, _, rfl, two_same h58 h8, two_plain, rtw.1, rtw.2, fit_flat ?_ ?_, fun H9 s9 => ⟨_, rfl, iteF ?_⟩⟩
      · rw [List.length_map, List.length_range]
        omega
      · intro d hd
        obtain ⟨i, _, rfl⟩ := List.mem_map.mp hd
        cases turnOf len gs j (1 + (i : Nat)) with
        | none => exact .inr (.inl rfl)
        | some x => exact .inl ⟨x, rfl⟩
      have s49 : Same H4 H9 := s5.trans (s6.trans (s7.trans (s8.trans s9)))
      have s09 := s04.trans s49
      have bx9 := bx4.same s49
      have hD9 := s49 _ _ hD
      have t9 := tabs_same hT s09
      -- three times
      refine ⟨3, rfl, (by decide), (by decide), ?_⟩
      refine for_it (w := walk_range) (fun t σ H' => ∃ (o4 o5 o7 o8 o9 o10 o11 o12 o13 : Option V), σ = [some (.ref b), some (.int len), some (.ref a), some (.str z), o4, o5, some (.ref D), o7, o8, o9, o10, o11, o12, o13] ∧ BoxAt H' b (n + 1300 * t) ∧ Fb b H9 H' ∧ Tabs (TT K) H')
        ⟨_, _, _, _, _, _, _, _, _, rfl, by simpa using bx9, Fr.refl _ _, t9⟩ (fun _ _ _ _ _ => True.intro) ?_ ?_
      · rintro t x σ Hx HA ht ⟨o4, o5, o7, o8, o9, o10, o11, o12, o13, rfl, bxA, fA, tA⟩ ⟨rfl, hx⟩
        have tl : t < 3 := ht
        have ob : ∀ q, (q = b) → R q = none := fun q e => by rw [e]; exact nRb
        have sRA : Same R HA := fA.same nR ob (sR.trans s09)
        have hDA : HA D = some (.lst ((inLi len gs j len).map V.int)) := fA _ _ nDb (fun _ z => nomatch z) hD9
        refine ⟨_, rfl, _, rfl, _, rfl, _, rfl, R, b, _, .ref a, len, gs, j, z, p, c, rfl, bxA, by omega, sRA, pR, nRb, hg0, ok, hj, fun cl2 ols ns HB bB bxB ncl rows => ?_⟩
        have sRB : Same R HB := bB.same nRb sRA
        have hDB := bB _ _ nDb hDA
        obtain ⟨hcl2, hrows⟩ := rows
        have tB : Tabs (TT K) HB := by
          obtain ⟨b1, b2, b3, b4, b5⟩ := bxA
          exact tabs_but tA b4 dat_lst bB
        have fB : Fb b H9 HB := fA.trans (Fr.but bB rfl)
        refine ⟨_, rfl, _, rfl, _, rfl, _, rfl, R, .ref a, len, gs, j, z, p, c, cl2, ols, ns, rfl, sRB, pR, hg0, ok, hj, hcl2, fun t ht => ?_, fun Fo HC sC nFo hFo => ?_⟩
        · obtain ⟨o, a1, a2, a3, a4⟩ := hrows t ht
          exact ⟨o, a1, a2, a3⟩
        have hDC := sC _ _ hDB
        refine ⟨_, rfl, _, rfl, _, rfl, _, rfl, R, .ref a, len, gs, j, z, p, c, cl2, ols, ns, rfl, sRB.trans sC, pR, nR, hg0, ok, hj, sC _ _ hcl2, fun t ht => ?_, tabs_same tB sC, fun L2 HD eD tD hL2 => ?_⟩
        · obtain ⟨o, a1, a2, a3, a4⟩ := hrows t ht
          exact ⟨o, a1, sC _ _ a2, a3, a4⟩
        have hFoD := eD _ _ hFo (fun _ z => nomatch z)
        have hDD := eD _ _ hDC (fun _ z => nomatch z)
        have rt2 := two_rep (K := K) (p := L2) (q := Fo) (xs := (fndAt gs (rdN gs z ns) j len.toNat).map V.int) (ds := (fndAt gs (rdN gs z ns) j len.toNat).map RP.D.int) fun R => reps_map fun i _ => .int i
        have fndl := fndAt_len gs (rdN gs z ns) j len.toNat
        refine ⟨_, rfl, _, .ref L2, .ref Fo, _, rfl, two_same hL2 hFoD, two_plain, rt2.1, rt2.2, fit_flat ?_ ?_, fun HE sE => ?_⟩
        · rw [List.length_map]
          omega
        · intro d hd
          obtain ⟨i, _, rfl⟩ := List.mem_map.mp hd
          exact .inl ⟨i, rfl⟩
        have hFoE := sE _ _ hFoD
        have hDE := sE _ _ hDD
        have rj : ∀ t, rdN gs z ns t j = true := fun t => by
          unfold rdN
          refine decide_eq_true (List.mem_append_right _ (List.mem_singleton.mpr nj))
        obtain ⟨q1', q2'⟩ := due_found (ra := rdN gs z fun _ => nms) (rs := rdN gs z ns) ok hjl ra rj
        rw [eD'] at q1' q2'
        have hle : ¬ (((((fndAt gs (rdN gs z ns) j len.toNat).map V.int).length : Nat) : Int) < ((((inLi len gs j len).map V.int).length : Nat) : Int)) := by
          rw [List.length_map, List.length_map]
          omega
        refine ⟨_, rfl, iteF ⟨_, rfl, Fo, _, rfl, .inl (SqL.of hFoE), _, rfl, D, _, rfl, .inl (SqL.of hDE), _, _, rfl, rfl, _, rfl, ?_⟩⟩
        rw [decide_eq_false hle]
        refine iteF ?_
        refine ⟨_, rfl, D, _, rfl, .inl (SqL.of hDE), _, rfl, ?_, ?_, fun L4 hL4 => ?_⟩
        · rw [List.length_map]; omega
        · rw [List.length_map]; omega
        refine lc_vals (w := walk_range) (fun _ => none) hL4 (by rw [List.length_map]; omega) (fun _ _ => True.intro) ?_ ?_
        · rintro i x HF HG Y2 N2 hi sF hnL ⟨rfl, hx⟩ k3 k4
          have hx2 : x = .int ((i : Nat) : Int) := by
            rw [hx]
            show V.int (0 + (i : Int)) = _
            rw [Int.zero_add]
          subst hx2
          rw [List.length_map] at hi
          have hi2 : i < (inLi len gs j len).length := by omega
          have g1 : (fndAt gs (rdN gs z ns) j len.toNat)[i]? = some ((fndAt gs (rdN gs z ns) j len.toNat)[i]'(by omega)) := List.getElem?_eq_getElem (by omega)
          have g2 : (inLi len gs j len)[i]? = some ((inLi len gs j len)[i]'hi2) := List.getElem?_eq_getElem hi2
          have hcmp := q2' i _ _ g1 g2
          have m1 : atI ((fndAt gs (rdN gs z ns) j len.toNat).map V.int) (i : Nat) = some (.int ((fndAt gs (rdN gs z ns) j len.toNat)[i]'(by omega))) := atI_nat (by rw [List.getElem?_map, g1]; rfl)
          have m2 : atI ((inLi len gs j len).map V.int) (i : Nat) = some (.int ((inLi len gs j len)[i]'hi2)) := atI_nat (by rw [List.getElem?_map, g2]; rfl)
          refine ⟨rfl, ⟨_, rfl, _, rfl, Fo, _, (i : Nat), _, rfl, rfl, SqL.of (sF _ _ hFoE), m1, _, rfl, _, rfl, D, _, (i : Nat), _, rfl, rfl, SqL.of (sF _ _ hDE), m2, _, _, rfl, rfl, _, rfl, ?_⟩⟩
          refine ite_dec (fun cc => ?_) (fun cc => ?_)
          · exact absurd (of_decide_eq_true cc) (by omega)
          · exact k4 _ rfl (Same.refl _)
        intro HF sF hF4
        rw [show ((List.range _).filterMap fun _ => (none : Option V)) = [] from List.filterMap_eq_nil_iff.mpr fun _ _ => rfl] at hF4
        refine ⟨Nat.zero_le _, fun q5 hq5 => ?_⟩
        have sG : Same HF (upd HF q5 (.lst [])) := same_new hq5
        have sEG : Same HE (upd HF q5 (.lst [])) := sF.trans sG
        refine ⟨L4, q5, [], rfl, rfl, SqL.of (sG _ _ hF4), SqL.of upd_same, _, rfl, iteF ?_⟩
        refine ⟨_, _, _, _, _, _, _, _, _, rfl, ?_, fB.trans (Fr.ext ((sC.ext.trans eD).trans (sE.trans sEG).ext)), tabs_same (tabs_same tD sE) sEG⟩
        exact BoxAt.mono ((((bxB.same sC).ext eD).same sE).same sEG) (by omega)
      · rintro σ HA ⟨o4, o5, o7, o8, o9, o10, o11, o12, o13, rfl, bxA, fA, tA⟩
        have ob : ∀ q, (q = b) → R q = none := fun q e => by rw [e]; exact nRb
        have hDA : HA D = some (.lst ((inLi len gs j len).map V.int)) := fA _ _ nDb (fun _ z => nomatch z) hD9
        have sRA : Same R HA := fA.same nR ob (sR.trans s09)
        refine ⟨_, rfl, _, rfl, _, rfl, _, _, rfl, rfl, b, _, len + 1, rfl, bxA, by omega, by omega, by omega, fun r1 HB r10 r11 bxB bB => ?_⟩
        refine ⟨_, rfl, b, _, 401, rfl, bxB, by omega, by omega, by omega, fun r2 HC r20 r21 bxC bC => ⟨(show 4 ≤ sizeLine by decide), fun tl htl => ?_⟩⟩
        have bBC := bB.trans bC
        have hDC := bBC _ _ nDb hDA
        have sRC : Same R HC := bBC.same nRb sRA
        have tC : Tabs (TT K) HC := by
          obtain ⟨b1, b2, b3, b4, b5⟩ := bxA
          exact tabs_but tA b4 dat_lst bBC
        have sD : Same HC (upd HC tl (.lst [.int 0, .int len, .int r1, .int r2])) := same_new htl
        have htl2 : upd HC tl (.lst [.int 0, .int len, .int r1, .int r2]) tl = some (.lst [.int 0, .int len, .int r1, .int r2]) := upd_same
        have fD : Fb b H9 (upd HC tl (.lst [.int 0, .int len, .int r1, .int r2])) := (fA.trans (Fr.but bBC rfl)).trans (Fr.ext sD.ext)
        generalize upd HC tl (.lst [.int 0, .int len, .int r1, .int r2]) = HD at sD htl2 fD ⊢
        have hDD := sD _ _ hDC
        have sRD := sRC.trans sD
        have bxD := bxC.same sD
        have tD := tabs_same tC sD
        refine ⟨tl, rfl, ⟨_, SqL.of htl2⟩, ?_⟩
        refine for_it (w := walk_list) (fun t σ H' => ∃ (o4 o5 o7 o8 o9 o10 o11 o12 o13 : Option V), σ = [some (.ref b), some (.int len), some (.ref a), some (.str z), o4, o5, some (.ref D), o7, o8, o9, o10, o11, o12, o13] ∧ Same HD H')
          ⟨_, _, _, _, _, _, _, _, _, rfl, Same.refl _⟩ (fun t σ H' _ ⟨_, _, _, _, _, _, _, _, _, _, s⟩ => SqL.of (s _ _ htl2)) ?_ ?_
        · rintro t x σ Hx HE ht ⟨o4, o5, o7, o8, o9, o10, o11, o12, o13, rfl, sE⟩ ⟨rfl, hx⟩
          obtain ⟨k, rfl, k0, k1⟩ : ∃ k : Int, x = .int k ∧ 0 ≤ k ∧ k ≤ 400 := by
            have hm := List.mem_of_getElem? hx
            simp only [List.mem_cons, List.not_mem_nil, or_false] at hm
            rcases hm with rfl | rfl | rfl | rfl
            · exact ⟨0, rfl, by omega, by omega⟩
            · exact ⟨len, rfl, by omega, by omega⟩
            · exact ⟨r1, rfl, by omega, by omega⟩
            · exact ⟨r2, rfl, by omega, by omega⟩
          have hDE := sE _ _ hDD
          have hm0 := Int.emod_nonneg k (show len ≠ 0 by omega)
          have hm1 := Int.emod_lt_of_pos k (show 0 < len by omega)
          have hdv : 0 ≤ k / len ∧ k / len ≤ k := ⟨Int.ediv_nonneg k0 (by omega), Int.ediv_le_self len k0⟩
          refine ⟨_, rfl, _, rfl, _, _, rfl, rfl, wdiv (by omega) (by omega), _, rfl, D, _, rfl, .inl (SqL.of hDE), _, _, rfl, rfl, wmul (by omega) (by rw [List.length_map]; omega), ?_⟩
          refine ⟨_, rfl, D, rfl, ⟨_, SqL.of hDE⟩, fun L hL => ?_⟩
          refine lc_vals (w := walk_list) (fun i => ((inLi len gs j len)[i]?).bind fun y => if y ≤ k % len then some (V.int y) else none) hL (by rw [List.length_map]; omega) (fun H2 s2 => SqL.of (s2 _ _ hDE)) ?_ ?_
          · rintro i x HF HG Y2 N2 hi sF hnL ⟨rfl, hx⟩ k3 k4
            rw [List.getElem?_map] at hx
            obtain ⟨y, hy, rfl⟩ := Option.map_eq_some_iff.mp hx
            rw [hy] at k3 k4
            refine ⟨rfl, ⟨_, rfl, _, rfl, .inl ⟨_, rfl, _, rfl, _, _, rfl, rfl, (show (0 : Int) < len by omega), _, _, rfl, rfl, _, rfl, ?_⟩⟩⟩
            refine ite_dec (fun cc => ?_) (fun cc => ?_)
            · exact ⟨_, rfl, k3 _ _ (if_pos (of_decide_eq_true cc)) (Same.refl _)⟩
            · exact k4 _ (if_neg (of_decide_eq_false cc)) (Same.refl _)
          intro HF sF hF4
          have efl : ((List.range ((inLi len gs j len).map V.int).length).filterMap fun i => ((inLi len gs j len)[i]?).bind fun y => if y ≤ k % len then some (V.int y) else none) = inL len gs j (k % len) := by
            rw [List.length_map, ← inLi_filter (show k % len ≤ len by omega)]
            exact range_bind _ _
          rw [efl] at hF4
          refine ⟨L, _, rfl, .inl (SqL.of hF4), _, _, rfl, rfl, ?_⟩
          have sRF : Same R HF := sRD.trans (sE.trans sF)
          have hw : (RP.D.int k).whole 0 400 = true := by
            show (decide (0 ≤ k) && decide (k ≤ 400)) = true
            rw [decide_eq_true k0, decide_eq_true k1]
            rfl
          refine ⟨_, rfl, _, rfl, _, rfl, _, rfl, R, .int len, .ref a, .str z, .int k, .int len, gD gs, .str z, .int k, rfl, Cs.of_good good.case sRF pR (.int _) hg0 (.str _ hzl), .int _, (fun _ q => by rw [hw] at q; cases q), fun _ _ => ⟨len, gs, j, z, p, c, k, good, rfl, fun HG sG => ?_⟩⟩
          have em : k / len * ((((inLi len gs j len).map V.int).length : Nat) : Int) + (((inL len gs j (k % len)).length : Nat) : Int) = sureN len gs j k := by
            unfold sureN inN
            rw [← inL_ints]
          refine ⟨_, rfl, fun _ => none, _, _, .int (sureN len gs j k), rfl, (fun _ _ h => nomatch h), Plain.none, .int _, ?_, True.intro, fun HH sH => ⟨_, rfl, iteF ?_⟩⟩
          · rw [← em]
            exact .int _
          · exact ⟨_, _, _, _, _, _, _, _, _, rfl, sE.trans (sF.trans (sG.trans sH))⟩
        · rintro σ HE ⟨o4, o5, o7, o8, o9, o10, o11, o12, o13, rfl, sE⟩
          refine hq HE (BoxAt.mono (bxD.same sE) (by omega)) ?_ (tabs_same tD sE)
          exact (Fr.ext s09.ext).trans (fD.trans (Fr.ext sE.ext))
end
end K85

set_option Elab.async false
set_option linter.all false
set_option maxRecDepth 100000
set_option maxHeartbeats 1000000
namespace RP
open PySem PySem.Spec PyProof.Rows L2 LamX
theorem atI_neg1 {xs : List V} (h : 0 < xs.length) : ∃ v, atI xs (-1) = some v ∧ v ∈ xs := by
  have e : ixN xs.length (-1) = some (xs.length - 1) := by
    unfold ixN
    rw [if_neg (by omega), if_pos (by omega)]
    congr 1
    omega
  refine ⟨xs[xs.length - 1], ?_, List.getElem_mem _⟩
  unfold atI
  rw [e]
  exact List.getElem?_eq_getElem (by omega)
end RP
namespace K85
open PySem PySem.Spec PyProof.Rows L2 RP LamX
def nameD (gs : List G3) : Option Nat → D
  | none => .non
  | some b => .str (nmAt gs b)
theorem nm8 {len : Int} {gs : List G3} (g : GsOk len gs) (b : Nat) : (nmAt gs b).length ≤ 8 := by
  by_cases h : b < gs.length
  · obtain ⟨p, c, e, _⟩ := nm_some h
    have h1 := g.nm _ (List.mem_of_getElem? e)
    unfold okName at h1
    exact of_decide_eq_true (Bool.and_eq_true_iff.mp (Bool.and_eq_true_iff.mp h1).2).1
  · unfold nmAt
    rw [List.getD_eq_getElem?_getD, List.getElem?_eq_none (by omega)]
    show Str.empty.length ≤ 8
    decide
theorem rep_name {K : PySem.W.Frag} {R : Hp} {len : Int} {gs : List G3} (g : GsOk len gs) : ∀ o, Rep K R (nameV gs o) (nameD gs o)
  | none => .non
  | some b => .str _ (by
    have := nm8 g b
    have : 100 ≤ sizeLine := by decide
    omega)
theorem few_ok : GsOk 4 few := ⟨by decide, by decide +kernel, by decide +kernel, by decide, by decide, by decide⟩
section
variable {P : Program} {w : World} {K : PySem.W.Frag} {mg : Str → Option Value} {base : Heap}
/-! ### law -/
theorem sc_law : FnScope ["script", "k", "box", "length", "guests", "names", "used", "dealt", "one", "turn", "got", "name", "few"] ["script"] (defScope s_law) := ⟨rfl, rfl, rfl, by decide +kernel, rfl, by decide +kernel, by decide +kernel⟩
def spLaw (K : PySem.W.Frag) : Sp := fun vs H Q _ => ∃ (a : Addr) (ns : List Int), vs = [.ref a] ∧ SqL K H a (ns.map V.int) ∧ Tabs (TT K) H ∧ ∀ H', Q (.bl true) H'
theorem ok_law (T : Txt K mg) (G__law_cell : Def P w K mg base 1 "_law_cell" ["script", "k"] (spCell K)) (G__law_box : Def P w K mg base 1 "_law_box" ["cell"] (spBox K)) (G__law_case : Def P w K mg base 2 "_law_case" ["box"] (spCase K))
    (G__law_take : Def P w K mg base 1 "_law_take" ["box", "many"] (spTake K)) (G__law_deal : Def P w K mg base 1 "_law_deal" ["guests", "used", "ready"] (spDeal K)) (G_worst : Def P w K mg base 4 "worst" ["length", "guests"] (spWorstT K)) (G__law_same : Def P w K mg base 3 "_law_same" ["told", "due"] (spSame 2 K))
    (G__law_name_right : Def P w K mg base 7 "_law_name_right" ["box", "length", "guests", "name"] (spNR K)) (G_latest : Def P w K mg base 5 "latest" ["length", "guests", "name", "many"] (spLatest K)) {f : Addr} {fd : FuncData} (F : At K mg "law" s_law f fd) : FnOk P w K mg base (L2.CX P w) 8 f fd ["script"] (spLaw K) := by
  refine F.fn.ok sc_law (fun vs H Q E h => ?_) (fun cdv A outer s H vs Q E hr h => ?_)
  · obtain ⟨a, ns, rfl, _⟩ := h
    rfl
  · obtain ⟨a, ns, rfl, hS, hT, hq⟩ := h
    refine ⟨_, (pss_cons (ps_for (passes_of rfl) rfl (pi_range1 (by rfl) T.b_range (pa_cons (pe_callB (call_max2 rfl) (by rfl) T.b_max (by decide +kernel) (pa_cons pe_int (pa_cons (pe_callB (call_min2 rfl) (by rfl) T.b_min (by decide +kernel) (pa_cons pe_int (pa_cons (pe_callB (kcall_len_seq K rfl) (by rfl) T.b_len (by decide +kernel) (pa_cons (pv 0) pa_nil)) pa_nil))) pa_nil))) pa_nil)) (pg_name (i := 1) sc_law.nd rfl (Or.inl rfl))
        (pss_cons (ps_set (i := 2) sc_law.nd rfl (Or.inl rfl) (pe_d G__law_box (hr.mono (by decide)) (by rfl) (pa_cons (pe_d G__law_cell (hr.mono (by decide)) (by rfl) (pa_cons (pv 0) (pa_cons (pv 1) pa_nil))) pa_nil)))
      (pss_cons (ps_asg (pe_d G__law_case (hr.mono (by decide)) (by rfl) (pa_cons (pv 2) pa_nil)) (kpg_tup K rfl (n := 2) rfl (pgs_cons (pg_name (i := 3) sc_law.nd rfl (Or.inl rfl)) (pgs_cons (pg_name (i := 4) sc_law.nd rfl (Or.inl rfl)) pgs_nil))))
      (pss_cons (ps_set (i := 5) sc_law.nd rfl (Or.inl rfl) (pe_callTy (call_listD rfl) (by rfl) T.b_list (by decide +kernel) (pa_cons (pv 4) pa_nil)))
      (pss_cons (ps_par (i := 6) (j := 7) rfl sc_law.nd rfl rfl (by decide) rfl rfl (pa_cons (pe_callTy (kcall_dictP K rfl rfl) (by rfl) T.b_dict (by decide +kernel) (pa_cons (pe_lock (pe_lc (own := [("one", 8)]) rfl sc_law.nd (pi_keys (pv 4)) (blkOk_by (own := [("one", 8)]) (N := ["script", "k", "box", "length", "guests", "names", "used", "dealt", "one", "turn", "got", "name", "few"]) (sc := defScope s_law) (by decide +kernel)) (fun _ _ _ _ _ => (pg_name (i := 8) sc_law.nd rfl (Or.inl rfl))) (fun _ _ _ _ _ => pts_nil) (fun _ _ _ _ _ => (pe_tup (pa_cons (pv 8) (pa_cons pe_int pa_nil)))))) pa_nil)) (pa_cons (pe_lst pa_nil) pa_nil)) (by rfl))
      (pss_cons (ps_for (passes_of rfl) rfl (pi_range1 (by rfl) T.b_range (pa_cons (pv 3) pa_nil)) (pg_name (i := 9) sc_law.nd rfl (Or.inl rfl))
        (pss_cons (ps_set (i := 10) sc_law.nd rfl (Or.inl rfl) (pe_d G__law_deal (hr.mono (by decide)) (by rfl) (pa_cons (pv 4) (pa_cons (pv 6) (pa_cons (pv 5) pa_nil)))))
      (pss_cons (ps_if (pt_cmpR op_notN (pv 10) pe_non (nomark _)) (pss_one (ps_dput (hu_of hr) (pv 6) (pv 10) (pe_op op_add (pe_dget (hu_of hr) (pv 6) (pv 10) (fun _ _ => rfl)) pe_int) rfl)) pss_nil)
      (pss_one (ps_expr (kpe_bm K rfl (pe_bm PySem.F.plainAttrs_list PySem.F.slot_list_append PySem.F.type_list_append mt_append (pv 7) (pa_cons (pv 10) pa_nil))))))))
      (pss_cons (ps_if (pt_not (pt_val (pe_d G__law_same (hr.mono (by decide)) (by rfl) (pa_cons (pe_d G_worst (hr.mono (by decide)) (by rfl) (pa_cons (pv 3) (pa_cons (pv 4) pa_nil))) (pa_cons (pv 7) pa_nil))))) (pss_one (ps_ret pe_bl)) pss_nil)
      (pss_one (ps_for (passes_of rfl) rfl (kpi_list K rfl (pe_lst (pa_cons (pe_ix (kix_list K rfl) (pv 5) pe_int (fun _ _ => rfl)) (pa_cons (pe_ix (kix_list K rfl) (pv 5) (pe_un un_neg pe_int) (fun _ _ => rfl)) (pa_cons (pe_ix (kix_list K rfl) (pv 5) (pe_d G__law_take (hr.mono (by decide)) (by rfl) (pa_cons (pv 2) (pa_cons (pe_callB (kcall_len_seq K rfl) (by rfl) T.b_len (by decide +kernel) (pa_cons (pv 5) pa_nil)) pa_nil))) (fun _ _ => rfl)) pa_nil))))) (pg_name (i := 11) sc_law.nd rfl (Or.inl rfl))
        (pss_one (ps_if (pt_not (pt_val (pe_d G__law_name_right (hr.mono (by decide)) (by rfl) (pa_cons (pv 2) (pa_cons (pv 3) (pa_cons (pv 4) (pa_cons (pv 11) pa_nil))))))) (pss_one (ps_ret pe_bl)) pss_nil)))))))))))
      (pss_cons (ps_set (i := 12) sc_law.nd rfl (Or.inl rfl) (pe_disp (pps_cons pe_str (pe_tup (pa_cons pe_int (pa_cons pe_int pa_nil))) (pps_cons pe_str (pe_tup (pa_cons pe_int (pa_cons pe_int pa_nil))) pps_nil)) (by rfl) (by rfl) (fun z => by cases z) (by decide)))
      (pss_one (ps_ret (pe_d G__law_same (hr.mono (by decide)) (by rfl) (pa_cons (pe_lst (pa_cons (pe_d G_latest (hr.mono (by decide)) (by rfl) (pa_cons pe_int (pa_cons (pv 12) (pa_cons pe_str (pa_cons pe_int pa_nil))))) (pa_cons (pe_d G_latest (hr.mono (by decide)) (by rfl) (pa_cons pe_int (pa_cons (pv 12) (pa_cons pe_str (pa_cons pe_int pa_nil))))) (pa_cons (pe_d G_latest (hr.mono (by decide)) (by rfl) (pa_cons pe_int (pa_cons (pv 12) (pa_cons pe_str (pa_cons pe_int pa_nil))))) pa_nil)))) (pa_cons (pe_lst (pa_cons pe_int (pa_cons pe_int (pa_cons pe_int pa_nil)))) pa_nil))))))), ?_⟩
    refine ⟨_, rfl, a, _, rfl, .inl hS, _, _, rfl, _, _, rfl, _, rfl, ?_, ?_, ?_⟩
    · split <;> split <;> omega
    · split <;> split <;> omega
    have hm : ∃ m : Int, (if (if ((List.map V.int ns).length : Int) < 6 then ((List.map V.int ns).length : Int) else 6) > 3 then (if ((List.map V.int ns).length : Int) < 6 then ((List.map V.int ns).length : Int) else 6) else 3) = m ∧ m ≤ 6 := ⟨_, rfl, by split <;> split <;> omega⟩
    obtain ⟨m, em, m6⟩ := hm
    rw [em]
    refine for_it (w := walk_range) (fun t σ H' => ∃ (o1 o2 o3 o4 o5 o6 o7 o8 o9 o10 o11 o12 : Option V), σ = [some (.ref a), o1, o2, o3, o4, o5, o6, o7, o8, o9, o10, o11, o12] ∧ ExtN H H' ∧ Tabs (TT K) H') ⟨_, _, _, _, _, _, _, _, _, _, _, _, rfl, ExtN.refl H, hT⟩ (fun _ _ _ _ _ => True.intro) ?_ ?_
    · rintro t x σ Hx Ha ht ⟨o1, o2, o3, o4, o5, o6, o7, o8, o9, o10, o11, o12, rfl, e0, t0⟩ ⟨rfl, hx⟩
      have ht2 : t < m.toNat := ht
      have hx2 : x = .int ((t : Nat) : Int) := by
        rw [hx]
        show V.int (0 + (t : Int)) = _
        rw [Int.zero_add]
      subst hx2
      refine ⟨_, rfl, _, rfl, .ref a, a, ns, t, rfl, rfl, LK.SqL_ext hS e0, by omega, fun i H1 s1 => ⟨i, rfl, fun b H2 s2 nb bx => ?_⟩⟩
      have nHb : Nw H b := nw_of (e0.trans s1.ext) nb
      have t2 : Tabs (TT K) H2 := tabs_same t0 (s1.trans s2)
      have e2 : ExtN H H2 := e0.trans (s1.trans s2).ext
      refine ⟨_, rfl, b, 0, rfl, bx, by omega, fun len gs R0 H3 v ok hl1 h6 pR0 sR0 nRb0 rv0 bx3 b3 => ?_⟩
      have t3 : Tabs (TT K) H3 := by
        obtain ⟨b1, b2, b3', b4, b5⟩ := bx
        exact tabs_but t2 b4 dat_lst b3
      have e3 : ExtN H H3 := ext_but e2 nHb b3
      have rv := rv0.noT
      have nR : Nt (NoT R0) := NoT.nt
      have pR : Plain (NoT R0) := NoT.plain pR0
      have sR : Same (NoT R0) H3 := NoT.same.trans sR0
      have nRb : NoT R0 b = none := by
        unfold NoT
        rw [nRb0]
      generalize NoT R0 = R at rv nR pR sR nRb
      clear rv0 pR0 sR0 nRb0
      obtain ⟨tt, vg, rfl, htt, hg⟩ : ∃ tt vg, v = .ref tt ∧ SqT K R tt [.int len, vg] ∧ Rep K R vg (gD gs) := by
        cases rv with
        | tup h r =>
          cases r with
          | cons r1 t =>
            cases r1
            cases t with
            | cons r2 t =>
              cases t
              exact ⟨_, _, rfl, h, r2⟩
      refine ⟨tt, _, rfl, (Lq.of sR).tup htt, rfl, _, _, rfl, _, _, rfl, rfl, ?_⟩
      have hg0 := hg
      cases hg with
      | @dct ga kvs _ hk rk =>
      have hRa : R ga = some (.dK kvs) := pR.rd hk
      have hl : kvs.length = gs.length := by rw [rk.len, List.length_map]
      have ekeys : (kvs.map fun kv => kV kv.1) = (gs.map (·.1)).map V.str := by
        rw [rk.keys, List.map_map, List.map_map]
        rfl
      have n6 := ok.n6
      have hlen := ok.len
      refine ⟨_, rfl, ga, kvs, rfl, .inl (sR _ _ hRa), fun nl hnl => ?_⟩
      rw [ekeys]
      have s4 : Same H3 (upd H3 nl (.lst ((gs.map (·.1)).map V.str))) := same_new hnl
      have h4 : upd H3 nl (.lst ((gs.map (·.1)).map V.str)) nl = some (.lst ((gs.map (·.1)).map V.str)) := upd_same
      have nnl := bx3.ne hnl
      generalize upd H3 nl (.lst ((gs.map (·.1)).map V.str)) = H4 at s4 h4 ⊢
      have hHa4 := s4 _ _ (sR _ _ hRa)
      have sR4 := sR.trans s4
      -- the turns used
      refine ⟨ga, .dK kvs, hHa4, True.intro, fun od => ⟨_, rfl, ga, od, rfl, .inl ⟨kvs, upd_same, fun L hL => ?_⟩⟩⟩
      refine lc_reps (K := K) (w := walk_keys) (R := fun _ => none) (fun i => some (.tup [.str (nmAt gs i), .int 0])) hL (by omega) (fun _ _ h => nomatch h) Plain.none (fun H1 s1 => s1 _ _ upd_same) ?_ ?_
      · rintro i x H1 H2 R1 Y2 N2 hi s1 hnL gr pl sr ⟨rfl, k, v, hkv, rfl⟩ k3 k4
        obtain ⟨y, d, hd, rfl, hy, rd⟩ := rk.get hkv
        have e1 : y = nmAt gs i := by
          rw [List.getElem?_map] at hd
          obtain ⟨e, he, hd⟩ := Option.map_eq_some_iff.mp hd
          cases hd
          exact (nmAt_of (z := e.1) (p := e.2.1) (c := e.2.2) he).symm
        subst e1
        refine ⟨rfl, ⟨_, rfl, (show 2 ≤ sizeLine by decide), fun T3 hT3 => ?_⟩⟩
        exact k3 _ _ (upd R1 T3 (.tup [.str (nmAt gs i), .int 0])) (.tup [.str (nmAt gs i), .int 0]) rfl (same_new hT3) ((Grow.refl _ _).put hT3 (sr.out hT3)) (pl.put (fun _ _ z => nomatch z)) sr.put (.tup (SqT.of upd_same) (.cons (.str _ hy) (.cons (.int _) .nil)))
      intro H5 R1 zs s5 gr pl sr hRL hLz rz
      have ez : (List.range kvs.length).filterMap (fun i => some (D.tup [.str (nmAt gs i), .int 0])) = (((List.range gs.length).map fun i => (nmAt gs i, (0 : Int))).map fun e => (e.1, D.int e.2)).map fun e => D.tup [.str e.1, e.2] := by
        rw [fm_some, hl, List.map_map, List.map_map]
        rfl
      rw [ez] at rz
      obtain ⟨ps, kvs', rfl, pp, rk'⟩ := pairs_of rz
      have ek : kvs' = usedK gs fun _ => 0 := by
        rw [repK_ints rk', List.map_map]
        rfl
      have emg : mergeK [] kvs' = usedK gs fun _ => 0 := by
        have := merge_nodup (kvs := kvs') (acc := []) (by rw [List.nil_append, ek]; exact used_nd ok)
        rw [this, List.nil_append, ek]
      have hR1a : R1 ga = none := gr.off upd_same rfl
      have hLa : L ≠ ga := fun e => by
        rw [e, upd_same] at hL
        cases hL
      have su : Same H4 (upd H5 ga (.dK kvs)) := Same.unlock hHa4 s5
      have sr1 : Same R1 (upd H5 ga (.dK kvs)) := sr.skip hR1a
      refine ⟨s5 _ _ upd_same, L, ps, kvs', rfl, SqL.of (by rw [upd_ne hLa]; exact hLz), paired_mono (fun _ _ h => (Lq.of sr1).tup h) pp, fun ud hud => ?_⟩
      rw [emg]
      generalize upd H5 ga (.dK kvs) = Hu at su sr1 hud ⊢
      refine ⟨Nat.zero_le _, fun F hF => ?_⟩
      have nud : H4 ud = none := su.free hud
      have s6 : Same H4 (upd Hu ud (.dK (usedK gs fun _ => 0))) := su.trans (same_new hud)
      have nF : H4 F = none := s6.free hF
      have hFu : F ≠ ud := fun e => by
        rw [e, upd_same] at hF
        cases hF
      have h0ud : upd (upd Hu ud (.dK (usedK gs fun _ => 0))) F (.lst []) ud = some (.dK (usedK gs fun _ => 0)) := by rw [upd_ne (Ne.symm hFu), upd_same]
      have h0F : upd (upd Hu ud (.dK (usedK gs fun _ => 0))) F (.lst []) F = some (.lst []) := upd_same
      have s7 : Same H4 (upd (upd Hu ud (.dK (usedK gs fun _ => 0))) F (.lst [])) := s6.trans (same_new hF)
      generalize upd (upd Hu ud (.dK (usedK gs fun _ => 0))) F (.lst []) = H6 at h0ud h0F s7 ⊢
      refine ⟨_, _, rfl, _, rfl, len, rfl, by omega, by omega, ?_⟩
      refine for_it (w := walk_range) (fun t σ H' => ∃ (o1 o8 o9 o10 o11 o12 : Option V), σ = [some (.ref a), o1, some (.ref b), some (.int len), some (.ref ga), some (.ref nl), some (.ref ud), some (.ref F), o8, o9, o10, o11, o12] ∧ (∀ i, i < gs.length → 0 ≤ stAt gs rdA t i ∧ stAt gs rdA t i ≤ cA gs i) ∧ Same H4 H' ∧ H' ud = some (.dK (usedK gs (stAt gs rdA t))) ∧ H' F = some (.lst (dealtL gs t)))
        ⟨_, _, _, _, _, _, rfl, fun i hi => ⟨Int.le_refl 0, by have := ok.at_sh hi; show (0 : Int) ≤ _; omega⟩, s7, h0ud, h0F⟩ (fun _ _ _ _ _ => True.intro) ?_ ?_
      · rintro u x σ Hy H7 hu ⟨o1, o8, o9, o10, o11, o12, rfl, I, s8, hu7, hF7⟩ ⟨rfl, hx⟩
        have ul : u < len.toNat := hu
        refine ⟨_, rfl, _, rfl, _, rfl, R, .ref ga, len, gs, stAt gs rdA u, ud, nl, _, fun _ => true, rfl, sR4.trans s8, pR, hg0, ok, hu7, fun i hi => ?_, SqL.of (s8 _ _ h4), flat_strs _, fun i hi => ?_, fun o H8 hd s9 => ?_⟩
        · have h1 := I i hi
          have h2 := ok.at_sh hi
          omega
        · rw [inV_strs]
          refine decide_eq_true ?_
          obtain ⟨p, c, e, _⟩ := nm_some hi
          exact List.mem_map.mpr ⟨_, List.mem_of_getElem? e, rfl⟩
        have hu8 := s9 _ _ hu7
        have hF8 := s9 _ _ hF7
        have s48 : Same H4 H8 := s8.trans s9
        have es : stAt gs rdA (u + 1) = nxU (stAt gs rdA u) o := stepF_eq ok hd
        have ef : dealtL gs (u + 1) = dealtL gs u ++ [nameV gs o] := by rw [dealtL_succ, dealF_eq ok (show DealR gs (stAt gs rdA u) (rdA u) o from hd)]
        have hlt : (dealtL gs u).length < sizeLine := by
          rw [dealtL_len]
          have : 100 < sizeLine := by decide
          omega
        cases o with
        | none =>
          refine ⟨_, rfl, rfl, _, rfl, iteF ?_⟩
          refine ⟨_, rfl, .inl ⟨rfl, _, SqL.of hF8⟩, _, rfl, F, _, _, rfl, rfl, hF8, hlt, ?_⟩
          exact ⟨_, _, _, _, _, _, rfl, by rw [es]; exact I, s48.skip nF, by rw [upd_ne (Ne.symm hFu), es]; exact hu8, by rw [upd_same, ef]⟩
        | some bb =>
          have hbl := hd.1
          refine ⟨_, rfl, rfl, _, rfl, iteT ?_⟩
          have I9 := addAt_b ok I hd
          refine ⟨_, rfl, _, rfl, ud, _, rfl, .inl ⟨usedK gs (stAt gs rdA u), .inr (nmAt gs bb), .inl hu8, rfl, (used_at ok hbl).symm⟩, _, _, rfl, rfl, _, rfl, _, rfl, ud, _, rfl, DPut.k (k := .inr (nmAt gs bb)) hu8 ?_, ?_⟩
          · unfold usedK
            rw [List.length_map, List.length_range]
            have : 100 < sizeLine := by decide
            omega
          rw [used_put ok hbl]
          have s9' : Same H4 (upd H8 ud (.dK (usedK gs (addAt (stAt gs rdA u) bb)))) := s48.skip nud
          have hu9 : upd H8 ud (.dK (usedK gs (addAt (stAt gs rdA u) bb))) ud = some (.dK (usedK gs (addAt (stAt gs rdA u) bb))) := upd_same
          have hF9 : upd H8 ud (.dK (usedK gs (addAt (stAt gs rdA u) bb))) F = some (.lst (dealtL gs u)) := by rw [upd_ne hFu]; exact hF8
          generalize upd H8 ud (.dK (usedK gs (addAt (stAt gs rdA u) bb))) = H9 at s9' hu9 hF9 ⊢
          refine ⟨_, rfl, .inl ⟨rfl, _, SqL.of hF9⟩, _, rfl, F, _, _, rfl, rfl, hF9, hlt, ?_⟩
          exact ⟨_, _, _, _, _, _, rfl, by rw [es]; exact I9, s9'.skip nF, by rw [upd_ne (Ne.symm hFu), es]; exact hu9, by rw [upd_same, ef]⟩
      · rintro σ H7 ⟨o1, o8, o9, o10, o11, o12, rfl, I, s8, hu7, hF7⟩
        have s37 := s4.trans s8
        have t7 := tabs_same t3 s37
        refine ⟨_, rfl, _, rfl, R, .ref ga, len, gs, rfl, sR.trans s37, pR, nR, hg0, ok, t7, fun q H8 e8 t8 hq8 => ?_⟩
        have hF8 := e8 _ _ hF7 (fun _ z => nomatch z)
        have rt2 := two_rep (K := K) (p := q) (q := F) (xs := dealtL gs len.toNat) (ds := (List.range len.toNat).map fun t => nameD gs (dealF gs (stAt gs rdA t) (rdA t))) fun R => reps_map fun i _ => rep_name ok _
        refine ⟨_, rfl, _, .ref q, .ref F, _, rfl, two_same hq8 hF8, two_plain, rt2.1, rt2.2, fit_flat ?_ ?_, fun H9 s9 => ⟨_, rfl, iteF ?_⟩⟩
        · rw [List.length_map, List.length_range]
          omega
        · intro d hd
          obtain ⟨i, _, rfl⟩ := List.mem_map.mp hd
          cases dealF gs (stAt gs rdA i) (rdA i) with
          | none => exact .inr (.inl rfl)
          | some bb => exact .inr (.inr ⟨_, rfl, by have := nm8 ok bb; omega⟩)
        have sR7 := sR.trans s37
        have sR9 : Same R H9 := (nR.ext sR7 e8).trans s9
        have bx9 : BoxAt H9 b (0 + 100) := ((bx3.same s37).ext e8).same s9
        have t9 := tabs_same t8 s9
        have hnl9 := s9 _ _ (e8 _ _ (s8 _ _ h4) fun _ z => nomatch z)
        have e9 : ExtN H H9 := e3.trans ((s37.ext.trans e8).trans s9.ext)
        have hlx : ((gs.map (·.1)).map V.str).length = gs.length := by rw [List.length_map, List.length_map]
        obtain ⟨v1, a1, m1⟩ := atI_lt (xs := (gs.map (·.1)).map V.str) (i := 0) (by omega) (by omega)
        obtain ⟨v2, a2, m2⟩ := atI_neg1 (xs := (gs.map (·.1)).map V.str) (by omega)
        refine ⟨_, rfl, nl, _, 0, v1, rfl, rfl, SqL.of hnl9, a1, _, rfl, _, rfl, nl, _, -1, v2, rfl, rfl, SqL.of hnl9, a2, _, rfl, _, rfl, _, rfl, nl, _, rfl, .inl (SqL.of hnl9), b, _, _, rfl, bx9, by omega, by omega, by omega, fun r HA r0 r1 bxA bA => ?_⟩
        have hnlA := bA _ _ nnl hnl9
        obtain ⟨v3, a3, m3⟩ := atI_lt (xs := (gs.map (·.1)).map V.str) (i := r) r0 (by omega)
        refine ⟨nl, _, r, v3, rfl, rfl, SqL.of hnlA, a3, (show 3 ≤ sizeLine by decide), fun tl htl => ?_⟩
        have sB : Same HA (upd HA tl (.lst [v1, v2, v3])) := same_new htl
        have htl2 : upd HA tl (.lst [v1, v2, v3]) tl = some (.lst [v1, v2, v3]) := upd_same
        have ntl := bxA.ne htl
        have tA : Tabs (TT K) HA := by
          obtain ⟨b1, b2, b3', b4, b5⟩ := bx9
          exact tabs_but t9 b4 dat_lst bA
        have eB : ExtN H (upd HA tl (.lst [v1, v2, v3])) := ext_same (ext_but e9 nHb bA) sB
        have sRB : Same R (upd HA tl (.lst [v1, v2, v3])) := (bA.same nRb sR9).trans sB
        generalize upd HA tl (.lst [v1, v2, v3]) = HB at sB htl2 eB sRB ⊢
        have tB := tabs_same tA sB
        have bxB := bxA.same sB
        refine ⟨tl, rfl, ⟨_, SqL.of htl2⟩, ?_⟩
        refine for_it (w := walk_list) (fun k σ H' => ∃ (o1 o8 o9 o10 o11 o12 : Option V), σ = [some (.ref a), o1, some (.ref b), some (.int len), some (.ref ga), some (.ref nl), some (.ref ud), some (.ref F), o8, o9, o10, o11, o12] ∧ BoxAt H' b (0 + 100 + 1 + 5000 * k) ∧ Fb b HB H' ∧ Tabs (TT K) H')
          ⟨_, _, _, _, _, _, rfl, by simpa using bxB, Fr.refl _ _, tB⟩ (fun k σ H' _ ⟨_, _, _, _, _, _, _, _, f, _⟩ => SqL.of (f _ _ ntl (fun _ z => nomatch z) htl2)) ?_ ?_
        · rintro k x σ Hy HC hk ⟨o1, o8, o9, o10, o11, o12, rfl, bxC, fC, tC⟩ ⟨rfl, hx⟩
          have hk3 : k < 3 := hk
          have hxm : x ∈ (gs.map (·.1)).map V.str := by
            have hm := List.mem_of_getElem? hx
            simp only [List.mem_cons, List.not_mem_nil, or_false] at hm
            rcases hm with rfl | rfl | rfl
            · exact m1
            · exact m2
            · exact m3
          obtain ⟨z, hz, rfl⟩ := List.mem_map.mp hxm
          obtain ⟨e, he, rfl⟩ := List.mem_map.mp hz
          obtain ⟨j, hj⟩ := List.mem_iff_getElem?.mp he
          have ob : ∀ q, (q = b) → R q = none := fun q e => by rw [e]; exact nRb
          refine ⟨_, rfl, _, rfl, _, rfl, _, rfl, R, b, _, .ref ga, len, gs, j, e.1, e.2.1, e.2.2, rfl, bxC, by omega, fC.same nR ob sRB, pR, nR, nRb, hg0, ok, hj, tC, fun HD bxD fD tD => ⟨_, rfl, iteF ?_⟩⟩
          exact ⟨_, _, _, _, _, _, rfl, bxD.mono (by omega), fC.trans fD, tD⟩
        · rintro σ HC ⟨o1, o8, o9, o10, o11, o12, rfl, bxC, fC, tC⟩
          exact ⟨_, _, _, _, _, _, _, _, _, _, _, _, rfl, ext_fr eB fC (fun q e => by rw [e]; exact nHb), tC⟩
    · rintro σ Ha ⟨o1, o2, o3, o4, o5, o6, o7, o8, o9, o10, o11, o12, rfl, e0, t0⟩
      refine fun p hp => ⟨(show 2 ≤ sizeLine by decide), fun t1 ht1 => ⟨(show 2 ≤ sizeLine by decide), fun t2 ht2 => ?_⟩⟩
      have n1 : t1 ≠ p := ne_at upd_same ht1
      have n2 : t2 ≠ p := fun q => by
        rw [q, upd_ne (Ne.symm n1), upd_same] at ht2
        cases ht2
      have n12 : t1 ≠ t2 := fun q => by
        rw [q, upd_same] at ht2
        cases ht2
      refine ⟨by rw [upd_ne (Ne.symm n2), upd_ne (Ne.symm n1), upd_same], [(.inr "a", .ref t1), (.inr "b", .ref t2)], rfl, (by show 2 ≤ 15; decide), ?_⟩
      have em : mergeK [] ([(.inr "a", .ref t1), (.inr "b", .ref t2)] : List (Key × V)) = [(.inr "a", .ref t1), (.inr "b", .ref t2)] :=
        merge_nodup (kvs := [(.inr "a", .ref t1), (.inr "b", .ref t2)]) (acc := []) (by show ([.inr "a", .inr "b"] : List Key).Nodup; decide +kernel)
      rw [em]
      have k1 : upd (upd (upd (upd Ha p (.dK [])) t1 (.tup [.int 1, .int 4])) t2 (.tup [.int 3, .int 4])) p (.dK [(.inr "a", .ref t1), (.inr "b", .ref t2)]) t1 = some (.tup [.int 1, .int 4]) := by
        rw [upd_ne n1, upd_ne n12, upd_same]
      have k2 : upd (upd (upd (upd Ha p (.dK [])) t1 (.tup [.int 1, .int 4])) t2 (.tup [.int 3, .int 4])) p (.dK [(.inr "a", .ref t1), (.inr "b", .ref t2)]) t2 = some (.tup [.int 3, .int 4]) := by
        rw [upd_ne n2, upd_same]
      have k3 : upd (upd (upd (upd Ha p (.dK [])) t1 (.tup [.int 1, .int 4])) t2 (.tup [.int 3, .int 4])) p (.dK [(.inr "a", .ref t1), (.inr "b", .ref t2)]) p = some (.dK [(.inr "a", .ref t1), (.inr "b", .ref t2)]) := upd_same
      generalize upd (upd (upd (upd Ha p (.dK [])) t1 (.tup [.int 1, .int 4])) t2 (.tup [.int 3, .int 4])) p (.dK [(.inr "a", .ref t1), (.inr "b", .ref t2)]) = H1 at k1 k2 k3 ⊢
      -- what is known: these three
      have sR : Same (upd (upd (upd (fun _ => none) t1 (.tup [.int 1, .int 4])) t2 (.tup [.int 3, .int 4])) p (.dK [(.inr "a", .ref t1), (.inr "b", .ref t2)])) H1 := fun x o h => by
        by_cases q1 : x = p
        · rw [q1, upd_same] at h
          rw [q1, k3]
          exact h
        · rw [upd_ne q1] at h
          by_cases q2 : x = t2
          · rw [q2, upd_same] at h
            rw [q2, k2]
            exact h
          · rw [upd_ne q2] at h
            by_cases q3 : x = t1
            · rw [q3, upd_same] at h
              rw [q3, k1]
              exact h
            · rw [upd_ne q3] at h
              cases h
      have pR : Plain (upd (upd (upd (fun _ => none) t1 (.tup [.int 1, .int 4])) t2 (.tup [.int 3, .int 4])) p (.dK [(.inr "a", .ref t1), (.inr "b", .ref t2)])) := Plain.put (Plain.put (Plain.put Plain.none (by exact fun _ _ z => nomatch z)) (by exact fun _ _ z => nomatch z)) (by exact fun _ _ z => nomatch z)
      have hG : Rep K (upd (upd (upd (fun _ => none) t1 (.tup [.int 1, .int 4])) t2 (.tup [.int 3, .int 4])) p (.dK [(.inr "a", .ref t1), (.inr "b", .ref t2)])) (.ref p) (gD few) :=
        .dct (.inl upd_same) (.cons (by decide +kernel) (.tup (SqT.of (by rw [upd_ne n1, upd_ne n12, upd_same])) (.cons (.int _) (.cons (.int _) .nil))) (.cons (by decide +kernel) (.tup (SqT.of (by rw [upd_ne n2, upd_same])) (.cons (.int _) (.cons (.int _) .nil))) .nil))
      generalize (upd (upd (upd (fun _ => none) t1 (.tup [.int 1, .int 4])) t2 (.tup [.int 3, .int 4])) p (.dK [(.inr "a", .ref t1), (.inr "b", .ref t2)]) : Hp) = R at sR pR hG
      have gA : Good (.int 4) (gD few) (.str "a") 4 few 0 "a" 1 4 := ⟨rfl, rfl, rfl, few_ok, rfl⟩
      have gB : Good (.int 4) (gD few) (.str "b") 4 few 1 "b" 3 4 := ⟨rfl, rfl, rfl, few_ok, rfl⟩
      refine ⟨_, rfl, R, .int 4, .ref p, .str "a", .int 1, .int 4, gD few, .str "a", .int 1, rfl, Cs.of_good gA.case sR pR (.int _) hG (.str _ (by decide +kernel)), .int _, (fun _ q => absurd q (by decide)), fun _ _ => ⟨4, few, 0, "a", 1, 4, 1, gA, rfl, fun H2 s2 => ?_⟩⟩
      rw [few_1]
      refine ⟨_, rfl, R, .int 4, .ref p, .str "b", .int 1, .int 4, gD few, .str "b", .int 1, rfl, Cs.of_good gB.case (sR.trans s2) pR (.int _) hG (.str _ (by decide +kernel)), .int _, (fun _ q => absurd q (by decide)), fun _ _ => ⟨4, few, 1, "b", 3, 4, 1, gB, rfl, fun H3 s3 => ?_⟩⟩
      rw [few_2]
      refine ⟨_, rfl, R, .int 4, .ref p, .str "b", .int 3, .int 4, gD few, .str "b", .int 3, rfl, Cs.of_good gB.case (sR.trans (s2.trans s3)) pR (.int _) hG (.str _ (by decide +kernel)), .int _, (fun _ q => absurd q (by decide)), fun _ _ => ⟨4, few, 1, "b", 3, 4, 3, gB, rfl, fun H4 s4 => ?_⟩⟩
      rw [few_3]
      refine ⟨(show 3 ≤ sizeLine by decide), fun l1 hl1 => ⟨(show 3 ≤ sizeLine by decide), fun l2 hl2 => ?_⟩⟩
      have rt := two_rep (K := K) (p := l1) (q := l2) (xs := [.int 1, .int 2, .int 4]) (ds := [.int 1, .int 2, .int 4]) fun R => .cons (.int _) (.cons (.int _) (.cons (.int _) .nil))
      refine ⟨_, .ref l1, .ref l2, _, rfl, two_same ((same_new hl2) _ _ upd_same) upd_same, two_plain, rt.1, rt.2, fit_flat (by decide) ?_, fun H5 s5 => hq H5⟩
      intro d hd
      simp only [List.mem_cons, List.not_mem_nil, or_false] at hd
      rcases hd with rfl | rfl | rfl
      · exact .inl ⟨_, rfl⟩
      · exact .inl ⟨_, rfl⟩
      · exact .inl ⟨_, rfl⟩
end
end K85

set_option Elab.async false
set_option linter.all false
set_option maxRecDepth 100000
set_option maxHeartbeats 0
namespace K85
open PySem PySem.Spec PyProof.Rows L2 RP LamX
def d__wall : He.DefD := ⟨("_wall", none), "_wall", "_wall", defArgs s__wall, defBody s__wall, defScope s__wall, [], []⟩
def d_NoNumber_init : He.DefD := ⟨("NoNumber", some "__init__"), "__init__", "NoNumber.__init__", defArgs s_NoNumber_init, defBody s_NoNumber_init, defScope s_NoNumber_init, [], []⟩
def d_NoName_init : He.DefD := ⟨("NoName", some "__init__"), "__init__", "NoName.__init__", defArgs s_NoName_init, defBody s_NoName_init, defScope s_NoName_init, [], []⟩
def d_NoShare_init : He.DefD := ⟨("NoShare", some "__init__"), "__init__", "NoShare.__init__", defArgs s_NoShare_init, defBody s_NoShare_init, defScope s_NoShare_init, [], []⟩
def d_Doubled_init : He.DefD := ⟨("Doubled", some "__init__"), "__init__", "Doubled.__init__", defArgs s_Doubled_init, defBody s_Doubled_init, defScope s_Doubled_init, [], []⟩
def d_TooMuch_init : He.DefD := ⟨("TooMuch", some "__init__"), "__init__", "TooMuch.__init__", defArgs s_TooMuch_init, defBody s_TooMuch_init, defScope s_TooMuch_init, [], []⟩
def d_NoGuest_init : He.DefD := ⟨("NoGuest", some "__init__"), "__init__", "NoGuest.__init__", defArgs s_NoGuest_init, defBody s_NoGuest_init, defScope s_NoGuest_init, [], []⟩
def d_Full_init : He.DefD := ⟨("Full", some "__init__"), "__init__", "Full.__init__", defArgs s_Full_init, defBody s_Full_init, defScope s_Full_init, [], []⟩
def d_is_whole : He.DefD := ⟨("is_whole", none), "is_whole", "is_whole", defArgs s_is_whole, defBody s_is_whole, defScope s_is_whole, [], []⟩
def d_is_name : He.DefD := ⟨("is_name", none), "is_name", "is_name", defArgs s_is_name, defBody s_is_name, defScope s_is_name, [], []⟩
def d_need_length : He.DefD := ⟨("need_length", none), "need_length", "need_length", defArgs s_need_length, defBody s_need_length, defScope s_need_length, [], []⟩
def d_need_share : He.DefD := ⟨("need_share", none), "need_share", "need_share", defArgs s_need_share, defBody s_need_share, defScope s_need_share, [], []⟩
def d_Portion_init : He.DefD := ⟨("Portion", some "__init__"), "__init__", "Portion.__init__", defArgs s_Portion_init, defBody s_Portion_init, defScope s_Portion_init, [], []⟩
def d_Portion_begin : He.DefD := ⟨("Portion", some "begin"), "begin", "Portion.begin", defArgs s_Portion_begin, defBody s_Portion_begin, defScope s_Portion_begin, [], []⟩
def d_Shares_init : He.DefD := ⟨("Shares", some "__init__"), "__init__", "Shares.__init__", defArgs s_Shares_init, defBody s_Shares_init, defScope s_Shares_init, [], []⟩
def d_Shares_need_guest : He.DefD := ⟨("Shares", some "need_guest"), "need_guest", "Shares.need_guest", defArgs s_Shares_need_guest, defBody s_Shares_need_guest, defScope s_Shares_need_guest, [], []⟩
def d_Shares_need_room_for : He.DefD := ⟨("Shares", some "need_room_for"), "need_room_for", "Shares.need_room_for", defArgs s_Shares_need_room_for, defBody s_Shares_need_room_for, defScope s_Shares_need_room_for, [], [("but", .int (0))]⟩
def d_Shares_come : He.DefD := ⟨("Shares", some "come"), "come", "Shares.come", defArgs s_Shares_come, defBody s_Shares_come, defScope s_Shares_come, [], []⟩
def d_Shares_promised_one : He.DefD := ⟨("Shares", some "promised_one"), "promised_one", "Shares.promised_one", defArgs s_Shares_promised_one, defBody s_Shares_promised_one, defScope s_Shares_promised_one, [], []⟩
def d_Shares_free_one : He.DefD := ⟨("Shares", some "free_one"), "free_one", "Shares.free_one", defArgs s_Shares_free_one, defBody s_Shares_free_one, defScope s_Shares_free_one, [], []⟩
def d_Shares_deal : He.DefD := ⟨("Shares", some "deal"), "deal", "Shares.deal", defArgs s_Shares_deal, defBody s_Shares_deal, defScope s_Shares_deal, [], []⟩
def d_Shares_promised : He.DefD := ⟨("Shares", some "promised"), "promised", "Shares.promised", defArgs s_Shares_promised, defBody s_Shares_promised, defScope s_Shares_promised, [], []⟩
def d_are_shares : He.DefD := ⟨("are_shares", none), "are_shares", "are_shares", defArgs s_are_shares, defBody s_are_shares, defScope s_are_shares, [], []⟩
def d_need_case : He.DefD := ⟨("need_case", none), "need_case", "need_case", defArgs s_need_case, defBody s_need_case, defScope s_need_case, [], []⟩
def d_ahead_by_promise : He.DefD := ⟨("ahead_by_promise", none), "ahead_by_promise", "ahead_by_promise", defArgs s_ahead_by_promise, defBody s_ahead_by_promise, defScope s_ahead_by_promise, [], []⟩
def d_ahead : He.DefD := ⟨("ahead", none), "ahead", "ahead", defArgs s_ahead, defBody s_ahead, defScope s_ahead, [], []⟩
def d_turn_of : He.DefD := ⟨("turn_of", none), "turn_of", "turn_of", defArgs s_turn_of, defBody s_turn_of, defScope s_turn_of, [], []⟩
def d_latest : He.DefD := ⟨("latest", none), "latest", "latest", defArgs s_latest, defBody s_latest, defScope s_latest, [], []⟩
def d_at_least_in : He.DefD := ⟨("at_least_in", none), "at_least_in", "at_least_in", defArgs s_at_least_in, defBody s_at_least_in, defScope s_at_least_in, [], []⟩
def d_at_least : He.DefD := ⟨("at_least", none), "at_least", "at_least", defArgs s_at_least, defBody s_at_least, defScope s_at_least, [], []⟩
def d_worst : He.DefD := ⟨("worst", none), "worst", "worst", defArgs s_worst, defBody s_worst, defScope s_worst, [], []⟩
def d_next_of : He.DefD := ⟨("next_of", none), "next_of", "next_of", defArgs s_next_of, defBody s_next_of, defScope s_next_of, [], []⟩
def d__law_cell : He.DefD := ⟨("_law_cell", none), "_law_cell", "_law_cell", defArgs s__law_cell, defBody s__law_cell, defScope s__law_cell, [], []⟩
def d__law_box : He.DefD := ⟨("_law_box", none), "_law_box", "_law_box", defArgs s__law_box, defBody s__law_box, defScope s__law_box, [], []⟩
def d__law_take : He.DefD := ⟨("_law_take", none), "_law_take", "_law_take", defArgs s__law_take, defBody s__law_take, defScope s__law_take, [], []⟩
def d__law_same : He.DefD := ⟨("_law_same", none), "_law_same", "_law_same", defArgs s__law_same, defBody s__law_same, defScope s__law_same, [], []⟩
def d__law_deal : He.DefD := ⟨("_law_deal", none), "_law_deal", "_law_deal", defArgs s__law_deal, defBody s__law_deal, defScope s__law_deal, [], []⟩
def d__law_stretch : He.DefD := ⟨("_law_stretch", none), "_law_stretch", "_law_stretch", defArgs s__law_stretch, defBody s__law_stretch, defScope s__law_stretch, [], []⟩
def d__law_case : He.DefD := ⟨("_law_case", none), "_law_case", "_law_case", defArgs s__law_case, defBody s__law_case, defScope s__law_case, [], []⟩
def d__law_readiness : He.DefD := ⟨("_law_readiness", none), "_law_readiness", "_law_readiness", defArgs s__law_readiness, defBody s__law_readiness, defScope s__law_readiness, [], []⟩
def d__law_by_shares : He.DefD := ⟨("_law_by_shares", none), "_law_by_shares", "_law_by_shares", defArgs s__law_by_shares, defBody s__law_by_shares, defScope s__law_by_shares, [], []⟩
def d__law_name_right : He.DefD := ⟨("_law_name_right", none), "_law_name_right", "_law_name_right", defArgs s__law_name_right, defBody s__law_name_right, defScope s__law_name_right, [], []⟩
def d_law : He.DefD := ⟨("law", none), "law", "law", defArgs s_law, defBody s_law, defScope s_law, [], []⟩
def fnl : List He.DefD := [d__wall, d_NoNumber_init, d_NoName_init, d_NoShare_init, d_Doubled_init, d_TooMuch_init, d_NoGuest_init, d_Full_init, d_is_whole, d_is_name, d_need_length, d_need_share, d_Portion_init, d_Portion_begin, d_Shares_init, d_Shares_need_guest, d_Shares_need_room_for, d_Shares_come, d_Shares_promised_one, d_Shares_free_one, d_Shares_deal, d_Shares_promised, d_are_shares, d_need_case, d_ahead_by_promise, d_ahead, d_turn_of, d_latest, d_at_least_in, d_at_least, d_worst, d_next_of, d__law_cell, d__law_box, d__law_take, d__law_same, d__law_deal, d__law_stretch, d__law_case, d__law_readiness, d__law_by_shares, d__law_name_right, d_law]
def fal : List He.Fa := [.glo "_wall", .glo "is_whole", .glo "is_name", .glo "need_length", .glo "need_share", .glo "are_shares", .glo "need_case", .glo "ahead_by_promise", .glo "ahead", .glo "turn_of", .glo "latest", .glo "at_least_in", .glo "at_least", .glo "worst", .glo "next_of", .glo "_law_cell", .glo "_law_box", .glo "_law_take", .glo "_law_same", .glo "_law_deal", .glo "_law_stretch", .glo "_law_case", .glo "_law_readiness", .glo "_law_by_shares", .glo "_law_name_right", .glo "law", .glo "GuestError", .glo "Missing", .glo "Barred", .glo "NoNumber", .glo "NoName", .glo "NoShare", .glo "Doubled", .glo "TooMuch", .glo "NoGuest", .glo "Full", .glo "Portion", .glo "Shares", .str "LETTERS" "abcdefghijklmnopqrstuvwxyz", .int "LONGEST_NAME" (8), .int "LEAST_LENGTH" (4), .int "MOST_LENGTH" (60), .int "MOST_GUESTS" (6), .int "MOST_TURNS" (400), .free "KeyError", .free "LookupError", .free "ValueError", .free "abs", .free "all", .free "bool", .free "dict", .free "divmod", .free "int", .free "isinstance", .free "len", .free "list", .free "max", .free "min", .free "range", .free "str", .free "sum", .free "tuple", .cls "Portion", .mkr "Portion", .meth "Portion" "begin", .noat "Portion" "told_promise", .noat "Portion" "told_ceiling", .noat "Portion" "now_promise", .noat "Portion" "now_ceiling", .noat "Portion" "turns_used", .cls "Shares", .mkr "Shares", .meth "Shares" "need_guest", .meth "Shares" "need_room_for", .meth "Shares" "come", .meth "Shares" "promised_one", .meth "Shares" "free_one", .meth "Shares" "deal", .meth "Shares" "promised", .noat "Shares" "own_length", .noat "Shares" "portions", .noat "Shares" "turns_passed", .noat "Shares" "all_dealt", .noat "Shares" "turns_used"]
def tfl : List He.Defn := [("next_of", none), ("Shares", some "free_one")]
def exL (K : PySem.W.Frag) : List Bool := [GX.gbB K GX.bVE (He.ga K "GuestError"),
  GX.gbB K GX.bKE (He.ga K "Missing"),
  GX.gbB K GX.bLE (He.ga K "Barred"),
  GX.xcB K GX.bVE (He.ga K "NoNumber") "found",
  He.eqO (PySem.W.findIn K (.ref (He.ga K "NoNumber")) "__init__") (some (some (.ref (He.ma K (He.ga K "NoNumber") "__init__")))),
  decide (PySem.W.typeIn K (.ref (He.ma K (He.ga K "NoNumber") "__init__")) = some (.type "function")),
  GX.xcB K GX.bVE (He.ga K "NoName") "found",
  He.eqO (PySem.W.findIn K (.ref (He.ga K "NoName")) "__init__") (some (some (.ref (He.ma K (He.ga K "NoName") "__init__")))),
  decide (PySem.W.typeIn K (.ref (He.ma K (He.ga K "NoName") "__init__")) = some (.type "function")),
  GX.xcB K GX.bVE (He.ga K "NoShare") "found",
  He.eqO (PySem.W.findIn K (.ref (He.ga K "NoShare")) "__init__") (some (some (.ref (He.ma K (He.ga K "NoShare") "__init__")))),
  decide (PySem.W.typeIn K (.ref (He.ma K (He.ga K "NoShare") "__init__")) = some (.type "function")),
  GX.xcB K GX.bVE (He.ga K "Doubled") "found",
  He.eqO (PySem.W.findIn K (.ref (He.ga K "Doubled")) "__init__") (some (some (.ref (He.ma K (He.ga K "Doubled") "__init__")))),
  decide (PySem.W.typeIn K (.ref (He.ma K (He.ga K "Doubled") "__init__")) = some (.type "function")),
  GX.xcB K GX.bVE (He.ga K "TooMuch") "many",
  He.eqO (PySem.W.findIn K (.ref (He.ga K "TooMuch")) "__init__") (some (some (.ref (He.ma K (He.ga K "TooMuch") "__init__")))),
  decide (PySem.W.typeIn K (.ref (He.ma K (He.ga K "TooMuch") "__init__")) = some (.type "function")),
  GX.xcB K GX.bKE (He.ga K "NoGuest") "found",
  He.eqO (PySem.W.findIn K (.ref (He.ga K "NoGuest")) "__init__") (some (some (.ref (He.ma K (He.ga K "NoGuest") "__init__")))),
  decide (PySem.W.typeIn K (.ref (He.ma K (He.ga K "NoGuest") "__init__")) = some (.type "function")),
  GX.xcB K GX.bLE (He.ga K "Full") "many",
  He.eqO (PySem.W.findIn K (.ref (He.ga K "Full")) "__init__") (some (some (.ref (He.ma K (He.ga K "Full") "__init__")))),
  decide (PySem.W.typeIn K (.ref (He.ma K (He.ga K "Full") "__init__")) = some (.type "function")),
  decide ((He.cT K ("next_of", none)).2 ≠ (He.cT K ("Shares", some "free_one")).2)]
def exl (K : PySem.W.Frag) : Bool := (exL K).all id
def loose : List PySem.Str := (["_wall", "__name__", "GuestError", "Missing", "Barred", "NoNumber", "NoName", "NoShare", "Doubled", "TooMuch"] : List PySem.Str) ++ (["NoGuest", "Full", "LETTERS", "LONGEST_NAME", "is_whole", "is_name", "LEAST_LENGTH", "MOST_LENGTH", "MOST_GUESTS", "need_length"] : List PySem.Str) ++ (["need_share", "Portion", "Shares", "are_shares", "MOST_TURNS", "need_case", "ahead_by_promise", "ahead", "turn_of", "latest"] : List PySem.Str) ++ (["at_least_in", "at_least", "worst", "next_of", "_law_cell", "_law_box", "_law_take", "_law_same", "_law_deal", "_law_stretch"] : List PySem.Str) ++ (["_law_case", "_law_readiness", "_law_by_shares", "_law_name_right"] : List PySem.Str)
abbrev Rw : PySem.W.OpenRow := PySem.W.OpenLaw.row PySem.Challenge.rw_guestfleet_k85_whole_latest_turns
abbrev hk : PySem.W.Hook := Hk2.hookC 5 fal fnl tfl exl
def ob (s : PySem.W.SharedT) : Hk2.AlC := Hk2.obsC 5 fal fnl tfl exl (HandSHeadRun.getT s)
theorem ob_eq (s : PySem.W.SharedT) : ob s = hk.obs s.abs := Hk2.obsC_eq (HandSHeadRun.getT_eq s)
theorem run (w : World) : HandSHeadRun.RunEq Rw (PySem.W.view Rw.prog [48]) hk ob 6000 loose w := by
  intro os
  kernel_rfl
theorem xat {l : List Bool} (h : l.all id = true) (i : Nat) {b : Bool} (e : l[i]? = some b) : b = true := List.all_eq_true.mp h b (List.mem_of_getElem? e)
section
variable {P : Program} {w : World} {K : PySem.W.Frag} {h : Heap} {mg : Str → Option Value}
theorem txt (X : K.In h) (G : h.Ns mainGlobals mg) (c : Hk2.SaysC fal fnl tfl exl h K) : Txt K mg where
  b_KeyError := He.free_ok X G (c.d.fact 44 (f := .free "KeyError") rfl)
  b_LookupError := He.free_ok X G (c.d.fact 45 (f := .free "LookupError") rfl)
  b_ValueError := He.free_ok X G (c.d.fact 46 (f := .free "ValueError") rfl)
  b_abs := He.free_ok X G (c.d.fact 47 (f := .free "abs") rfl)
  b_all := He.free_ok X G (c.d.fact 48 (f := .free "all") rfl)
  b_bool := He.free_ok X G (c.d.fact 49 (f := .free "bool") rfl)
  b_dict := He.free_ok X G (c.d.fact 50 (f := .free "dict") rfl)
  b_divmod := He.free_ok X G (c.d.fact 51 (f := .free "divmod") rfl)
  b_int := He.free_ok X G (c.d.fact 52 (f := .free "int") rfl)
  b_isinstance := He.free_ok X G (c.d.fact 53 (f := .free "isinstance") rfl)
  b_len := He.free_ok X G (c.d.fact 54 (f := .free "len") rfl)
  b_list := He.free_ok X G (c.d.fact 55 (f := .free "list") rfl)
  b_max := He.free_ok X G (c.d.fact 56 (f := .free "max") rfl)
  b_min := He.free_ok X G (c.d.fact 57 (f := .free "min") rfl)
  b_range := He.free_ok X G (c.d.fact 58 (f := .free "range") rfl)
  b_str := He.free_ok X G (c.d.fact 59 (f := .free "str") rfl)
  b_sum := He.free_ok X G (c.d.fact 60 (f := .free "sum") rfl)
  b_tuple := He.free_ok X G (c.d.fact 61 (f := .free "tuple") rfl)
  c_LETTERS := He.str_ok X G (c.d.fact 38 (f := .str "LETTERS" "abcdefghijklmnopqrstuvwxyz") rfl)
  c_LONGEST_NAME := He.int_ok X G (c.d.fact 39 (f := .int "LONGEST_NAME" (8)) rfl)
  c_LEAST_LENGTH := He.int_ok X G (c.d.fact 40 (f := .int "LEAST_LENGTH" (4)) rfl)
  c_MOST_LENGTH := He.int_ok X G (c.d.fact 41 (f := .int "MOST_LENGTH" (60)) rfl)
  c_MOST_GUESTS := He.int_ok X G (c.d.fact 42 (f := .int "MOST_GUESTS" (6)) rfl)
  c_MOST_TURNS := He.int_ok X G (c.d.fact 43 (f := .int "MOST_TURNS" (400)) rfl)
  g_GuestError := ⟨GX.gbB_ok (xat c.x 0 rfl), He.glo_ok X G (c.d.fact 26 (f := .glo "GuestError") rfl)⟩
  g_Missing := ⟨GX.gbB_ok (xat c.x 1 rfl), He.glo_ok X G (c.d.fact 27 (f := .glo "Missing") rfl)⟩
  g_Barred := ⟨GX.gbB_ok (xat c.x 2 rfl), He.glo_ok X G (c.d.fact 28 (f := .glo "Barred") rfl)⟩
  x_NoNumber := by
    obtain ⟨fd, F⟩ := c.d.def_ 1 (d := d_NoNumber_init) rfl
    exact ⟨_, fd, GX.xcB_ok GX.bVE_ok (xat c.x 3 rfl), He.glo_ok X G (c.d.fact 29 (f := .glo "NoNumber") rfl), He.eqO_ok (xat c.x 4 rfl), of_decide_eq_true (xat c.x 5 rfl), F⟩
  x_NoName := by
    obtain ⟨fd, F⟩ := c.d.def_ 2 (d := d_NoName_init) rfl
    exact ⟨_, fd, GX.xcB_ok GX.bVE_ok (xat c.x 6 rfl), He.glo_ok X G (c.d.fact 30 (f := .glo "NoName") rfl), He.eqO_ok (xat c.x 7 rfl), of_decide_eq_true (xat c.x 8 rfl), F⟩
  x_NoShare := by
    obtain ⟨fd, F⟩ := c.d.def_ 3 (d := d_NoShare_init) rfl
    exact ⟨_, fd, GX.xcB_ok GX.bVE_ok (xat c.x 9 rfl), He.glo_ok X G (c.d.fact 31 (f := .glo "NoShare") rfl), He.eqO_ok (xat c.x 10 rfl), of_decide_eq_true (xat c.x 11 rfl), F⟩
  x_Doubled := by
    obtain ⟨fd, F⟩ := c.d.def_ 4 (d := d_Doubled_init) rfl
    exact ⟨_, fd, GX.xcB_ok GX.bVE_ok (xat c.x 12 rfl), He.glo_ok X G (c.d.fact 32 (f := .glo "Doubled") rfl), He.eqO_ok (xat c.x 13 rfl), of_decide_eq_true (xat c.x 14 rfl), F⟩
  x_TooMuch := by
    obtain ⟨fd, F⟩ := c.d.def_ 5 (d := d_TooMuch_init) rfl
    exact ⟨_, fd, GX.xcB_ok GX.bVE_ok (xat c.x 15 rfl), He.glo_ok X G (c.d.fact 33 (f := .glo "TooMuch") rfl), He.eqO_ok (xat c.x 16 rfl), of_decide_eq_true (xat c.x 17 rfl), F⟩
  x_NoGuest := by
    obtain ⟨fd, F⟩ := c.d.def_ 6 (d := d_NoGuest_init) rfl
    exact ⟨_, fd, GX.xcB_ok GX.bKE_ok (xat c.x 18 rfl), He.glo_ok X G (c.d.fact 34 (f := .glo "NoGuest") rfl), He.eqO_ok (xat c.x 19 rfl), of_decide_eq_true (xat c.x 20 rfl), F⟩
  x_Full := by
    obtain ⟨fd, F⟩ := c.d.def_ 7 (d := d_Full_init) rfl
    exact ⟨_, fd, GX.xcB_ok GX.bLE_ok (xat c.x 21 rfl), He.glo_ok X G (c.d.fact 35 (f := .glo "Full") rfl), He.eqO_ok (xat c.x 22 rfl), of_decide_eq_true (xat c.x 23 rfl), F⟩
  a__wall := by
    obtain ⟨fd, F⟩ := c.d.def_ 0 (d := d__wall) rfl
    exact ⟨_, fd, F, He.glo_ok X G (c.d.fact 0 (f := .glo "_wall") rfl)⟩
  a_is_whole := by
    obtain ⟨fd, F⟩ := c.d.def_ 8 (d := d_is_whole) rfl
    exact ⟨_, fd, F, He.glo_ok X G (c.d.fact 1 (f := .glo "is_whole") rfl)⟩
  a_is_name := by
    obtain ⟨fd, F⟩ := c.d.def_ 9 (d := d_is_name) rfl
    exact ⟨_, fd, F, He.glo_ok X G (c.d.fact 2 (f := .glo "is_name") rfl)⟩
  a_need_length := by
    obtain ⟨fd, F⟩ := c.d.def_ 10 (d := d_need_length) rfl
    exact ⟨_, fd, F, He.glo_ok X G (c.d.fact 3 (f := .glo "need_length") rfl)⟩
  a_need_share := by
    obtain ⟨fd, F⟩ := c.d.def_ 11 (d := d_need_share) rfl
    exact ⟨_, fd, F, He.glo_ok X G (c.d.fact 4 (f := .glo "need_share") rfl)⟩
  a_are_shares := by
    obtain ⟨fd, F⟩ := c.d.def_ 22 (d := d_are_shares) rfl
    exact ⟨_, fd, F, He.glo_ok X G (c.d.fact 5 (f := .glo "are_shares") rfl)⟩
  a_need_case := by
    obtain ⟨fd, F⟩ := c.d.def_ 23 (d := d_need_case) rfl
    exact ⟨_, fd, F, He.glo_ok X G (c.d.fact 6 (f := .glo "need_case") rfl)⟩
  a_ahead_by_promise := by
    obtain ⟨fd, F⟩ := c.d.def_ 24 (d := d_ahead_by_promise) rfl
    exact ⟨_, fd, F, He.glo_ok X G (c.d.fact 7 (f := .glo "ahead_by_promise") rfl)⟩
  a_ahead := by
    obtain ⟨fd, F⟩ := c.d.def_ 25 (d := d_ahead) rfl
    exact ⟨_, fd, F, He.glo_ok X G (c.d.fact 8 (f := .glo "ahead") rfl)⟩
  a_turn_of := by
    obtain ⟨fd, F⟩ := c.d.def_ 26 (d := d_turn_of) rfl
    exact ⟨_, fd, F, He.glo_ok X G (c.d.fact 9 (f := .glo "turn_of") rfl)⟩
  a_latest := by
    obtain ⟨fd, F⟩ := c.d.def_ 27 (d := d_latest) rfl
    exact ⟨_, fd, F, He.glo_ok X G (c.d.fact 10 (f := .glo "latest") rfl)⟩
  a_at_least_in := by
    obtain ⟨fd, F⟩ := c.d.def_ 28 (d := d_at_least_in) rfl
    exact ⟨_, fd, F, He.glo_ok X G (c.d.fact 11 (f := .glo "at_least_in") rfl)⟩
  a_at_least := by
    obtain ⟨fd, F⟩ := c.d.def_ 29 (d := d_at_least) rfl
    exact ⟨_, fd, F, He.glo_ok X G (c.d.fact 12 (f := .glo "at_least") rfl)⟩
  a_worst := by
    obtain ⟨fd, F⟩ := c.d.def_ 30 (d := d_worst) rfl
    exact ⟨_, fd, F, He.glo_ok X G (c.d.fact 13 (f := .glo "worst") rfl)⟩
  a_next_of := by
    obtain ⟨fd, F⟩ := c.d.def_ 31 (d := d_next_of) rfl
    exact ⟨fd, F, He.glo_ok X G (c.d.fact 14 (f := .glo "next_of") rfl)⟩
  a__law_cell := by
    obtain ⟨fd, F⟩ := c.d.def_ 32 (d := d__law_cell) rfl
    exact ⟨_, fd, F, He.glo_ok X G (c.d.fact 15 (f := .glo "_law_cell") rfl)⟩
  a__law_box := by
    obtain ⟨fd, F⟩ := c.d.def_ 33 (d := d__law_box) rfl
    exact ⟨_, fd, F, He.glo_ok X G (c.d.fact 16 (f := .glo "_law_box") rfl)⟩
  a__law_take := by
    obtain ⟨fd, F⟩ := c.d.def_ 34 (d := d__law_take) rfl
    exact ⟨_, fd, F, He.glo_ok X G (c.d.fact 17 (f := .glo "_law_take") rfl)⟩
  a__law_same := by
    obtain ⟨fd, F⟩ := c.d.def_ 35 (d := d__law_same) rfl
    exact ⟨_, fd, F, He.glo_ok X G (c.d.fact 18 (f := .glo "_law_same") rfl)⟩
  a__law_deal := by
    obtain ⟨fd, F⟩ := c.d.def_ 36 (d := d__law_deal) rfl
    exact ⟨_, fd, F, He.glo_ok X G (c.d.fact 19 (f := .glo "_law_deal") rfl)⟩
  a__law_stretch := by
    obtain ⟨fd, F⟩ := c.d.def_ 37 (d := d__law_stretch) rfl
    exact ⟨_, fd, F, He.glo_ok X G (c.d.fact 20 (f := .glo "_law_stretch") rfl)⟩
  a__law_case := by
    obtain ⟨fd, F⟩ := c.d.def_ 38 (d := d__law_case) rfl
    exact ⟨_, fd, F, He.glo_ok X G (c.d.fact 21 (f := .glo "_law_case") rfl)⟩
  a__law_readiness := by
    obtain ⟨fd, F⟩ := c.d.def_ 39 (d := d__law_readiness) rfl
    exact ⟨_, fd, F, He.glo_ok X G (c.d.fact 22 (f := .glo "_law_readiness") rfl)⟩
  a__law_by_shares := by
    obtain ⟨fd, F⟩ := c.d.def_ 40 (d := d__law_by_shares) rfl
    exact ⟨_, fd, F, He.glo_ok X G (c.d.fact 23 (f := .glo "_law_by_shares") rfl)⟩
  a__law_name_right := by
    obtain ⟨fd, F⟩ := c.d.def_ 41 (d := d__law_name_right) rfl
    exact ⟨_, fd, F, He.glo_ok X G (c.d.fact 24 (f := .glo "_law_name_right") rfl)⟩
  a_law := by
    obtain ⟨fd, F⟩ := c.d.def_ 42 (d := d_law) rfl
    exact ⟨_, fd, F, He.glo_ok X G (c.d.fact 25 (f := .glo "law") rfl)⟩
  i_Portion := by
    obtain ⟨fd, F⟩ := c.d.def_ 12 (d := d_Portion_init) rfl
    exact ⟨fd, He.cls_ok (c.d.fact 62 (f := .cls "Portion") rfl), He.mkr_ok (c.d.fact 63 (f := .mkr "Portion") rfl), He.glo_ok X G (c.d.fact 36 (f := .glo "Portion") rfl), F⟩
  m_Portion_begin := by
    obtain ⟨fd, F⟩ := c.d.def_ 13 (d := d_Portion_begin) rfl
    exact ⟨fd, He.cls_ok (c.d.fact 62 (f := .cls "Portion") rfl), He.meth_ok (c.d.fact 64 (f := .meth "Portion" "begin") rfl), F⟩
  n_Portion_told_promise := He.noat_ok (c.d.fact 65 (f := .noat "Portion" "told_promise") rfl)
  n_Portion_told_ceiling := He.noat_ok (c.d.fact 66 (f := .noat "Portion" "told_ceiling") rfl)
  n_Portion_now_promise := He.noat_ok (c.d.fact 67 (f := .noat "Portion" "now_promise") rfl)
  n_Portion_now_ceiling := He.noat_ok (c.d.fact 68 (f := .noat "Portion" "now_ceiling") rfl)
  n_Portion_turns_used := He.noat_ok (c.d.fact 69 (f := .noat "Portion" "turns_used") rfl)
  i_Shares := by
    obtain ⟨fd, F⟩ := c.d.def_ 14 (d := d_Shares_init) rfl
    exact ⟨fd, He.cls_ok (c.d.fact 70 (f := .cls "Shares") rfl), He.mkr_ok (c.d.fact 71 (f := .mkr "Shares") rfl), He.glo_ok X G (c.d.fact 37 (f := .glo "Shares") rfl), F⟩
  m_Shares_need_guest := by
    obtain ⟨fd, F⟩ := c.d.def_ 15 (d := d_Shares_need_guest) rfl
    exact ⟨fd, He.cls_ok (c.d.fact 70 (f := .cls "Shares") rfl), He.meth_ok (c.d.fact 72 (f := .meth "Shares" "need_guest") rfl), F⟩
  m_Shares_need_room_for := by
    obtain ⟨fd, F⟩ := c.d.def_ 16 (d := d_Shares_need_room_for) rfl
    exact ⟨fd, He.cls_ok (c.d.fact 70 (f := .cls "Shares") rfl), He.meth_ok (c.d.fact 73 (f := .meth "Shares" "need_room_for") rfl), F⟩
  m_Shares_come := by
    obtain ⟨fd, F⟩ := c.d.def_ 17 (d := d_Shares_come) rfl
    exact ⟨fd, He.cls_ok (c.d.fact 70 (f := .cls "Shares") rfl), He.meth_ok (c.d.fact 74 (f := .meth "Shares" "come") rfl), F⟩
  m_Shares_promised_one := by
    obtain ⟨fd, F⟩ := c.d.def_ 18 (d := d_Shares_promised_one) rfl
    exact ⟨fd, He.cls_ok (c.d.fact 70 (f := .cls "Shares") rfl), He.meth_ok (c.d.fact 75 (f := .meth "Shares" "promised_one") rfl), F⟩
  m_Shares_free_one := by
    obtain ⟨fd, F⟩ := c.d.def_ 19 (d := d_Shares_free_one) rfl
    exact ⟨fd, He.cls_ok (c.d.fact 70 (f := .cls "Shares") rfl), He.meth_ok (c.d.fact 76 (f := .meth "Shares" "free_one") rfl), F⟩
  m_Shares_deal := by
    obtain ⟨fd, F⟩ := c.d.def_ 20 (d := d_Shares_deal) rfl
    exact ⟨fd, He.cls_ok (c.d.fact 70 (f := .cls "Shares") rfl), He.meth_ok (c.d.fact 77 (f := .meth "Shares" "deal") rfl), F⟩
  m_Shares_promised := by
    obtain ⟨fd, F⟩ := c.d.def_ 21 (d := d_Shares_promised) rfl
    exact ⟨fd, He.cls_ok (c.d.fact 70 (f := .cls "Shares") rfl), He.meth_ok (c.d.fact 78 (f := .meth "Shares" "promised") rfl), F⟩
  n_Shares_own_length := He.noat_ok (c.d.fact 79 (f := .noat "Shares" "own_length") rfl)
  n_Shares_portions := He.noat_ok (c.d.fact 80 (f := .noat "Shares" "portions") rfl)
  n_Shares_turns_passed := He.noat_ok (c.d.fact 81 (f := .noat "Shares" "turns_passed") rfl)
  n_Shares_all_dealt := He.noat_ok (c.d.fact 82 (f := .noat "Shares" "all_dealt") rfl)
  n_Shares_turns_used := He.noat_ok (c.d.fact 83 (f := .noat "Shares" "turns_used") rfl)
theorem to0 {base : Heap} {k : Nat} {f : Addr} {fd : FuncData} {ps : List Str} {sp : Sp} (F : FnOk P w K mg base (L2.CX P w) k f fd ps sp) : FnOk P w K mg base CX0 k f fd ps (fun vs H Q _ => sp vs H Q E0) :=
  ⟨fun vs H Q E q => F.len _ _ _ _ q, fun A outer s H args us vs Q E hr he hb hv hs => codeAny_mono (F.run A outer s H args us vs Q E0 hr he hb hv hs) fun r s' z => by
    cases r with
    | ok f => cases f <;> exact z
    | error e =>
      obtain ⟨_, _, _, _, _, _, _, _, _, _, _, _, q⟩ := z
      exact q.elim⟩
theorem law_ok (T : Txt K mg) {base : Heap} (TB0 : TabB base mg (He.cT K ("next_of", none)).1 (He.cT K ("next_of", none)).2) (hTu0 : ∀ p ∈ TT K, p.1 = (He.cT K ("next_of", none)).2 → p.2 = qN) (TB1 : TabB base mg (He.cT K ("Shares", some "free_one")).1 (He.cT K ("Shares", some "free_one")).2) (hTu1 : ∀ p ∈ TT K, p.1 = (He.cT K ("Shares", some "free_one")).2 → p.2 = qF) {f : Addr} {fd : FuncData} (F : At K mg "law" s_law f fd) : FnOk P w K mg base (L2.CX P w) 8 f fd ["script"] (spLaw K) := by
  have G__law_cell := ok__law_cell (P := P) (w := w) (base := base) T 
  have G__law_box := ok__law_box (P := P) (w := w) (base := base) T 
  have G__law_take := ok__law_take (P := P) (w := w) (base := base) T 
  have G__law_case := ok__law_case (P := P) (w := w) (base := base) T G__law_take
  have G__law_deal := ok__law_deal (P := P) (w := w) (base := base) T 
  have G_is_whole := ok_is_whole (P := P) (w := w) (base := base) T 
  have G_need_length := ok_need_length (P := P) (w := w) (base := base) T G_is_whole
  have G_is_name := ok_is_name (P := P) (w := w) (base := base) T 
  have G_are_shares := ok_are_shares (P := P) (w := w) (base := base) T G_is_whole G_is_name
  have G_next_of := ok_next_of (P := P) (w := w) (base := base) T TB0 hTu0
  have G_worst := ok_worst (P := P) (w := w) (base := base) T G_need_length G_are_shares G_next_of
  have G__law_same := ok__law_same (P := P) (w := w) (base := base) T 2
  have G__law_stretch := ok__law_stretch (P := P) (w := w) (base := base) T G__law_deal
  have G_need_case := ok_need_case (P := P) (w := w) (base := base) T G_need_length G_are_shares
  have G_ahead_by_promise := ok_ahead_by_promise (P := P) (w := w) (base := base) T 
  have G_ahead := ok_ahead (P := P) (w := w) (base := base) T G_ahead_by_promise
  have G_turn_of := ok_turn_of (P := P) (w := w) (base := base) T G_ahead
  have G_latest := ok_latest (P := P) (w := w) (base := base) T G_is_whole G_need_case G_turn_of
  have G__law_readiness := ok__law_readiness (P := P) (w := w) (base := base) T G__law_take
  have I_Shares := ok_Shares_init (P := P) (w := w) (base := base) T G_need_length
  have G_need_share := ok_need_share (P := P) (w := w) (base := base) T G_is_whole
  have M_Shares_promised := ok_Shares_promised (P := P) (w := w) (base := base) T 
  have M_Shares_need_room_for := ok_Shares_need_room_for (P := P) (w := w) (base := base) T M_Shares_promised
  have I_Portion := ok_Portion_init (P := P) (w := w) (base := base) T 
  have M_Shares_come := ok_Shares_come (P := P) (w := w) (base := base) T G_is_name G_need_share M_Shares_need_room_for I_Portion
  have M_Shares_need_guest := ok_Shares_need_guest (P := P) (w := w) (base := base) T 
  have M_Shares_promised_one := ok_Shares_promised_one (P := P) (w := w) (base := base) T 
  have M_Shares_free_one := ok_Shares_free_one (P := P) (w := w) (base := base) T TB1 hTu1
  have M_Portion_begin := ok_Portion_begin (P := P) (w := w) (base := base) T 
  have M_Shares_deal := ok_Shares_deal (P := P) (w := w) (base := base) T M_Shares_need_guest M_Shares_promised_one M_Shares_free_one M_Portion_begin
  have G__law_by_shares := ok__law_by_shares (P := P) (w := w) (base := base) T I_Shares M_Shares_come M_Shares_deal
  have G_at_least_in := ok_at_least_in (P := P) (w := w) (base := base) T G_turn_of
  have G_at_least := ok_at_least (P := P) (w := w) (base := base) T G_is_whole G_need_case G_at_least_in
  have G__law_name_right := ok__law_name_right (P := P) (w := w) (base := base) T G__law_take G__law_stretch G_latest G__law_same G__law_readiness G__law_by_shares G_at_least
  exact ok_law T G__law_cell G__law_box G__law_case G__law_take G__law_deal G_worst G__law_same G__law_name_right G_latest F
theorem facts {f : Addr} (X : K.In h) (G : h.Ns mainGlobals mg) (hfa : mg ("law" : Str) = some (.ref f)) (c : Hk2.SaysC fal fnl tfl exl h K) :
    ∃ fd : FuncData, (∀ (s : Shared) (v : Value), BindsTo s fd ⟨[v], []⟩ [("script", v)]) ∧ ∀ base : Heap, K.In base → base.Ns mainGlobals mg → (∀ p ∈ tfl.map (He.cT K), TabB base mg p.1 p.2) → FnOk P w K mg base CX0 8 f fd ["script"] (fun vs H Q _ => spLaw K vs H Q E0) := by
  obtain ⟨fd, F⟩ := c.d.def_ 42 (d := d_law) rfl
  have e := hfa.symm.trans (He.glo_ok X G (c.d.fact 25 (f := .glo "law") rfl))
  cases e
  have b := FunD.bindsA (ps := ["script"]) F fun _ _ _ _ _ _ us hl => match us, hl with | [_], _ => rfl
  have n_0_1 : (He.cT K ("next_of", none)).2 ≠ (He.cT K ("Shares", some "free_one")).2 := of_decide_eq_true (xat c.x 24 rfl)
  have hu0 : ∀ p ∈ TT K, p.1 = (He.cT K ("next_of", none)).2 → p.2 = qN := by
    intro p hp e
    simp only [TT, List.mem_cons, List.not_mem_nil, or_false] at hp
    rcases hp with h | h
    · rw [h]
    · rw [h] at e
      exact absurd e.symm n_0_1
  have hu1 : ∀ p ∈ TT K, p.1 = (He.cT K ("Shares", some "free_one")).2 → p.2 = qF := by
    intro p hp e
    simp only [TT, List.mem_cons, List.not_mem_nil, or_false] at hp
    rcases hp with h | h
    · rw [h] at e
      exact absurd e n_0_1
    · rw [h]
  have hm0 : He.cT K ("next_of", none) ∈ tfl.map (He.cT K) := List.mem_map_of_mem List.mem_cons_self
  have hm1 : He.cT K ("Shares", some "free_one") ∈ tfl.map (He.cT K) := List.mem_map_of_mem (List.mem_cons_of_mem _ List.mem_cons_self)
  exact ⟨fd, fun s v => b s [v] rfl, fun base _ _ hT => to0 (law_ok (txt X G c) (hT _ hm0) hu0 (hT _ hm1) hu1 ⟨F, He.glo_ok X G (c.d.fact 25 (f := .glo "law") rfl)⟩)⟩
end
end K85
open PySem PySem.W PySem.Calls PyProof.Rows
theorem PySem.Challenge.cw_guestfleet_k85_whole_latest_turns_holds : PySem.Challenge.rw_guestfleet_k85_whole_latest_turns.Holds := by
  w_on; o_law
  refine HandSHeadRun.head_any (r := OpenLaw.row PySem.Challenge.rw_guestfleet_k85_whole_latest_turns) (q := view (OpenLaw.row PySem.Challenge.rw_guestfleet_k85_whole_latest_turns).prog [48]) (H := K85.hk) (ob := K85.ob) (M := 6000) (loose := K85.loose) (d := HandSHeadRun.topDef (OpenLaw.row PySem.Challenge.rw_guestfleet_k85_whole_latest_turns).prog 48) (kwd := []) K85.ob_eq
    (by kernel_rfl) (fun s => by kernel_rfl) K85.run (by kernel_rfl) (by kernel_rfl) (by kernel_rfl) (by rfl) (by first | assumption | decide +kernel) (by decide +kernel) ⟨rfl, rfl, rfl, rfl, rfl, by decide +kernel⟩ ?hw ?hc
  case hw => w_witness2
  case hc =>
    refine LamX.walk_ofTsE (l := PySem.Challenge.rw_guestfleet_k85_whole_latest_turns) (n := 63) (k := 8) (x := "script") (CX := fun _ => L2.CX0) rfl (by decide) (by kernel_rfl) ⟨rfl, by decide, by decide⟩ ?F (fun _ _ _ _ _ z => z)
    intro w mg fa h Y G hmg0
    obtain ⟨K, KX, c⟩ := Y
    have hmg : mg ("law" : PySem.Str) = some (.ref fa) := by
      have e : (HandSHeadRun.topDef (OpenLaw.row PySem.Challenge.rw_guestfleet_k85_whole_latest_turns).prog 48).name = ("law" : PySem.Str) := by kernel_rfl
      rw [← e]
      exact hmg0
    obtain ⟨fd, hb, hF⟩ := K85.facts (P := (PySem.Challenge.rw_guestfleet_k85_whole_latest_turns).prog) (w := w) KX G hmg c
    refine ⟨K, KX, fd, K85.tfl.map (He.cT K), _, fun p hp => ?_, fun p hp => ?_, fun p hp => ?_, hb, fun H a ns hl _ hT hS => ?_, hF⟩
    · obtain ⟨q, hq, rfl⟩ := List.mem_map.mp hp
      exact (c.c q hq).2.2
    · obtain ⟨q, hq, rfl⟩ := List.mem_map.mp hp
      exact (c.c q hq).2.1
    · obtain ⟨q, hq, rfl⟩ := List.mem_map.mp hp
      exact PySem.W.codeHd_of_K KX (c.c q hq).1
    · refine ⟨a, ns, rfl, hS, fun p hp => ?_, fun _ => rfl⟩
      simp only [K85.TT, List.mem_cons, List.not_mem_nil, or_false] at hp
      rcases hp with rfl | rfl
      · exact LamX.TabS.nil (hT _ (List.mem_map_of_mem List.mem_cons_self))
      · exact LamX.TabS.nil (hT _ (List.mem_map_of_mem (List.mem_cons_of_mem _ List.mem_cons_self)))
