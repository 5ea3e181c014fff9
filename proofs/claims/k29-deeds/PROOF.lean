import PyProof.Rows.All
import Wide.All
import OpenK.AllK
import Wide.FinOn
import KE.KStateDown
import KE.KTupSum
import KE.DataMinMax
import HandS.ForMost
import HandS.IsInst
import HandS.Walk
import HandS.Conv
import HandS.Zip
import HandS.TupLe
import HandS.TupAny
import HandS.Evl
import HandS.Deep
import HandS.Defaults
import HandS.HeadHook1
import HandS.HeadHook2
import HandS.Head0
import HandS.Head1
import HandS.Head2
import HandS.HeadEnd
import HandS.WordsExc
import HandS.Steps
import KE.KDictList
import HandS.ListItems
import HandS.Codes
import KE.KExcIs
import HandS.ExcInit
import HandS.ExcIs
import HandS.ExcField
import HandS.TryMany
import KE.DataFind
import HandS.Style
import KE.GoesMore
import KE.GoesZip
import HandS.TupMul
import HandS.Lambda
import HandS.SortInts
import HandS.SortRule
import HandS.WordsDict
import HandS.TupLen
import HandS.More
import HandS.OwnEq
import HandS.DictEq
import HandS.EndTab
import HandS.HeadWalk
import HandS.CallSlots
import HandS.MakeKw
import PySem.Challenge.RW_wishdeeds_k29_deeds_refused
set_option Elab.async false
set_option linter.all false
set_option maxRecDepth 100000
set_option maxHeartbeats 4000000
namespace WD
open PySem PySem.Spec PyProof.Rows L2

/-! ### frames -/
abbrev MS := Addr → Prop
structure Fr (M : MS) (H H' : Hp) : Prop where
  keep : ∀ a o, ¬ M a → H a = some o → H' a = some o
  dom : ∀ a, H' a = none → H a = none
abbrev M0 : MS := fun _ => False
abbrev plus (M : MS) (D : Addr) : MS := fun x => M x ∨ x = D
theorem Fr.refl {M : MS} (H : Hp) : Fr M H H := ⟨fun _ _ _ h => h, fun _ h => h⟩
theorem Fr.trans {M : MS} {H H1 H2 : Hp} (a : Fr M H H1) (b : Fr M H1 H2) : Fr M H H2 :=
  ⟨fun x o n h => b.keep x o n (a.keep x o n h), fun x h => a.dom x (b.dom x h)⟩
theorem Fr.mono {M M' : MS} {H H' : Hp} (a : Fr M H H') (s : ∀ x, M x → M' x) : Fr M' H H' :=
  ⟨fun x o n h => a.keep x o (fun z => n (s x z)) h, a.dom⟩
theorem upd_none {H : Hp} {p a : Addr} {o : HO} (h : upd H p o a = none) : a ≠ p ∧ H a = none := by
  by_cases e : a = p
  · subst e; rw [upd_same] at h; cases h
  · rw [upd_ne e] at h; exact ⟨e, h⟩
theorem Fr.new {M : MS} {H : Hp} {p : Addr} {o : HO} (h : H p = none) : Fr M H (upd H p o) :=
  ⟨fun a u _ e => by rw [upd_ne (ne_of_none e h)]; exact e, fun a e => (upd_none e).2⟩
theorem Fr.mutNew {M : MS} {H H' : Hp} {p : Addr} {o : HO} (f : Fr M H H') (h : H p = none) : Fr M H (upd H' p o) :=
  ⟨fun a u n e => by rw [upd_ne (ne_of_none e h)]; exact f.keep a u n e, fun a e => f.dom a (upd_none e).2⟩
theorem Fr.mut {M : MS} {H : Hp} {p : Addr} {o : HO} (h : M p) : Fr M H (upd H p o) :=
  ⟨fun a u n e => by rw [upd_ne (fun z : a = p => n (by rw [z]; exact h))]; exact e, fun a e => (upd_none e).2⟩
theorem Fr.of_plus {M : MS} {H H' : Hp} {D : Addr} (f : Fr (plus M D) H H') (h : H D = none) : Fr M H H' :=
  ⟨fun a o n e => f.keep a o (fun z => z.elim n (fun q => by rw [q, h] at e; cases e)) e, f.dom⟩
def MIn (M : MS) (H : Hp) : Prop := ∀ a, M a → H a ≠ none
theorem MIn.to {M M' : MS} {H H' : Hp} (m : MIn M H) (f : Fr M' H H') : MIn M H' := fun a h z => m a h (f.dom a z)
theorem MIn.no {M : MS} {H : Hp} {p : Addr} (m : MIn M H) (h : H p = none) : ¬ M p := fun z => m p z h
theorem MIn.plus {M : MS} {H : Hp} {D : Addr} {o : HO} (m : MIn M H) (h : H D = some o) : MIn (plus M D) H := fun a z => z.elim (m a) (fun q => by rw [q, h]; exact fun e => nomatch e)
theorem MIn.zero {H : Hp} : MIn M0 H := fun _ h => h.elim

/-! ### relations: a value in a heap and the datum that it is -/
abbrev Rl (α : Type) := MS → Hp → V → α → Prop
class Rep {α : Type} (R : Rl α) : Prop where
  st : ∀ {M : MS} {H H' : Hp} {v : V} {a : α}, Fr M H H' → R M H v a → R M H' v a
  wk : ∀ {M M' : MS} {H : Hp} {v : V} {a : α}, (∀ x, M x → M' x) → R M' H v a → R M H v a
  ad : ∀ {M : MS} {H : Hp} {v : V} {a : α} {D : Addr}, H D = none → R M H v a → R (plus M D) H v a
/-- what was known there is known here -/
def Tr (M : MS) (H : Hp) (M' : MS) (H' : Hp) : Prop := ∀ {α : Type} {R : Rl α} [Rep R] {v : V} {a : α}, R M H v a → R M' H' v a
theorem Fr.tr {M : MS} {H H' : Hp} (f : Fr M H H') : Tr M H M H' := fun h => Rep.st f h
theorem Tr.refl {M : MS} {H : Hp} : Tr M H M H := fun h => h
theorem Tr.trans {M M1 M2 : MS} {H H1 H2 : Hp} (a : Tr M H M1 H1) (b : Tr M1 H1 M2 H2) : Tr M H M2 H2 := fun h => b (a h)
theorem Tr.ad {M : MS} {H : Hp} {D : Addr} (h : H D = none) : Tr M H (plus M D) H := fun x => Rep.ad h x
theorem Tr.wk {M M' : MS} {H : Hp} (s : ∀ x, M x → M' x) : Tr M' H M H := fun x => Rep.wk s x
theorem Tr.of_plus {M : MS} {H : Hp} {D : Addr} : Tr (plus M D) H M H := Tr.wk fun _ h => .inl h

def All2 {α : Type} (R : V → α → Prop) : List V → List α → Prop
  | [], [] => True
  | v :: vs, a :: as => R v a ∧ All2 R vs as
  | _, _ => False
section
variable {α β : Type} {R : V → α → Prop}
theorem All2.len : ∀ {vs : List V} {as : List α}, All2 R vs as → vs.length = as.length
  | [], [], _ => rfl
  | _ :: _, _ :: _, h => congrArg Nat.succ h.2.len
  | [], _ :: _, h => h.elim
  | _ :: _, [], h => h.elim
theorem All2.imp {R' : V → α → Prop} (f : ∀ v a, R v a → R' v a) : ∀ {vs : List V} {as : List α}, All2 R vs as → All2 R' vs as
  | [], [], _ => trivial
  | _ :: _, _ :: _, h => ⟨f _ _ h.1, h.2.imp f⟩
  | [], _ :: _, h => h.elim
  | _ :: _, [], h => h.elim
theorem All2.app : ∀ {vs ws : List V} {as bs : List α}, All2 R vs as → All2 R ws bs → All2 R (vs ++ ws) (as ++ bs)
  | [], _, [], _, _, h => h
  | _ :: _, _, _ :: _, _, g, h => ⟨g.1, g.2.app h⟩
  | [], _, _ :: _, _, g, _ => g.elim
  | _ :: _, _, [], _, g, _ => g.elim
theorem All2.one {v : V} {a : α} (h : R v a) : All2 R [v] [a] := ⟨h, trivial⟩
theorem All2.get : ∀ {vs : List V} {as : List α} {i : Nat} {v : V}, All2 R vs as → vs[i]? = some v → ∃ a, as[i]? = some a ∧ R v a
  | [], [], _, _, _, e => by simp at e
  | x :: _, a :: _, 0, v, h, e => ⟨a, rfl, by
      have z : x = v := Option.some.inj e
      rw [← z]; exact h.1⟩
  | _ :: _, _ :: _, i + 1, v, h, e => All2.get (i := i) h.2 e
  | [], _ :: _, _, _, h, _ => h.elim
  | _ :: _, [], _, _, h, _ => h.elim
theorem All2.at_ : ∀ {vs : List V} {as : List α} {i : Nat} {a : α}, All2 R vs as → as[i]? = some a → ∃ v, vs[i]? = some v ∧ R v a
  | [], [], _, _, _, e => by simp at e
  | v :: _, x :: _, 0, a, h, e => ⟨v, rfl, by
      have z : x = a := Option.some.inj e
      rw [← z]; exact h.1⟩
  | _ :: _, _ :: _, i + 1, v, h, e => All2.at_ (i := i) h.2 e
  | [], _ :: _, _, _, h, _ => h.elim
  | _ :: _, [], _, _, h, _ => h.elim
theorem All2.take : ∀ {vs : List V} {as : List α} (n : Nat), All2 R vs as → All2 R (vs.take n) (as.take n)
  | [], [], n, _ => by cases n <;> exact trivial
  | _ :: _, _ :: _, 0, _ => trivial
  | _ :: _, _ :: _, n + 1, h => ⟨h.1, h.2.take n⟩
  | [], _ :: _, _, h => h.elim
  | _ :: _, [], _, h => h.elim
theorem All2.drop : ∀ {vs : List V} {as : List α} (n : Nat), All2 R vs as → All2 R (vs.drop n) (as.drop n)
  | [], [], n, _ => by cases n <;> exact trivial
  | _ :: _, _ :: _, 0, h => h
  | _ :: _, _ :: _, n + 1, h => h.2.drop n
  | [], _ :: _, _, h => h.elim
  | _ :: _, [], _, h => h.elim
theorem All2.of_map {f : α → V} (h : ∀ a, R (f a) a) : ∀ (as : List α), All2 R (as.map f) as
  | [] => trivial
  | a :: as => ⟨h a, All2.of_map h as⟩
theorem All2.eq_map {f : α → V} (h : ∀ v a, R v a → v = f a) : ∀ {vs : List V} {as : List α}, All2 R vs as → vs = as.map f
  | [], [], _ => rfl
  | _ :: _, _ :: _, g => by rw [List.map_cons, ← h _ _ g.1, ← g.2.eq_map h]
  | [], _ :: _, g => g.elim
  | _ :: _, [], g => g.elim
end

def rI : Rl Int := fun _ _ v i => v = .int i
def rB : Rl Bool := fun _ _ v b => v = .bl b
def rS : Rl Str := fun _ _ v x => v = .str x ∧ PyData.strOk x = true
def rN : Rl Unit := fun _ _ v _ => v = .non
instance : Rep rI := ⟨fun _ h => h, fun _ h => h, fun _ h => h⟩
instance : Rep rB := ⟨fun _ h => h, fun _ h => h, fun _ h => h⟩
instance : Rep rS := ⟨fun _ h => h, fun _ h => h, fun _ h => h⟩
instance : Rep rN := ⟨fun _ h => h, fun _ h => h, fun _ h => h⟩
section
variable {α β γ : Type}
def rL (R : Rl α) : Rl (List α) := fun M H v l => ∃ a vs, v = .ref a ∧ ¬ M a ∧ H a = some (.lst vs) ∧ All2 (R M H) vs l
def rT (R : Rl α) : Rl (List α) := fun M H v l => ∃ a vs, v = .ref a ∧ ¬ M a ∧ H a = some (.tup vs) ∧ All2 (R M H) vs l
def rP (R : Rl α) (S : Rl β) : Rl (α × β) := fun M H v p => ∃ a v1 v2, v = .ref a ∧ ¬ M a ∧ H a = some (.tup [v1, v2]) ∧ R M H v1 p.1 ∧ S M H v2 p.2
def rP3 (R : Rl α) (S : Rl β) (T : Rl γ) : Rl (α × β × γ) := fun M H v p => ∃ a v1 v2 v3, v = .ref a ∧ ¬ M a ∧ H a = some (.tup [v1, v2, v3]) ∧ R M H v1 p.1 ∧ S M H v2 p.2.1 ∧ T M H v3 p.2.2
theorem ad_ne {M : MS} {H : Hp} {a D : Addr} {o : HO} (h : H a = some o) (n : ¬ M a) (hD : H D = none) : ¬ plus M D a := fun z => z.elim n (fun e => by rw [e, hD] at h; cases h)
instance {R : Rl α} [Rep R] : Rep (rL R) := ⟨fun f ⟨a, vs, e, n, h, g⟩ => ⟨a, vs, e, n, f.keep a _ n h, g.imp fun _ _ x => Rep.st f x⟩,
  fun s ⟨a, vs, e, n, h, g⟩ => ⟨a, vs, e, fun z => n (s a z), h, g.imp fun _ _ x => Rep.wk s x⟩, fun hD ⟨a, vs, e, n, h, g⟩ => ⟨a, vs, e, ad_ne h n hD, h, g.imp fun _ _ x => Rep.ad hD x⟩⟩
instance {R : Rl α} [Rep R] : Rep (rT R) := ⟨fun f ⟨a, vs, e, n, h, g⟩ => ⟨a, vs, e, n, f.keep a _ n h, g.imp fun _ _ x => Rep.st f x⟩,
  fun s ⟨a, vs, e, n, h, g⟩ => ⟨a, vs, e, fun z => n (s a z), h, g.imp fun _ _ x => Rep.wk s x⟩, fun hD ⟨a, vs, e, n, h, g⟩ => ⟨a, vs, e, ad_ne h n hD, h, g.imp fun _ _ x => Rep.ad hD x⟩⟩
instance {R : Rl α} {S : Rl β} [Rep R] [Rep S] : Rep (rP R S) := ⟨fun f ⟨a, v1, v2, e, n, h, g1, g2⟩ => ⟨a, v1, v2, e, n, f.keep a _ n h, Rep.st f g1, Rep.st f g2⟩,
  fun s ⟨a, v1, v2, e, n, h, g1, g2⟩ => ⟨a, v1, v2, e, fun z => n (s a z), h, Rep.wk s g1, Rep.wk s g2⟩, fun hD ⟨a, v1, v2, e, n, h, g1, g2⟩ => ⟨a, v1, v2, e, ad_ne h n hD, h, Rep.ad hD g1, Rep.ad hD g2⟩⟩
instance {R : Rl α} {S : Rl β} {T : Rl γ} [Rep R] [Rep S] [Rep T] : Rep (rP3 R S T) := ⟨fun f ⟨a, v1, v2, v3, e, n, h, g1, g2, g3⟩ => ⟨a, v1, v2, v3, e, n, f.keep a _ n h, Rep.st f g1, Rep.st f g2, Rep.st f g3⟩,
  fun s ⟨a, v1, v2, v3, e, n, h, g1, g2, g3⟩ => ⟨a, v1, v2, v3, e, fun z => n (s a z), h, Rep.wk s g1, Rep.wk s g2, Rep.wk s g3⟩, fun hD ⟨a, v1, v2, v3, e, n, h, g1, g2, g3⟩ => ⟨a, v1, v2, v3, e, ad_ne h n hD, h, Rep.ad hD g1, Rep.ad hD g2, Rep.ad hD g3⟩⟩
theorem ints_of {M : MS} {H : Hp} {vs : List V} {l : List Int} (h : All2 (rI M H) vs l) : vs = l.map V.int := h.eq_map fun _ _ e => e
theorem of_ints {M : MS} {H : Hp} (l : List Int) : All2 (rI M H) (l.map V.int) l := All2.of_map (f := V.int) (fun _ => rfl) l
/-- a tuple of ints | a list of ints, written out -/
theorem tupI {M : MS} {H : Hp} {v : V} {l : List Int} (h : rT rI M H v l) : ∃ a, v = .ref a ∧ ¬ M a ∧ H a = some (.tup (l.map V.int)) := by
  obtain ⟨a, vs, e, n, h, g⟩ := h
  rw [ints_of g] at h
  exact ⟨a, e, n, h⟩
theorem lstI {M : MS} {H : Hp} {v : V} {l : List Int} (h : rL rI M H v l) : ∃ a, v = .ref a ∧ ¬ M a ∧ H a = some (.lst (l.map V.int)) := by
  obtain ⟨a, vs, e, n, h, g⟩ := h
  rw [ints_of g] at h
  exact ⟨a, e, n, h⟩
theorem mkTupI {M : MS} {H : Hp} {a : Addr} {l : List Int} (n : ¬ M a) (h : H a = some (.tup (l.map V.int))) : rT rI M H (.ref a) l := ⟨a, _, rfl, n, h, of_ints l⟩
theorem mkLstI {M : MS} {H : Hp} {a : Addr} {l : List Int} (n : ¬ M a) (h : H a = some (.lst (l.map V.int))) : rL rI M H (.ref a) l := ⟨a, _, rfl, n, h, of_ints l⟩
end

/-! ### == of data -/
structure EncOk {α : Type} [DecidableEq α] (R : Rl α) (enc : α → PyData) (n : Nat) : Prop where
  dp : ∀ {K : PySem.W.Frag} {M : MS} {H : Hp} {v : V} {a : α}, R M H v a → Dp K H v (enc a) ∧ (enc a).canLay0 = true
  dep : ∀ a, (enc a).depth ≤ n
  eq : ∀ a b, PyData.eqv (enc a) (enc b) = decide (a = b)
section
variable {α β γ : Type} [DecidableEq α] [DecidableEq β] [DecidableEq γ] {R : Rl α} {S : Rl β} {T : Rl γ} {e1 : α → PyData} {e2 : β → PyData} {e3 : γ → PyData} {n : Nat}
theorem shaped_of {d : PyData} {n : Nat} (h1 : d.canLay0 = true) (h2 : d.depth ≤ n) (hn : n ≤ 64) : SeqAt.shaped d = true := by
  show (d.canLay0 && decide (d.depth ≤ 64)) = true
  rw [h1, decide_eq_true (Nat.le_trans h2 hn)]; rfl
theorem encI : EncOk rI PyData.int 0 := ⟨fun h => by cases h; exact ⟨.int _, rfl⟩, fun _ => Nat.le_refl _, fun a b => by
  show (a == b) = decide (a = b)
  exact Bool.beq_eq_decide_eq a b⟩
theorem encB : EncOk rB PyData.bool 0 := ⟨fun h => by cases h; exact ⟨.bl _, rfl⟩, fun _ => Nat.le_refl _, fun a b => by
  show (a == b) = decide (a = b)
  exact Bool.beq_eq_decide_eq a b⟩
theorem encS : EncOk rS PyData.str 0 := ⟨fun h => by obtain ⟨rfl, h⟩ := h; exact ⟨.str _, h⟩, fun _ => Nat.le_refl _, fun a b => by
  show (a == b) = decide (a = b)
  exact Bool.beq_eq_decide_eq a b⟩
theorem encAll {K : PySem.W.Frag} {M : MS} {H : Hp} (E : EncOk R e1 n) : ∀ {vs : List V} {as : List α}, All2 (R M H) vs as → DpAll K H vs (as.map e1) ∧ PyData.canLayAll0 (as.map e1) = true
  | [], [], _ => ⟨.nil, rfl⟩
  | v :: vs, a :: as, h => by
    obtain ⟨h1, h2⟩ := E.dp (K := K) h.1
    obtain ⟨h3, h4⟩ := encAll (K := K) E h.2
    exact ⟨.cons h1 h3, by show ((e1 a).canLay0 && PyData.canLayAll0 (as.map e1)) = true; rw [h2, h4]; rfl⟩
  | [], _ :: _, h => h.elim
  | _ :: _, [], h => h.elim
theorem encDep (E : EncOk R e1 n) : ∀ (as : List α), PyData.depthAll (as.map e1) ≤ n
  | [] => Nat.zero_le _
  | a :: as => by
    show max (e1 a).depth (PyData.depthAll (as.map e1)) ≤ n
    exact Nat.max_le.mpr ⟨E.dep a, encDep E as⟩
theorem encEqAll (E : EncOk R e1 n) : ∀ (as bs : List α), PyData.eqvAll (as.map e1) (bs.map e1) = decide (as = bs)
  | [], [] => by simp [PyData.eqvAll]
  | [], _ :: _ => by simp [PyData.eqvAll]
  | _ :: _, [] => by simp [PyData.eqvAll]
  | a :: as, b :: bs => by
    show (PyData.eqv (e1 a) (e1 b) && PyData.eqvAll (as.map e1) (bs.map e1)) = _
    rw [E.eq, encEqAll E as bs]
    by_cases h1 : a = b <;> by_cases h2 : as = bs <;> simp [h1, h2]
theorem encL (E : EncOk R e1 n) : EncOk (rL R) (fun l => .list (l.map e1)) (n + 1) := ⟨fun h => by
    obtain ⟨a, vs, rfl, _, h, g⟩ := h
    obtain ⟨g1, g2⟩ := encAll E g
    exact ⟨.lst (SqL.of h) g1, g2⟩, fun l => Nat.succ_le_succ (encDep E l), fun a b => encEqAll E a b⟩
theorem encT (E : EncOk R e1 n) : EncOk (rT R) (fun l => .tuple (l.map e1)) (n + 1) := ⟨fun h => by
    obtain ⟨a, vs, rfl, _, h, g⟩ := h
    obtain ⟨g1, g2⟩ := encAll E g
    exact ⟨.tup (SqT.of h) g1, g2⟩, fun l => Nat.succ_le_succ (encDep E l), fun a b => encEqAll E a b⟩
theorem encP (E : EncOk R e1 n) (F : EncOk S e2 n) : EncOk (rP R S) (fun p => .tuple [e1 p.1, e2 p.2]) (n + 1) := ⟨fun {K _ _ _ _} h => by
    obtain ⟨a, v1, v2, rfl, _, h, g1, g2⟩ := h
    obtain ⟨h1, h2⟩ := E.dp (K := K) g1
    obtain ⟨h3, h4⟩ := F.dp (K := K) g2
    exact ⟨.tup (SqT.of h) (.cons h1 (.cons h3 .nil)), by
      show ((e1 _).canLay0 && ((e2 _).canLay0 && true)) = true
      rw [h2, h4]; rfl⟩, fun p => by
    show max (e1 p.1).depth (max (e2 p.2).depth 0) + 1 ≤ n + 1
    have := E.dep p.1; have := F.dep p.2; omega, fun p q => by
    show (PyData.eqv (e1 p.1) (e1 q.1) && (PyData.eqv (e2 p.2) (e2 q.2) && true)) = _
    obtain ⟨a, b⟩ := p; obtain ⟨c, d⟩ := q
    rw [E.eq, F.eq]
    by_cases h1 : a = c <;> by_cases h2 : b = d <;> simp [h1, h2]⟩
theorem encP3 (E : EncOk R e1 n) (F : EncOk S e2 n) (G : EncOk T e3 n) : EncOk (rP3 R S T) (fun p => .tuple [e1 p.1, e2 p.2.1, e3 p.2.2]) (n + 1) := ⟨fun {K _ _ _ _} h => by
    obtain ⟨a, v1, v2, v3, rfl, _, h, g1, g2, g3⟩ := h
    obtain ⟨h1, h2⟩ := E.dp (K := K) g1
    obtain ⟨h3, h4⟩ := F.dp (K := K) g2
    obtain ⟨h5, h6⟩ := G.dp (K := K) g3
    exact ⟨.tup (SqT.of h) (.cons h1 (.cons h3 (.cons h5 .nil))), by
      show ((e1 _).canLay0 && ((e2 _).canLay0 && ((e3 _).canLay0 && true))) = true
      rw [h2, h4, h6]; rfl⟩, fun p => by
    show max (e1 p.1).depth (max (e2 p.2.1).depth (max (e3 p.2.2).depth 0)) + 1 ≤ n + 1
    have := E.dep p.1; have := F.dep p.2.1; have := G.dep p.2.2; omega, fun p q => by
    show (PyData.eqv (e1 p.1) (e1 q.1) && (PyData.eqv (e2 p.2.1) (e2 q.2.1) && (PyData.eqv (e3 p.2.2) (e3 q.2.2) && true))) = _
    obtain ⟨a, b, c⟩ := p; obtain ⟨a', b', c'⟩ := q
    rw [E.eq, F.eq, G.eq]
    by_cases h1 : a = a' <;> by_cases h2 : b = b' <;> by_cases h3 : c = c' <;> simp [h1, h2, h3]⟩
theorem EncOk.up {m : Nat} (E : EncOk R e1 n) (h : n ≤ m) : EncOk R e1 m := ⟨E.dp, fun a => Nat.le_trans (E.dep a) h, E.eq⟩
theorem eqD_of {K : PySem.W.Frag} {M M' : MS} {H : Hp} {x y : V} {a b : α} {Q : VK} (E : EncOk R e1 n) (h1 : R M H x a) (h2 : R M' H y b) (q : Q (.bl (decide (a = b))) H) (hn : n ≤ 64 := by decide) : rEqD K x y H Q := by
  obtain ⟨d1, l1⟩ := E.dp (K := K) h1
  obtain ⟨d2, l2⟩ := E.dp (K := K) h2
  exact ⟨_, _, d1, d2, shaped_of l1 (E.dep a) hn, shaped_of l2 (E.dep b) hn, by rw [E.eq]; exact q⟩
theorem neD_of {K : PySem.W.Frag} {M M' : MS} {H : Hp} {x y : V} {a b : α} {Q : VK} (E : EncOk R e1 n) (h1 : R M H x a) (h2 : R M' H y b) (q : Q (.bl (!decide (a = b))) H) (hn : n ≤ 64 := by decide) : rNeD K x y H Q := by
  obtain ⟨d1, l1⟩ := E.dp (K := K) h1
  obtain ⟨d2, l2⟩ := E.dp (K := K) h2
  exact ⟨_, _, d1, d2, shaped_of l1 (E.dep a) hn, shaped_of l2 (E.dep b) hn, by rw [E.eq]; exact q⟩
end
end WD
namespace WD
open PySem PySem.Spec PyProof.Rows L2

/-! ### what holds of the changing objects -/
def JOk (M : MS) (J : Hp → Prop) : Prop := ∀ H H', (∀ x, M x → H' x = H x) → J H → J H'
abbrev J0 : Hp → Prop := fun _ => True
theorem jok0 {M : MS} : JOk M J0 := fun _ _ _ _ => trivial
/-- the well: a list of three ints -/
def Well (w : Addr) (H : Hp) : Prop := ∃ a b c : Int, H w = some (.lst [.int a, .int b, .int c])
theorem jokW {M : MS} {w : Addr} (h : M w) : JOk M (Well w) := fun H H' e ⟨a, b, c, q⟩ => ⟨a, b, c, by rw [e w h]; exact q⟩
abbrev only (w : Addr) : MS := fun x => x = w
theorem Well.ne {w : Addr} {H : Hp} (h : Well w H) : H w ≠ none := fun z => by
  obtain ⟨a, b, c, e⟩ := h
  rw [z] at e; cases e
theorem Well.in_ {w : Addr} {H : Hp} (h : Well w H) : MIn (only w) H := fun a e => by rw [e]; exact h.ne
theorem Well.upd {w p : Addr} {H : Hp} {o : HO} (h : Well w H) (n : H p = none) : Well w (upd H p o) := by
  obtain ⟨a, b, c, e⟩ := h
  exact ⟨a, b, c, by rw [upd_ne (ne_of_none e n)]; exact e⟩
theorem Well.fr {M : MS} {w : Addr} {H H' : Hp} (h : Well w H) (n : ¬ M w) (f : Fr M H H') : Well w H' := by
  obtain ⟨a, b, c, e⟩ := h
  exact ⟨a, b, c, f.keep _ _ n e⟩

/-! ### comprehensions -/
theorem filterMap_snoc {α : Type} (l : List (Option α)) (o : Option α) : (l ++ [o]).filterMap id = l.filterMap id ++ (match o with | some a => [a] | none => []) := by
  rw [List.filterMap_append]
  cases o <;> rfl
theorem lc_gen {α : Type} {R : Rl α} [Rep R] {W : It} {n : Nat} {G : Hp → Prop} {Y : Nat → Hp → V → Hp → Prop} (w : Walk W n G Y) {g : TG} {tt : TT} {te : TE} {vs : List Nat} {σ : L2.St} {H1 : Hp} {Q : Addr → Hp → Prop}
    {M Mf : MS} {J : Hp → Prop} (hMf : ∀ x, Mf x → M x) (hJm : JOk Mf J) (hn : n ≤ 1000000) (hM : MIn M H1) (hJ : J H1) (P : Nat → Option α → Prop)
    (hG : ∀ M' H', Tr M H1 M' H' → Fr Mf H1 H' → G H')
    (hb : ∀ i M' H', i < n → Tr M H1 M' H' → Fr Mf H1 H' → MIn M' H' → (∀ x, M x → M' x) → J H' → ∀ (Ky : V → Hp → Prop) (Kn : Hp → Prop),
      (∀ y H4 a, P i (some a) → Fr Mf H' H4 → J H4 → R M' H4 y a → Ky y H4) → (∀ H3, P i none → Fr Mf H' H3 → J H3 → Kn H3) →
      ∀ x H'', Y i H' x H'' → g x (wipe σ vs) H'' fun σ2 H2 => wipe σ2 vs = wipe σ vs ∧ tt σ2 H2 fun b H3 => if b = true then te σ2 H3 Ky else Kn H3)
    (k : ∀ (D : Addr) (l : List (Option α)) (H' : Hp), H1 D = none → l.length = n → (∀ i o, l[i]? = some o → P i o) → Fr Mf H1 H' → J H' → rL R M H' (.ref D) (l.filterMap id) → Q D H') :
    ∀ D, H1 D = none → ∃ W' : Nat → Nat → Hp → Prop, (∃ m, W' 0 m (upd H1 D (.lst []))) ∧ ∀ i m H, W' i m H →
      (W.stop i H ∧ Q D H) ∨ (W.go i H ∧ ∃ Nx : Hp → Prop, (∀ H', Nx H' → ∃ m', m' < m ∧ W' (i + 1) m' H') ∧ ∀ x H', W.yld i H x H' → g x (wipe σ vs) H' fun σ2 H2 => wipe σ2 vs = wipe σ vs ∧ tt σ2 H2 fun b H3 =>
        if b = true then te σ2 H3 fun y H4 => ∃ acc, H4 D = some (.lst acc) ∧ acc.length < sizeLine ∧ Nx (upd H4 D (.lst (acc ++ [y]))) else Nx H3) := by
  intro D hD
  have nD : ¬ M D := hM.no hD
  have nDf : ¬ Mf D := fun z => nD (hMf D z)
  have jup : ∀ {H : Hp} {o : HO}, J H → J (upd H D o) := fun {H o} h => hJm H _ (fun x hx => upd_ne (fun z => nDf (z ▸ hx))) h
  have base : Tr M H1 (plus M D) (upd H1 D (.lst [])) := fun {_ _ _ _ _} h => Rep.st (Fr.new hD) (Rep.ad hD h)
  have up : ∀ {H H' : Hp}, Fr Mf H H' → Fr (plus M D) H H' := fun f => f.mono fun x z => .inl (hMf x z)
  refine lc_it w (fun i H => ∃ l : List (Option α), l.length = i ∧ (∀ j o, l[j]? = some o → P j o) ∧ Fr Mf H1 H ∧ J H ∧ Tr M H1 (plus M D) H ∧ MIn (plus M D) H ∧ ∃ acc, H D = some (.lst acc) ∧ All2 (R (plus M D) H) acc (l.filterMap id))
    ⟨[], rfl, fun j o e => by simp at e, Fr.new hD, jup hJ, base, (hM.to (M' := M) (Fr.new hD)).plus upd_same, [], upd_same, trivial⟩ (fun i H _ ⟨l, _, _, f, _, t, _⟩ => hG _ _ t f) (fun i x H H' hi ⟨l, ll, lP, f, j, t, mi, acc, ha, al⟩ hy => ?_) (fun H ⟨l, ll, lP, f, j, t, mi, acc, ha, al⟩ => ?_)
  · refine hb i (plus M D) H hi t f mi (fun x h => .inl h) j _ _ (fun y H4 a pa f4 j4 r4 => ?_) (fun H3 pn f3 j3 => ?_) x H' hy
    · have hD4 : H4 D = some (.lst acc) := f4.keep D _ nDf ha
      have sz : acc.length < sizeLine := by
        have h1 := al.len
        have h2 : (l.filterMap id).length ≤ l.length := List.length_filterMap_le _ _
        have h3 := sizeLine_eq
        omega
      refine ⟨acc, hD4, sz, l ++ [some a], by rw [List.length_append, ll]; rfl, fun j o e => ?_, (f.trans f4).mutNew hD, jup j4, ?_, ?_, acc ++ [y], upd_same, ?_⟩
      · by_cases hj : j < l.length
        · rw [List.getElem?_append_left hj] at e; exact lP j o e
        · rw [List.getElem?_append_right (by omega)] at e
          have hj2 : j - l.length = 0 := by
            have := (List.getElem?_eq_some_iff.mp e).1
            simp at this; omega
          rw [hj2] at e
          have ej : j = i := by omega
          rw [ej, ← Option.some.inj e]
          exact pa
      · intro β S _ v b h
        exact Rep.st (M := plus M D) (Fr.mut (.inr rfl)) (Rep.st (up f4) (t h))
      · exact (mi.to f4).to (M' := plus M D) (Fr.mut (.inr rfl))
      · rw [filterMap_snoc]
        refine All2.app (al.imp fun v b z => ?_) (All2.one ?_)
        · exact Rep.st (M := plus M D) (Fr.mut (.inr rfl)) (Rep.st (up f4) z)
        · exact Rep.st (M := plus M D) (Fr.mut (.inr rfl)) r4
    · have hD3 : H3 D = some (.lst acc) := f3.keep D _ nDf ha
      refine ⟨l ++ [none], by rw [List.length_append, ll]; rfl, fun j o e => ?_, f.trans f3, j3, ?_, mi.to f3, acc, hD3, ?_⟩
      · by_cases hj : j < l.length
        · rw [List.getElem?_append_left hj] at e; exact lP j o e
        · rw [List.getElem?_append_right (by omega)] at e
          have hj2 : j - l.length = 0 := by
            have := (List.getElem?_eq_some_iff.mp e).1
            simp at this; omega
          rw [hj2] at e
          have ej : j = i := by omega
          rw [ej, ← Option.some.inj e]
          exact pn
      · intro β S _ v b h
        exact Rep.st (up f3) (t h)
      · rw [filterMap_snoc]
        show All2 _ _ (l.filterMap id ++ [])
        rw [List.append_nil]
        exact al.imp fun v b z => Rep.st (up f3) z
  · exact k D l H hD ll lP f j ⟨D, acc, rfl, nD, ha, al.imp fun v b z => Rep.wk (fun _ q => .inl q) z⟩
/-- no test, what comes at turn i is f i -/
theorem all_some {α : Type} {n : Nat} {l : List (Option α)} {f : Nat → α} (h1 : l.length = n) (h2 : ∀ i o, l[i]? = some o → o = some (f i)) : l.filterMap id = (List.range n).map f := by
  have e : l = (List.range n).map fun i => some (f i) := by
    refine List.ext_getElem? fun i => ?_
    by_cases hi : i < n
    · have hi2 : i < l.length := by omega
      rw [List.getElem?_eq_getElem hi2, h2 i _ (List.getElem?_eq_getElem hi2)]
      simp [hi]
    · rw [List.getElem?_eq_none (by omega), List.getElem?_eq_none (by simp; omega)]
  rw [e, List.filterMap_map]
  exact congrFun (List.filterMap_eq_map (f := f)) _
theorem all_opt {α : Type} {n : Nat} {l : List (Option α)} {f : Nat → Option α} (h1 : l.length = n) (h2 : ∀ i o, l[i]? = some o → o = f i) : l.filterMap id = (List.range n).filterMap f := by
  have e : l = (List.range n).map f := by
    refine List.ext_getElem? fun i => ?_
    by_cases hi : i < n
    · have hi2 : i < l.length := by omega
      rw [List.getElem?_eq_getElem hi2, h2 i _ (List.getElem?_eq_getElem hi2)]
      simp [hi]
    · rw [List.getElem?_eq_none (by omega), List.getElem?_eq_none (by simp; omega)]
  rw [e, List.filterMap_map]
  rfl
/-- no test, something of which P i -/
theorem all_of {α : Type} {n : Nat} {l : List (Option α)} {P : Nat → α → Prop} (h1 : l.length = n) (h2 : ∀ i o, l[i]? = some o → ∃ a, o = some a ∧ P i a) : (l.filterMap id).length = n ∧ ∀ i a, (l.filterMap id)[i]? = some a → P i a := by
  have key : ∀ (l : List (Option α)) (P : Nat → α → Prop), (∀ i o, l[i]? = some o → ∃ a, o = some a ∧ P i a) → (l.filterMap id).length = l.length ∧ ∀ i a, (l.filterMap id)[i]? = some a → P i a := by
    intro l
    induction l with
    | nil => intro P _; exact ⟨rfl, fun i a e => by simp at e⟩
    | cons o l ih =>
      intro P h
      obtain ⟨a, rfl, pa⟩ := h 0 o rfl
      obtain ⟨h3, h4⟩ := ih (fun i => P (i + 1)) fun i o e => h (i + 1) o e
      have z : (some a :: l).filterMap id = a :: l.filterMap id := rfl
      rw [z]
      refine ⟨congrArg Nat.succ h3, fun i b e => ?_⟩
      cases i with
      | zero =>
        have e2 : a = b := Option.some.inj e
        rw [← e2]; exact pa
      | succ i => exact h4 i b e
  obtain ⟨h3, h4⟩ := key l P h2
  exact ⟨h3.trans h1, h4⟩

theorem mapRange {α β : Type} (f : α → β) (d : α) (l : List α) {n : Nat} (hn : n = l.length) : (List.range n).map (fun i => f (l.getD i d)) = l.map f := by
  subst hn
  refine List.ext_getElem (by simp) fun j h1 h2 => ?_
  have hj : j < l.length := by simpa using h2
  rw [List.getElem_map, List.getElem_map, List.getElem_range, List.getD_eq_getElem?_getD, List.getElem?_eq_getElem hj]
  rfl
/-- a comprehension without a test, what comes at turn i is f i, nothing changes -/
theorem lc_map {α : Type} {R : Rl α} [Rep R] {W : It} {n : Nat} {G : Hp → Prop} {Y : Nat → Hp → V → Hp → Prop} (w : Walk W n G Y) (f : Nat → α) {g : TG} {te : TE} {vs : List Nat} {σ : L2.St} {H1 : Hp} {Q : Addr → Hp → Prop}
    {M : MS} (hM : MIn M H1) (hn : n ≤ 1000000) (hG : ∀ H', Fr M0 H1 H' → G H')
    (hb : ∀ i M' H', i < n → Tr M H1 M' H' → Fr M0 H1 H' → MIn M' H' → ∀ Ky : V → Hp → Prop, (∀ y H4, Fr M0 H' H4 → R M' H4 y (f i) → Ky y H4) →
      ∀ x H'', Y i H' x H'' → g x (wipe σ vs) H'' fun σ2 H2 => wipe σ2 vs = wipe σ vs ∧ te σ2 H2 Ky)
    (k : ∀ (D : Addr) (H' : Hp), H1 D = none → Fr M0 H1 H' → rL R M H' (.ref D) ((List.range n).map f) → Q D H') :
    ∀ D, H1 D = none → ∃ W' : Nat → Nat → Hp → Prop, (∃ m, W' 0 m (upd H1 D (.lst []))) ∧ ∀ i m H, W' i m H →
      (W.stop i H ∧ Q D H) ∨ (W.go i H ∧ ∃ Nx : Hp → Prop, (∀ H', Nx H' → ∃ m', m' < m ∧ W' (i + 1) m' H') ∧ ∀ x H', W.yld i H x H' → g x (wipe σ vs) H' fun σ2 H2 => wipe σ2 vs = wipe σ vs ∧ tYes σ2 H2 fun b H3 =>
        if b = true then te σ2 H3 fun y H4 => ∃ acc, H4 D = some (.lst acc) ∧ acc.length < sizeLine ∧ Nx (upd H4 D (.lst (acc ++ [y]))) else Nx H3) :=
  lc_gen w (Mf := M0) (fun _ h => h.elim) jok0 hn hM trivial (fun i o => o = some (f i)) (fun _ H' _ fr => hG H' fr) (fun i M' H' hi t fr mi _ _ Ky Kn ky _ x H'' hy =>
      hb i M' H' hi t fr mi Ky (fun y H4 f4 r4 => ky y H4 (f i) rfl f4 trivial r4) x H'' hy)
    (fun D l H' hD ll lP fr _ r => k D H' hD fr (by rw [all_some ll lP] at r; exact r))
/-- .. with a test: what comes at turn i is f i, or nothing -/
theorem lc_sift {α : Type} {R : Rl α} [Rep R] {W : It} {n : Nat} {G : Hp → Prop} {Y : Nat → Hp → V → Hp → Prop} (w : Walk W n G Y) (f : Nat → Option α) {g : TG} {tt : TT} {te : TE} {vs : List Nat} {σ : L2.St} {H1 : Hp} {Q : Addr → Hp → Prop}
    {M : MS} (hM : MIn M H1) (hn : n ≤ 1000000) (hG : ∀ H', Fr M0 H1 H' → G H')
    (hb : ∀ i M' H', i < n → Tr M H1 M' H' → Fr M0 H1 H' → MIn M' H' → ∀ (Ky : V → Hp → Prop) (Kn : Hp → Prop), (∀ y H4 a, f i = some a → Fr M0 H' H4 → R M' H4 y a → Ky y H4) → (∀ H3, f i = none → Fr M0 H' H3 → Kn H3) →
      ∀ x H'', Y i H' x H'' → g x (wipe σ vs) H'' fun σ2 H2 => wipe σ2 vs = wipe σ vs ∧ tt σ2 H2 fun b H3 => if b = true then te σ2 H3 Ky else Kn H3)
    (k : ∀ (D : Addr) (H' : Hp), H1 D = none → Fr M0 H1 H' → rL R M H' (.ref D) ((List.range n).filterMap f) → Q D H') :
    ∀ D, H1 D = none → ∃ W' : Nat → Nat → Hp → Prop, (∃ m, W' 0 m (upd H1 D (.lst []))) ∧ ∀ i m H, W' i m H →
      (W.stop i H ∧ Q D H) ∨ (W.go i H ∧ ∃ Nx : Hp → Prop, (∀ H', Nx H' → ∃ m', m' < m ∧ W' (i + 1) m' H') ∧ ∀ x H', W.yld i H x H' → g x (wipe σ vs) H' fun σ2 H2 => wipe σ2 vs = wipe σ vs ∧ tt σ2 H2 fun b H3 =>
        if b = true then te σ2 H3 fun y H4 => ∃ acc, H4 D = some (.lst acc) ∧ acc.length < sizeLine ∧ Nx (upd H4 D (.lst (acc ++ [y]))) else Nx H3) :=
  lc_gen w (Mf := M0) (fun _ h => h.elim) jok0 hn hM trivial (fun i o => o = f i) (fun _ H' _ fr => hG H' fr) (fun i M' H' hi t fr mi _ _ Ky Kn ky kn x H'' hy =>
      hb i M' H' hi t fr mi Ky Kn (fun y H4 a e f4 r4 => ky y H4 a e.symm f4 trivial r4) (fun H3 e f3 => kn H3 e.symm f3 trivial) x H'' hy)
    (fun D l H' hD ll lP fr _ r => k D H' hD fr (by rw [all_opt ll lP] at r; exact r))
/-! ### the draw -/
def spDraw : Sp := fun vs H Q _ => ∃ (w : Addr) (m : Int), vs = [.ref w, .int m] ∧ Well w H ∧ 0 < m ∧ m < 1073741824 ∧ ∀ r H', 0 ≤ r → r < m → Fr (only w) H H' → Well w H' → (∀ x, x ≠ w → H' x = H x) → Q (.int r) H'

/-! ### further rules -/
section
variable {X : Cx}
/-- xs + ys of lists, each to be read -/
def rCatL (K : PySem.W.Frag) : R2 := fun x y H Q => ∃ l b xs zs, x = .ref l ∧ y = .ref b ∧ SqL K H l xs ∧ SqL K H b zs ∧ xs.length + zs.length ≤ sizeLine ∧ ∀ p, H p = none → Q (.ref p) (upd H p (.lst (xs ++ zs)))
theorem op_catL : OpR X (binaryOp .Add) (rCatL X.K) := by
  intro pins s σ H x y v u Q I rx ry h
  obtain ⟨l, b, xs, zs, rfl, rfl, hH, hB, hz, q⟩ := h
  cases rx
  cases ry
  obtain ⟨its, r, ⟨⟨cls, dd, data, sl⟩, n, ho, hc, _, hd⟩, _⟩ := I.list hH
  obtain ⟨its2, r2, ⟨⟨cls2, dd2, data2, sl2⟩, n2, ho2, hc2, _, hd2⟩, _⟩ := I.list hB
  simp only at hc hd hc2 hd2
  subst hc hd hc2 hd2
  have h1 := r.length
  have h2 := r2.length
  have e : its.toArray ++ its2.toArray = (its ++ its2).toArray := by simp
  refine concat_meets ⟨_, ho, rfl⟩ ⟨_, ho2, rfl⟩ noFill_list_add seq_list_add PySem.F.slot_list_add PySem.F.entry_list_add (PySem.F.args_list_add_2 _ _) (list_addW l b its.toArray its2.toArray n n2 dd dd2 sl sl2 (by simp; omega)) ⟨ho, ho2, ?_⟩
  rw [e]
  exact ⟨.ref _, _, I.lnew (t' := s.toks) (r.append r2) (by rw [List.length_append]; omega), rfl, q _ I.fresh⟩
/-- sum of a tuple of ints; min, max: one of them -/
def rSumT (K : PySem.W.Frag) : List V → Hp → VK → Prop := fun vs H Q => ∃ (a : Addr) (ns : List Int), vs = [V.ref a] ∧ SqT K H a (ns.map V.int) ∧ Q (.int ns.sum) H
def rOneT (K : PySem.W.Frag) : List V → Hp → VK → Prop := fun vs H Q => ∃ (a : Addr) (ns : List Int), vs = [V.ref a] ∧ SqT K H a (ns.map V.int) ∧ ns ≠ [] ∧ ∀ m, m ∈ ns → Q (.int m) H
theorem cr_sumT (hc : X.calm = true) : CallR X (.builtin "sum") (rSumT X.K) := by
  intro pins s σ H vs us Q I r h
  obtain ⟨a, ns, rfl, hs, q⟩ := h
  obtain ⟨its, rv, hl, _⟩ := I.tuple hs
  rw [Vals.ref1 r]
  have hi := rv.ints
  obtain ⟨xs, e⟩ := hi.allInts.items
  have hn : numsOf (intItems xs).toList = ns := by rw [← e]; exact hi.numsOf
  rw [nums_intItems] at hn
  have hl2 : s.heap.IsTuple a its.toArray := hl
  rw [e] at hl2
  refine PySem.W.ktm_sumG (I.ok.hd hc) hl2 fun h' tk t' hk => ?_
  rw [PySem.preSum_eq, List.take_of_length_le (by simp), hn]
  exact ⟨.int _, H, I.kept hk, ⟨_, rfl⟩, q⟩
theorem dpInts {K : PySem.W.Frag} {H : Hp} : ∀ ns : List Int, DpAll K H (ns.map V.int) (ns.map PyData.int)
  | [] => .nil
  | n :: ns => .cons (.int n) (dpInts ns)
theorem alike_ints (ns : List Int) : PySem.W.AlikeAll (ns.map PyData.int) := by
  refine ⟨fun x hx y hy => ?_, fun x hx => ?_⟩
  · obtain ⟨i, _, rfl⟩ := List.mem_map.mp hx
    obtain ⟨j, _, rfl⟩ := List.mem_map.mp hy
    rfl
  · obtain ⟨i, _, rfl⟩ := List.mem_map.mp hx
    exact fun z => nomatch z
theorem depth_ints : ∀ ns : List Int, PyData.depthAll (ns.map PyData.int) = 0
  | [] => rfl
  | n :: ns => by
    show max 0 (PyData.depthAll (ns.map PyData.int)) = 0
    rw [depth_ints ns]; rfl
theorem cr_minT (hc : X.calm = true) (hu : X.A.units + 1 < cLine) : CallR X (.builtin "min") (rOneT X.K) := by
  intro pins s σ H vs us Q I r h
  obtain ⟨a, ns, rfl, hs, hne, q⟩ := h
  obtain ⟨its, rv, hl, _⟩ := I.tuple hs
  rw [Vals.ref1 r]
  obtain ⟨as, hr⟩ := Dp.readsAll I _ _ its (dpInts ns) rv
  cases ns with
  | nil => exact absurd rfl hne
  | cons n ns =>
    refine PySem.W.min_tuple_data (x := .int n) (xs := ns.map PyData.int) (as := as) (I.ok.hd hc) hl hr (alike_ints (n :: ns)) (by rw [show PyData.depthAll (.int n :: ns.map PyData.int) = 0 from depth_ints (n :: ns)]; omega) fun i v h' tk bs hv _ hk => ?_
    have hv2 : its[i]? = some v := by simpa using hv
    obtain ⟨hi, _⟩ := List.getElem?_eq_some_iff.mp hv2
    have hlen := rv.length
    have hx : ((n :: ns).map V.int)[i]? = some (V.int (n :: ns)[i]!) := by
      have : i < (n :: ns).length := by simpa using (by omega : i < ((n :: ns).map V.int).length)
      rw [List.getElem?_map, List.getElem?_eq_getElem this, getElem!_pos (n :: ns) i this]; rfl
    obtain ⟨u, e1, e2⟩ := rv.get hx
    rw [hv2] at e1
    cases e1
    refine ⟨.int _, H, I.kept hk, e2, q _ ?_⟩
    have : i < (n :: ns).length := by simpa using (by omega : i < ((n :: ns).map V.int).length)
    rw [getElem!_pos (n :: ns) i this]
    exact List.getElem_mem _
theorem cr_maxT (hc : X.calm = true) (hu : X.A.units + 1 < cLine) : CallR X (.builtin "max") (rOneT X.K) := by
  intro pins s σ H vs us Q I r h
  obtain ⟨a, ns, rfl, hs, hne, q⟩ := h
  obtain ⟨its, rv, hl, _⟩ := I.tuple hs
  rw [Vals.ref1 r]
  obtain ⟨as, hr⟩ := Dp.readsAll I _ _ its (dpInts ns) rv
  cases ns with
  | nil => exact absurd rfl hne
  | cons n ns =>
    refine PySem.W.max_tuple_data (x := .int n) (xs := ns.map PyData.int) (as := as) (I.ok.hd hc) hl hr (alike_ints (n :: ns)) (by rw [show PyData.depthAll (.int n :: ns.map PyData.int) = 0 from depth_ints (n :: ns)]; omega) fun i v h' tk bs hv _ hk => ?_
    have hv2 : its[i]? = some v := by simpa using hv
    obtain ⟨hi, _⟩ := List.getElem?_eq_some_iff.mp hv2
    have hlen := rv.length
    have hx : ((n :: ns).map V.int)[i]? = some (V.int (n :: ns)[i]!) := by
      have : i < (n :: ns).length := by simpa using (by omega : i < ((n :: ns).map V.int).length)
      rw [List.getElem?_map, List.getElem?_eq_getElem this, getElem!_pos (n :: ns) i this]; rfl
    obtain ⟨u, e1, e2⟩ := rv.get hx
    rw [hv2] at e1
    cases e1
    refine ⟨.int _, H, I.kept hk, e2, q _ ?_⟩
    have : i < (n :: ns).length := by simpa using (by omega : i < ((n :: ns).map V.int).length)
    rw [getElem!_pos (n :: ns) i this]
    exact List.getElem_mem _
end
end WD
namespace WD
open PySem PySem.Spec PyProof.Rows L2

/-! ### defs as callables -/
structure Cal (P : Program) (w : World) (K : PySem.W.Frag) (mg : Str → Option Value) (base : Heap) (CX : CXT) (k : Nat) (x : Str) (f : Addr) (sp : Sp) (dvs : List V) : Prop where
  ex : ∃ (fd : FuncData) (ps : List Str) (ds : List Value), FnOk P w K mg base CX k f fd ps sp ∧ Binds K fd ps ds ∧ Vals dvs ds
  kp : PySem.W.keepIn K (.ref f) = true
  g : mg x = some (.ref f)
structure Met (P : Program) (w : World) (K : PySem.W.Frag) (mg : Str → Option Value) (base : Heap) (CX : CXT) (k : Nat) (C : Addr) (m : Str) (f : Addr) (sp : Sp) (dvs : List V) : Prop where
  ex : ∃ (fd : FuncData) (ps : List Str) (ds : List Value), FnOk P w K mg base CX k f fd ps sp ∧ Binds K fd ps ds ∧ Vals dvs ds
  cl : Cls K C
  mt : Meth K C m f
structure Mak (P : Program) (w : World) (K : PySem.W.Frag) (mg : Str → Option Value) (base : Heap) (CX : CXT) (k : Nat) (x : Str) (C f : Addr) (sp : Sp) (dvs : List V) : Prop where
  ex : ∃ (fd : FuncData) (ps : List Str) (ds : List Value), FnOk P w K mg base CX k f fd ps sp ∧ Binds K fd ps ds ∧ Vals dvs ds
  made : Mk K C f
  g : mg x = some (.ref C)
section
variable {P : Program} {w : World} {K : PySem.W.Frag} {mg : Str → Option Value} {base : Heap} {x qual : Str} {params : Arguments} {body : List Stmt} {scope : Scope} {f C : Addr} {fd : FuncData} {N ps : List Str} {k : Nat} {sp : Sp}
theorem fn0_of (F : FunD K x qual params body scope [] [] f fd) (S : FnScope N ps scope) (len : ∀ vs H Q E, sp vs H Q E → vs.length = ps.length)
    (bind : ∀ (kV doc pm : Value) (an : Option Addr) (cdv ct : Value) (us : List Value), us.length = ps.length → bindArgs (PySem.W.fnOf x qual params body scope .none kV doc pm an cdv ct) ⟨us, []⟩ = pure (ps.zip us))
    (hbody : ∀ (cdv : Value) (A : Around) (outer : List Env) (s : Shared) (H : Hp) (vs : List V) (Q : VK) (E : XK), Room k (A.deeper (envOfC qual scope s.heap.objs.size f cdv)) → sp vs H Q E →
      ∃ t, PSs (cxOf CX0 P w K mg base N qual scope f cdv A outer s H E).nox body t ∧ t { nx := fun _ H' => Q .non H', rt := Q } (start N vs) H) :
    ∃ (fd : FuncData) (ps : List Str) (ds : List Value), FnOk P w K mg base CX0 (k + 1) f fd ps sp ∧ Binds K fd ps ds ∧ Vals [] ds :=
  ⟨fd, ps, [], F.ok S len fun cdv A outer s H vs Q E hr h => by
    obtain ⟨t, h1, h2⟩ := hbody cdv A outer s H vs Q E hr h
    exact ⟨t, h1.nox, h2⟩, F.bindsN bind, .nil⟩
theorem fnX_of (F : FunD K x qual params body scope [] [] f fd) (S : FnScope N ps scope) (len : ∀ vs H Q E, sp vs H Q E → vs.length = ps.length)
    (bind : ∀ (kV doc pm : Value) (an : Option Addr) (cdv ct : Value) (us : List Value), us.length = ps.length → bindArgs (PySem.W.fnOf x qual params body scope .none kV doc pm an cdv ct) ⟨us, []⟩ = pure (ps.zip us))
    (hbody : ∀ (cdv : Value) (A : Around) (outer : List Env) (s : Shared) (H : Hp) (vs : List V) (Q : VK) (E : XK), Room k (A.deeper (envOfC qual scope s.heap.objs.size f cdv)) → sp vs H Q E →
      ∃ t, PSs (cxOf (L2.CX P w) P w K mg base N qual scope f cdv A outer s H E) body t ∧ t { nx := fun _ H' => Q .non H', rt := Q } (start N vs) H) :
    ∃ (fd : FuncData) (ps : List Str) (ds : List Value), FnOk P w K mg base (L2.CX P w) (k + 1) f fd ps sp ∧ Binds K fd ps ds ∧ Vals [] ds :=
  ⟨fd, ps, [], F.ok S len hbody, F.bindsN bind, .nil⟩
end
section
variable {X : Cx} {k j : Nat} {x : Str} {f C : Addr} {sp : Sp} {dvs : List V} {p pos apos : Pos} {e o : Expr} {es : List Expr} {t : TA} {ta : TE} {m : Str}
theorem pe_cal (c : Cal X.prog X.w X.K X.mg X.base CX0 k x f sp dvs) (hr : Room k X.A) (hg : Gl X x) (ha : PA X (e :: es) t) (hdb : (x == ("__debug__" : Str)) = false := by decide)
    (he : starEach (e :: es) X.env = (false, eval e X.env) :: starEach es X.env := by rfl) (hpl : (backTo pos (starEach es X.env)).any (·.1) = false := by rfl) : PE X (.Call (.Name x p) (e :: es) [] pos) (tCall sp dvs E0 t) := by
  obtain ⟨fd, ps, ds, h1, h2, h3⟩ := c.ex
  exact pe_call h1 hr hg c.g c.kp h2 h3 pass0 ha hdb he hpl
theorem pe_cal0 (c : Cal X.prog X.w X.K X.mg X.base CX0 k x f sp dvs) (hr : Room k X.A) (hg : Gl X x) (hdb : (x == ("__debug__" : Str)) = false := by decide) : PE X (.Call (.Name x p) [] [] pos) (tCall sp dvs E0 tNil) := by
  obtain ⟨fd, ps, ds, h1, h2, h3⟩ := c.ex
  exact pe_call0 h1 hr hg c.g c.kp h2 h3 pass0 hdb
theorem pe_mak (c : Mak X.prog X.w X.K X.mg X.base CX0 k x C f sp dvs) (hr : Room (k + 1) X.A) (hg : Gl X x) (ha : PA X (e :: es) t) (hdb : (x == ("__debug__" : Str)) = false := by decide)
    (he : starEach (e :: es) X.env = (false, eval e X.env) :: starEach es X.env := by rfl) (hpl : (backTo pos (starEach es X.env)).any (·.1) = false := by rfl) : PE X (.Call (.Name x p) (e :: es) [] pos) (tMake C sp dvs E0 t) := by
  obtain ⟨fd, ps, ds, h1, h2, h3⟩ := c.ex
  exact pe_make c.made h1 hr hg c.g h2 h3 pass0 ha hdb he hpl
theorem pe_met {pl : Sem Bool} (c : Met X.prog X.w X.K X.mg X.base CX0 k C m f sp dvs) (hr : Room k X.A) (he : PE X o ta) (ha : PA X (e :: es) t)
    (hst : starEach (e :: es) X.env = (false, eval e X.env) :: starEach es X.env := by rfl) (hpl : (backTo pos (starEach es X.env)).any (·.1) = false := by rfl)
    (ht : eval (.Call (.Attribute o m apos) (e :: es) [] pos) X.env = (do
      let ov ← eval o X.env
      standAt apos.atName
      let (f, first) ← holding [ov] (getMethod ov m pl)
      callWith pos f first (backTo pos (starEach (e :: es) X.env)) (backToKw pos (keywordEach [] X.env))) := by rfl) : PE X (.Call (.Attribute o m apos) (e :: es) [] pos) (tMeth C m sp dvs E0 ta t) := by
  obtain ⟨fd, ps, ds, h1, h2, h3⟩ := c.ex
  exact pe_meth he c.cl c.mt h1 hr h2 h3 pass0 ha hst hpl ht
theorem pe_met0 {pl : Sem Bool} (c : Met X.prog X.w X.K X.mg X.base CX0 k C m f sp dvs) (hr : Room k X.A) (he : PE X o ta)
    (ht : eval (.Call (.Attribute o m apos) [] [] pos) X.env = (do
      let ov ← eval o X.env
      standAt apos.atName
      let (f, first) ← holding [ov] (getMethod ov m pl)
      callWith pos f first (backTo pos (starEach [] X.env)) (backToKw pos (keywordEach [] X.env))) := by rfl) : PE X (.Call (.Attribute o m apos) [] [] pos) (tMeth C m sp dvs E0 ta tNil) := by
  obtain ⟨fd, ps, ds, h1, h2, h3⟩ := c.ex
  exact pe_meth0 he c.cl c.mt h1 hr h2 h3 pass0 ht
theorem pe_gi {x : Str} {i : Int} {pos : Pos} (hg : Gl X x) (h : ∃ t, X.mg x = some (.int i t)) (hd : (x == ("__debug__" : Str)) = false := by decide) : PE X (.Name x pos) (tC (.int i)) := by
  obtain ⟨t, e⟩ := h
  exact pe_glob hg e ⟨t, rfl⟩ hd
theorem pe_gs {x z : Str} {pos : Pos} (hg : Gl X x) (h : ∃ t, X.mg x = some (.str z t)) (hd : (x == ("__debug__" : Str)) = false := by decide) : PE X (.Name x pos) (tC (.str z)) := by
  obtain ⟨t, e⟩ := h
  exact pe_glob hg e ⟨t, rfl⟩ hd
end
theorem iteD {c A B : Prop} {_ : Decidable c} (h1 : c → A) (h2 : ¬ c → B) : if decide c = true then A else B := by
  by_cases h : c
  · rw [decide_eq_true h]; exact iteT (h1 h)
  · rw [decide_eq_false h]; exact iteF (h2 h)
theorem iteN {c A B : Prop} {_ : Decidable c} (h1 : ¬ c → A) (h2 : c → B) : if (!decide c) = true then A else B := by
  by_cases h : c
  · rw [decide_eq_true h]; exact iteF (h2 h)
  · rw [decide_eq_false h]; exact iteT (h1 h)
theorem huD {k : Nat} {A : Around} (hr : Room k A) : A.units + 1 < cLine := hu_of hr
theorem hu65 {k : Nat} {A : Around} (hr : Room k A) : A.units + 65 < cLine := by have := hr.un; omega
theorem bt_len : bootBuiltins "len" = some (.builtin "len") := by decide +kernel
theorem bt_isinstance : bootBuiltins "isinstance" = some (.builtin "isinstance") := by decide +kernel
theorem bt_all : bootBuiltins "all" = some (.builtin "all") := by decide +kernel
theorem bt_any : bootBuiltins "any" = some (.builtin "any") := by decide +kernel
theorem bt_sum : bootBuiltins "sum" = some (.builtin "sum") := by decide +kernel
theorem bt_min : bootBuiltins "min" = some (.builtin "min") := by decide +kernel
theorem bt_max : bootBuiltins "max" = some (.builtin "max") := by decide +kernel
theorem bt_sorted : bootBuiltins "sorted" = some (.builtin "sorted") := by decide +kernel
theorem bt_repr : bootBuiltins "repr" = some (.builtin "repr") := by decide +kernel
theorem bt_int : bootBuiltins "int" = some (.type "int") := by decide +kernel
theorem bt_bool : bootBuiltins "bool" = some (.type "bool") := by decide +kernel
theorem bt_str : bootBuiltins "str" = some (.type "str") := by decide +kernel
theorem bt_tuple : bootBuiltins "tuple" = some (.type "tuple") := by decide +kernel
theorem bt_list : bootBuiltins "list" = some (.type "list") := by decide +kernel
theorem bt_dict : bootBuiltins "dict" = some (.type "dict") := by decide +kernel
theorem bt_set : bootBuiltins "set" = some (.type "set") := by decide +kernel
theorem bt_ValueError : bootBuiltins "ValueError" = some (.type "ValueError") := by decide +kernel
end WD
namespace WD
open PySem PySem.Spec PyProof.Rows L2
section
variable {X : Cx} {e : Expr} {te : TE} {p apos cpos pos : Pos}
/-- list(e.values()) -/
def tListVals (te : TE) : TE := fun σ H Q => te σ H fun x H1 => ∃ (d : Addr) (kvs : List (Key × V)), x = .ref d ∧ H1 d = some (.dK kvs) ∧ ∀ q, H1 q = none → Q (.ref q) (upd H1 q (.lst (kvs.map (·.2))))
theorem pe_listVals (hc : X.calm = true) (hg : Gl X "list") (hm : X.mg "list" = none) (he : PE X e te) (hbase : attributeBase e "values" X.env (eval e X.env) = eval e X.env := by rfl) (hline : (apos.endLine == cpos.line) = true := by rfl)
    (hs : starEach [.Call (.Attribute e "values" apos) [] [] cpos] X.env = (false, eval (.Call (.Attribute e "values" apos) [] [] cpos) X.env) :: starEach [] X.env := by rfl) :
    PE X (.Call (.Name "list" p) [.Call (.Attribute e "values" apos) [] [] cpos] [] pos) (tListVals te) := by
  refine ⟨fun pins s σ H Q I hq => ?_⟩
  refine wpAny_Call_Name_kw (ld_blt I hg hm bt_list ?_)
  refine PyProof.Rows.callWith_type1 ?_ hs rfl
  rw [hs]
  show wpAny _ _ (spliced ((false, eval (.Call (.Attribute e "values" apos) [] [] cpos) X.env) :: backTo pos (starEach [] X.env))) _ _ s
  refine Calls.spliced_cons ?_
  refine wpAny_Call_method (T := "dict") (id := "dict.values") hbase rfl hline F.plainAttrs_dict F.slot_dict_values F.type_dict_values (thn (he.run pins s σ H _ I hq) fun u s1 ⟨x, H1, I1, rx, d, kvs, ex, hd, q⟩ => ?_)
  subst ex
  obtain rfl : u = Value.ref d := rx
  obtain ⟨hz, hs0, vs, kv, hdo⟩ := I1.hok d _ hd
  obtain ⟨ep, hat⟩ := hdo.dictAt
  have lk : kvs.length = vs.length := Paired.length kv
  have I2 : Inv X pins σ H1 { s1 with heap := s1.heap.push { cls := .type "dict_values", data := .fields #[.ref d] } } := I1.kept (t' := s1.toks) fun b ob q => Heap.get?_push_of_some _ q
  refine ⟨hdo.typeIs, hdo.mapOf.noDict, ?_⟩
  show wpAny _ _ (callWith cpos (.builtin "dict.values") [.ref d] [] []) _ X.xe s1
  refine method_meetsIn F.slot_dict_values F.entry_dict_values rfl (PySem.evalArgs_none ⟨rfl, hdo.typeIs, F.args_dict_values_1 _, _, meets_dict_values (mixKind X.prog X.w) d hs0, ⟨vs, hdo⟩, ?_⟩)
  refine Calls.spliced_nil ?_
  refine PySem.W.kdl_call (PySem.W.kdl_values (knd := mixKind X.prog X.w) (kvs := vs) (ep := ep)) (I1.ok.hd hc) ⟨⟨_, Heap.get?_push_size _ rfl, rfl, rfl⟩, hat.push _⟩ (by omega) fun h' tk acc c hkeep hS hacc => ?_
  refine ⟨.ref _, _, I2.laid hkeep (Nat.le_refl _) (show ObjOk X.prog X.w _ _ _ (.lst (kvs.map (·.2))) from ⟨by rw [List.length_map]; exact hz, acc.toList, c, ?_, by rw [Array.toArray_toList]; exact hS⟩), rfl, q _ (I2.hok.fresh (Nat.le_refl _))⟩
  have el : acc.toList.length = acc.size := by simp
  refine vals_of_at (by rw [List.length_map, el, hacc.1, lk]) fun j x w h1 h2 => ?_
  obtain ⟨k, hky⟩ := hacc.2 j w (by rw [← Array.getElem?_toList]; exact h2)
  rw [List.getElem?_map] at h1
  obtain ⟨kx, e1, e2⟩ := Option.map_eq_some_iff.mp h1
  obtain ⟨y, g1, g2, g3⟩ := LiI.paired_get kv e1
  rw [hky] at g1
  cases g1
  rw [← e2]
  exact g3
end
end WD
namespace WD
open PySem PySem.Spec PyProof.Rows L2

/-! ### houses: data -/
def SMALL : Str := "abcdefghijklmnopqrstuvwxyz"
def nameOk (z : Str) : Bool := decide (2 ≤ z.length) && (decide (z.length ≤ 8) && z.cps.toList.all fun c => decide (c ∈ SMALL.cps.toList))
abbrev Deed := Str × Int × List Int
def inR (n x : Int) : Bool := decide (0 ≤ x) && decide (x < n)
def rowOk (ns : List Int) (wide size : Int) : Bool := decide ((ns.length : Int) = wide) && ns.all (inR size)
def deedOk (d : Deed) (n : Int) : Bool := nameOk d.1 && (decide (0 ≤ d.2.1) && (decide (d.2.1 ≤ 3) && rowOk d.2.2 (n ^ d.2.1.toNat) n))
abbrev rD : Rl Deed := rP3 rS rI (rT rI)
abbrev Hs := Int × List Deed
def kvsOf : List Deed → List V → List (Key × V)
  | d :: ds, v :: vs => (Sum.inr d.1, v) :: kvsOf ds vs
  | _, _ => []
def rH (C : Addr) : Rl Hs := fun M H v h => ∃ a dx d vs, v = .ref a ∧ ¬ M a ∧ ¬ M dx ∧ ¬ M d ∧ H a = some (.ins C dx [("size", .int h.1), ("by_name", .ref d)]) ∧ H dx = some (.own a) ∧ H d = some (.dK (kvsOf h.2 vs)) ∧ All2 (rD M H) vs h.2
instance {C : Addr} : Rep (rH C) := ⟨fun f ⟨a, dx, d, vs, e, n1, n2, n3, h1, h2, h3, g⟩ => ⟨a, dx, d, vs, e, n1, n2, n3, f.keep _ _ n1 h1, f.keep _ _ n2 h2, f.keep _ _ n3 h3, g.imp fun _ _ x => Rep.st f x⟩,
  fun s ⟨a, dx, d, vs, e, n1, n2, n3, h1, h2, h3, g⟩ => ⟨a, dx, d, vs, e, fun z => n1 (s a z), fun z => n2 (s _ z), fun z => n3 (s _ z), h1, h2, h3, g.imp fun _ _ x => Rep.wk s x⟩,
  fun hD ⟨a, dx, d, vs, e, n1, n2, n3, h1, h2, h3, g⟩ => ⟨a, dx, d, vs, e, ad_ne h1 n1 hD, ad_ne h2 n2 hD, ad_ne h3 n3 hD, h1, h2, h3, g.imp fun _ _ x => Rep.ad hD x⟩⟩
/-- whether a value is a whole number -/
inductive Whole (K : PySem.W.Frag) (H : Hp) : V → Bool → Prop
  | int (i : Int) : Whole K H (.int i) true
  | bl (b : Bool) : Whole K H (.bl b) false
  | oth {v : V} {t : String} (h : TyX K H v (.type t)) (e : kitB t "int" = some false) : Whole K H v false
/-- whether a value is a thing of n -/
inductive Thing (K : PySem.W.Frag) (H : Hp) (n : Int) : V → Bool → Prop
  | int (i : Int) : Thing K H n (.int i) (inR n i)
  | bl (b : Bool) : Thing K H n (.bl b) false
  | oth {v : V} {t : String} (h : TyX K H v (.type t)) (e : kitB t "int" = some false) : Thing K H n v false
/-- a right house -/
structure HsOk (h : Hs) : Prop where
  lo : 1 ≤ h.1
  hi : h.1 ≤ 9
  few : h.2.length ≤ 6
  ok : ∀ d ∈ h.2, deedOk d h.1 = true
  nd : (h.2.map (·.1)).Nodup
theorem kvs_vals : ∀ {ds : List Deed} {vs : List V}, vs.length = ds.length → (kvsOf ds vs).map (·.2) = vs
  | [], [], _ => rfl
  | _ :: ds, v :: vs, h => by
    show v :: (kvsOf ds vs).map (·.2) = v :: vs
    rw [kvs_vals (Nat.succ.inj h)]
  | [], _ :: _, h => by cases h
  | _ :: _, [], h => by cases h
theorem kvs_len : ∀ {ds : List Deed} {vs : List V}, vs.length = ds.length → (kvsOf ds vs).length = ds.length
  | [], [], _ => rfl
  | _ :: ds, v :: vs, h => congrArg Nat.succ (kvs_len (Nat.succ.inj h))
  | [], _ :: _, h => by cases h
  | _ :: _, [], h => by cases h
theorem kvs_snoc {d : Deed} {v : V} : ∀ {ds : List Deed} {vs : List V}, vs.length = ds.length → kvsOf (ds ++ [d]) (vs ++ [v]) = kvsOf ds vs ++ [(Sum.inr d.1, v)]
  | [], [], _ => rfl
  | e :: ds, u :: vs, h => by
    show (Sum.inr e.1, u) :: kvsOf (ds ++ [d]) (vs ++ [v]) = (Sum.inr e.1, u) :: (kvsOf ds vs ++ [(Sum.inr d.1, v)])
    rw [kvs_snoc (Nat.succ.inj h)]
  | [], _ :: _, h => by cases h
  | _ :: _, [], h => by cases h
theorem kvs_none {z : Str} : ∀ {ds : List Deed} {vs : List V}, z ∉ ds.map (·.1) → valV (kvsOf ds vs) (Sum.inr z) = none
  | [], _, _ => rfl
  | _ :: _, [], _ => rfl
  | d :: ds, v :: vs, h => by
    have h1 : ¬ ((Sum.inr d.1 : Key) = Sum.inr z) := fun e => h (List.mem_cons.mpr (.inl (Sum.inr.inj e).symm))
    show valV ((Sum.inr d.1, v) :: kvsOf ds vs) (Sum.inr z) = none
    rw [valV_neg h1]
    exact kvs_none fun m => h (List.mem_cons_of_mem _ m)
theorem kvs_some {z : Str} : ∀ {ds : List Deed} {vs : List V}, vs.length = ds.length → z ∈ ds.map (·.1) → ∃ (i : Nat) (d : Deed) (v : V), ds[i]? = some d ∧ vs[i]? = some v ∧ d.1 = z ∧ valV (kvsOf ds vs) (Sum.inr z) = some v
  | [], _, _, h => by simp at h
  | _ :: _, [], h, _ => by cases h
  | d :: ds, v :: vs, l, h => by
    by_cases e : d.1 = z
    · exact ⟨0, d, v, rfl, rfl, e, valV_pos (p := ((Sum.inr d.1 : Key), v)) (by rw [e])⟩
    · have h2 : z ∈ ds.map (·.1) := (List.mem_cons.mp h).elim (fun q => absurd q.symm e) id
      obtain ⟨i, d', v', h3, h4, h5, h6⟩ := kvs_some (Nat.succ.inj l) h2
      refine ⟨i + 1, d', v', h3, h4, h5, ?_⟩
      show valV ((Sum.inr d.1, v) :: kvsOf ds vs) (Sum.inr z) = some v'
      rw [valV_neg (fun q => e (Sum.inr.inj q))]
      exact h6
theorem put_none {kvs : List (Key × V)} {k : Key} {v : V} (h : valV kvs k = none) : putK kvs k v = kvs ++ [(k, v)] := by
  unfold putK
  rw [valV_any, h]
  rfl
/-- what a deed's size tells -/
theorem deedOk_name {d : Deed} {n : Int} (h : deedOk d n = true) : nameOk d.1 = true ∧ 0 ≤ d.2.1 ∧ d.2.1 ≤ 3 ∧ rowOk d.2.2 (n ^ d.2.1.toNat) n = true := by
  unfold deedOk at h
  simp only [Bool.and_eq_true, decide_eq_true_eq] at h
  exact ⟨h.1, h.2.1, h.2.2.1, h.2.2.2⟩
theorem nameOk_len {z : Str} (h : nameOk z = true) : z.length ≤ 8 := by
  unfold nameOk at h
  simp only [Bool.and_eq_true, decide_eq_true_eq] at h
  exact h.2.1
theorem rowOk_len {ns : List Int} {m n : Int} (h : rowOk ns m n = true) : (ns.length : Int) = m := by
  unfold rowOk at h
  simp only [Bool.and_eq_true, decide_eq_true_eq] at h
  exact h.1
theorem pow_le3 {n : Int} {k : Nat} (h1 : 1 ≤ n) (h9 : n ≤ 9) (hk : k ≤ 3) : n ^ k ≤ 729 := by
  have h : k = 0 ∨ k = 1 ∨ k = 2 ∨ k = 3 := by omega
  have hc : n = 1 ∨ n = 2 ∨ n = 3 ∨ n = 4 ∨ n = 5 ∨ n = 6 ∨ n = 7 ∨ n = 8 ∨ n = 9 := by omega
  rcases hc with e | e | e | e | e | e | e | e | e <;> subst e <;> (rcases h with e | e | e | e <;> subst e <;> decide)
theorem HsOk.deed {h : Hs} (k : HsOk h) {d : Deed} (m : d ∈ h.2) : d.1.length ≤ 8 ∧ d.2.2.length ≤ 729 ∧ 0 ≤ d.2.1 ∧ d.2.1 ≤ 3 := by
  obtain ⟨h1, h2, h3, h4⟩ := deedOk_name (k.ok d m)
  have e := rowOk_len h4
  have := pow_le3 (k := d.2.1.toNat) k.lo k.hi (by omega)
  exact ⟨nameOk_len h1, by omega, h2, h3⟩
/-- House(size, deeds), where it is one -/
def spHouse (C : Addr) : Sp := fun vs H Q _ => ∃ (M : MS) (x dx l : Addr) (n : Int) (ds : List Deed) (dvs : List V), vs = [.ref x, .int n, .ref l] ∧ H x = some (.ins C dx []) ∧ H dx = some (.own x) ∧ H l = some (.lst dvs) ∧ All2 (rD M H) dvs ds ∧ HsOk (n, ds) ∧ MIn M H ∧ ¬ M x ∧
  ∀ (H' : Hp) (d : Addr), Fr (only x) H H' → H d = none → H' x = some (.ins C dx [("size", .int n), ("by_name", .ref d)]) → H' d = some (.dK (kvsOf ds dvs)) → Q .non H'
theorem make_house {C : Addr} {M : MS} {H : Hp} {v : V} {n : Int} {ds : List Deed} {Q : Addr → Hp → Prop} {E : XK} (hM : MIn M H) (hl : rL rD M H v ds) (hk : HsOk (n, ds)) (k : ∀ (a : Addr) (H' : Hp), H a = none → Fr M0 H H' → rH C M H' (.ref a) (n, ds) → Q a H') :
    ∀ x dx, H x = none → H dx = none → dx ≠ x → spHouse C (.ref x :: ([.int n, v] ++ [])) (upd (upd H dx (.own x)) x (.ins C dx [])) (fun u H2 => u = .non ∧ Q x H2) E := by
  intro x dx nx ndx nex
  obtain ⟨l, dvs, rfl, nl, hl1, hl2⟩ := hl
  have f1 : Fr M0 H (upd (upd H dx (.own x)) x (.ins C dx [])) := (Fr.new ndx).mutNew nx
  have e1 : (upd (upd H dx (.own x)) x (.ins C dx [])) dx = some (.own x) := by rw [upd_ne nex, upd_same]
  refine ⟨M, x, dx, l, n, ds, dvs, rfl, upd_same, e1, f1.keep _ _ (fun z => z) hl1, hl2.imp fun _ _ z => Rep.st (f1.mono fun _ z => z.elim) z, hk, hM.to f1, hM.no nx, fun H' d f hd h1 h2 => ⟨rfl, ?_⟩⟩
  have nd : H d = none := f1.dom d hd
  have f2 : Fr M0 H H' := ⟨fun a o _ e => f.keep a o (fun z => by rw [show a = x from z, nx] at e; cases e) (f1.keep a o (fun z => z) e), fun a e => f1.dom a (f.dom a e)⟩
  refine k x H' nx f2 ⟨x, dx, d, dvs, rfl, hM.no nx, hM.no ndx, hM.no nd, h1, f.keep _ _ nex e1, h2, ?_⟩
  exact hl2.imp fun _ _ z => Rep.st (f2.mono fun _ z => z.elim) z
theorem nodup_of_map {α β : Type} {f : α → β} : ∀ {l : List α}, (l.map f).Nodup → l.Nodup
  | [], _ => List.nodup_nil
  | a :: l, h => by
    rw [List.map_cons, List.nodup_cons] at h
    exact List.nodup_cons.mpr ⟨fun m => h.1 (List.mem_map_of_mem m), nodup_of_map h.2⟩
def hdOf (d : Deed) : Str × Int := (d.1, d.2.1)
end WD
/-! rules with the written part named: within a comprehension's block the reading must not hang on the block -/
namespace WD
open PySem PySem.Spec PyProof.Rows L2
section
variable {X : Cx} (K : PySem.W.Frag)

theorem k_ix_list  (h : X.K = K := by rfl) : IxR X (rIxL K) := by
  subst h
  exact ix_list 
theorem k_ix_tup  (h : X.K = K := by rfl) : IxR X (rIxT K) := by
  subst h
  exact ix_tup 
theorem k_sl_list  (h : X.K = K := by rfl) : SlR X (rSlL K) := by
  subst h
  exact sl_list 
theorem k_sl_tupA  (h : X.K = K := by rfl) : SlR X (rSlA K) := by
  subst h
  exact sl_tupA 
theorem k_op_catA  (h : X.K = K := by rfl) : OpR X (binaryOp .Add) (rCatA K) := by
  subst h
  exact op_catA 
theorem k_op_catL  (h : X.K = K := by rfl) : OpR X (binaryOp .Add) (rCatL K) := by
  subst h
  exact op_catL 
theorem k_op_eqD (hu : X.A.units + 64 < cLine) (h : X.K = K := by rfl) : OpR X (compareOp .Eq) (rEqD K) := by
  subst h
  exact op_eqD hu
theorem k_op_neD (hu : X.A.units + 64 < cLine) (h : X.K = K := by rfl) : OpR X (compareOp .NotEq) (rNeD K) := by
  subst h
  exact op_neD hu
theorem k_op_inD (hu : X.A.units + 65 < cLine) (h : X.K = K := by rfl) : OpR X (compareOp .In) (rInD K) := by
  subst h
  exact op_inD hu
theorem k_op_notInD (hu : X.A.units + 65 < cLine) (h : X.K = K := by rfl) : OpR X (compareOp .NotIn) (rNotInD K) := by
  subst h
  exact op_notInD hu
theorem k_op_in_seq  (h : X.K = K := by rfl) : OpR X (compareOp .In) (rIn K false) := by
  subst h
  exact op_in_seq 
theorem k_op_notIn_seq  (h : X.K = K := by rfl) : OpR X (compareOp .NotIn) (rIn K true) := by
  subst h
  exact op_notIn_seq 
theorem k_op_ltT (hu : X.A.units < cLine) (h : X.K = K := by rfl) : OpR X (compareOp .Lt) (rLtT K) := by
  subst h
  exact op_ltT hu
theorem k_cr_all (hc : X.calm = true) (h : X.K = K := by rfl) : CallR X (.builtin "all") (rAll K) := by
  subst h
  exact cr_all hc
theorem k_cr_any (hc : X.calm = true) (h : X.K = K := by rfl) : CallR X (.builtin "any") (rAny K) := by
  subst h
  exact cr_any hc
theorem k_cr_sum (hc : X.calm = true) (h : X.K = K := by rfl) : CallR X (.builtin "sum") (rSum K) := by
  subst h
  exact cr_sum hc
theorem k_cr_min (hc : X.calm = true) (h : X.K = K := by rfl) : CallR X (.builtin "min") (rMin K) := by
  subst h
  exact cr_min hc
theorem k_cr_max (hc : X.calm = true) (h : X.K = K := by rfl) : CallR X (.builtin "max") (rMax K) := by
  subst h
  exact cr_max hc
theorem k_cr_sumT (hc : X.calm = true) (h : X.K = K := by rfl) : CallR X (.builtin "sum") (rSumT K) := by
  subst h
  exact cr_sumT hc
theorem k_cr_minT (hc : X.calm = true) (hu : X.A.units + 1 < cLine) (h : X.K = K := by rfl) : CallR X (.builtin "min") (rOneT K) := by
  subst h
  exact cr_minT hc hu
theorem k_cr_maxT (hc : X.calm = true) (hu : X.A.units + 1 < cLine) (h : X.K = K := by rfl) : CallR X (.builtin "max") (rOneT K) := by
  subst h
  exact cr_maxT hc hu
theorem k_call_isi  (h : X.K = K := by rfl) : CallR X (.builtin "isinstance") (rIsi K) := by
  subst h
  exact call_isi 
theorem k_call_isiT  (h : X.K = K := by rfl) : CallR X (.builtin "isinstance") (rIsiT K) := by
  subst h
  exact call_isiT 
theorem k_mt_index  (h : X.K = K := by rfl) : MtR X "list.index" (rIndex K) := by
  subst h
  exact mt_index 
theorem k_mt_indexD (hu : X.A.units + 65 < cLine) (h : X.K = K := by rfl) : MtR X "list.index" (rIndexD K) := by
  subst h
  exact mt_indexD hu
theorem k_call_len_seq  (h : X.K = K := by rfl) : CallR X (.builtin "len") (fun xs H Q => ∃ p ys, xs = [.ref p] ∧ (SqL K H p ys ∨ SqT K H p ys) ∧ Q (.int ys.length) H) := by
  subst h
  exact call_len_seq 
theorem k_call_list_of  (h : X.K = K := by rfl) : CallR X (.type "list") (fun xs H Q => ∃ p ys, xs = [.ref p] ∧ (SqL K H p ys ∨ SqT K H p ys) ∧ ∀ l, H l = none → Q (.ref l) (upd H l (.lst ys))) := by
  subst h
  exact call_list_of 
theorem k_call_dictP (hc : X.calm = true) (h : X.K = K := by rfl) : CallR X (.type "dict") (fun xs H Q => ∃ (a : Addr) (ps : List Addr) (kvs : List (Key × V)), xs = [.ref a] ∧ SqL K H a (ps.map V.ref) ∧ Paired (fun p kv => SqT K H p [kV kv.1, kv.2]) ps kvs ∧ ∀ p, H p = none → Q (.ref p) (upd H p (.dK (mergeK [] kvs)))) := by
  subst h
  exact call_dictP hc

variable {tg l e o : Expr} {es elts : List Expr} {tl te to ta : TE} {t : TA} {p pos apos cpos tpos : Pos} {kk n : Nat} {ts : TGs} {f : Str}
theorem k_pi_list (hl : PE X l tl) (h : X.K = K := by rfl) : PI X tg l (iList K tl) := by subst h; exact pi_list hl
theorem k_pi_tup (hl : PE X l tl) (h : X.K = K := by rfl) : PI X tg l (iTup K tl) := by subst h; exact pi_tup hl
theorem k_pi_enum (hg : Gl X "enumerate") (hm : X.mg "enumerate" = none) (ha : PA X [e] t) (hs : starEach [e] X.env = [(false, eval e X.env)] := by rfl) (h : X.K = K := by rfl) :
    PI X (.Tuple elts kk tpos) (.Call (.Name "enumerate" p) [e] [] pos) (iEnum K t) := by subst h; exact pi_enum hg hm ha hs
theorem k_pi_zipA {e2 : Expr} (hg : Gl X "zip") (hm : X.mg "zip" = none) (ha : PA X [e, e2] t)
    (hs : starEach [e, e2] X.env = (false, eval e X.env) :: starEach [e2] X.env := by rfl) (hpl : (backTo pos (starEach [e2] X.env)).any (·.1) = false := by rfl) (h : X.K = K := by rfl) :
    PI X (.Tuple elts kk tpos) (.Call (.Name "zip" p) [e, e2] [] pos) (RZ.iZipA K t) := by subst h; exact RZ.pi_zipA hg hm ha hs hpl
theorem k_pe_fld (he : PE X e ta) (hb : attributeBase e f X.env (eval e X.env) = eval e X.env := by rfl) (h : X.K = K := by rfl) : PE X (.Attribute e f pos) (tFld K ta f) := by subst h; exact pe_fld he hb
theorem k_ps_fld {value : Expr} {tv : TE} {pos' : Pos} (ha : PE X o ta) (hv : PE X value tv) (hs : swapsWith value (some (.Attribute o f pos')) pos.line X.env = pure false := by rfl) (h : X.K = K := by rfl) : PS X (.Assign [.Attribute o f pos'] value pos) (sFld K ta tv f) := by subst h; exact ps_fld ha hv hs
theorem k_pg_tup (hc : X.calm = true) (hp : PGs X es ts) (hn : (assignEach es X.env).length = n := by rfl) (hst : (assignEach es X.env).findIdx? (·.1) = none := by rfl) (h : X.K = K := by rfl) : PG X (.Tuple es kk pos) (gTup K n ts) := by subst h; exact pg_tup hc hp hn hst
theorem k_pe_tupleOf (hg : Gl X "tuple") (hm : X.mg "tuple" = none) (ha : PE X e ta) (na : starEach [e] X.env = (false, eval e X.env) :: starEach [] X.env := by rfl) (h : X.K = K := by rfl) :
    PE X (.Call (.Name "tuple" p) [e] [] pos) (tThen ta (kTup K)) := by subst h; exact pe_tupleOf hg hm ha na
theorem k_pe_bm0 {T : String} {name : Str} {id : String} {r : V → List V → Hp → VK → Prop} (pa : PlainAttrs T) (slot : Slot T name id) (hty : typeOf (.builtin id) = pure (.type "method_descriptor")) (hm : MtR X id r) (ho : PE X o to)
    (hbase : attributeBase o name X.env (eval o X.env) = eval o X.env := by rfl) (hline : (apos.endLine == cpos.line) = true := by rfl) (h : X.K = K := by rfl) : PE X (.Call (.Attribute o name apos) [] [] cpos) (tBM0 K T r to) := by subst h; exact pe_bm0 pa slot hty hm ho hbase hline
theorem k_pe_bm {T : String} {name : Str} {id : String} {r : V → List V → Hp → VK → Prop} (pa : PlainAttrs T) (slot : Slot T name id) (hty : typeOf (.builtin id) = pure (.type "method_descriptor")) (hm : MtR X id r) (ho : PE X o to) (ha : PA X (e :: es) t)
    (hbase : attributeBase o name X.env (eval o X.env) = eval o X.env := by rfl)
    (hfew : ((backTo cpos (starEach (e :: es) X.env)).all (fun x => !x.1) && (backToKw cpos (keywordEach [] X.env)).all (fun x => x.1.isSome)
      && decide ((e :: es).length + ([] : List Keyword).length + (if ([] : List Keyword).isEmpty then 0 else 1) < 30)) = true := by rfl)
    (hline : (apos.endLine == cpos.line) = true := by rfl) (hs : starEach (e :: es) X.env = (false, eval e X.env) :: starEach es X.env := by rfl) (hplain : (backTo cpos (starEach es X.env)).any (·.1) = false := by rfl) (h : X.K = K := by rfl) :
    PE X (.Call (.Attribute o name apos) (e :: es) [] cpos) (tBM K T r to t) := by subst h; exact pe_bm pa slot hty hm ho ha hbase hfew hline hs hplain
/-- sep.join(xs) -/
def rJoin (K : PySem.W.Frag) : V → List V → Hp → VK → Prop := fun x xs H Q => ∃ a p, ∃ ys : List Str, x = .str a ∧ xs = [.ref p] ∧ (SqL K H p (ys.map V.str) ∨ SqT K H p (ys.map V.str)) ∧ (ys.map (·.length)).sum + ys.length * a.length ≤ 16777216 ∧ Q (.str (Txt.join a ys)) H
theorem k_pe_join (ho : PE X o to) (he : PE X e te) (hs : starEach [e] X.env = [(false, eval e X.env)] := by rfl) (hbase : attributeBase o "join" X.env (eval o X.env) = eval o X.env := by rfl) (hline : (apos.endLine == pos.line) = true := by rfl) (h : X.K = K := by rfl) :
    PE X (.Call (.Attribute o "join" apos) [e] [] pos) (tM1 (rJoin K) to te) := by subst h; exact pe_join ho he hs hbase hline
end
end WD
namespace WD
open PySem PySem.Spec PyProof.Rows L2
theorem ext_tl {x y : Str} (h : TL.tl x = TL.tl y) : x = y := TL.ext_tl h
theorem joinL_nil : ∀ ys : List (List Nat), TL.joinL [] ys = ys.flatten
  | [] => rfl
  | [p] => by show p = p ++ []; rw [List.append_nil]
  | p :: q :: r => by
    show p ++ ([] ++ TL.joinL [] (q :: r)) = p ++ (q :: r).flatten
    rw [joinL_nil (q :: r)]; rfl
theorem flat_one (l : List Nat) : (l.map fun c => [c]).flatten = l := by
  induction l with
  | nil => rfl
  | cons a l ih =>
    show a :: (l.map fun c => [c]).flatten = a :: l
    rw [ih]
theorem join_chars (l : List Nat) : Txt.join (Str.ofString "") (l.map fun c => (⟨#[c]⟩ : Str)) = ⟨l.toArray⟩ := by
  have e := SX.join_S [] (l.map fun c => [c])
  rw [List.map_map, joinL_nil, flat_one] at e
  exact e
def lets : List Nat := TL.tl SMALL
theorem lets_len : lets.length = 26 := by decide +kernel
theorem lets_nd : lets.Nodup := by decide +kernel
theorem lets_ok : ∀ c ∈ lets, c < 0x110000 := by decide +kernel
theorem small_len : SMALL.length = 26 := by decide +kernel
def mkName (s : List Nat) (at_ : Nat) (c : Nat) : Str := ⟨(s.take at_ ++ ([c] ++ s.drop at_)).toArray⟩
theorem strOk_of {z : Str} (h : ∀ c ∈ TL.tl z, c ∈ lets) : PyData.strOk z = true := by
  unfold PyData.strOk
  rw [← Array.all_toList, List.all_eq_true]
  intro c hc
  exact decide_eq_true (lets_ok c (h c hc))
theorem nameOk_of {z : Str} (h1 : 2 ≤ z.length) (h2 : z.length ≤ 8) (h : ∀ c ∈ TL.tl z, c ∈ lets) : nameOk z = true := by
  unfold nameOk
  rw [decide_eq_true h1, decide_eq_true h2]
  show ((TL.tl z).all fun c => decide (c ∈ lets)) = true
  exact List.all_eq_true.mpr fun c hc => decide_eq_true (h c hc)
theorem nameOk_str {z : Str} (h : nameOk z = true) : PyData.strOk z = true := by
  unfold nameOk at h
  simp only [Bool.and_eq_true] at h
  refine strOk_of fun c hc => ?_
  exact of_decide_eq_true (List.all_eq_true.mp h.2.2 c hc)
theorem mk_tl (s : List Nat) (a c : Nat) : TL.tl (mkName s a c) = s.take a ++ ([c] ++ s.drop a) := rfl
theorem mk_len (s : List Nat) (a c : Nat) : (mkName s a c).length = s.length + 1 := by
  show (s.take a ++ ([c] ++ s.drop a)).toArray.size = s.length + 1
  simp; omega
theorem mk_ok {s : List Nat} {a c : Nat} (h1 : 1 ≤ s.length) (h2 : s.length ≤ 7) (hs : ∀ x ∈ s, x ∈ lets) (hc : c ∈ lets) : nameOk (mkName s a c) = true := by
  refine nameOk_of (by rw [mk_len]; omega) (by rw [mk_len]; omega) fun x hx => ?_
  rw [mk_tl] at hx
  rcases List.mem_append.mp hx with h | h
  · exact hs x (List.mem_of_mem_take h)
  · rcases List.mem_append.mp h with h | h
    · rw [List.mem_singleton.mp h]; exact hc
    · exact hs x (List.mem_of_mem_drop h)
theorem mk_inj {s : List Nat} {a c d : Nat} (ha : a ≤ s.length) (h : mkName s a c = mkName s a d) : c = d := by
  have e : TL.tl (mkName s a c) = TL.tl (mkName s a d) := by rw [h]
  rw [mk_tl, mk_tl] at e
  have e2 := List.append_cancel_left e
  exact (List.cons.inj e2).1
theorem cutS_take (l : List Nat) (n : Nat) (h : n ≤ l.length) : cutS ⟨l.toArray⟩ none (some (n : Int)) = ⟨(l.take n).toArray⟩ := by
  have hsl : (⟨l.toArray⟩ : Str).length = l.length := by simp [Str.length]
  refine TL.ext_tl ?_
  show (l.drop (HT.sIx _ 0 none)).take _ = l.take n
  rw [HT.sIx_none, hsl, HT.sIx_nat, Nat.min_eq_left h]
  rfl
theorem cutS_drop (l : List Nat) (n : Nat) (h : n ≤ l.length) : cutS ⟨l.toArray⟩ (some (n : Int)) none = ⟨(l.drop n).toArray⟩ := by
  have hsl : (⟨l.toArray⟩ : Str).length = l.length := by simp [Str.length]
  refine TL.ext_tl ?_
  show (l.drop (HT.sIx _ 0 (some (n : Int)))).take (HT.sIx _ _ none - _) = l.drop n
  rw [HT.sIx_none, hsl, HT.sIx_nat, Nat.min_eq_left h]
  exact List.take_of_length_le (by rw [List.length_drop]; exact Nat.le_refl _)
theorem S_len (l : List Nat) : (⟨l.toArray⟩ : Str).length = l.length := by simp [Str.length]
/-- the names: c i by the letters' numbers -/
def letAt (i : Int) : Nat := lets.getD i.toNat 0
theorem letAt_mem {i : Int} (h0 : 0 ≤ i) (h1 : i < 26) : letAt i ∈ lets := by
  unfold letAt
  have hl := lets_len
  have : i.toNat < lets.length := by omega
  rw [List.getD_eq_getElem?_getD, List.getElem?_eq_getElem this]
  exact List.getElem_mem _
theorem letAt_inj {i j : Int} (h0 : 0 ≤ i) (h1 : i < 26) (g0 : 0 ≤ j) (g1 : j < 26) (e : letAt i = letAt j) : i = j := by
  unfold letAt at e
  have hl := lets_len
  have hi : i.toNat < lets.length := by omega
  have hj : j.toNat < lets.length := by omega
  rw [List.getD_eq_getElem?_getD, List.getElem?_eq_getElem hi, List.getD_eq_getElem?_getD, List.getElem?_eq_getElem hj] at e
  have := (List.getElem_inj lets_nd).mp e
  omega
theorem at_small {i : Int} (h0 : 0 ≤ i) (h1 : i < 26) : atI (TL.tl SMALL) i = some (letAt i) := by
  have hl := lets_len
  have hi : i.toNat < lets.length := by omega
  have e : i = ((i.toNat : Nat) : Int) := by omega
  have : (TL.tl SMALL)[i.toNat]? = some (letAt i) := by
    unfold letAt
    rw [List.getD_eq_getElem?_getD, show lets = TL.tl SMALL from rfl]
    have hi2 : i.toNat < (TL.tl SMALL).length := hi
    rw [List.getElem?_eq_getElem hi2]; rfl
  rw [e]
  exact atI_nat this
def namesOf (s : List Nat) (a : Nat) (f : Int) (m : Nat) : List Str := (List.range m).map fun (k : Nat) => mkName s a (letAt ((f + 5 * (k : Int)) % 26))
theorem namesOf_nd {s : List Nat} {a : Nat} {f : Int} {m : Nat} (ha : a ≤ s.length) (hm : m ≤ 26) : (namesOf s a f m).Nodup := by
  unfold namesOf
  rw [List.nodup_iff_pairwise_ne, List.pairwise_map]
  refine List.Pairwise.imp_of_mem (R := fun i j => i ≠ j) (fun {i j} hi hj hne e => ?_) (List.nodup_iff_pairwise_ne.mp List.nodup_range)
  have hi := List.mem_range.mp hi
  have hj := List.mem_range.mp hj
  have e2 := letAt_inj (by omega) (by omega) (by omega) (by omega) (mk_inj ha e)
  omega
theorem namesOf_ok {s : List Nat} {a : Nat} {f : Int} {m : Nat} (h1 : 1 ≤ s.length) (h2 : s.length ≤ 7) (hs : ∀ x ∈ s, x ∈ lets) : ∀ z ∈ namesOf s a f m, nameOk z = true := fun z hz => by
  obtain ⟨k, _, rfl⟩ := List.mem_map.mp hz
  exact mk_ok h1 h2 hs (letAt_mem (by omega) (by omega))
theorem atI_ok {α : Type} {xs : List α} {i : Int} (h0 : 0 ≤ i) (h : i.toNat < xs.length) : atI xs i = some (xs[i.toNat]'h) := by
  have e : atI xs ((i.toNat : Nat) : Int) = some (xs[i.toNat]'h) := atI_nat (List.getElem?_eq_getElem h)
  rw [show ((i.toNat : Nat) : Int) = i by omega] at e
  exact e
theorem atI_int {l : List Int} {i : Int} (h0 : 0 ≤ i) (h : i.toNat < l.length) : atI (l.map V.int) i = some (.int (l[i.toNat]'h)) := by
  rw [atI_ok h0 (by rw [List.length_map]; exact h), List.getElem_map]
/-! ### tuples put together, all rows -/
theorem catT {α : Type} {R : Rl α} [Rep R] {K : PySem.W.Frag} {M : MS} {H : Hp} {x y : V} {l l2 : List α} {Q : VK} (hM : MIn M H) (h1 : rT R M H x l) (h2 : rT R M H y l2) (hz : l.length + l2.length ≤ sizeLine)
    (k : ∀ v H', Fr M0 H H' → rT R M H' v (l ++ l2) → Q v H') : rCatA K x y H Q := by
  obtain ⟨a, vs, rfl, na, ha, al⟩ := h1
  obtain ⟨b, ws, rfl, nb, hb, bl⟩ := h2
  have e1 := al.len
  have e2 := bl.len
  refine ⟨a, b, vs, ws, rfl, rfl, SqT.of ha, SqT.of hb, by omega, fun e => ?_, fun _ e => ?_, fun _ _ p hp => ?_⟩
  · subst e
    have : l = [] := List.length_eq_zero_iff.mp e1.symm
    subst this
    exact k _ _ (Fr.refl _) ⟨b, ws, rfl, nb, hb, bl⟩
  · subst e
    have : l2 = [] := List.length_eq_zero_iff.mp e2.symm
    subst this
    exact k _ _ (Fr.refl _) ⟨a, vs, rfl, na, ha, by rw [List.append_nil]; exact al⟩
  · refine k _ _ (Fr.new hp) ⟨p, vs ++ ws, rfl, hM.no hp, upd_same, ?_⟩
    exact (al.imp fun _ _ z => Rep.st (Fr.new hp) z).app (bl.imp fun _ _ z => Rep.st (Fr.new hp) z)
theorem tup1 {α : Type} {R : Rl α} [Rep R] {M : MS} {H : Hp} {p : Addr} {v : V} {a : α} (hM : MIn M H) (hp : H p = none) (h : R M H v a) : rT R M (upd H p (.tup [v])) (.ref p) [a] :=
  ⟨p, [v], rfl, hM.no hp, upd_same, All2.one (Rep.st (Fr.new hp) h)⟩
def nexts (s : Nat) (r : List Int) : List (List Int) := (List.range s).map fun (i : Nat) => r ++ [(i : Int)]
def allRows (s : Nat) : Nat → List (List Int)
  | 0 => [[]]
  | p + 1 => (allRows s p).flatMap (nexts s)
theorem flat_len {β γ : Type} {g : β → List γ} {m : Nat} (h : ∀ b, (g b).length = m) : ∀ l : List β, (l.flatMap g).length = l.length * m
  | [] => by simp
  | b :: l => by
    rw [List.flatMap_cons, List.length_append, h b, flat_len h l, List.length_cons, Nat.succ_mul]
    omega
theorem nexts_len (s : Nat) (r : List Int) : (nexts s r).length = s := by simp [nexts]
theorem allRows_len (s : Nat) : ∀ p, (allRows s p).length = s ^ p
  | 0 => rfl
  | p + 1 => by
    show ((allRows s p).flatMap (nexts s)).length = s ^ (p + 1)
    rw [flat_len (nexts_len s), allRows_len s p, Nat.pow_succ]
theorem allRows_row {s : Nat} : ∀ {p : Nat} {r : List Int}, r ∈ allRows s p → r.length = p ∧ ∀ x ∈ r, 0 ≤ x ∧ x < s
  | 0, r, h => by
    rw [List.mem_singleton.mp h]
    exact ⟨rfl, fun x hx => by cases hx⟩
  | p + 1, r, h => by
    obtain ⟨q, hq, hr⟩ := List.mem_flatMap.mp h
    obtain ⟨i, hi, rfl⟩ := List.mem_map.mp hr
    obtain ⟨h1, h2⟩ := allRows_row hq
    refine ⟨by rw [List.length_append, h1]; rfl, fun x hx => ?_⟩
    rcases List.mem_append.mp hx with z | z
    · exact h2 x z
    · rw [List.mem_singleton.mp z]
      have := List.mem_range.mp hi
      omega
theorem flat_snoc {β γ : Type} (g : β → List γ) (l : List β) (b : β) : (l ++ [b]).flatMap g = l.flatMap g ++ g b := by
  rw [List.flatMap_append]
  simp
/-! ### slices of lists -/
def cutL {α : Type} (xs : List α) (lo hi : Option Int) : List α := (xs.drop (HT.sIx xs.length 0 lo)).take (HT.sIx xs.length xs.length hi - HT.sIx xs.length 0 lo)
theorem All2.cut {α : Type} {R : V → α → Prop} {vs : List V} {l : List α} (h : All2 R vs l) (lo hi : Option Int) : All2 R (cutV vs lo hi) (cutL l lo hi) := by
  unfold cutV cutL
  rw [h.len]
  exact (h.drop _).take _
theorem cutL_take {α : Type} (l : List α) (n : Nat) : cutL l none (some (n : Int)) = l.take n := by
  unfold cutL
  rw [HT.sIx_none, HT.sIx_nat, List.drop_zero, Nat.sub_zero]
  by_cases h : n ≤ l.length
  · rw [Nat.min_eq_left h]
  · rw [Nat.min_eq_right (by omega), List.take_of_length_le (Nat.le_refl _), List.take_of_length_le (by omega)]
theorem cutL_drop {α : Type} (l : List α) (n : Nat) : cutL l (some (n : Int)) none = l.drop n := by
  unfold cutL
  rw [HT.sIx_none, HT.sIx_nat]
  by_cases h : n ≤ l.length
  · rw [Nat.min_eq_left h]
    exact List.take_of_length_le (by rw [List.length_drop]; exact Nat.le_refl _)
  · rw [Nat.min_eq_right (by omega), List.drop_of_length_le (Nat.le_refl _), List.drop_of_length_le (by omega)]
    simp
/-- xs[lo:hi] of a list; xs + ys -/
theorem sliceL {α : Type} {R : Rl α} [Rep R] {K : PySem.W.Frag} {M : MS} {H : Hp} {x : V} {l : List α} {lo hi : Option Int} {Q : VK} (hM : MIn M H) (h : rL R M H x l)
    (k : ∀ a H', H a = none → Fr M0 H H' → rL R M H' (.ref a) (cutL l lo hi) → Q (.ref a) H') : rSlL K x lo hi H Q := by
  obtain ⟨a, vs, rfl, na, ha, al⟩ := h
  exact ⟨a, vs, rfl, SqL.of ha, fun p hp => k p _ hp (Fr.new hp) ⟨p, _, rfl, hM.no hp, upd_same, (al.cut lo hi).imp fun _ _ z => Rep.st (Fr.new hp) z⟩⟩
theorem catL {α : Type} {R : Rl α} [Rep R] {K : PySem.W.Frag} {M : MS} {H : Hp} {x y : V} {l l2 : List α} {Q : VK} (hM : MIn M H) (h1 : rL R M H x l) (h2 : rL R M H y l2) (hz : l.length + l2.length ≤ sizeLine)
    (k : ∀ a H', H a = none → Fr M0 H H' → rL R M H' (.ref a) (l ++ l2) → Q (.ref a) H') : rCatL K x y H Q := by
  obtain ⟨a, vs, rfl, na, ha, al⟩ := h1
  obtain ⟨b, ws, rfl, nb, hb, bl⟩ := h2
  have e1 := al.len
  have e2 := bl.len
  exact ⟨a, b, vs, ws, rfl, rfl, SqL.of ha, SqL.of hb, by omega, fun p hp => k p _ hp (Fr.new hp) ⟨p, _, rfl, hM.no hp, upd_same, (al.imp fun _ _ z => Rep.st (Fr.new hp) z).app (bl.imp fun _ _ z => Rep.st (Fr.new hp) z)⟩⟩
/-- [v] -/
theorem lst1 {α : Type} {R : Rl α} [Rep R] {M : MS} {H : Hp} {p : Addr} {v : V} {a : α} (hM : MIn M H) (hp : H p = none) (h : R M H v a) : rL R M (upd H p (.lst [v])) (.ref p) [a] :=
  ⟨p, [v], rfl, hM.no hp, upd_same, All2.one (Rep.st (Fr.new hp) h)⟩
theorem pair1 {α β : Type} {R : Rl α} {S : Rl β} [Rep R] [Rep S] {M : MS} {H : Hp} {p : Addr} {v u : V} {a : α} {b : β} (hM : MIn M H) (hp : H p = none) (h : R M H v a) (g : S M H u b) : rP R S M (upd H p (.tup [v, u])) (.ref p) (a, b) :=
  ⟨p, v, u, rfl, hM.no hp, upd_same, Rep.st (Fr.new hp) h, Rep.st (Fr.new hp) g⟩
theorem trip1 {α β γ : Type} {R : Rl α} {S : Rl β} {T : Rl γ} [Rep R] [Rep S] [Rep T] {M : MS} {H : Hp} {p : Addr} {v u t : V} {a : α} {b : β} {c : γ} (hM : MIn M H) (hp : H p = none) (h : R M H v a) (g : S M H u b) (j : T M H t c) :
    rP3 R S T M (upd H p (.tup [v, u, t])) (.ref p) (a, b, c) := ⟨p, v, u, t, rfl, hM.no hp, upd_same, Rep.st (Fr.new hp) h, Rep.st (Fr.new hp) g, Rep.st (Fr.new hp) j⟩
/-! ### dict(pairs) -/
theorem putK_len {kvs : List (Key × V)} {k : Key} {v : V} : (putK kvs k v).length = if (valV kvs k).isSome then kvs.length else kvs.length + 1 := by
  unfold putK
  rw [valV_any]
  by_cases h : (valV kvs k).isSome = true
  · rw [if_pos h, if_pos h, List.length_map]
  · rw [if_neg h, if_neg h, List.length_append]; rfl
theorem merge_len : ∀ (more acc : List (Key × V)), (mergeK acc more).length ≤ acc.length + more.length ∧ ((mergeK acc more).length = acc.length + more.length → (more.map (·.1)).Nodup ∧ ∀ k ∈ more.map (·.1), valV acc k = none)
  | [], acc => ⟨Nat.le_refl _, fun _ => ⟨List.nodup_nil, fun k h => by cases h⟩⟩
  | m :: more, acc => by
    have e : mergeK acc (m :: more) = mergeK (putK acc m.1 m.2) more := rfl
    obtain ⟨h1, h2⟩ := merge_len more (putK acc m.1 m.2)
    have hl := putK_len (kvs := acc) (k := m.1) (v := m.2)
    rw [e]
    cases hs : valV acc m.1 with
    | some x =>
      rw [hs] at hl
      simp only [Option.isSome_some, if_true] at hl
      refine ⟨by rw [List.length_cons]; omega, fun z => ?_⟩
      rw [List.length_cons] at z
      omega
    | none =>
      rw [hs] at hl
      have hl2 : (putK acc m.1 m.2).length = acc.length + 1 := hl
      refine ⟨by rw [List.length_cons]; omega, fun z => ?_⟩
      rw [List.length_cons] at z
      obtain ⟨n1, n2⟩ := h2 (by omega)
      rw [put_none hs] at n2
      have key : ∀ k, valV (acc ++ [(m.1, m.2)]) k = none → valV acc k = none ∧ m.1 ≠ k := fun k hk => by
        have h3 := valV_not hk
        rw [List.map_append, List.mem_append] at h3
        constructor
        · cases q : valV acc k with
          | none => rfl
          | some v => exact absurd (.inl (valV_in q)) h3
        · exact fun q => h3 (.inr (by rw [q]; exact List.mem_singleton.mpr rfl))
      refine ⟨?_, fun k hk => ?_⟩
      · rw [List.map_cons, List.nodup_cons]
        exact ⟨fun hm => (key _ (n2 _ hm)).2 rfl, n1⟩
      · rw [List.map_cons] at hk
        rcases List.mem_cons.mp hk with q | q
        · rw [q]; exact hs
        · exact (key k (n2 k q)).1
/-- pairs of a name and a number, for dict(..) -/
theorem pairs_dict {K : PySem.W.Frag} {M : MS} {H : Hp} : ∀ {vs : List V} {l : List (Str × Int)}, All2 (rP rS rI M H) vs l → ∃ ps : List Addr, vs = ps.map V.ref ∧ Paired (fun p (kv : Key × V) => SqT K H p [kV kv.1, kv.2]) ps (l.map fun z => ((Sum.inr z.1 : Key), V.int z.2))
  | [], [], _ => ⟨[], rfl, .nil⟩
  | v :: vs, z :: l, h => by
    obtain ⟨ps, e, r⟩ := pairs_dict (K := K) h.2
    obtain ⟨a, v1, v2, rfl, _, ha, ⟨rfl, _⟩, rfl⟩ := h.1
    exact ⟨a :: ps, by rw [e]; rfl, .cons (SqT.of ha) r⟩
  | [], _ :: _, h => h.elim
  | _ :: _, [], h => h.elim
theorem nameOk_iff {z : Str} : nameOk z = true ↔ 2 ≤ z.length ∧ z.length ≤ 8 ∧ ∀ c ∈ TL.tl z, c ∈ lets := by
  unfold nameOk
  simp only [Bool.and_eq_true, decide_eq_true_eq, List.all_eq_true]
  exact Iff.rfl
theorem name7 {z : Str} (h : nameOk z = true) : ∃ s1 : Str, cutS z none (some 7) = s1 ∧ nameOk (s1 ++ "z") = true ∧ s1.length ≤ 7 := by
  obtain ⟨h1, h2, h3⟩ := nameOk_iff.mp h
  have e : cutS z none (some 7) = ⟨((TL.tl z).take 7).toArray⟩ := by
    refine TL.ext_tl ?_
    show ((TL.tl z).drop (HT.sIx _ 0 none)).take _ = (TL.tl z).take 7
    rw [HT.sIx_none, show (some (7 : Int)) = some ((7 : Nat) : Int) from rfl, HT.sIx_nat, List.drop_zero, Nat.sub_zero]
    by_cases hl : 7 ≤ z.length
    · rw [Nat.min_eq_left hl]
    · rw [Nat.min_eq_right (by omega), List.take_of_length_le (by rw [← TL.len_tl]; exact Nat.le_refl _), List.take_of_length_le (by rw [← TL.len_tl]; omega)]
  have hl : (⟨((TL.tl z).take 7).toArray⟩ : Str).length = min 7 z.length := by rw [S_len, List.length_take, ← TL.len_tl]
  refine ⟨_, e, nameOk_iff.mpr ?_, by rw [hl]; omega⟩
  have hl2 : (⟨((TL.tl z).take 7).toArray⟩ ++ ("z" : Str) : Str).length = min 7 z.length + 1 := by
    rw [TL.len_tl, TL.tl_append, List.length_append, ← TL.len_tl, hl]; rfl
  refine ⟨by rw [hl2]; omega, by rw [hl2]; omega, fun c hc => ?_⟩
  rw [TL.tl_append] at hc
  rcases List.mem_append.mp hc with q | q
  · exact h3 c (List.mem_of_mem_take q)
  · have : TL.tl ("z" : Str) = [122] := by decide +kernel
    rw [this] at q
    rw [List.mem_singleton.mp q]
    decide +kernel
end WD
/-! own exceptions: made, raised, caught, asked -/
namespace WD
open PySem PySem.Spec PyProof.Rows L2

/-! ### what the written part says of an exception class, by a Bool -/
def oexObjB (C : Addr) : Option Obj → Bool
  | some ⟨.type t, _, .cls cd, sl⟩ => decide (t = "type") && ((match cd.mro with
    | .ref C' :: bm => decide (C' = C) && PySem.HandSPX.refsVE bm
    | _ => false) && ((match sl.toList with
    | [_, _, _, _, some (.builtin n), _] => decide (n = "ValueError.__new__")
    | _ => false) && (cd.hasDict && !cd.hasDel)))
  | _ => false
theorem oexObjB_ok {K : PySem.W.Frag} {C : Addr} (h : oexObjB C (K.lookup C) = true) : ∃ nm q N bs bm sn sub ab col dd k0 k1 k2 k3 k5, K.lookup C = some (excClassObj nm q C N bs bm true sn sub ab col dd k0 k1 k2 k3 k5 "ValueError.__new__") ∧ PySem.HandSPX.refsVE bm = true := by
  generalize K.lookup C = o at h ⊢
  unfold oexObjB at h
  split at h
  · rename_i t dd cd sl
    simp only [Bool.and_eq_true, decide_eq_true_eq, Bool.not_eq_true'] at h
    obtain ⟨h1, h2, h3, h4, h5⟩ := h
    obtain ⟨nm, bs, mro, ns, qn, hd, sn, sb, ab, col, del⟩ := cd
    dsimp only at h2 h4 h5
    subst h1 h4 h5
    split at h2
    · rename_i C' bm
      obtain ⟨e1, e2⟩ := Bool.and_eq_true_iff.mp h2
      have e1 := of_decide_eq_true e1
      subst e1
      split at h3
      · rename_i k0 k1 k2 k3 n k5 e3
        have e4 := of_decide_eq_true h3
        subst e4
        have e5 : sl = #[k0, k1, k2, k3, some (.builtin "ValueError.__new__"), k5] := by
          rw [← Array.toArray_toList (xs := sl), e3]
        subst e5
        exact ⟨_, _, _, _, bm, _, _, _, _, _, _, _, _, _, _, rfl, e2⟩
      · cases h3
    · cases h2
  · cases h
/-- how a value's class answers isinstance: what is asked of the class -/
structure ExD (K : PySem.W.Frag) (C : Addr) : Prop where
  cl : (PySem.W.clsIn K C).isSome = true
  ga : PySem.W.findIn K (.ref C) "__getattribute__" = some (some (.builtin "BaseException.__getattribute__"))
  gg : PySem.W.findIn K (.ref C) "__getattr__" = some none
  sb : PySem.W.subIn K (.ref C) (.type "BaseException") = some true
  cc : PySem.W.findIn K (.ref C) "__class__" = some (some (.builtin "object.__class__"))
  sp : PySem.W.specialIn K (.builtin "object.__class__") "__get__" = some (some (.builtin "getset_descriptor.__get__"))
  tk : PySem.W.takesIn K (.builtin "object.__class__") = some true
  mr : PySem.W.mroIn K C (.type "object") = some true
  hd : PySem.W.hasDictIn K C = true
/-- facts of my own -/
inductive Fx where
  | oex (x : Str)
  | exd (x : Str)
  | ini (x : Str)
  | par (x : Str)
  | noa (x f : Str)
  | kit (x y : Str) (b : Bool)
  | kiv (x : Str) (t : String) (b : Bool)
  | isc (x : Str)
def Fx.ok (K : PySem.W.Frag) : Fx → Bool
  | .oex x => oexObjB (He.ga K x) (K.lookup (He.ga K x)) && (He.eqO (PySem.W.findIn K (.ref (He.ga K x)) "__setattr__") (some (some (.builtin "object.__setattr__"))) && (decide (PySem.W.subIn K (.ref (He.ga K x)) (.type "BaseException") = some true) &&
      (decide (PySem.W.typeIn K (.ref (He.ga K x)) = some (.type "type")) && PySem.W.keepIn K (.ref (He.ga K x)))))
  | .exd x => (PySem.W.clsIn K (He.ga K x)).isSome && (He.eqO (PySem.W.findIn K (.ref (He.ga K x)) "__getattribute__") (some (some (.builtin "BaseException.__getattribute__"))) && (He.eqO (PySem.W.findIn K (.ref (He.ga K x)) "__getattr__") (some none) &&
      (decide (PySem.W.subIn K (.ref (He.ga K x)) (.type "BaseException") = some true) && (He.eqO (PySem.W.findIn K (.ref (He.ga K x)) "__class__") (some (some (.builtin "object.__class__"))) &&
      (He.eqO (PySem.W.specialIn K (.builtin "object.__class__") "__get__") (some (some (.builtin "getset_descriptor.__get__"))) && (decide (PySem.W.takesIn K (.builtin "object.__class__") = some true) &&
      (decide (PySem.W.mroIn K (He.ga K x) (.type "object") = some true) && PySem.W.hasDictIn K (He.ga K x))))))))
  | .ini x => He.eqO (PySem.W.findIn K (.ref (He.ga K x)) "__init__") (some (some (.ref (He.ma K (He.ga K x) "__init__")))) && decide (PySem.W.typeIn K (.ref (He.ma K (He.ga K x) "__init__")) = some (.type "function"))
  | .par x => PySem.W.readsIn K (He.ga K x) (.type "type") && (He.eqO (PySem.W.specialIn K (.ref (He.ga K x)) "__getattribute__") (some (some (.builtin "type.__getattribute__"))) &&
      (match PySem.W.findCls K (.ref (He.ga K x)) (.type "type") "__init__" with
        | some (.val (.builtin n)) => decide (n = "ValueError.__init__")
        | _ => false))
  | .noa x f => He.eqO (PySem.W.findIn K (.ref (He.ga K x)) f) (some none)
  | .kit x y b => decide (PySem.W.kitOne K (.ref (He.ga K x)) (.ref (He.ga K y)) = some b)
  | .kiv x t b => decide (PySem.W.kitOne K (.ref (He.ga K x)) (.type t) = some b)
  | .isc x => He.eqO (PySem.W.findIn K (.ref (He.ga K x)) "__class__") (some (some (.builtin "object.__class__"))) && (He.eqO (PySem.W.specialIn K (.builtin "object.__class__") "__get__") (some (some (.builtin "getset_descriptor.__get__"))) &&
      (decide (PySem.W.takesIn K (.builtin "object.__class__") = some true) && (decide (PySem.W.mroIn K (He.ga K x) (.type "object") = some true) && decide (PySem.W.kitOne K (.ref (He.ga K x)) (.ref (He.ga K x)) = some true))))
section
variable {K : PySem.W.Frag} {x y f : Str} {t : String} {b : Bool}
theorem oex_ok (c : (Fx.oex x).ok K = true) : OexC K (He.ga K x) := by
  obtain ⟨c1, c⟩ := He.ba c
  obtain ⟨c2, c⟩ := He.ba c
  obtain ⟨c3, c⟩ := He.ba c
  obtain ⟨c4, c5⟩ := He.ba c
  exact ⟨oexObjB_ok c1, He.eqO_ok c2, of_decide_eq_true c3, of_decide_eq_true c4, c5⟩
theorem isc_ok (cl : Cls K (He.ga K x)) (c : (Fx.isc x).ok K = true) : C8.InsC K (He.ga K x) := by
  obtain ⟨c1, c⟩ := He.ba c
  obtain ⟨c2, c⟩ := He.ba c
  obtain ⟨c3, c⟩ := He.ba c
  obtain ⟨c4, c5⟩ := He.ba c
  exact ⟨cl, He.eqO_ok c1, He.eqO_ok c2, of_decide_eq_true c3, of_decide_eq_true c4, of_decide_eq_true c5⟩
theorem exd_ok' (c : (Fx.exd x).ok K = true) : ExD K (He.ga K x) := by
  obtain ⟨c1, c⟩ := He.ba c
  obtain ⟨c2, c⟩ := He.ba c
  obtain ⟨c3, c⟩ := He.ba c
  obtain ⟨c4, c⟩ := He.ba c
  obtain ⟨c5, c⟩ := He.ba c
  obtain ⟨c6, c⟩ := He.ba c
  obtain ⟨c7, c⟩ := He.ba c
  obtain ⟨c8, c9⟩ := He.ba c
  exact ⟨c1, He.eqO_ok c2, He.eqO_ok c3, of_decide_eq_true c4, He.eqO_ok c5, He.eqO_ok c6, of_decide_eq_true c7, of_decide_eq_true c8, c9⟩
theorem ini_ok (c : (Fx.ini x).ok K = true) : PySem.W.findIn K (.ref (He.ga K x)) "__init__" = some (some (.ref (He.ma K (He.ga K x) "__init__"))) ∧ PySem.W.typeIn K (.ref (He.ma K (He.ga K x) "__init__")) = some (.type "function") := by
  obtain ⟨c1, c2⟩ := He.ba c
  exact ⟨He.eqO_ok c1, of_decide_eq_true c2⟩
/-- an exception class whose __init__ is called by its name -/
structure Par (K : PySem.W.Frag) (C : Addr) : Prop where
  rd : PySem.W.readsIn K C (.type "type") = true
  ga : PySem.W.specialIn K (.ref C) "__getattribute__" = some (some (.builtin "type.__getattribute__"))
  at_ : PySem.W.findCls K (.ref C) (.type "type") "__init__" = some (.val (.builtin "ValueError.__init__"))
theorem par_ok (c : (Fx.par x).ok K = true) : Par K (He.ga K x) := by
  obtain ⟨c1, c⟩ := He.ba c
  obtain ⟨c2, c3⟩ := He.ba c
  refine ⟨c1, He.eqO_ok c2, ?_⟩
  split at c3
  · rename_i n e
    rw [e, of_decide_eq_true c3]
  · cases c3
theorem noa_ok (c : (Fx.noa x f).ok K = true) : PySem.W.findIn K (.ref (He.ga K x)) f = some none := He.eqO_ok c
theorem kit_ok (c : (Fx.kit x y b).ok K = true) : PySem.W.kitOne K (.ref (He.ga K x)) (.ref (He.ga K y)) = some b := of_decide_eq_true c
theorem kiv_ok (c : (Fx.kiv x t b).ok K = true) : PySem.W.kitOne K (.ref (He.ga K x)) (.type t) = some b := of_decide_eq_true c
end
/-! ### the Hook, with these facts -/
def asE (g : Addr → Option Obj) : Nat → List Addr
  | 0 => [mainGlobals, cStatics]
  | n + 1 => He.growD g (asE g n)
def obsE (fa : List He.Fa) (fn : List He.DefD) (fx : List Fx) (K : PySem.W.Frag) : He.AlD := ((He.obsD fa fn K).1 && fx.all fun f => f.ok K, (He.obsD fa fn K).2)
def SaysE (fa : List He.Fa) (fn : List He.DefD) (fx : List Fx) (K : PySem.W.Frag) : Prop := obsE fa fn fx K = He.valD fn
def obsEG (n : Nat) (fa : List He.Fa) (fn : List He.DefD) (fx : List Fx) (g : Addr → Option Obj) : He.AlD := obsE fa fn fx (He.frG g (asE g n))
def hookE (n : Nat) (fa : List He.Fa) (fn : List He.DefD) (fx : List Fx) : PySem.W.Hook where
  α := He.AlD
  obs := fun s => obsEG n fa fn fx s.heap.get?
  val := fun _ => He.valD fn
  says := fun _ h => ∃ K : PySem.W.Frag, K.In h ∧ SaysE fa fn fx K
  of := fun _ _ e => ⟨_, He.frG_in, e⟩
  keeps := fun _ _ _ ⟨K, hK, c⟩ k => ⟨K, PySem.W.Frag.In.keeps hK k, c⟩
theorem obsEG_eq {n : Nat} {fa : List He.Fa} {fn : List He.DefD} {fx : List Fx} {g : Addr → Option Obj} {s : Shared} (h : ∀ a, g a = s.heap.get? a) : obsEG n fa fn fx g = (hookE n fa fn fx).obs s := by
  rw [show g = s.heap.get? from funext h]; rfl
theorem SaysE.says {fa : List He.Fa} {fn : List He.DefD} {fx : List Fx} {K : PySem.W.Frag} (c : SaysE fa fn fx K) : He.SaysD fa fn K := by
  have h1 : ((He.obsD fa fn K).1 && fx.all fun f => f.ok K) = true := congrArg (fun z : He.AlD => z.1) c
  have h2 : (He.obsD fa fn K).2 = fn.map He.DefD.val := congrArg (fun z : He.AlD => z.2) c
  exact Prod.ext (He.ba h1).1 h2
theorem SaysE.own {fa : List He.Fa} {fn : List He.DefD} {fx : List Fx} {K : PySem.W.Frag} (c : SaysE fa fn fx K) (i : Nat) {f : Fx} (h : fx[i]? = some f := by rfl) : f.ok K = true := by
  have h1 : ((He.obsD fa fn K).1 && fx.all fun f => f.ok K) = true := congrArg (fun z : He.AlD => z.1) c
  exact List.all_eq_true.mp (He.ba h1).2 f (List.mem_of_getElem? h)

/-! ### C.__init__(self, ..), C an own exception class -/
section
variable {X : Cx} {e : Expr} {es : List Expr} {ta : TA} {p1 p2 pos : Pos} {x : Str} {C : Addr}
theorem pe_oinit {pl : Sem Bool} (hg : Gl X x) (hm : X.mg x = some (.ref C)) (T : Par X.K C) (ha : PA X (e :: es) ta) (hdb : (x == ("__debug__" : Str)) = false := by decide)
    (hc : eval (.Call (.Attribute (.Name x p1) "__init__" p2) (e :: es) [] pos) X.env = (do
      let ov ← eval (.Name x p1) X.env
      standAt p2.atName
      let (f, first) ← holding [ov] (getMethod ov "__init__" pl)
      callWith pos f first (backTo pos (starEach (e :: es) X.env)) (backToKw pos (keywordEach [] X.env))) := by rfl)
    (he : starEach (e :: es) X.env = (false, eval e X.env) :: starEach es X.env := by rfl) (hpl : (backTo pos (starEach es X.env)).any (·.1) = false := by rfl) :
    PE X (.Call (.Attribute (.Name x p1) "__init__" p2) (e :: es) [] pos) (tVeI X.K ta) := by
  refine ⟨fun pins s σ H Q I h => ?_⟩
  refine PySem.W.methodCall_KW (ld_glob I hg hm ?_ hdb) hc
  refine PySem.W.method_cls I.kIn T.ga (PySem.W.cls_value I.kIn T.rd T.at_ (by decide +kernel) ?_)
  refine PyProof.Rows.callWith_method1 (thn (ha.run pos pins _ σ H _ (I.tok _) h) fun us s1 ⟨vs, H1, I1, r1, a, C1, ws, ev, hl, T1, ea, q⟩ => ?_) he hpl
  subst ev
  cases r1 with
  | @cons _ u0 _ ur ra rw' =>
    obtain rfl : u0 = Value.ref a := ra
    have hlen : ur.length ≤ sizeLine := by
      have e1 := Paired.length rw'
      have e2 := sizeLine_eq
      omega
    exact oinit_ok T1 I1 ea hlen fun s' J => ⟨.non, H1, J, rfl, q⟩
end
/-! ### C(v), C an own exception class with one field, to be raised -/
def spExc (C : Addr) (f : Str) : Sp := fun vs H Q _ => ∃ (a : Addr) (v : V), vs = [.ref a, v] ∧ H a = some (exo a C none) ∧ ∀ dx, H dx = none → dx ≠ a → Q .non (upd (upd H dx (exd dx [(f, v)])) a (exo a C (some dx)))
structure Xmk (P : Program) (w : World) (K : PySem.W.Frag) (mg : Str → Option Value) (base : Heap) (k : Nat) (x : Str) (C fI : Addr) (f : Str) : Prop where
  ex : ∃ (fd : FuncData) (ps : List Str) (ds : List Value), FnOk P w K mg base CX0 k fI fd ps (spExc C f) ∧ Binds K fd ps ds ∧ Vals [] ds
  oe : OexC K C
  ini : PySem.W.findIn K (.ref C) "__init__" = some (some (.ref fI)) ∧ PySem.W.typeIn K (.ref fI) = some (.type "function")
  g : mg x = some (.ref C)
def tExc (C : Addr) (f : Str) (ta : TA) : L2.St → Hp → XK → Prop := fun σ H Q => ta σ H fun vs H1 => ∃ v, vs = [v] ∧ ∀ d, H1 d = none → Q (.ref C) (some d) (upd H1 d (.xd [(f, v)]))
section
variable {X : Cx} {k : Nat} {x : Str} {C fI : Addr} {f : Str} {e : Expr} {es : List Expr} {ta : TA} {te : TE} {p pos : Pos}
/-- a reading made monotone -/
def clo (ta : TA) : TA := fun σ H Q => ∃ R : List V → Hp → Prop, ta σ H R ∧ ∀ vs H1, R vs H1 → Q vs H1
theorem pa_clo (h : PA X es ta) : PA X es (clo ta) := by
  refine ⟨fun pos pins s σ H Q I hh => ?_⟩
  obtain ⟨R, h1, h2⟩ := hh
  exact thn (h.run pos pins s σ H R I h1) fun us s1 ⟨vs, H1, I1, r, q⟩ => ⟨vs, H1, I1, r, h2 vs H1 q⟩
theorem pmk_x (c : Xmk X.prog X.w X.K X.mg X.base k x C fI f) (hr : Room (k + 1) X.A) (hg : Gl X x) (ha : PA X (e :: es) ta) (hdb : (x == ("__debug__" : Str)) = false := by decide)
    (he : starEach (e :: es) X.env = (false, eval e X.env) :: starEach es X.env := by rfl) (hpl : (backTo pos (starEach es X.env)).any (·.1) = false := by rfl) : PMk X (.Call (.Name x p) (e :: es) [] pos) (tExc C f ta) := by
  obtain ⟨fd, ps, ds, h1, h2, h3⟩ := c.ex
  have P := pmk_oex (pos := pos) (p := p) c.oe c.ini.1 c.ini.2 h1 hr h2 h3 pass0 hg c.g (pa_clo ha) hdb he hpl
  intro pins s σ H Q I h
  refine P pins s σ H Q I ⟨_, h, fun vs H1 q => ?_⟩
  obtain ⟨v, rfl, q⟩ := q
  refine ⟨by show 1 ≤ 1000; decide, fun a na => ⟨a, v, rfl, upd_same, fun dx nd ne => ⟨rfl, dx, [(f, v)], upd_same, ?_, ?_, ?_⟩⟩⟩
  · rw [upd_ne ne, upd_same]
  · rw [upd_ne ne] at nd
    exact nd
  · have nd' : H1 dx = none := by rw [upd_ne ne] at nd; exact nd
    have e2 : upd (del (upd (upd (upd H1 a (exo a C none)) dx (exd dx [(f, v)])) a (exo a C (some dx))) a) dx (.xd [(f, v)]) = upd H1 dx (.xd [(f, v)]) := by
      funext b
      by_cases hb : b = dx
      · rw [hb, upd_same, upd_same]
      · rw [upd_ne hb, upd_ne hb]
        by_cases ha : b = a
        · rw [ha, del_same, na]
        · rw [del_ne ha, upd_ne ha, upd_ne hb, upd_ne ha]
    rw [e2]
    exact q dx nd'
end
/-! ### calls that may raise -/
section
variable {X : Cx} {CX : CXT} {k : Nat} {f C : Addr} {fd : FuncData} {ps : List Str} {sp : Sp} {E : L2.St → XK} {x m : Str} {p pos apos : Pos} {e o : Expr} {es : List Expr} {ta : TE} {t : TA} {W : WX} {ds : List Value}
theorem binds0 {K : PySem.W.Frag} (h : Binds K fd ps ds) (hd : Vals [] ds) : Binds K fd ps [] := by
  cases hd
  exact h
/-- f(e, ..) -/
theorem pe_calX (c : Cal X.prog X.w X.K X.mg X.base (L2.CX X.prog X.w) k x f sp []) (tk : Takes X W) (hr : Room k X.A) (hg : Gl X x) (ha : PA X (e :: es) t) (hdb : (x == ("__debug__" : Str)) = false := by decide)
    (he : starEach (e :: es) X.env = (false, eval e X.env) :: starEach es X.env := by rfl) (hpl : (backTo pos (starEach es X.env)).any (·.1) = false := by rfl) : PE X (.Call (.Name x p) (e :: es) [] pos) (tCallS sp (WE W) t) := by
  obtain ⟨fd, ps, ds, h1, h2, h3⟩ := c.ex
  exact pe_callS h1 hr hg c.g c.kp (binds0 h2 h3) (fun σ => passAt tk σ) ha hdb he hpl
def tMethS (C : Addr) (m : Str) (sp : Sp) (E : L2.St → XK) (te : TE) (t : TA) : TE := fun σ H Q => te σ H fun x H1 => ∃ (a dx : Addr) (fs : List (Str × V)), x = .ref a ∧ H1 a = some (.ins C dx fs) ∧ fs.lookup m = none ∧ t σ H1 fun vs H2 => sp (.ref a :: vs) H2 Q (E σ)
theorem pe_metX {pl : Sem Bool} (c : Met X.prog X.w X.K X.mg X.base (L2.CX X.prog X.w) k C m f sp []) (tk : Takes X W) (hr : Room k X.A) (he : PE X o ta) (ha : PA X (e :: es) t)
    (hst : starEach (e :: es) X.env = (false, eval e X.env) :: starEach es X.env := by rfl) (hpl : (backTo pos (starEach es X.env)).any (·.1) = false := by rfl)
    (ht : eval (.Call (.Attribute o m apos) (e :: es) [] pos) X.env = (do
      let ov ← eval o X.env
      standAt apos.atName
      let (f, first) ← holding [ov] (getMethod ov m pl)
      callWith pos f first (backTo pos (starEach (e :: es) X.env)) (backToKw pos (keywordEach [] X.env))) := by rfl) : PE X (.Call (.Attribute o m apos) (e :: es) [] pos) (tMethS C m sp (WE W) ta t) := by
  obtain ⟨fd, ps, ds, h1, h2, h3⟩ := c.ex
  have hb := binds0 h2 h3
  refine ⟨fun pins s σ H Q I h => ?_⟩
  refine PySem.W.methodCall_KW (pl := pl) (thn (he.run pins s σ H _ I h) fun u s1 hh => ?_) ht
  obtain ⟨x, H1, I1, rx, a, dx, fs, ex, ea, l, q⟩ := hh
  subst ex
  cases (show u = Value.ref a from rx)
  refine getmeth_ok I1 ea c.cl c.mt l (PySem.W.callWith_K (first := [.ref a]) (h₀ := X.base) I.ok.mod.kin c.mt.kp (thn (ha.run pos pins s1 σ H1 _ I1 q) fun us s2 hh2 => ?_) hst hpl)
  obtain ⟨vs, H2, I2, r, q2⟩ := hh2
  exact ⟨I2.kIn, run_fnS (us := .ref a :: us) (vs := .ref a :: vs) (E := WE W) h1 hr hb (passAt tk σ) I2 (.cons rfl r) q2⟩
end
/-! ### in an except suite -/
/-- e.f, the class told by the reading -/
def tXfA (K : PySem.W.Frag) (a : Addr) (cls : Value) (d : Option Addr) (f : Str) (te : TE) : TE := fun σ H Q => te σ H fun x H1 => ∃ C : Addr, x = .ref a ∧ cls = .ref C ∧ ExD K C ∧ PySem.W.findIn K (.ref C) f = some none ∧ ∃ (dd : Addr) (fs : List (Str × V)) (v : V), d = some dd ∧ H1 dd = some (.xd fs) ∧ fs.lookup f = some v ∧ Q v H1
/-- isinstance(e, c) -/
def rIsX (K : PySem.W.Frag) (a : Addr) (cls : Value) (d : Option Addr) : List V → Hp → VK → Prop := fun xs H Q => ∃ (D : Addr) (c : V) (cv : Value) (b : Bool), cls = .ref D ∧ ExD K D ∧ (∀ dd, d = some dd → ∃ fs, H dd = some (.xd fs)) ∧ xs = [.ref a, c] ∧ (∀ u, RelV c u → u = cv) ∧ PySem.W.kitOne K (.ref D) cv = some b ∧ Q (.bl b) H
section
variable {X : Cx} {a : Addr} {oe : Obj} {cls : Value} {d : Option Addr} {pn : List (Addr × Obj)} {e : Expr} {te : TE} {pos : Pos} {n : Str}
theorem pe_xfA (hz : Zc cls d oe) (hf : ∃ vs, oe.data = .fields vs) (he : PE (X.suite a ((a, oe) :: pn)) e te) (hb : attributeBase e n X.env (eval e X.env) = eval e X.env := by rfl) : PE (X.suite a ((a, oe) :: pn)) (.Attribute e n pos) (tXfA X.K a cls d n te) := by
  refine ⟨fun pins s σ H Q I h => ?_⟩
  refine attr_of hb (thn (he.run pins s σ H _ I h) fun u s1 hh => ?_)
  obtain ⟨x, H1, I1, rx, C, ex, ec, T, hno, dd, fs, v, ed, ea, l, q⟩ := hh
  subst ex ec ed
  cases (show u = Value.ref a from rx)
  obtain ⟨ha, _⟩ := I1.pin (a, oe) (List.mem_append_left _ List.mem_cons_self)
  obtain ⟨vs, hd⟩ := hf
  obtain ⟨mA, hns, hr⟩ := (show ObjOk X.prog X.w H1 s1.heap dd (.xd fs) from I1.hok dd _ ea)
  obtain ⟨od, ho, hl⟩ := lookIn_ns hns
  obtain ⟨u, hu, ru⟩ := RelO.some_of (v := v) (o := mA n) (by rw [← l]; exact hr n)
  have J : PySem.W.InstAt s1.heap a oe C (some od) := ⟨ha, hz.1, by unfold PySem.W.notCls; rw [hd], by rw [hz.2]; exact ho⟩
  exact HandSPX.exc_get I1.kIn J T.ga T.gg T.sb (PySem.W.findObj_own T.hd hno rfl (by rw [hl, hu])) (handed_of ru) ⟨v, H1, I1.tok _, ru, q⟩
theorem call_isX (hz : Zc cls d oe) (hf : ∃ vs, oe.data = .fields vs) : CallR (X.suite a ((a, oe) :: pn)) (.builtin "isinstance") (rIsX X.K a cls d) := by
  intro pins s σ H xs us Q I r h
  obtain ⟨D, c, cv, b, ec, C, hd, rfl, hcv, e, q⟩ := h
  subst ec
  cases r with
  | cons rx rr =>
    cases rr with
    | cons rt rr =>
      cases rr
      cases rx
      cases hcv _ rt
      obtain ⟨hget, _⟩ := I.pin (a, oe) (List.mem_append.mpr (.inl List.mem_cons_self))
      obtain ⟨vs, hv⟩ := hf
      have J : ∃ od, PySem.W.InstAt s.heap a oe D od := by
        cases d with
        | none => exact ⟨none, hget, hz.1, by unfold PySem.W.notCls; rw [hv], by rw [hz.2]; exact trivial⟩
        | some dd =>
          obtain ⟨fs, hfs⟩ := hd dd rfl
          obtain ⟨mA, ⟨o, _, _, ho, _⟩, _⟩ := (show ObjOk X.prog X.w H s.heap dd (.xd fs) from I.hok dd _ hfs)
          exact ⟨some o, hget, hz.1, by unfold PySem.W.notCls; rw [hv], by rw [hz.2]; exact ho⟩
      obtain ⟨od, J⟩ := J
      exact PySem.W.kia_one (PySem.W.kitx_exc C.cl C.ga C.gg C.sb C.cc C.sp C.tk C.mr) I.kIn J e (fun z => nomatch z) fun tk => ⟨.bl b, H, I.kept (t' := tk) fun _ _ z => z, rfl, q⟩
end
/-! ### try with clauses `except x as n` -/
abbrev Su := Addr → Value → Option Addr → TS
def wClauses (K : PySem.W.Frag) (Wout : WX) (D : Ends) : List (Value × Nat × Su) → WX
  | [] => Wout
  | (c, i, ts) :: r => fun cls d σ H => ∃ b, PySem.W.exmOne K cls c = some b ∧
      (b = true → ∀ a, H a = none → ts a cls d { nx := fun σ' H' => D.nx (σ'.set i none) H', rt := D.rt, bk := fun σ' H' => D.bk (σ'.set i none) H', ct := fun σ' H' => D.ct (σ'.set i none) H' } (σ.set i (some (.ref a))) H) ∧ (b = false → wClauses K Wout D r cls d σ H)
inductive Clauses (X : Cx) : List ExceptHandler → List (Value × Nat × Su) → Prop
  | nil : Clauses X [] []
  | cons {x n : Str} {c : Value} {i : Nat} {ts : Su} {st : Stmt} {suite : List Stmt} {np hp : Pos} {hds : List ExceptHandler} {l : List (Value × Nat × Su)} (names : Names X x c) (slot : X.N[i]? = some n) (loc : X.env.kindOf n = some .local)
      (body : ∀ (a : Addr) (oe : Obj) (cls : Value) (d : Option Addr) (pn : List (Addr × Obj)), Zc cls d oe → (∃ vs, oe.data = .fields vs) → PSs (X.suite a ((a, oe) :: pn)) (st :: suite) (ts a cls d)) (more : Clauses X hds l) :
      Clauses X (.ExceptHandler (some (.Name x np)) (some n) (st :: suite) hp :: hds) ((c, i, ts) :: l)
  | cons0 {x : Str} {c : Value} {i : Nat} {ts : Su} {st : Stmt} {suite : List Stmt} {np hp : Pos} {hds : List ExceptHandler} {l : List (Value × Nat × Su)} (names : Names X x c) (out : X.N.length ≤ i)
      (body : ∀ (a : Addr) (oe : Obj) (cls : Value) (d : Option Addr) (pn : List (Addr × Obj)), Zc cls d oe → (∃ vs, oe.data = .fields vs) → PSs (X.suite a ((a, oe) :: pn)) (st :: suite) (ts a cls d)) (more : Clauses X hds l) :
      Clauses X (.ExceptHandler (some (.Name x np)) none (st :: suite) hp :: hds) ((c, i, ts) :: l)
section
variable {X : Cx} {body : List Stmt} {hd0 : ExceptHandler} {hds : List ExceptHandler} {l : List (Value × Nat × Su)} {pos : Pos} {tb : WX → TS} {Wout : WX}
theorem ps_try_clauses (hs : X.stack = X.env :: X.outer) (hf : X.env.frame = some X.env.locals) (hN : X.N.Nodup) (tk : Takes X Wout)
    (bd : ∀ (W : WX) (pn : List (Addr × Obj)) (xe : Value → Shared → Prop), Takes (X.tr pn xe) W → PSs (X.tr pn xe) body (tb W)) (cl : Clauses X (hd0 :: hds) l) : PS X (.Try body (hd0 :: hds) [] [] pos) (fun D σ H => tb (wClauses X.K Wout D l) D σ H) := by
  refine ⟨fun pins s σ H D I h => ?_⟩
  have ok := I.ok; have frm : X.A.frames = some (X.env :: X.outer) := ok.frames.trans (congrArg some hs)
  refine wpAny_Try_except (wpAny_mono ((bd (wClauses X.K Wout D l) (X.pn ++ pins) (fun e s₁ => wpAny (model X.prog X.w) X.A (noteFrame e X.env) (fun _ s₂ => wpAny (model X.prog X.w) X.A (setFlight e none) (fun _ s₃ => wpAny (model X.prog X.w) X.A (handleBy e X.env (hd0 :: hds)) (SP X pins D) X.xe s₃) X.xe s₂) X.xe s₁) (fun u s' xx => ?_)).run [] s σ H D (I.toTry _) h) (fun f s1 hsp => ?_) (fun e s1 he => he))
  · obtain ⟨a, B, sI, pins', σ', H', cls, d, rfl, J', nb, up, sky, na, os, ag, wish⟩ := xx
    have J : Inv X pins σ' H' sI := J'.ofTry ok; rw [hs] at sky
    show wpAny (model X.prog X.w) X.A (noteFrame (.ref a) X.env) _ _ _
    refine Sky.land Zc.steady frm hf sky fun h3 fl up3 => ?_
    have J3 : Inv X pins σ' H' { s' with heap := h3 } := J.landed nb fl.1 (up.trans up3) os ag; obtain ⟨oe3, vs3, he3, hz3, hd3⟩ := fl.there
    have outs : a ∉ frs (X.env :: X.outer) := fun hm => by
      obtain ⟨_, o', e', hnf⟩ := fl.2.2.1.mem hm; rw [he3] at e'; cases e'; exact hnf _ hd3
    have nL : a ≠ X.env.locals := fun z => outs (List.mem_filterMap.mpr ⟨X.env, List.mem_cons_self, hf.trans (congrArg some z.symm)⟩)
    have nF : a ∉ X.fs := fun hm => by
      obtain ⟨e, he, q⟩ := List.mem_filterMap.mp hm; exact outs (List.mem_filterMap.mpr ⟨e, List.mem_cons_of_mem _ he, q⟩)
    have S3 := J3.suite he3 hd3 na nL nF
    have walk : ∀ {hds' : List ExceptHandler} {l' : List (Value × Nat × Su)}, Clauses X hds' l' → wClauses X.K Wout D l' cls d σ' H' → wpAny (model X.prog X.w) X.A (handleBy (.ref a) X.env hds') (SP X pins D) X.xe { s' with heap := h3 } := by
      intro hds' l' hk
      induction hk with
      | nil =>
        intro wish; refine wpAny_handleBy_nil ?_
        obtain ⟨k1, k2, k3, oe, vs, T, oT, ts', he, hz, hd, h1, hr⟩ := id fl; unfold PySem.passOn
        refine wpAny_bind (wpAny_field he hd h1 ?_); rw [if_neg (show ¬ ((Value.ref T == Value.none) = true) from fun z => by simp at z)]
        have fin : wpAny (model X.prog X.w) X.A (setFlight (.ref a) X.env.frame) (fun _ s4 => wpAny (model X.prog X.w) X.A (throw (.ref a) : Sem Flow) (SP X pins D) X.xe s4) X.xe { s' with heap := h3 } := by
          rw [hf]; refine HandSPX.setFlight_upZ fl fun h4 hh4 up4 => wpAny_throw (tk _ _ ⟨a, B, sI, pins, σ', H', cls, d, rfl, J, nb, (up.trans up3).trans up4, .inr (.inr ?_), na, os, ag, wish⟩); rw [hs]; exact hh4
        first | exact wpAny_bind (wpAny_pure (wpAny_bind fin)) | exact wpAny_bind fin
      | @cons x n c i ts st suite np hp hds2 l2 names slot loc body more ih =>
        intro wish; obtain ⟨b, hb1, hyes, hno⟩ := wish
        refine wpAny_handleBy_cons (codeAny_handlers_test ?_) (by intro q; cases q)
        have LT : PySem.W.Looks (model X.prog X.w) h3 (typeOf (.ref a)) cls := fun A Q E s k q => wpAny_typeOf_ref (k _ _ he3) (by rw [hz3.1]; exact q)
        have LM := PySem.W.exm_one (M := model X.prog X.w) (J3.kIn) LT hb1
        have test : ∀ {Q : Value → Shared → Prop} {E : Value → Shared → Prop}, Q c { s' with heap := h3 } → wpAny (model X.prog X.w) (X.A.mark (some (.ref a))) (eval (.Name x np) X.env) Q E { s' with heap := h3 } := fun {Q E} q => by
          obtain ⟨hg, hdbg, hm | ⟨hm, hv, hnn⟩⟩ := names
          · exact ld_glob (X := X.suite a ((a, oe3) :: (X.pn ++ pins))) S3 hg hm q hdbg
          · exact ld_blt (X := X.suite a ((a, oe3) :: (X.pn ++ pins))) S3 hg hm hv q hnn hdbg
        refine test (LM.here ?_)
        cases b with
        | true =>
          refine codeAny_handlers_suite_as (HandSPX.lands_againZ fl fun h4 fl4 up4 => ?_)
          have J4 : Inv X pins σ' H' { s' with heap := h4 } := J.landed nb fl4.1 ((up.trans up3).trans up4) os ag; obtain ⟨oe4, vs4, he4, hz4, hd4⟩ := fl4.there
          refine store_ok (X := X.suite a ((a, oe4) :: (X.pn ++ pins))) (v := .ref a) (J4.suite he4 hd4 na nL nF) hN slot (.inl loc) rfl (fun s5 S5 => ?_) (.inr loc)
          refine wpAny_mono ((body a oe4 cls d (X.pn ++ pins) hz4 ⟨_, hd4⟩).run [] s5 _ H' _ S5 (hyes rfl a na)) (fun f s6 hsp => ?_) (fun _ _ z => False.elim z)
          have goes : ∀ {σ6 : L2.St} {H6 : Hp} {Q : Shared → Prop}, Inv (X.suite a ((a, oe4) :: (X.pn ++ pins))) [] σ6 H6 s6 → (∀ s7, Inv X pins (σ6.set i none) H6 s7 → Q s7) → wpAny (model X.prog X.w) X.A (do bindName X.env n .none; unbindBehindTheSuite X.env n hp) (fun _ s7 => Q s7) X.xe s6 := fun {σ6 H6 Q} S6 hq => gone_ok (S6.unsuite ok) hN slot loc hq
          cases f with
          | next => obtain ⟨σ6, H6, S6, q6⟩ := hsp; exact goes S6 fun s7 J7 => ⟨_, _, J7, q6⟩
          | brk => obtain ⟨σ6, H6, S6, q6⟩ := hsp; exact goes S6 fun s7 J7 => ⟨_, _, J7, q6⟩
          | cont => obtain ⟨σ6, H6, S6, q6⟩ := hsp; exact goes S6 fun s7 J7 => ⟨_, _, J7, q6⟩
          | ret u => obtain ⟨v6, σ6, H6, S6, r6, q6⟩ := hsp; exact goes S6 fun s7 J7 => ⟨_, _, _, J7, r6, q6⟩
        | false =>
          show wpAny _ X.A (handleBy (.ref a) X.env hds2) _ _ _
          exact ih (hno rfl)
      | @cons0 x c i ts st suite np hp hds2 l2 names out body more ih =>
        intro wish; obtain ⟨b, hb1, hyes, hno⟩ := wish
        refine wpAny_handleBy_cons (codeAny_handlers_test ?_) (by intro q; cases q)
        have LT : PySem.W.Looks (model X.prog X.w) h3 (typeOf (.ref a)) cls := fun A Q E s k q => wpAny_typeOf_ref (k _ _ he3) (by rw [hz3.1]; exact q)
        have LM := PySem.W.exm_one (M := model X.prog X.w) (J3.kIn) LT hb1
        have test : ∀ {Q : Value → Shared → Prop} {E : Value → Shared → Prop}, Q c { s' with heap := h3 } → wpAny (model X.prog X.w) (X.A.mark (some (.ref a))) (eval (.Name x np) X.env) Q E { s' with heap := h3 } := fun {Q E} q => by
          obtain ⟨hg, hdbg, hm | ⟨hm, hv, hnn⟩⟩ := names
          · exact ld_glob (X := X.suite a ((a, oe3) :: (X.pn ++ pins))) S3 hg hm q hdbg
          · exact ld_blt (X := X.suite a ((a, oe3) :: (X.pn ++ pins))) S3 hg hm hv q hnn hdbg
        refine test (LM.here ?_)
        cases b with
        | true =>
          refine codeAny_handlers_suite (HandSPX.lands_againZ fl fun h4 fl4 up4 => ?_)
          have J4 : Inv X pins σ' H' { s' with heap := h4 } := J.landed nb fl4.1 ((up.trans up3).trans up4) os ag; obtain ⟨oe4, vs4, he4, hz4, hd4⟩ := fl4.there
          have S4 := J4.suite he4 hd4 na nL nF
          have idle : ∀ {v : Option V}, σ'.set i v = σ' := List.set_eq_of_length_le (by rw [J4.len]; exact out)
          have run := hyes rfl a na
          rw [idle] at run
          refine wpAny_mono ((body a oe4 cls d (X.pn ++ pins) hz4 ⟨_, hd4⟩).run [] _ _ H' _ S4 run) (fun f s6 hsp => ?_) (fun _ _ z => False.elim z)
          have still : ∀ {σ6 : L2.St} {H6 : Hp}, Inv X pins σ6 H6 s6 → σ6.set i none = σ6 := fun {σ6 H6} I6 => List.set_eq_of_length_le (by rw [I6.len]; exact out)
          cases f with
          | next => obtain ⟨σ6, H6, S6, q6⟩ := hsp; have I6 := S6.unsuite ok; exact ⟨_, _, I6, by have q : D.nx (σ6.set i none) H6 := q6; rw [still I6] at q; exact q⟩
          | brk => obtain ⟨σ6, H6, S6, q6⟩ := hsp; have I6 := S6.unsuite ok; exact ⟨_, _, I6, by have q : D.bk (σ6.set i none) H6 := q6; rw [still I6] at q; exact q⟩
          | cont => obtain ⟨σ6, H6, S6, q6⟩ := hsp; have I6 := S6.unsuite ok; exact ⟨_, _, I6, by have q : D.ct (σ6.set i none) H6 := q6; rw [still I6] at q; exact q⟩
          | ret u => obtain ⟨v6, σ6, H6, S6, r6, q6⟩ := hsp; exact ⟨_, _, _, S6.unsuite ok, r6, q6⟩
        | false =>
          show wpAny _ X.A (handleBy (.ref a) X.env hds2) _ _ _
          exact ih (hno rfl)
    exact walk cl wish
  · cases f with
    | next => obtain ⟨σ', H', J', q⟩ := hsp; exact wpAny_execs_nil ⟨σ', H', J'.ofTry ok, q⟩
    | brk => obtain ⟨σ', H', J', q⟩ := hsp; exact ⟨σ', H', J'.ofTry ok, q⟩
    | cont => obtain ⟨σ', H', J', q⟩ := hsp; exact ⟨σ', H', J'.ofTry ok, q⟩
    | ret u => obtain ⟨v, σ', H', J', r, q⟩ := hsp; exact ⟨v, σ', H', J'.ofTry ok, r, q⟩
end
end WD
namespace WD
open PySem PySem.Spec PyProof.Rows L2
theorem lc_genJ {α : Type} {R : Rl α} [Rep R] {W : It} {n : Nat} {G : Hp → Prop} {Y : Nat → Hp → V → Hp → Prop} (w : Walk W n G Y) {g : TG} {tt : TT} {te : TE} {vs : List Nat} {σ : L2.St} {H1 : Hp} {Q : Addr → Hp → Prop}
    {M Mf : MS} {J : Nat → Hp → Prop} (hMf : ∀ x, Mf x → M x) (hJm : ∀ i, JOk Mf (J i)) (hn : n ≤ 1000000) (hM : MIn M H1) (hJ : J 0 H1) (P : Nat → Option α → Prop)
    (hG : ∀ M' H', Tr M H1 M' H' → Fr Mf H1 H' → G H')
    (hb : ∀ i M' H', i < n → Tr M H1 M' H' → Fr Mf H1 H' → MIn M' H' → (∀ x, M x → M' x) → J i H' → ∀ (Ky : V → Hp → Prop) (Kn : Hp → Prop),
      (∀ y H4 a, P i (some a) → Fr Mf H' H4 → J (i + 1) H4 → R M' H4 y a → Ky y H4) → (∀ H3, P i none → Fr Mf H' H3 → J (i + 1) H3 → Kn H3) →
      ∀ x H'', Y i H' x H'' → g x (wipe σ vs) H'' fun σ2 H2 => wipe σ2 vs = wipe σ vs ∧ tt σ2 H2 fun b H3 => if b = true then te σ2 H3 Ky else Kn H3)
    (k : ∀ (D : Addr) (l : List (Option α)) (H' : Hp), H1 D = none → l.length = n → (∀ i o, l[i]? = some o → P i o) → Fr Mf H1 H' → J n H' → rL R M H' (.ref D) (l.filterMap id) → Q D H') :
    ∀ D, H1 D = none → ∃ W' : Nat → Nat → Hp → Prop, (∃ m, W' 0 m (upd H1 D (.lst []))) ∧ ∀ i m H, W' i m H →
      (W.stop i H ∧ Q D H) ∨ (W.go i H ∧ ∃ Nx : Hp → Prop, (∀ H', Nx H' → ∃ m', m' < m ∧ W' (i + 1) m' H') ∧ ∀ x H', W.yld i H x H' → g x (wipe σ vs) H' fun σ2 H2 => wipe σ2 vs = wipe σ vs ∧ tt σ2 H2 fun b H3 =>
        if b = true then te σ2 H3 fun y H4 => ∃ acc, H4 D = some (.lst acc) ∧ acc.length < sizeLine ∧ Nx (upd H4 D (.lst (acc ++ [y]))) else Nx H3) := by
  intro D hD
  have nD : ¬ M D := hM.no hD
  have nDf : ¬ Mf D := fun z => nD (hMf D z)
  have jup : ∀ {i : Nat} {H : Hp} {o : HO}, J i H → J i (upd H D o) := fun {i H o} h => hJm i H _ (fun x hx => upd_ne (fun z => nDf (z ▸ hx))) h
  have base : Tr M H1 (plus M D) (upd H1 D (.lst [])) := fun {_ _ _ _ _} h => Rep.st (Fr.new hD) (Rep.ad hD h)
  have up : ∀ {H H' : Hp}, Fr Mf H H' → Fr (plus M D) H H' := fun f => f.mono fun x z => .inl (hMf x z)
  refine lc_it w (fun i H => ∃ l : List (Option α), l.length = i ∧ (∀ j o, l[j]? = some o → P j o) ∧ Fr Mf H1 H ∧ J i H ∧ Tr M H1 (plus M D) H ∧ MIn (plus M D) H ∧ ∃ acc, H D = some (.lst acc) ∧ All2 (R (plus M D) H) acc (l.filterMap id))
    ⟨[], rfl, fun j o e => by simp at e, Fr.new hD, jup hJ, base, (hM.to (M' := M) (Fr.new hD)).plus upd_same, [], upd_same, trivial⟩ (fun i H _ ⟨l, _, _, f, _, t, _⟩ => hG _ _ t f) (fun i x H H' hi ⟨l, ll, lP, f, j, t, mi, acc, ha, al⟩ hy => ?_) (fun H ⟨l, ll, lP, f, j, t, mi, acc, ha, al⟩ => ?_)
  · refine hb i (plus M D) H hi t f mi (fun x h => .inl h) j _ _ (fun y H4 a pa f4 j4 r4 => ?_) (fun H3 pn f3 j3 => ?_) x H' hy
    · have hD4 : H4 D = some (.lst acc) := f4.keep D _ nDf ha
      have sz : acc.length < sizeLine := by
        have h1 := al.len
        have h2 : (l.filterMap id).length ≤ l.length := List.length_filterMap_le _ _
        have h3 := sizeLine_eq
        omega
      refine ⟨acc, hD4, sz, l ++ [some a], by rw [List.length_append, ll]; rfl, fun j o e => ?_, (f.trans f4).mutNew hD, jup j4, ?_, ?_, acc ++ [y], upd_same, ?_⟩
      · by_cases hj : j < l.length
        · rw [List.getElem?_append_left hj] at e; exact lP j o e
        · rw [List.getElem?_append_right (by omega)] at e
          have hj2 : j - l.length = 0 := by
            have := (List.getElem?_eq_some_iff.mp e).1
            simp at this; omega
          rw [hj2] at e
          have ej : j = i := by omega
          rw [ej, ← Option.some.inj e]
          exact pa
      · intro β S _ v b h
        exact Rep.st (M := plus M D) (Fr.mut (.inr rfl)) (Rep.st (up f4) (t h))
      · exact (mi.to f4).to (M' := plus M D) (Fr.mut (.inr rfl))
      · rw [filterMap_snoc]
        refine All2.app (al.imp fun v b z => ?_) (All2.one ?_)
        · exact Rep.st (M := plus M D) (Fr.mut (.inr rfl)) (Rep.st (up f4) z)
        · exact Rep.st (M := plus M D) (Fr.mut (.inr rfl)) r4
    · have hD3 : H3 D = some (.lst acc) := f3.keep D _ nDf ha
      refine ⟨l ++ [none], by rw [List.length_append, ll]; rfl, fun j o e => ?_, f.trans f3, j3, ?_, mi.to f3, acc, hD3, ?_⟩
      · by_cases hj : j < l.length
        · rw [List.getElem?_append_left hj] at e; exact lP j o e
        · rw [List.getElem?_append_right (by omega)] at e
          have hj2 : j - l.length = 0 := by
            have := (List.getElem?_eq_some_iff.mp e).1
            simp at this; omega
          rw [hj2] at e
          have ej : j = i := by omega
          rw [ej, ← Option.some.inj e]
          exact pn
      · intro β S _ v b h
        exact Rep.st (up f3) (t h)
      · rw [filterMap_snoc]
        show All2 _ _ (l.filterMap id ++ [])
        rw [List.append_nil]
        exact al.imp fun v b z => Rep.st (up f3) z
  · exact k D l H hD ll lP f j ⟨D, acc, rfl, nD, ha, al.imp fun v b z => Rep.wk (fun _ q => .inl q) z⟩

/-! ### any data -/
mutual
def rJ (M : MS) (H : Hp) : V → PyData → Prop
  | v, .none => v = .non
  | v, .bool b => v = .bl b
  | v, .int i => v = .int i
  | v, .str x => v = .str x ∧ PyData.strOk x = true
  | v, .list l => ∃ a vs, v = .ref a ∧ ¬ M a ∧ H a = some (.lst vs) ∧ rJs M H vs l
  | v, .tuple l => ∃ a vs, v = .ref a ∧ ¬ M a ∧ H a = some (.tup vs) ∧ rJs M H vs l
  | _, .dict _ => False
def rJs (M : MS) (H : Hp) : List V → List PyData → Prop
  | [], [] => True
  | v :: vs, d :: ds => rJ M H v d ∧ rJs M H vs ds
  | _, _ => False
end
abbrev rX : Rl PyData := rJ
theorem rJs_all {M : MS} {H : Hp} : ∀ {vs : List V} {ds : List PyData}, rJs M H vs ds ↔ All2 (rJ M H) vs ds
  | [], [] => by unfold rJs All2; exact Iff.rfl
  | v :: vs, d :: ds => by
    unfold rJs All2
    exact and_congr Iff.rfl rJs_all
  | [], _ :: _ => by unfold rJs All2; exact Iff.rfl
  | _ :: _, [] => by unfold rJs All2; exact Iff.rfl
theorem rJ_list {M : MS} {H : Hp} {v : V} {l : List PyData} : rJ M H v (.list l) ↔ rL rX M H v l := by
  unfold rJ rL
  exact ⟨fun ⟨a, vs, h1, h2, h3, h4⟩ => ⟨a, vs, h1, h2, h3, rJs_all.mp h4⟩, fun ⟨a, vs, h1, h2, h3, h4⟩ => ⟨a, vs, h1, h2, h3, rJs_all.mpr h4⟩⟩
theorem rJ_tuple {M : MS} {H : Hp} {v : V} {l : List PyData} : rJ M H v (.tuple l) ↔ rT rX M H v l := by
  unfold rJ rT
  exact ⟨fun ⟨a, vs, h1, h2, h3, h4⟩ => ⟨a, vs, h1, h2, h3, rJs_all.mp h4⟩, fun ⟨a, vs, h1, h2, h3, h4⟩ => ⟨a, vs, h1, h2, h3, rJs_all.mpr h4⟩⟩
theorem rJ_int {M : MS} {H : Hp} {v : V} {i : Int} : rJ M H v (.int i) ↔ v = .int i := by unfold rJ; exact Iff.rfl
theorem rJ_bool {M : MS} {H : Hp} {v : V} {i : Bool} : rJ M H v (.bool i) ↔ v = .bl i := by unfold rJ; exact Iff.rfl
theorem rJ_none {M : MS} {H : Hp} {v : V} : rJ M H v .none ↔ v = .non := by unfold rJ; exact Iff.rfl
theorem rJ_str {M : MS} {H : Hp} {v : V} {x : Str} : rJ M H v (.str x) ↔ rS M H v x := by unfold rJ; exact Iff.rfl
mutual
theorem rJ_st {M M' : MS} {H H' : Hp} (na : ∀ a, ¬ M a → H a ≠ none → ¬ M' a) (f : ∀ a o, ¬ M a → H a = some o → H' a = some o) : ∀ (d : PyData) (v : V), rJ M H v d → rJ M' H' v d
  | .none, v, h => by unfold rJ at h ⊢; exact h
  | .bool b, v, h => by unfold rJ at h ⊢; exact h
  | .int i, v, h => by unfold rJ at h ⊢; exact h
  | .str x, v, h => by unfold rJ at h ⊢; exact h
  | .list l, v, h => by
    unfold rJ at h ⊢
    obtain ⟨a, vs, h1, h2, h3, h4⟩ := h
    exact ⟨a, vs, h1, na a h2 (by rw [h3]; exact fun z => nomatch z), f a _ h2 h3, rJs_st na f l vs h4⟩
  | .tuple l, v, h => by
    unfold rJ at h ⊢
    obtain ⟨a, vs, h1, h2, h3, h4⟩ := h
    exact ⟨a, vs, h1, na a h2 (by rw [h3]; exact fun z => nomatch z), f a _ h2 h3, rJs_st na f l vs h4⟩
  | .dict _, v, h => by unfold rJ at h; exact h.elim
theorem rJs_st {M M' : MS} {H H' : Hp} (na : ∀ a, ¬ M a → H a ≠ none → ¬ M' a) (f : ∀ a o, ¬ M a → H a = some o → H' a = some o) : ∀ (ds : List PyData) (vs : List V), rJs M H vs ds → rJs M' H' vs ds
  | [], [], _ => by unfold rJs; trivial
  | d :: ds, v :: vs, h => by
    unfold rJs at h ⊢
    exact ⟨rJ_st na f d v h.1, rJs_st na f ds vs h.2⟩
  | [], _ :: _, h => by unfold rJs at h; exact h.elim
  | _ :: _, [], h => by unfold rJs at h; exact h.elim
end
instance : Rep rX := ⟨fun f h => rJ_st (fun _ n _ => n) f.keep _ _ h, fun s h => rJ_st (fun a n _ z => n (s a z)) (fun _ _ _ e => e) _ _ h,
  fun hD h => rJ_st (fun a n ne z => z.elim n (fun e => ne (by rw [e]; exact hD))) (fun _ _ _ e => e) _ _ h⟩
mutual
theorem rJ_dp {K : PySem.W.Frag} {M : MS} {H : Hp} : ∀ (d : PyData) (v : V), rJ M H v d → Dp K H v d ∧ d.canLay0 = true
  | .none, v, h => by unfold rJ at h; subst h; exact ⟨.non, rfl⟩
  | .bool b, v, h => by unfold rJ at h; subst h; exact ⟨.bl b, rfl⟩
  | .int i, v, h => by unfold rJ at h; subst h; exact ⟨.int i, rfl⟩
  | .str x, v, h => by unfold rJ at h; obtain ⟨rfl, h⟩ := h; exact ⟨.str x, h⟩
  | .list l, v, h => by
    unfold rJ at h
    obtain ⟨a, vs, rfl, h2, h3, h4⟩ := h
    obtain ⟨g1, g2⟩ := rJs_dp (K := K) l vs h4
    exact ⟨.lst (SqL.of h3) g1, g2⟩
  | .tuple l, v, h => by
    unfold rJ at h
    obtain ⟨a, vs, rfl, h2, h3, h4⟩ := h
    obtain ⟨g1, g2⟩ := rJs_dp (K := K) l vs h4
    exact ⟨.tup (SqT.of h3) g1, g2⟩
  | .dict _, v, h => by unfold rJ at h; exact h.elim
theorem rJs_dp {K : PySem.W.Frag} {M : MS} {H : Hp} : ∀ (ds : List PyData) (vs : List V), rJs M H vs ds → DpAll K H vs ds ∧ PyData.canLayAll0 ds = true
  | [], [], _ => ⟨.nil, rfl⟩
  | d :: ds, v :: vs, h => by
    unfold rJs at h
    obtain ⟨h1, h2⟩ := rJ_dp (K := K) d v h.1
    obtain ⟨h3, h4⟩ := rJs_dp (K := K) ds vs h.2
    exact ⟨.cons h1 h3, by show (d.canLay0 && PyData.canLayAll0 ds) = true; rw [h2, h4]; rfl⟩
  | [], _ :: _, h => by unfold rJs at h; exact h.elim
  | _ :: _, [], h => by unfold rJs at h; exact h.elim
end
/-- == and != of any data -/
theorem eqJ {K : PySem.W.Frag} {M M' : MS} {H : Hp} {x y : V} {d e : PyData} {Q : VK} (h1 : rJ M H x d) (h2 : rJ M' H y e) (n1 : d.depth ≤ 64) (n2 : e.depth ≤ 64) (k : Q (.bl (PyData.eqv d e)) H) : rEqD K x y H Q := by
  obtain ⟨a1, a2⟩ := rJ_dp (K := K) d x h1
  obtain ⟨b1, b2⟩ := rJ_dp (K := K) e y h2
  exact ⟨d, e, a1, b1, shaped_of a2 n1 (Nat.le_refl _), shaped_of b2 n2 (Nat.le_refl _), k⟩
theorem neJ {K : PySem.W.Frag} {M M' : MS} {H : Hp} {x y : V} {d e : PyData} {Q : VK} (h1 : rJ M H x d) (h2 : rJ M' H y e) (n1 : d.depth ≤ 64) (n2 : e.depth ≤ 64) (k : Q (.bl (!PyData.eqv d e)) H) : rNeD K x y H Q := by
  obtain ⟨a1, a2⟩ := rJ_dp (K := K) d x h1
  obtain ⟨b1, b2⟩ := rJ_dp (K := K) e y h2
  exact ⟨d, e, a1, b1, shaped_of a2 n1 (Nat.le_refl _), shaped_of b2 n2 (Nat.le_refl _), k⟩
/-! ints as data -/
theorem all_ints {M : MS} {H : Hp} : ∀ {vs : List V} {l : List Int}, All2 (rI M H) vs l → All2 (rJ M H) vs (l.map .int)
  | [], [], _ => trivial
  | _ :: _, _ :: _, h => ⟨rJ_int.mpr h.1, all_ints h.2⟩
  | [], _ :: _, h => h.elim
  | _ :: _, [], h => h.elim
theorem ints_all {M : MS} {H : Hp} : ∀ {vs : List V} {l : List Int}, All2 (rJ M H) vs (l.map .int) → All2 (rI M H) vs l
  | [], [], _ => trivial
  | _ :: _, _ :: _, h => ⟨rJ_int.mp h.1, ints_all h.2⟩
  | [], _ :: _, h => h.elim
  | _ :: _, [], h => h.elim
theorem tupJ {M : MS} {H : Hp} {v : V} {l : List Int} : rJ M H v (.tuple (l.map .int)) ↔ rT rI M H v l :=
  ⟨fun h => by
    obtain ⟨a, vs, h1, h2, h3, h4⟩ := rJ_tuple.mp h
    exact ⟨a, vs, h1, h2, h3, ints_all h4⟩, fun ⟨a, vs, h1, h2, h3, h4⟩ => rJ_tuple.mpr ⟨a, vs, h1, h2, h3, all_ints h4⟩⟩
theorem lstJ {M : MS} {H : Hp} {v : V} {l : List Int} : rJ M H v (.list (l.map .int)) ↔ rL rI M H v l :=
  ⟨fun h => by
    obtain ⟨a, vs, h1, h2, h3, h4⟩ := rJ_list.mp h
    exact ⟨a, vs, h1, h2, h3, ints_all h4⟩, fun ⟨a, vs, h1, h2, h3, h4⟩ => rJ_list.mpr ⟨a, vs, h1, h2, h3, all_ints h4⟩⟩
/-! ### things, rows of any data -/
def wholeD : PyData → Bool
  | .int _ => true
  | _ => false
def thingD (n : Int) : PyData → Bool
  | .int i => inR n i
  | _ => false
def tupD : PyData → Bool
  | .tuple _ => true
  | _ => false
def lstD : PyData → Bool
  | .list _ => true
  | _ => false
def itemsD : PyData → List PyData
  | .tuple l => l
  | .list l => l
  | _ => []
def rowD (d : PyData) (m n : Int) : Bool := match d with
  | .tuple l => decide ((l.length : Int) = m) && l.all (thingD n)
  | _ => false
def tyD : PyData → String
  | .none => "NoneType"
  | .bool _ => "bool"
  | .int _ => "int"
  | .str _ => "str"
  | .list _ => "list"
  | .tuple _ => "tuple"
  | .dict _ => "dict"
theorem tyJ {K : PySem.W.Frag} {M : MS} {H : Hp} {v : V} {d : PyData} (h : rJ M H v d) : TyX K H v (.type (tyD d)) := by
  cases d with
  | none => cases rJ_none.mp h; exact .base .non
  | bool b => cases rJ_bool.mp h; exact .base (.bl b)
  | int i => cases rJ_int.mp h; exact .base (.int i)
  | str x => obtain ⟨rfl, _⟩ := rJ_str.mp h; exact .base (.str x)
  | list l => obtain ⟨a, vs, rfl, _, h3, _⟩ := rJ_list.mp h; exact .base (.lst h3)
  | tuple l => obtain ⟨a, vs, rfl, _, h3, _⟩ := rJ_tuple.mp h; exact .base (.tup h3)
  | dict l => unfold rJ at h; exact h.elim
theorem kitTup (d : PyData) : kitB (tyD d) "tuple" = some (tupD d) := by
  cases d with
  | none => show kitB "NoneType" "tuple" = some false; decide +kernel
  | bool b => show kitB "bool" "tuple" = some false; decide +kernel
  | int i => show kitB "int" "tuple" = some false; decide +kernel
  | str x => show kitB "str" "tuple" = some false; decide +kernel
  | list l => show kitB "list" "tuple" = some false; decide +kernel
  | tuple l => show kitB "tuple" "tuple" = some true; decide +kernel
  | dict l => show kitB "dict" "tuple" = some false; decide +kernel
theorem kitLst (d : PyData) : kitB (tyD d) "list" = some (lstD d) := by
  cases d with
  | none => show kitB "NoneType" "list" = some false; decide +kernel
  | bool b => show kitB "bool" "list" = some false; decide +kernel
  | int i => show kitB "int" "list" = some false; decide +kernel
  | str x => show kitB "str" "list" = some false; decide +kernel
  | list l => show kitB "list" "list" = some true; decide +kernel
  | tuple l => show kitB "tuple" "list" = some false; decide +kernel
  | dict l => show kitB "dict" "list" = some false; decide +kernel
theorem wholeJ {K : PySem.W.Frag} {M : MS} {H : Hp} {v : V} {d : PyData} (h : rJ M H v d) : Whole K H v (wholeD d) := by
  have ty := tyJ (K := K) h
  cases d with
  | none => exact .oth ty (show kitB "NoneType" "int" = some false by decide +kernel)
  | bool b => cases rJ_bool.mp h; exact .bl b
  | int i => cases rJ_int.mp h; exact .int i
  | str x => exact .oth ty (show kitB "str" "int" = some false by decide +kernel)
  | list l => exact .oth ty (show kitB "list" "int" = some false by decide +kernel)
  | tuple l => exact .oth ty (show kitB "tuple" "int" = some false by decide +kernel)
  | dict l => exact .oth ty (show kitB "dict" "int" = some false by decide +kernel)
theorem thingJ {K : PySem.W.Frag} {M : MS} {H : Hp} {v : V} {d : PyData} {n : Int} (h : rJ M H v d) : Thing K H n v (thingD n d) := by
  have ty := tyJ (K := K) h
  cases d with
  | none => exact .oth ty (show kitB "NoneType" "int" = some false by decide +kernel)
  | bool b => cases rJ_bool.mp h; exact .bl b
  | int i => cases rJ_int.mp h; exact .int i
  | str x => exact .oth ty (show kitB "str" "int" = some false by decide +kernel)
  | list l => exact .oth ty (show kitB "list" "int" = some false by decide +kernel)
  | tuple l => exact .oth ty (show kitB "tuple" "int" = some false by decide +kernel)
  | dict l => exact .oth ty (show kitB "dict" "int" = some false by decide +kernel)
/-- l.count(x), ints -/
def rCountI (K : PySem.W.Frag) : V → List V → Hp → VK → Prop := fun x xs H Q => ∃ (a : Addr) (ns : List Int) (i : Int), x = .ref a ∧ xs = [.int i] ∧ SqL K H a (ns.map V.int) ∧ Q (.int (ns.countP fun y => decide (y = i) : Nat)) H
theorem plain_ints : ∀ ns : List Int, PyData.plainAll (ns.map PyData.int) = true
  | [] => rfl
  | n :: ns => by
    show (true && PyData.plainAll (ns.map PyData.int)) = true
    rw [plain_ints ns]; rfl
theorem mt_countI {X : Cx} (hu : X.A.units + 1 < cLine) : MtR X "list.count" (rCountI X.K) := by
  intro pins s σ H x xs v us Q I rx rxs h
  obtain ⟨a, ns, i, rfl, rfl, hs, q⟩ := h
  cases rx
  cases rxs with
  | cons ry rt =>
    cases rt
    obtain ⟨t, rfl⟩ := (show ∃ t, _ = Value.int i t from ry)
    obtain ⟨its, rv, ⟨⟨cls, dd, data, sls⟩, n, ho, hc, hdn, hdt⟩, hlen⟩ := I.list hs
    simp only at hc hdt
    obtain ⟨as, hr⟩ := Dp.readsAll I _ _ its (dpInts ns) rv
    obtain ⟨bs, r1⟩ := Dp.reads I (.int i) (.int i) (.int i t) (.int i) ⟨t, rfl⟩
    refine PySem.SeqAt.count_list_data (vs := its.toArray) ⟨_, ho, hc, n, hdt⟩ hr r1 (plain_ints ns) rfl (by
      show X.A.units + 1 + min _ 0 < cLine
      rw [Nat.min_zero]; exact hu) ?_
    have e : (ns.map PyData.int).countP (fun y => PyData.eqv y (.int i)) = ns.countP fun y => decide (y = i) := by
      rw [List.countP_map]
      refine List.countP_congr fun y _ => ?_
      show (y == i) = true ↔ decide (y = i) = true
      rw [Bool.beq_eq_decide_eq]
    rw [e]
    exact ⟨.int _, H, I.tok _, ⟨_, rfl⟩, q⟩
theorem rowD_ints {d : PyData} {m n : Int} (h : rowD d m n = true) : ∃ l : List Int, d = .tuple (l.map .int) ∧ (l.length : Int) = m ∧ ∀ x ∈ l, 0 ≤ x ∧ x < n := by
  cases d with
  | tuple l =>
    have h' : (decide ((l.length : Int) = m) && l.all (thingD n)) = true := h
    simp only [Bool.and_eq_true, decide_eq_true_eq] at h'
    obtain ⟨h1, h2⟩ := h'
    have key : ∀ l : List PyData, l.all (thingD n) = true → ∃ k : List Int, l = k.map .int ∧ ∀ x ∈ k, 0 ≤ x ∧ x < n := by
      intro l
      induction l with
      | nil => intro _; exact ⟨[], rfl, fun x h => by cases h⟩
      | cons e l ih =>
        intro h
        rw [List.all_cons, Bool.and_eq_true] at h
        obtain ⟨k, e1, e2⟩ := ih h.2
        cases e with
        | int i =>
          have h3 : inR n i = true := h.1
          unfold inR at h3
          simp only [Bool.and_eq_true, decide_eq_true_eq] at h3
          refine ⟨i :: k, by rw [e1]; rfl, fun x hx => ?_⟩
          rcases List.mem_cons.mp hx with q | q
          · rw [q]; exact h3
          · exact e2 x q
        | _ => exact absurd h.1 (fun z => nomatch z)
    obtain ⟨k, e1, e2⟩ := key l h2
    exact ⟨k, by rw [e1], by rw [e1, List.length_map] at h1; exact h1, e2⟩
  | _ => cases h
end WD
/-! enumerate of a tuple -/
namespace WD
open PySem PySem.Spec PyProof.Rows L2
open AutoSeq1 (wpAny_loadPart')
section
variable {prog : Program} {w : World} {A : Around} {E : Value → Shared → Prop}
/-- a turn of an enumerate whose inner iterator gives x and then stands as P says -/
theorem enum_turn {s : Shared} {e it : Addr} {i : Nat} {x old : Value} {P : Heap → Prop} {Q : Value → Shared → Prop} (he : IsEnum s.heap e it i old) (hne : e ≠ it)
    (next : ∀ {Q' : Value → Shared → Prop}, (∀ h', P h' → Heap.SameBut it s.heap h' → Q' x { s with heap := h' }) → wpAny (model prog w) A (Builtin.SmallTypes.nextOf (.ref it)) Q' E s)
    (st : ∀ {h h'}, P h → Heap.ExtBut e h h' → P h')
    (hQ : ∀ h', IsEnumOut h' e it ((i : Int) + 1) x s.heap.objs.size → P h' → h'.get? s.heap.objs.size = some { cls := .type "tuple", data := .seq #[.int i s.toks, x] } →
      (∀ b o, b ≠ e → b ≠ it → s.heap.get? b = some o → h'.get? b = some o) → Q (.ref s.heap.objs.size) { s with heap := h', toks := s.toks + 1 }) :
    wpAny (model prog w) A (Builtin.«enumerate.__next__» ⟨[.ref e], []⟩) (fun fin s' => ∃ v, fin = .done (.ret v) ∧ Q v s') E s := by
  obtain ⟨hp, g, d, tk, os⟩ := s
  dsimp only at he next hQ
  have lt : e < hp.objs.size := Heap.lt_size he
  show wpAny _ _ (field (.ref e) 2 >>= _) _ _ ⟨hp, g, d, tk, os⟩
  refine wpAny_bind (wpAny_field he rfl (x := .ref it) rfl (wpAny_bind (next fun h1 p1 s1 => ?_)))
  have e1 : IsEnum h1 e it i old := (s1.2 e hne).trans he
  show wpAny _ _ (field (.ref e) 3 >>= _) _ _ _
  refine wpAny_bind (wpAny_field e1 rfl (x := rawInt i) rfl ?_)
  show wpAny _ _ (field (.ref e) 4 >>= _) _ _ _
  refine wpAny_bind (wpAny_field e1 rfl (x := .none) rfl ?_)
  show wpAny _ _ (mkInt i >>= _) _ _ _
  refine wpAny_bind (wpAny_mkInt ?_)
  show wpAny _ _ (setField (.ref e) 3 (rawInt ((i : Int) + 1)) >>= _) _ _ _
  refine wpAny_bind (wpAny_setField_rec e1 (by simp) fun h2 e2 s2 => ?_)
  have e2' : IsEnum h2 e it ((i : Int) + 1) old := e2
  show wpAny _ _ (setField (.ref e) 4 .none >>= _) _ _ _
  refine wpAny_bind (wpAny_setField_rec e2' (by simp) fun h3 e3 s3 => ?_)
  have e3' : IsEnum h3 e it ((i : Int) + 1) old := e3
  have p3 : P h3 := st (st p1 (Heap.SameBut.extBut s2)) (Heap.SameBut.extBut s3)
  have sz : h3.objs.size = hp.objs.size := s3.1.trans (s2.1.trans s1.1)
  have k3 : ∀ b o, b ≠ e → b ≠ it → hp.get? b = some o → h3.get? b = some o := fun b o n1 n2 q => (s3.2 b n1).trans ((s2.2 b n1).trans ((s1.2 b n2).trans q))
  show wpAny _ _ (newTuple [.int i tk, x] >>= _) _ _ _
  refine wpAny_bind (wpAny_newTuple ?_)
  have e4 : IsEnum (h3.push { cls := .type "tuple", data := .seq #[.int i tk, x] }) e it ((i : Int) + 1) old := Heap.get?_push_of_some _ e3'
  have t4 : (h3.push { cls := .type "tuple", data := .seq #[.int i tk, x] }).get? hp.objs.size = some { cls := .type "tuple", data := .seq #[.int i tk, x] } := sz ▸ Heap.get?_push_size _ rfl
  have p4 : P (h3.push { cls := .type "tuple", data := .seq #[.int i tk, x] }) := st p3 fun b o _ q => Heap.get?_push_of_some _ q
  have k4 : ∀ b o, b ≠ e → b ≠ it → hp.get? b = some o → (h3.push { cls := .type "tuple", data := .seq #[.int i tk, x] }).get? b = some o := fun b o n1 n2 q => Heap.get?_push_of_some _ (k3 b o n1 n2 q)
  generalize h3.push { cls := .type "tuple", data := .seq #[.int i tk, x] } = h4 at e4 t4 p4 k4
  show wpAny _ _ (Builtin.SmallTypes.ownedTupleIsFree (.ref e) >>= _) _ _ ⟨h4, g, d, tk + 1, os⟩
  rw [sz]
  refine wpAny_bind ?_
  unfold Builtin.SmallTypes.ownedTupleIsFree
  refine wpAny_bind (wpAny_field e4 rfl (x := .none) rfl (wpAny_pure ?_))
  simp only [if_true]
  refine wpAny_bind (wpAny_rule (wpAny_bind (wpAny_field e4 rfl (x := old) rfl (wpAny_bind (wpAny_setField_rec e4 (by simp) fun h5 e5 s5 => ?_)))))
  have e5' : IsEnum h5 e it ((i : Int) + 1) x := e5
  show wpAny _ _ (Builtin.SmallTypes.ownedTupleHandOut (.ref e) (.ref hp.objs.size) >>= _) _ _ _
  refine wpAny_bind ?_
  unfold Builtin.SmallTypes.ownedTupleHandOut
  refine wpAny_bind (wpAny_setField_rec e5' (by simp) fun h6 e6 s6 => ?_)
  have e6' : IsEnumOut h6 e it ((i : Int) + 1) x hp.objs.size := e6
  refine wpAny_setField_rec e6' (by simp) fun h7 e7 s7 => ?_
  refine wpAny_bind (wpAny_letGo (wpAny_pure ⟨_, rfl, hQ h7 e7 ?_ ?_ ?_⟩))
  · exact st (st (st p4 (Heap.SameBut.extBut s5)) (Heap.SameBut.extBut s6)) (Heap.SameBut.extBut s7)
  · exact (s7.2 _ (Nat.ne_of_gt lt)).trans ((s6.2 _ (Nat.ne_of_gt lt)).trans ((s5.2 _ (Nat.ne_of_gt lt)).trans t4))
  · exact fun b o n1 n2 q => (s7.2 b n1).trans ((s6.2 b n1).trans ((s5.2 b n1).trans (k4 b o n1 n2 q)))
theorem enumT_item {s : Shared} {e it l : Addr} {i : Nat} {items : Array Value} {x old : Value} {Q : Option Value → Shared → Prop} (he : IsEnum s.heap e it i old) (hit : s.heap.IsTupleIter it l i) (hl : s.heap.IsTuple l items) (hx : items[i]? = some x) (hne : e ≠ it)
    (hQ : ∀ h', IsEnumOut h' e it ((i : Int) + 1) x s.heap.objs.size → h'.IsTupleIter it l (i + 1) → h'.get? s.heap.objs.size = some { cls := .type "tuple", data := .seq #[.int i s.toks, x] } →
      (∀ b o, b ≠ e → b ≠ it → s.heap.get? b = some o → h'.get? b = some o) → Q (some (.ref s.heap.objs.size)) { s with heap := h', toks := s.toks + 1 }) : wpAny (model prog w) A (pyNext (.ref e)) Q E s := by
  have hT : s.TypeIs (.ref e) "enumerate" := ⟨_, he, rfl⟩
  unfold pyNext
  refine wpAny_bind (wpAny_attempt (wpAny_callSpecial?_slot (name := Str.ofString "__next__") hT F.slot_enumerate_next (wpAny_call_entry F.slot_enumerate_next hT F.entry_enumerate_next (enum_turn (x := x) (P := fun h => h.IsTupleIter it l (i + 1)) he hne ?_ ?_ ?_) (F.args_enumerate_next_1 _))))
  · exact fun q => RZ.nextOf_tuple_item hit hl hx q
  · exact fun {h h'} p k => p.extBut k (Ne.symm hne)
  · exact fun h' a b c k => wpAny_pure (hQ h' a b c k)
theorem enumT_end {s : Shared} {e it l : Addr} {i : Nat} {items : Array Value} {old : Value} {Q : Option Value → Shared → Prop} (hh : A.handled = none) (he : IsEnum s.heap e it i old) (hit : s.heap.IsTupleIter it l i) (hl : s.heap.IsTuple l items) (hx : items[i]? = none)
    (hQ : ∀ h', Heap.ExtBut it s.heap h' → Q none { s with heap := h' }) : wpAny (model prog w) A (pyNext (.ref e)) Q E s := by
  have hT : s.TypeIs (.ref e) "enumerate" := ⟨_, he, rfl⟩
  unfold pyNext
  refine wpAny_bind (wpAny_attempt (wpAny_callSpecial?_slot (name := Str.ofString "__next__") hT F.slot_enumerate_next (wpAny_call_entry F.slot_enumerate_next hT F.entry_enumerate_next ?_ (F.args_enumerate_next_1 _))))
  show wpAny _ _ (field (.ref e) 2 >>= _) _ _ _
  refine wpAny_bind (wpAny_field he rfl (x := .ref it) rfl (wpAny_bind (RZ.nextOf_tuple_end hh hit hl hx fun h' x he' hx' => ?_)))
  obtain ⟨o, ho, hc⟩ := hx'
  exact wpAny_bind (wpAny_isInstance (T := "StopIteration") (b := true) ⟨o, ho, hc⟩ isSubtype_stop (wpAny_pure (hQ _ he')))
theorem enumT_new (l : Addr) (items : Array Value) (n : Nat) (dct : Option Addr) (sl : Array (Option Value)) :
    Meets (Builtin.«enumerate.__new__» ⟨[.type "enumerate", .ref l], []⟩) (fun _ R s => s.heap.get? l = some { cls := .type "tuple", dict := dct, data := .seq items n, slots := sl } ∧
      R (.ok (.ret (.ref (s.heap.push { cls := .type "tuple_iterator", data := .fields #[.ref l, .int 0 0] }).objs.size)))
        { s with heap := (s.heap.push { cls := .type "tuple_iterator", data := .fields #[.ref l, .int 0 0] }).push { cls := .type "enumerate", data := .fields #[.none, .bool false, .ref s.heap.objs.size, rawInt 0, .none, .none] } }) :=
  .of_wp fun prog w A R s h => by
    obtain ⟨hp, g, d, tk, os⟩ := s
    obtain ⟨hl, h⟩ := h
    have hsub := sub_enumerate
    have hL : Heap.IsTuple (Shared.heap ⟨hp, g, d, tk, os⟩) l items := ⟨_, hl, rfl, n, rfl⟩
    wp_walk using wpAny_loadPart' hl
    refine wpAny_stack_any fun st => wpAny_pure ?_
    split
    · rename_i c _ _ _ _ _
      cases (c == Value.type "enumerate") <;> (wp_walk using wpAny_loadPart' hl, wpAny_pyIter_tuple hL; exact ⟨_, rfl, h⟩)
    · wp_walk using wpAny_loadPart' hl, wpAny_pyIter_tuple hL
      exact ⟨_, rfl, h⟩
theorem call_enumT {s : Shared} {l : Addr} {items : Array Value} {Q : Value → Shared → Prop} (hL : s.heap.IsTuple l items)
    (h : ∀ h', IsEnum h' (s.heap.objs.size + 1) s.heap.objs.size 0 .none → h'.IsTupleIter s.heap.objs.size l 0 → (∀ b o, s.heap.get? b = some o → h'.get? b = some o) → Q (.ref (s.heap.objs.size + 1)) { s with heap := h' }) :
    wpAny (model prog w) A (call (.type "enumerate") [.ref l]) Q E s := by
  obtain ⟨⟨c, dct, dt, sl⟩, hl, hc, n, hd⟩ := hL
  simp only at hc hd
  subst hc hd
  refine callType_new F.called_enumerate (by decide) (F.typeCall_enumerate_1 _) (F.newCall_enumerate_1 _) (fun obj => F.args_object_init_2 obj _) F.entry_enumerate_new (enumT_new l items n dct sl) ⟨hl, ?_⟩
  have hz : (s.heap.push { cls := .type "tuple_iterator", data := .fields #[.ref l, .int 0 0] }).objs.size = s.heap.objs.size + 1 := Heap.size_push ..
  show _ ∧ _
  rw [hz]
  have he : IsEnum ((s.heap.push { cls := .type "tuple_iterator", data := .fields #[.ref l, .int 0 0] }).push { cls := .type "enumerate", data := .fields #[.none, .bool false, .ref s.heap.objs.size, rawInt 0, .none, .none] }) (s.heap.objs.size + 1) s.heap.objs.size 0 .none := by
    have q := Heap.get?_push_size (s.heap.push { cls := .type "tuple_iterator", data := .fields #[.ref l, .int 0 0] }) (o := { cls := .type "enumerate", data := .fields #[.none, .bool false, .ref s.heap.objs.size, rawInt 0, .none, .none] }) rfl
    rw [hz] at q
    exact q
  exact ⟨⟨_, he, rfl⟩, h _ he ⟨_, Heap.get?_push_of_some _ (Heap.get?_push_size _ rfl), rfl, rfl⟩ fun b o x => Heap.get?_push_of_some _ (Heap.get?_push_of_some _ x)⟩
end
/-- the tuple at a, each item in a new pair -/
def ItEnT (K : PySem.W.Frag) (a : Addr) : It :=
  ⟨fun i H => ∃ (xs : List V) (x : V), SqT K H a xs ∧ xs[i]? = some x, fun i H v H' => ∃ T x, v = .ref T ∧ H T = none ∧ H' = upd H T (.tup [.int (i : Nat), x]) ∧ ∀ xs, SqT K H a xs → xs[i]? = some x, fun i H => ∃ xs : List V, SqT K H a xs ∧ xs.length ≤ i⟩
theorem turn_enT {P : Program} {w : World} {K : PySem.W.Frag} {elts : List Expr} {kk : Nat} {tpos : Pos} (a e it : Addr) : Turn P w K (.Tuple elts kk tpos) (ItEnT K a) [e, it] e (fun i h => (∃ old, IsEnum h e it ((i : Nat) : Int) old) ∧ h.IsTupleIter it a i ∧ e ≠ it) where
  mem := List.mem_cons_self
  obj := fun i h st b hb => by
    obtain ⟨⟨old, he⟩, ⟨o, ho, hc, hd⟩, _⟩ := st
    rcases List.mem_cons.mp hb with z | z
    · subst z; exact ⟨_, he, nofun⟩
    · exact ⟨o, (List.mem_singleton.mp z) ▸ ho, fun v q => by rw [hd] at q; cases q⟩
  keep := fun i h h' st k => ⟨st.1.imp fun old he => k e List.mem_cons_self _ he, st.2.1.at fun o q => k it (List.mem_cons_of_mem _ List.mem_cons_self) o q, st.2.2⟩
  item := by
    intro X hP hw hK hc i pins s σ H E I hf st hg
    subst hP hw hK
    obtain ⟨⟨old, he⟩, hit, hne⟩ := st
    obtain ⟨xs, x, hq, hx⟩ := hg
    obtain ⟨its, rv, p, hz⟩ := I.tuple hq
    obtain ⟨u, hu, ru⟩ := rv.get hx
    have le : e < s.heap.objs.size := Heap.lt_size he
    have li : it < s.heap.objs.size := let ⟨_, q, _⟩ := hit; Heap.lt_size q
    refine enumT_item he hit (show s.heap.IsTuple a its.toArray from p) (x := u) (by simpa using hu) hne fun h' ho hit' hT hk => ⟨_, rfl, wpAny_letOwnedTupleGo_enum (s := { s with heap := h', toks := s.toks + 1 }) ho fun h'' he' sb => ?_⟩
    have new : ObjOk X.prog X.w (upd H s.heap.objs.size (.tup [.int (i : Nat), x])) h'' s.heap.objs.size (.tup [.int (i : Nat), x]) := ⟨by show 2 ≤ sizeLine; decide, [.int i s.toks, u], .cons ⟨_, rfl⟩ (.cons ru .nil), ⟨_, (sb.2 _ (Nat.ne_of_gt le)).trans hT, rfl, _, rfl⟩⟩
    have no : ∀ {b : Addr}, b ∉ [e, it] → b ≠ e ∧ b ≠ it := fun {b} hb => ⟨fun z => hb (z ▸ List.mem_cons_self), fun z => hb (z ▸ List.mem_cons_of_mem _ List.mem_cons_self)⟩
    have I1 : Inv X pins σ (upd H s.heap.objs.size (.tup [.int (i : Nat), x])) { s with heap := h'', toks := s.toks + 1 } :=
      I.turnedNew (ch := [e, it]) (fun b ob hb q => (sb.2 b (no hb).1).trans (hk b ob (no hb).1 (no hb).2 q)) hf (Nat.le_refl _) new
    refine ⟨.ref s.heap.objs.size, _, I1, rfl, ⟨_, x, rfl, I.hok.fresh (Nat.le_refl _), rfl, fun ys hy => by rw [I.tuple_inj hy hq]; exact hx⟩, ⟨⟨u, ?_⟩, hit'.at fun o q => (sb.2 it (Ne.symm hne)).trans q, hne⟩, fun b hb => ?_⟩
    · rw [Int.natCast_add]; exact he'
    · have hb' : b < s.heap.objs.size := (List.mem_cons.mp hb).elim (fun z => z ▸ le) fun z => (List.mem_singleton.mp z) ▸ li
      rw [upd_ne (Nat.ne_of_lt hb')]
      exact (hf b hb).1
  done := by
    intro X hP hw hK hc i pins s σ H E I hf st hg
    subst hP hw hK
    obtain ⟨⟨old, he⟩, hit, hne⟩ := st
    obtain ⟨xs, hq, hx⟩ := hg
    obtain ⟨its, rv, p, hz⟩ := I.tuple hq
    obtain ⟨f0, f1, f2, f3, f4, f5⟩ := hf it (List.mem_cons_of_mem _ List.mem_cons_self)
    have hl := rv.length
    exact enumT_end (I.ok.hd hc) he hit (show s.heap.IsTuple a its.toArray from p) (by simp; omega) fun h' eb => ⟨rfl, I.turned (t' := s.toks) (fun b o hb q => eb b o hb q) f0 f1 f3 f4 f5⟩
  self := fun A i s Q E st h => let ⟨⟨_, he⟩, _⟩ := st; wpAny_pyIter_enum he h
def iEnT (K : PySem.W.Frag) (ta : TA) : TI := fun σ H R => ta σ H fun vs H1 => ∃ a xs, vs = [.ref a] ∧ SqT K H1 a xs ∧ R (ItEnT K a) H1
theorem pi_enumT {X : Cx} (K : PySem.W.Frag) {e : Expr} {ta : TA} {p pos tpos : Pos} {elts : List Expr} {kk : Nat} (hg : Gl X "enumerate") (hm : X.mg "enumerate" = none) (ha : PA X [e] ta) (hs : starEach [e] X.env = [(false, eval e X.env)] := by rfl) (hK : X.K = K := by rfl) :
    PI X (.Tuple elts kk tpos) (.Call (.Name "enumerate" p) [e] [] pos) (iEnT K ta) := by
  subst hK
  refine ⟨fun pins s σ H R I h => Call_ (ld_blt I hg hm boot_enumerate (PyProof.Rows.callWith_type1 (thn (ha.run pos pins s σ H _ I h) fun us s1 hh => ?_) hs rfl))⟩
  obtain ⟨vs, H1, I1, r1, a, xs, ex, hq, q⟩ := hh
  subst ex
  rw [Vals.ref1 r1]
  obtain ⟨its, rv, p', hz⟩ := I1.tuple hq
  refine call_enumT (show s1.heap.IsTuple a its.toArray from p') fun h' he hit hk => wpAny_pyIter_enum he ?_
  refine ⟨s1.heap.objs.size + 1, [s1.heap.objs.size + 1, s1.heap.objs.size], _, _, H1, rfl, I1.kept (t' := s1.toks) hk, turn_enT a (s1.heap.objs.size + 1) s1.heap.objs.size, ⟨⟨.none, he⟩, hit, Nat.succ_ne_self _⟩, fun b hb => ?_, q⟩
  have hle : s1.heap.objs.size ≤ b := (List.mem_cons.mp hb).elim (fun z => z ▸ Nat.le_succ _) fun z => (List.mem_singleton.mp z) ▸ Nat.le_refl _
  exact I1.fpOk hle (I1.hok.fresh hle)
theorem walk_enT {K : PySem.W.Frag} {a : Addr} {xs : List V} : Walk (ItEnT K a) xs.length (fun H => SqT K H a xs) (YPair (fun i => some (.int (i : Nat))) (fun i => xs[i]?)) := by
  refine ⟨fun i _ hi q => ⟨xs, xs[i], q, by simp [hi]⟩, fun _ q => ⟨xs, q, Nat.le_refl _⟩, fun i H v H' _ q y => ?_⟩
  obtain ⟨T, x, h1, h2, h3, h4⟩ := y
  exact ⟨T, .int (i : Nat), x, h1, h2, h3, rfl, h4 xs q⟩
theorem walk_rg {n : Nat} : Walk (Itr 0 n) n (fun _ => True) (YFn fun i => .int (i : Int)) :=
  walk_range.mono (fun _ h => h) fun i H x H' _ _ y => ⟨y.1, y.2.trans (by show V.int (0 + (i : Int)) = V.int (i : Int); rw [Int.zero_add])⟩
theorem k_mt_countI {X : Cx} (K : PySem.W.Frag) (hu : X.A.units + 1 < cLine) (h : X.K = K := by rfl) : MtR X "list.count" (rCountI K) := by
  subst h
  exact mt_countI hu
end WD
/-! isinstance(e, (C, ..)) in an except suite -/
namespace WD
open PySem PySem.Spec PyProof.Rows L2
def rIsXT (K : PySem.W.Frag) (a : Addr) (cls : Value) (d : Option Addr) : List V → Hp → VK → Prop := fun xs H Q => ∃ (D tp : Addr) (cs : List V) (us : List Value) (b : Bool), cls = .ref D ∧ ExD K D ∧ (∀ dd, d = some dd → ∃ fs, H dd = some (.xd fs)) ∧ xs = [.ref a, .ref tp] ∧ H tp = some (.tup cs) ∧ Paired ClsV cs us ∧ PySem.W.kitAny K (.ref D) us = some b ∧ Q (.bl b) H
theorem call_isXT {X : Cx} {a : Addr} {oe : Obj} {cls : Value} {d : Option Addr} {pn : List (Addr × Obj)} (hz : Zc cls d oe) (hf : ∃ vs, oe.data = .fields vs) : CallR (X.suite a ((a, oe) :: pn)) (.builtin "isinstance") (rIsXT X.K a cls d) := by
  intro pins s σ H xs us Q I r h
  obtain ⟨D, tp, cs, ws, b, ec, C, hd, rfl, hT, pc, e, q⟩ := h
  subst ec
  obtain ⟨u1, u2, rfl, r1, r2⟩ := vals2 r
  cases (show u1 = Value.ref a from r1)
  cases (show u2 = Value.ref tp from r2)
  obtain ⟨hget, _⟩ := I.pin (a, oe) (List.mem_append.mpr (.inl List.mem_cons_self))
  obtain ⟨vs, hv⟩ := hf
  have J : ∃ od, PySem.W.InstAt s.heap a oe D od := by
    cases d with
    | none => exact ⟨none, hget, hz.1, by unfold PySem.W.notCls; rw [hv], by rw [hz.2]; exact trivial⟩
    | some dd =>
      obtain ⟨fs, hfs⟩ := hd dd rfl
      obtain ⟨mA, ⟨o, _, _, ho, _⟩, _⟩ := (show ObjOk X.prog X.w H s.heap dd (.xd fs) from I.hok dd _ hfs)
      exact ⟨some o, hget, hz.1, by unfold PySem.W.notCls; rw [hv], by rw [hz.2]; exact ho⟩
  obtain ⟨od, J⟩ := J
  obtain ⟨_, its, rv, ⟨oc, odd, dt, sl⟩, h1, h2, n, h3⟩ := (show ObjOk X.prog X.w H s.heap tp (.tup cs) from I.hok tp _ hT)
  have e3 := ClsV.all pc rv
  simp only at h2 h3
  subst e3 h2 h3
  exact PySem.W.kia_tup (PySem.W.kitx_exc C.cl C.ga C.gg C.sb C.cc C.sp C.tk C.mr) I.kIn J h1 e (fun z => nomatch z) fun tk => ⟨.bl b, H, I.tok tk, rfl, q⟩
/-! ### t[::-1] of a tuple -/
theorem fm_congr {α β : Type} {f g : α → Option β} : ∀ L : List α, (∀ x ∈ L, f x = g x) → L.filterMap f = L.filterMap g
  | [], _ => rfl
  | a :: L, h => by
    have ih := fm_congr L fun x hx => h x (List.mem_cons_of_mem _ hx)
    rw [List.filterMap_cons, List.filterMap_cons, h a List.mem_cons_self, ih]
theorem pick_rev (xs : List Value) : ((List.range xs.toArray.size).filterMap fun (k : Nat) => xs.toArray[((xs.toArray.size : Int) - 1 + (k : Int) * (-1)).toNat]?) = xs.reverse := by
  have e : ((List.range xs.toArray.size).filterMap fun (k : Nat) => xs.toArray[((xs.toArray.size : Int) - 1 + (k : Int) * (-1)).toNat]?) = (List.range xs.length).map fun k => xs.reverse.getD k .none := by
    rw [List.size_toArray]
    rw [← List.filterMap_eq_map]
    refine fm_congr _ fun k hk => ?_
    have hk := List.mem_range.mp hk
    have e1 : ((xs.length : Int) - 1 + (k : Int) * (-1)).toNat = xs.length - 1 - k := by omega
    rw [e1]
    have h2 : k < xs.reverse.length := by rw [List.length_reverse]; exact hk
    show xs.toArray[xs.length - 1 - k]? = some (xs.reverse.getD k .none)
    rw [List.getD_eq_getElem?_getD, List.getElem?_eq_getElem h2, List.getElem_reverse]
    have h3 : xs.length - 1 - k < xs.length := by omega
    simp [h3]
  rw [e]
  have := mapRange (fun x : Value => x) .none xs.reverse (n := xs.length) (by rw [List.length_reverse])
  rw [List.map_id'' (fun _ => rfl)] at this
  exact this
theorem places_rev (n : Nat) : Builtin.Slice.slicePlaces ((n : Int) - 1) (-1) (-1) = n := by
  unfold Builtin.Slice.slicePlaces
  simp only [show ¬ ((-1 : Int) > 0) by omega, if_false, Int.neg_neg, Int.ediv_one]
  split <;> omega
theorem adjust_rev (n : Nat) : Builtin.Slice.sliceAdjust none none (-1) (n : Int) = ((n : Int) - 1, -1) := by
  unfold Builtin.Slice.sliceAdjust
  simp only [show ((-1 : Int) < 0) by omega, if_true]
section
variable {prog : Program} {w : World} {A : Around} {E : Value → Shared → Prop} {s : Shared}
theorem applied_rev {sl : Addr} {u : Tok} {n : Nat} {Q : Int × Int × Nat → Shared → Prop} (hs : s.heap.IsSliceOf sl .none .none (.int (-1) u)) (h : Q ((n : Int) - 1, -1, n) s) : wpAny (model prog w) A (Builtin.Slice.sliceApplied (.ref sl) (pure (n : Int))) Q E s := by
  obtain ⟨os, hos, hcs, hds⟩ := id hs
  unfold Builtin.Slice.sliceApplied Builtin.Slice.sliceFields
  refine wpAny_bind (wpAny_bind (wpAny_field hos hds (x := .none) rfl (wpAny_bind (wpAny_field hos hds (x := .none) rfl (wpAny_bind (wpAny_field hos hds (x := .int (-1) u) rfl (wpAny_pure ?_)))))))
  refine wpAny_bind (HT.slicePart_ (.int (-1) u) ?_)
  show wpAny _ _ (if ((-1 : Int) == 0) = true then _ else _) _ _ s
  rw [if_neg (by decide)]
  refine wpAny_bind (HT.slicePart_ .none (wpAny_bind (HT.slicePart_ .none (wpAny_bind (wpAny_pure ?_)))))
  show wpAny _ _ (match Builtin.Slice.sliceAdjust none none (-1) (n : Int) with | (lo, hi) => pure (lo, (-1 : Int), Builtin.Slice.slicePlaces lo hi (-1))) _ _ s
  rw [adjust_rev n]
  show wpAny _ _ (pure ((n : Int) - 1, (-1 : Int), Builtin.Slice.slicePlaces ((n : Int) - 1) (-1) (-1))) _ _ s
  rw [places_rev]
  exact wpAny_pure h
theorem item_rev {t sl : Addr} {xs : List Value} {u : Tok} {Q : Value → Shared → Prop} (ht : IsTup s.heap t xs.toArray) (hs : s.heap.IsSliceOf sl .none .none (.int (-1) u))
    (h : Q (.ref s.heap.objs.size) { s with heap := s.heap.push { cls := .type "tuple", data := .seq xs.reverse.toArray } }) (hsz : xs.length ≤ sizeLine) : wpAny (model prog w) A (getItem (.ref t) (.ref sl)) Q E s := by
  have room : sizeOk (.seq xs.reverse.toArray) := by
    show xs.reverse.toArray.size ≤ sizeLine
    rw [List.size_toArray, List.length_reverse]
    exact hsz
  obtain ⟨os, hos, hcs, hds⟩ := id hs
  have hTs : s.TypeIs (.ref sl) "slice" := ⟨os, hos, hcs⟩
  unfold getItem
  try with_reducible refine wpAny_holding ?_
  first | refine wpAny_bind (wpAny_pure ?_) | skip
  refine wpAny_bind (wpAny_sequenceKey ht.typeIs (by decide) (wpAny_bind (wpAny_callSpecial?_slot (name := Str.ofString "__getitem__") ht.typeIs PyProof.Rows.slot_tuple_getitem (wpAny_call_entry PyProof.Rows.slot_tuple_getitem ht.typeIs entry_tuple_getitem ?_ (args_tuple_getitem _ _)))))
  show wpAny _ _ (Builtin.Tuple.tupleItemsOf (.ref t) >>= _) _ _ s
  refine wpAny_bind (tupleItemsOf_ ht (wpAny_bind (wpAny_typeOf hTs ?_)))
  rw [if_pos (by decide)]
  refine wpAny_bind (applied_rev hs ?_)
  show wpAny _ _ (if (((xs.toArray.size : Int) - 1) == 0 && (-1 : Int) == 1 && xs.toArray.size == xs.toArray.size) = true then _ else _) _ _ s
  rw [if_neg (by rw [show ((-1 : Int) == 1) = false from rfl, Bool.and_false, Bool.false_and]; exact Bool.false_ne_true), pick_rev]
  first
    | exact wpAny_bind (m := Builtin.Tuple.tupleExact _) (wpAny_newObj_type (wpAny_pure ⟨_, rfl, wpAny_pure h⟩) room)
    | exact wpAny_bind (wpAny_bind (m := Builtin.Tuple.tupleExact _) (wpAny_newObj_type (wpAny_pure (wpAny_pure ⟨_, rfl, wpAny_pure h⟩)) room))
    | exact wpAny_bind (wpAny_bind (m := Builtin.Tuple.tupleExact _) (wpAny_newObj_type (wpAny_pure ⟨_, rfl, wpAny_pure h⟩) room))
end
def tRevT (K : PySem.W.Frag) (te : TE) : TE := fun σ H Q => te σ H fun x H1 => ∃ a xs, x = .ref a ∧ SqT K H1 a xs ∧ ∀ p, H1 p = none → Q (.ref p) (upd H1 p (.tup xs.reverse))
theorem pe_revT {X : Cx} {e : Expr} {te : TE} {k : Nat} {p1 p2 p3 pos : Pos} (he : PE X e te) : PE X (.Subscript e (.Slice none none (some (.UnaryOp .USub (.Constant (.int 1) k p1) p2)) p3) pos) (tRevT X.K te) := by
  refine ⟨fun pins s σ H Q I h => Subscript_ (thn (he.run pins s σ H _ I h) fun v s1 hh => ?_)⟩
  obtain ⟨x, H1, I1, r1, a, xs, ex, hx, q⟩ := hh
  subst ex
  cases (show v = Value.ref a from r1)
  have step : PO X (some (.UnaryOp .USub (.Constant (.int 1) k p1) p2)) (tPart (tUn (rU fun i => .int (-i)) (tC (.int 1)))) := po_some (pe_un un_neg pe_int)
  refine wpAny_Slice (thn (po_none.run pins s1 σ H1 (fun o H2 => o = none ∧ H2 = H1) I1 ⟨rfl, rfl⟩) fun vl s2 h2 => ?_)
  obtain ⟨l, H2, I2, pl, rfl, rfl⟩ := h2
  refine thn (po_none.run pins s2 σ H2 (fun o H3 => o = none ∧ H3 = H2) I2 ⟨rfl, rfl⟩) fun vu s3 h3 => ?_
  obtain ⟨u, H3, I3, pu, rfl, rfl⟩ := h3
  refine thn (step.run pins s3 σ H3 (fun o H4 => o = some (-1) ∧ H4 = H3) I3 ⟨1, rfl, -1, rfl, rfl, rfl⟩) fun vs s4 h4 => ?_
  obtain ⟨o, H4, I4, ps, rfl, rfl⟩ := h4
  cases pl
  cases pu
  cases ps with
  | int i tk =>
    have I5 : Inv X pins σ H4 { s4 with heap := s4.heap.push { cls := .type "slice", data := .fields #[.none, .none, .int (-1) tk] } } := I4.kept (t' := s4.toks) fun b ob q => Heap.get?_push_of_some _ q
    obtain ⟨its, r, ht, hz⟩ := I5.tuple hx
    have hlen := r.length
    show wpAny (model X.prog X.w) X.A (subscriptTail e (.Slice none none (some (.UnaryOp .USub (.Constant (.int 1) k p1) p2)) p3) (.ref a) (.ref s4.heap.objs.size)) (EP X pins σ Q) X.xe { s4 with heap := s4.heap.push { cls := .type "slice", data := .fields #[.none, .none, .int (-1) tk] } }
    refine tail_any (ops := [.ref a, .ref s4.heap.objs.size]) ht.typeIs (PyProof.Rows.slot_tuple_getitem.lookup) (item_rev (xs := its) ht (Heap.IsSliceOf.new _ .none .none (.int (-1) tk)) ?_ (by omega)) (by with_unfolding_all rfl)
    refine ⟨.ref _, _, I5.laid (t' := s4.toks) (o := .tup xs.reverse) (fun b ob q => Heap.get?_push_of_some _ q) (Nat.le_refl _) ?_, rfl, q _ (I5.hok.fresh (Nat.le_refl _))⟩
    exact ⟨by rw [List.length_reverse]; exact hz, _, r.reverse, IsTup.new _ _⟩
end WD
/-! WDZip3: zip of three tuples, the items kept by a name -/
namespace WD
open PySem PySem.Spec PyProof.Rows L2
open PySem.Sem (wp)
/-- a zip object, whatever it says of its own tuple -/
def Z3 (h : Heap) (z TI TO : Addr) : Prop := ∃ f0 f1 : Value, (f0 = .none ∨ ∃ a t, f0 = .int a t) ∧ h.get? z = some { cls := .type "zip", dict := none, data := .fields #[f0, f1, .bool false, .ref TI, .ref TO], slots := #[] }
section
variable {prog : Program} {w : World} {A : Around} {E : Value → Shared → Prop} {s : Shared} {z TI TO i1 i2 i3 l1 l2 l3 : Addr} {i : Nat} {xs ys us : Array Value}
theorem w_alive {M : Model} {a : Addr} {Q : Option Obj → Shared → Prop} (h : Q (s.heap.get? a) s) : wpAny M A (loadIfAlive a) Q E s := fun _ _ _ => h
/-- whether the tuple is free: either way the zip object alone may change -/
theorem z3_free {Q : Bool → Shared → Prop} (hz : Z3 s.heap z TI TO) (hQ : ∀ b h', Z3 h' z TI TO → Heap.SameBut z s.heap h' → Q b { s with heap := h' }) : wpAny (model prog w) A (Builtin.SmallTypes.ownedTupleIsFree (.ref z)) Q E s := by
  obtain ⟨f0, f1, hf, hz⟩ := hz
  unfold Builtin.SmallTypes.ownedTupleIsFree
  refine wpAny_bind (wpAny_field hz rfl (x := f0) rfl ?_)
  rcases hf with rfl | ⟨a, t, rfl⟩
  · exact wpAny_pure (hQ _ s.heap ⟨_, _, .inl rfl, hz⟩ ⟨rfl, fun _ _ => rfl⟩)
  · show wpAny _ _ (loadIfAlive a.toNat >>= _) _ _ _
    refine wpAny_bind (w_alive ?_)
    cases s.heap.get? a.toNat with
    | none => exact wpAny_pure (hQ _ s.heap ⟨_, _, .inr ⟨a, t, rfl⟩, hz⟩ ⟨rfl, fun _ _ => rfl⟩)
    | some o =>
      show wpAny _ _ (field (.ref z) 1 >>= _) _ _ _
      refine wpAny_bind (wpAny_field hz rfl (x := f1) rfl ?_)
      show wpAny _ _ (if (f1 != .bool true) = true then setField (.ref z) 1 (.bool true) >>= (fun _ => pure false) else pure false) _ _ _
      split
      · refine wpAny_bind (wpAny_setField_rec hz (by simp) fun g hg sg => wpAny_pure ?_)
        exact hQ _ g ⟨_, _, .inr ⟨a, t, rfl⟩, hg⟩ sg
      · exact wpAny_pure (hQ _ s.heap ⟨_, _, .inr ⟨a, t, rfl⟩, hz⟩ ⟨rfl, fun _ _ => rfl⟩)
/-- the cells lie apart -/
structure Z3A (z TI TO i1 i2 i3 l1 l2 l3 : Addr) : Prop where
  a1 : TI ≠ z
  a2 : TO ≠ z
  a3 : TI ≠ TO
  b1 : i1 ≠ z ∧ i1 ≠ TI ∧ i1 ≠ TO
  b2 : i2 ≠ z ∧ i2 ≠ TI ∧ i2 ≠ TO ∧ i2 ≠ i1
  b3 : i3 ≠ z ∧ i3 ≠ TI ∧ i3 ≠ TO ∧ i3 ≠ i1 ∧ i3 ≠ i2
  c1 : l1 ≠ z ∧ l1 ≠ TO ∧ l1 ≠ i1 ∧ l1 ≠ i2 ∧ l1 ≠ i3
  c2 : l2 ≠ z ∧ l2 ≠ TO ∧ l2 ≠ i1 ∧ l2 ≠ i2 ∧ l2 ≠ i3
  c3 : l3 ≠ z ∧ l3 ≠ TO ∧ l3 ≠ i1 ∧ l3 ≠ i2 ∧ l3 ≠ i3
theorem z3_item {x y u : Value} {Q : Value → Shared → Prop} (D : Z3A z TI TO i1 i2 i3 l1 l2 l3) (hz : Z3 s.heap z TI TO) (hTI : IsTupOf3 s.heap TI (.ref i1) (.ref i2) (.ref i3)) (hTO : ∃ a b c, IsTupOf3 s.heap TO a b c)
    (h1 : s.heap.IsTupleIter i1 l1 i) (h2 : s.heap.IsTupleIter i2 l2 i) (h3 : s.heap.IsTupleIter i3 l3 i) (t1 : s.heap.IsTuple l1 xs) (t2 : s.heap.IsTuple l2 ys) (t3 : s.heap.IsTuple l3 us) (hx : xs[i]? = some x) (hy : ys[i]? = some y) (hu : us[i]? = some u)
    (hQ : ∀ h', Z3 h' z TI TO → (∃ a b c, IsTupOf3 h' TO a b c) → h'.IsTupleIter i1 l1 (i + 1) → h'.IsTupleIter i2 l2 (i + 1) → h'.IsTupleIter i3 l3 (i + 1) → IsTupOf3 h' s.heap.objs.size x y u → h'.objs.size = s.heap.objs.size + 1 →
      (∀ c o, c ∉ [z, TO, i1, i2, i3] → s.heap.get? c = some o → h'.get? c = some o) → Q (.ref s.heap.objs.size) { s with heap := h' }) :
    wpAny (model prog w) A (Builtin.«zip.__next__» ⟨[.ref z], []⟩) (fun fin s' => ∃ v, fin = .done (.ret v) ∧ Q v s') E s := by
  obtain ⟨hp, g, d, tk, os⟩ := s
  obtain ⟨f0, f1, hf, hz0⟩ := id hz
  show wpAny _ _ (field (.ref z) 2 >>= _) _ _ _
  refine wpAny_bind (wpAny_field hz0 rfl (x := .bool false) rfl ?_)
  show wpAny _ _ (field (.ref z) 3 >>= _) _ _ _
  refine wpAny_bind (wpAny_field hz0 rfl (x := .ref TI) rfl ?_)
  refine wpAny_bind (wpAny_seqItems hTI rfl ?_)
  show wpAny _ _ (Builtin.SmallTypes.ownedTupleIsFree (.ref z) >>= _) _ _ _
  refine wpAny_bind (z3_free hz fun b q0 hz1 s0 => ?_)
  replace s0 : Heap.SameBut z hp q0 := s0
  have k0 : ∀ c o, c ≠ z → hp.get? c = some o → q0.get? c = some o := fun c o n e => (s0.2 c n).trans e
  cases b with
  | false =>
    simp only [Bool.false_eq_true, if_false]
    refine wpAny_bind ?_
    rw [← Array.forIn_toList]
    simp only [List.forIn_cons, List.forIn_nil]
    refine wpAny_bind (wpAny_bind (wpAny_holding ?_))
    show wpAny _ _ (Builtin.SmallTypes.nextOf (.ref i1) >>= _) _ _ ⟨q0, g, d, tk, os⟩
    refine wpAny_bind (wpAny_nextOf_tuple_item (h1.at fun o e => k0 i1 o D.b1.1 e) (t1.at fun o e => k0 l1 o D.c1.1 e) hx fun q1 j1 s1 => wpAny_pure (wpAny_pure ?_))
    replace s1 : Heap.SameBut i1 q0 q1 := s1
    have k1 : ∀ c o, c ≠ i1 → q0.get? c = some o → q1.get? c = some o := fun c o n e => (s1.2 c n).trans e
    refine wpAny_bind (wpAny_bind (wpAny_holding ?_))
    show wpAny _ _ (Builtin.SmallTypes.nextOf (.ref i2) >>= _) _ _ ⟨q1, g, d, tk, os⟩
    refine wpAny_bind (wpAny_nextOf_tuple_item (h2.at fun o e => k1 i2 o D.b2.2.2.2 (k0 i2 o D.b2.1 e)) (t2.at fun o e => k1 l2 o D.c2.2.2.1 (k0 l2 o D.c2.1 e)) hy fun q2 j2 s2 => wpAny_pure (wpAny_pure ?_))
    replace s2 : Heap.SameBut i2 q1 q2 := s2
    have k2 : ∀ c o, c ≠ i2 → q1.get? c = some o → q2.get? c = some o := fun c o n e => (s2.2 c n).trans e
    refine wpAny_bind (wpAny_bind (wpAny_holding ?_))
    show wpAny _ _ (Builtin.SmallTypes.nextOf (.ref i3) >>= _) _ _ ⟨q2, g, d, tk, os⟩
    refine wpAny_bind (wpAny_nextOf_tuple_item (h3.at fun o e => k2 i3 o D.b3.2.2.2.2 (k1 i3 o D.b3.2.2.2.1 (k0 i3 o D.b3.1 e))) (t3.at fun o e => k2 l3 o D.c3.2.2.2.1 (k1 l3 o D.c3.2.2.1 (k0 l3 o D.c3.1 e))) hu fun q3 j3 s3 => wpAny_pure (wpAny_pure (wpAny_pure ?_)))
    replace s3 : Heap.SameBut i3 q2 q3 := s3
    have k3 : ∀ c o, c ≠ i3 → q2.get? c = some o → q3.get? c = some o := fun c o n e => (s3.2 c n).trans e
    have kk : ∀ c o, c ≠ i1 → c ≠ i2 → c ≠ i3 → q0.get? c = some o → q3.get? c = some o := fun c o n1 n2 n3 e => k3 c o n3 (k2 c o n2 (k1 c o n1 e))
    have sz : q3.objs.size = hp.objs.size := by rw [s3.1, s2.1, s1.1, s0.1]
    show wpAny _ _ (newTuple [x, y, u] >>= _) _ _ ⟨q3, g, d, tk, os⟩
    refine wpAny_bind (wpAny_newTuple (wpAny_pure ⟨_, rfl, ?_⟩))
    show Q (.ref q3.objs.size) ⟨q3.push { cls := .type "tuple", data := .seq #[x, y, u] }, g, d, tk, os⟩
    have up : ∀ c o, q3.get? c = some o → (q3.push { cls := .type "tuple", data := .seq #[x, y, u] }).get? c = some o := fun c o e => Heap.get?_push_of_some _ e
    obtain ⟨ta, tb', tc, hTO⟩ := hTO
    obtain ⟨e0, e1, he, hz2⟩ := hz1
    rw [sz]
    refine hQ _ ⟨e0, e1, he, up _ _ (kk _ _ D.b1.1.symm D.b2.1.symm D.b3.1.symm hz2)⟩ ⟨ta, tb', tc, up _ _ (kk _ _ D.b1.2.2.symm D.b2.2.2.1.symm D.b3.2.2.1.symm (k0 _ _ D.a2 hTO))⟩
      (j1.at fun o e => up _ _ (k3 _ _ D.b3.2.2.2.1.symm (k2 _ _ D.b2.2.2.2.symm e))) (j2.at fun o e => up _ _ (k3 _ _ D.b3.2.2.2.2.symm e)) (j3.at fun o e => up _ _ e) ?_ ?_ fun c o hc e => ?_
    · show (q3.push { cls := .type "tuple", data := .seq #[x, y, u] }).get? hp.objs.size = _
      rw [← sz]; exact Heap.get?_push_size _ rfl
    · show (q3.push { cls := .type "tuple", data := .seq #[x, y, u] }).objs.size = hp.objs.size + 1
      rw [Heap.size_push, sz]
    · simp only [List.mem_cons, List.not_mem_nil, or_false, not_or] at hc
      exact up _ _ (kk _ _ hc.2.2.1 hc.2.2.2.1 hc.2.2.2.2 (k0 _ _ hc.1 e))
  | true =>
    simp only [if_true]
    obtain ⟨ta, tb', tc, hTO⟩ := hTO
    obtain ⟨e0, e1, he, hz2⟩ := hz1
    have hT0 : IsTupOf3 q0 TO ta tb' tc := k0 _ _ D.a2 hTO
    refine wpAny_bind (wpAny_rule (wpAny_bind (wpAny_field (s := ⟨q0, g, d, tk, os⟩) hz2 rfl (x := .ref TO) rfl ?_)))
    refine wpAny_bind (wpAny_setField_rec (s := ⟨q0, g, d, tk, os⟩) hz2 (by simp) fun r0 hr0 sr0 => ?_)
    replace sr0 : Heap.SameBut z q0 r0 := sr0
    have m0 : ∀ c o, c ≠ z → hp.get? c = some o → r0.get? c = some o := fun c o n e => (sr0.2 c n).trans (k0 c o n e)
    refine wpAny_bind ?_
    simp only [List.zipIdx_cons, List.zipIdx_nil, List.forIn_cons, List.forIn_nil]
    refine wpAny_bind (wpAny_bind (wpAny_onRaise ?_))
    show wpAny _ _ (Builtin.SmallTypes.nextOf (.ref i1) >>= _) _ _ ⟨r0, g, d, tk, os⟩
    refine wpAny_bind (wpAny_nextOf_tuple_item (h1.at fun o e => m0 i1 o D.b1.1 e) (t1.at fun o e => m0 l1 o D.c1.1 e) hx fun q1 j1 s1 => wpAny_pure ?_)
    replace s1 : Heap.SameBut i1 r0 q1 := s1
    have k1 : ∀ c o, c ≠ i1 → r0.get? c = some o → q1.get? c = some o := fun c o n e => (s1.2 c n).trans e
    have w1 : IsTupOf3 q1 TO ta tb' tc := k1 _ _ D.b1.2.2.symm ((sr0.2 _ D.a2).trans hT0)
    refine wpAny_bind (wpAny_seqItems (s := ⟨q1, g, d, tk, os⟩) w1 rfl (wpAny_bind (updateSeq_IsTupOf3 (s := ⟨q1, g, d, tk, os⟩) w1 fun r1 v1 sr1 => ?_)))
    replace v1 : IsTupOf3 r1 TO x tb' tc := v1
    replace sr1 : Heap.SameBut TO q1 r1 := sr1
    have m1 : ∀ c o, c ≠ TO → q1.get? c = some o → r1.get? c = some o := fun c o n e => (sr1.2 c n).trans e
    refine wpAny_bind (wpAny_letGo (wpAny_pure ?_))
    refine wpAny_bind (wpAny_bind (wpAny_onRaise ?_))
    show wpAny _ _ (Builtin.SmallTypes.nextOf (.ref i2) >>= _) _ _ ⟨r1, g, d, tk, os⟩
    refine wpAny_bind (wpAny_nextOf_tuple_item (h2.at fun o e => m1 i2 o D.b2.2.2.1 (k1 i2 o D.b2.2.2.2 (m0 i2 o D.b2.1 e))) (t2.at fun o e => m1 l2 o D.c2.2.1 (k1 l2 o D.c2.2.2.1 (m0 l2 o D.c2.1 e))) hy fun q2 j2 s2 => wpAny_pure ?_)
    replace s2 : Heap.SameBut i2 r1 q2 := s2
    have k2 : ∀ c o, c ≠ i2 → r1.get? c = some o → q2.get? c = some o := fun c o n e => (s2.2 c n).trans e
    have w2 : IsTupOf3 q2 TO x tb' tc := k2 _ _ D.b2.2.2.1.symm v1
    refine wpAny_bind (wpAny_seqItems (s := ⟨q2, g, d, tk, os⟩) w2 rfl (wpAny_bind (updateSeq_IsTupOf3 (s := ⟨q2, g, d, tk, os⟩) w2 fun r2 v2 sr2 => ?_)))
    replace v2 : IsTupOf3 r2 TO x y tc := v2
    replace sr2 : Heap.SameBut TO q2 r2 := sr2
    have m2 : ∀ c o, c ≠ TO → q2.get? c = some o → r2.get? c = some o := fun c o n e => (sr2.2 c n).trans e
    refine wpAny_bind (wpAny_letGo (wpAny_pure ?_))
    refine wpAny_bind (wpAny_bind (wpAny_onRaise ?_))
    show wpAny _ _ (Builtin.SmallTypes.nextOf (.ref i3) >>= _) _ _ ⟨r2, g, d, tk, os⟩
    refine wpAny_bind (wpAny_nextOf_tuple_item (h3.at fun o e => m2 i3 o D.b3.2.2.1 (k2 i3 o D.b3.2.2.2.2 (m1 i3 o D.b3.2.2.1 (k1 i3 o D.b3.2.2.2.1 (m0 i3 o D.b3.1 e))))) (t3.at fun o e => m2 l3 o D.c3.2.1 (k2 l3 o D.c3.2.2.2.1 (m1 l3 o D.c3.2.1 (k1 l3 o D.c3.2.2.1 (m0 l3 o D.c3.1 e))))) hu fun q3 j3 s3 => wpAny_pure ?_)
    replace s3 : Heap.SameBut i3 r2 q3 := s3
    have k3 : ∀ c o, c ≠ i3 → r2.get? c = some o → q3.get? c = some o := fun c o n e => (s3.2 c n).trans e
    have w3 : IsTupOf3 q3 TO x y tc := k3 _ _ D.b3.2.2.1.symm v2
    refine wpAny_bind (wpAny_seqItems (s := ⟨q3, g, d, tk, os⟩) w3 rfl (wpAny_bind (updateSeq_IsTupOf3 (s := ⟨q3, g, d, tk, os⟩) w3 fun r3 v3 sr3 => ?_)))
    replace v3 : IsTupOf3 r3 TO x y u := v3
    replace sr3 : Heap.SameBut TO q3 r3 := sr3
    have m3 : ∀ c o, c ≠ TO → q3.get? c = some o → r3.get? c = some o := fun c o n e => (sr3.2 c n).trans e
    refine wpAny_bind (wpAny_letGo (wpAny_pure (wpAny_pure ?_)))
    refine wpAny_bind (wpAny_seqItems (s := ⟨r3, g, d, tk, os⟩) v3 rfl (wpAny_bind (wpAny_newTuple ?_)))
    have sz : r3.objs.size = hp.objs.size := by rw [sr3.1, s3.1, sr2.1, s2.1, sr1.1, s1.1, sr0.1, s0.1]
    have kk : ∀ c o, c ≠ TO → c ≠ i1 → c ≠ i2 → c ≠ i3 → r0.get? c = some o → r3.get? c = some o := fun c o nT n1 n2 n3 e => m3 c o nT (k3 c o n3 (m2 c o nT (k2 c o n2 (m1 c o nT (k1 c o n1 e)))))
    have zz := kk _ _ D.a2.symm D.b1.1.symm D.b2.1.symm D.b3.1.symm hr0
    have zlt : z < r3.objs.size := Heap.lt_size zz
    have zz' := Heap.get?_push_of_some { cls := .type "tuple", data := .seq #[x, y, u] } zz
    show wpAny _ _ (Builtin.SmallTypes.ownedTupleHandOut (.ref z) (.ref r3.objs.size) >>= _) _ _ ⟨r3.push { cls := .type "tuple", data := .seq #[x, y, u] }, g, d, tk, os⟩
    refine wpAny_bind ?_
    unfold Builtin.SmallTypes.ownedTupleHandOut
    refine wpAny_bind (wpAny_setField_rec (s := ⟨r3.push { cls := .type "tuple", data := .seq #[x, y, u] }, g, d, tk, os⟩) zz' (by simp) fun p1 y1 sp1 => ?_)
    replace sp1 : Heap.SameBut z (r3.push { cls := .type "tuple", data := .seq #[x, y, u] }) p1 := sp1
    refine wpAny_setField_rec (s := ⟨p1, g, d, tk, os⟩) y1 (by simp) fun p2 y2 sp2 => wpAny_pure ⟨_, rfl, ?_⟩
    replace sp2 : Heap.SameBut z p1 p2 := sp2
    have up : ∀ c o, c ≠ z → r3.get? c = some o → p2.get? c = some o := fun c o n e => (sp2.2 c n).trans ((sp1.2 c n).trans (Heap.get?_push_of_some _ e))
    show Q (.ref r3.objs.size) ⟨p2, g, d, tk, os⟩
    rw [sz]
    refine hQ p2 ⟨_, _, .inr ⟨_, _, rfl⟩, y2⟩ ⟨x, y, u, up _ _ D.a2 v3⟩ (j1.at fun o e => up _ _ D.b1.1 (m3 _ _ D.b1.2.2 (k3 _ _ D.b3.2.2.2.1.symm (m2 _ _ D.b1.2.2 (k2 _ _ D.b2.2.2.2.symm (m1 _ _ D.b1.2.2 e))))))
      (j2.at fun o e => up _ _ D.b2.1 (m3 _ _ D.b2.2.2.1 (k3 _ _ D.b3.2.2.2.2.symm (m2 _ _ D.b2.2.2.1 e)))) (j3.at fun o e => up _ _ D.b3.1 (m3 _ _ D.b3.2.2.1 e)) ?_ ?_ fun c o hc e => ?_
    · show p2.get? hp.objs.size = _
      rw [← sz, sp2.2 _ (Nat.ne_of_gt zlt), sp1.2 _ (Nat.ne_of_gt zlt)]; exact Heap.get?_push_size _ rfl
    · show p2.objs.size = hp.objs.size + 1
      rw [sp2.1, sp1.1, Heap.size_push, sz]
    · simp only [List.mem_cons, List.not_mem_nil, or_false, not_or] at hc
      exact up _ _ hc.1 (kk _ _ hc.2.1 hc.2.2.1 hc.2.2.2.1 hc.2.2.2.2 (m0 _ _ hc.1 e))
theorem z3_end {Q : Fin → Shared → Prop} (hh : A.handled = none) (D : Z3A z TI TO i1 i2 i3 l1 l2 l3) (hz : Z3 s.heap z TI TO) (hTI : IsTupOf3 s.heap TI (.ref i1) (.ref i2) (.ref i3))
    (h1 : s.heap.IsTupleIter i1 l1 i) (t1 : s.heap.IsTuple l1 xs) (hx : xs[i]? = none)
    (hE : ∀ h' e, (∀ c o, c ∉ [z, TO, i1, i2, i3] → s.heap.get? c = some o → h'.get? c = some o) → (∃ o, h'.get? e = some o ∧ o.cls = .type "StopIteration") → E (.ref e) { s with heap := h' }) :
    wpAny (model prog w) A (Builtin.«zip.__next__» ⟨[.ref z], []⟩) Q E s := by
  obtain ⟨hp, g, d, tk, os⟩ := s
  obtain ⟨f0, f1, hf, hz0⟩ := id hz
  show wpAny _ _ (field (.ref z) 2 >>= _) _ _ _
  refine wpAny_bind (wpAny_field hz0 rfl (x := .bool false) rfl ?_)
  show wpAny _ _ (field (.ref z) 3 >>= _) _ _ _
  refine wpAny_bind (wpAny_field hz0 rfl (x := .ref TI) rfl ?_)
  refine wpAny_bind (wpAny_seqItems hTI rfl ?_)
  show wpAny _ _ (Builtin.SmallTypes.ownedTupleIsFree (.ref z) >>= _) _ _ _
  refine wpAny_bind (z3_free hz fun b q0 hz1 s0 => ?_)
  replace s0 : Heap.SameBut z hp q0 := s0
  have k0 : ∀ c o, c ≠ z → hp.get? c = some o → q0.get? c = some o := fun c o n e => (s0.2 c n).trans e
  cases b with
  | false =>
    simp only [Bool.false_eq_true, if_false]
    refine wpAny_bind ?_
    rw [← Array.forIn_toList]
    simp only [List.forIn_cons, List.forIn_nil]
    refine wpAny_bind (wpAny_bind (wpAny_holding ?_))
    show wpAny _ _ (Builtin.SmallTypes.nextOf (.ref i1) >>= _) _ _ ⟨q0, g, d, tk, os⟩
    refine wpAny_bind (wpAny_nextOf_tuple_end hh (h1.at fun o e => k0 i1 o D.b1.1 e) (t1.at fun o e => k0 l1 o D.c1.1 e) hx fun q1 e x1 he => ?_)
    exact hE q1 e (fun c o hc eo => by
      simp only [List.mem_cons, List.not_mem_nil, or_false, not_or] at hc
      exact x1 c o hc.2.2.1 (k0 c o hc.1 eo)) he
  | true =>
    simp only [if_true]
    obtain ⟨e0, e1, he, hz2⟩ := hz1
    refine wpAny_bind (wpAny_rule (wpAny_bind (wpAny_field (s := ⟨q0, g, d, tk, os⟩) hz2 rfl (x := .ref TO) rfl ?_)))
    refine wpAny_bind (wpAny_setField_rec (s := ⟨q0, g, d, tk, os⟩) hz2 (by simp) fun r0 hr0 sr0 => ?_)
    replace sr0 : Heap.SameBut z q0 r0 := sr0
    have m0 : ∀ c o, c ≠ z → hp.get? c = some o → r0.get? c = some o := fun c o n e => (sr0.2 c n).trans (k0 c o n e)
    refine wpAny_bind ?_
    simp only [List.zipIdx_cons, List.zipIdx_nil, List.forIn_cons, List.forIn_nil]
    refine wpAny_bind (wpAny_bind (wpAny_onRaise ?_))
    show wpAny _ _ (Builtin.SmallTypes.nextOf (.ref i1) >>= _) _ _ ⟨r0, g, d, tk, os⟩
    refine wpAny_bind (wpAny_nextOf_tuple_end hh (h1.at fun o e => m0 i1 o D.b1.1 e) (t1.at fun o e => m0 l1 o D.c1.1 e) hx fun q1 e x1 he => ?_)
    obtain ⟨oe, hoe, hce⟩ := he
    have hz3 := x1 z _ D.b1.1.symm hr0
    have hez : e ≠ z := fun q => by
      subst q
      have := hoe.symm.trans hz3
      cases this
      simp at hce
    refine wpAny_setField_rec (s := ⟨q1, g, d, tk, os⟩) hz3 (by simp) fun p1 _ sp1 => ?_
    replace sp1 : Heap.SameBut z q1 p1 := sp1
    refine hE p1 e (fun c o hc eo => ?_) ⟨oe, (sp1.2 e hez).trans hoe, hce⟩
    simp only [List.mem_cons, List.not_mem_nil, or_false, not_or] at hc
    exact (sp1.2 c hc.1).trans (x1 c o hc.2.2.1 (m0 c o hc.1 eo))
theorem z3_next {x y u : Value} {Q : Option Value → Shared → Prop} (D : Z3A z TI TO i1 i2 i3 l1 l2 l3) (hz : Z3 s.heap z TI TO) (hTI : IsTupOf3 s.heap TI (.ref i1) (.ref i2) (.ref i3)) (hTO : ∃ a b c, IsTupOf3 s.heap TO a b c)
    (h1 : s.heap.IsTupleIter i1 l1 i) (h2 : s.heap.IsTupleIter i2 l2 i) (h3 : s.heap.IsTupleIter i3 l3 i) (t1 : s.heap.IsTuple l1 xs) (t2 : s.heap.IsTuple l2 ys) (t3 : s.heap.IsTuple l3 us) (hx : xs[i]? = some x) (hy : ys[i]? = some y) (hu : us[i]? = some u)
    (hQ : ∀ h', Z3 h' z TI TO → (∃ a b c, IsTupOf3 h' TO a b c) → h'.IsTupleIter i1 l1 (i + 1) → h'.IsTupleIter i2 l2 (i + 1) → h'.IsTupleIter i3 l3 (i + 1) → IsTupOf3 h' s.heap.objs.size x y u → h'.objs.size = s.heap.objs.size + 1 →
      (∀ c o, c ∉ [z, TO, i1, i2, i3] → s.heap.get? c = some o → h'.get? c = some o) → Q (some (.ref s.heap.objs.size)) { s with heap := h' }) :
    wpAny (model prog w) A (pyNext (.ref z)) Q E s := by
  have ty : s.TypeIs (.ref z) "zip" := by obtain ⟨_, _, _, h⟩ := hz; exact ⟨_, h, rfl⟩
  unfold pyNext
  exact wpAny_bind (wpAny_attempt (wpAny_callSpecial?_slot (name := Str.ofString "__next__") ty F.slot_zip_next
    (wpAny_call_entry F.slot_zip_next ty F.entry_zip_next
      (z3_item D hz hTI hTO h1 h2 h3 t1 t2 t3 hx hy hu fun h' p1 p2 p3 p4 p5 p6 p7 p8 => wpAny_pure (hQ h' p1 p2 p3 p4 p5 p6 p7 p8)) (F.args_zip_next_1 _))))
theorem z3_stop {Q : Option Value → Shared → Prop} (hh : A.handled = none) (D : Z3A z TI TO i1 i2 i3 l1 l2 l3) (hz : Z3 s.heap z TI TO) (hTI : IsTupOf3 s.heap TI (.ref i1) (.ref i2) (.ref i3))
    (h1 : s.heap.IsTupleIter i1 l1 i) (t1 : s.heap.IsTuple l1 xs) (hx : xs[i]? = none)
    (hQ : ∀ h', (∀ c o, c ∉ [z, TO, i1, i2, i3] → s.heap.get? c = some o → h'.get? c = some o) → Q none { s with heap := h' }) :
    wpAny (model prog w) A (pyNext (.ref z)) Q E s := by
  have ty : s.TypeIs (.ref z) "zip" := by obtain ⟨_, _, _, h⟩ := hz; exact ⟨_, h, rfl⟩
  unfold pyNext
  refine wpAny_bind (wpAny_attempt (wpAny_callSpecial?_slot (name := Str.ofString "__next__") ty F.slot_zip_next
    (wpAny_call_entry F.slot_zip_next ty F.entry_zip_next (z3_end (A := A.in1) hh D hz hTI h1 t1 hx fun h' e hk he => ?_) (F.args_zip_next_1 _))))
  obtain ⟨o, ho, hc⟩ := he
  exact wpAny_bind (wpAny_isInstance (T := "StopIteration") (b := true) ⟨o, ho, hc⟩ isSubtype_stop (wpAny_pure (hQ _ hk)))
end
/-- the tuples at a, b, c as they stand at each turn, the items in new tuples -/
def It3 (K : PySem.W.Frag) (a b c : Addr) : It :=
  ⟨fun i H => ∃ (xs ys us : List V) (x y u : V), SqT K H a xs ∧ SqT K H b ys ∧ SqT K H c us ∧ xs[i]? = some x ∧ ys[i]? = some y ∧ us[i]? = some u,
    fun i H v H' => ∃ T x y u, v = .ref T ∧ H T = none ∧ H' = upd H T (.tup [x, y, u]) ∧ (∀ xs, SqT K H a xs → xs[i]? = some x) ∧ (∀ ys, SqT K H b ys → ys[i]? = some y) ∧ ∀ us, SqT K H c us → us[i]? = some u,
    fun i H => ∃ xs : List V, SqT K H a xs ∧ xs.length ≤ i⟩
theorem turn_zip3 {P : Program} {w : World} {K : PySem.W.Frag} {n : Str} {np : Pos} {a b c z TI TO i1 i2 i3 : Addr} (D : Z3A z TI TO i1 i2 i3 a b c) :
    Turn P w K (.Name n np) (It3 K a b c) [z, TI, TO, i1, i2, i3] z (fun i h => Z3 h z TI TO ∧ IsTupOf3 h TI (.ref i1) (.ref i2) (.ref i3) ∧ (∃ p q r, IsTupOf3 h TO p q r) ∧ h.IsTupleIter i1 a i ∧ h.IsTupleIter i2 b i ∧ h.IsTupleIter i3 c i) where
  mem := by simp
  obj := fun i h st d hd => by
    obtain ⟨⟨_, _, _, hz⟩, hTI, ⟨_, _, _, hTO⟩, ⟨o1, e1, _, d1⟩, ⟨o2, e2, _, d2⟩, ⟨o3, e3, _, d3⟩⟩ := st
    have e' : d = z ∨ d = TI ∨ d = TO ∨ d = i1 ∨ d = i2 ∨ d = i3 := by simpa using hd
    rcases e' with rfl | rfl | rfl | rfl | rfl | rfl
    · exact ⟨_, hz, fun v q => nomatch q⟩
    · exact ⟨_, hTI, fun v q => nomatch q⟩
    · exact ⟨_, hTO, fun v q => nomatch q⟩
    · exact ⟨o1, e1, fun v q => by rw [d1] at q; cases q⟩
    · exact ⟨o2, e2, fun v q => by rw [d2] at q; cases q⟩
    · exact ⟨o3, e3, fun v q => by rw [d3] at q; cases q⟩
  keep := fun i h h' st k => by
    obtain ⟨⟨f0, f1, hf, hz⟩, hTI, ⟨p, q, r, hTO⟩, h1, h2, h3⟩ := st
    exact ⟨⟨f0, f1, hf, k z (by simp) _ hz⟩, k TI (by simp) _ hTI, ⟨p, q, r, k TO (by simp) _ hTO⟩, h1.at fun o e => k i1 (by simp) o e, h2.at fun o e => k i2 (by simp) o e, h3.at fun o e => k i3 (by simp) o e⟩
  item := by
    intro X hP hw hK hc i pins s σ H E I hf st hg
    subst hP hw hK
    obtain ⟨hz, hTI, hTO, h1, h2, h3⟩ := st
    obtain ⟨xs, ys, us, x, y, u, q1, q2, q3, hx, hy, hu⟩ := hg
    obtain ⟨its1, r1, p1, _⟩ := I.tuple q1
    obtain ⟨its2, r2, p2, _⟩ := I.tuple q2
    obtain ⟨its3, r3, p3, _⟩ := I.tuple q3
    obtain ⟨v1, hv1, rv1⟩ := r1.get hx
    obtain ⟨v2, hv2, rv2⟩ := r2.get hy
    obtain ⟨v3, hv3, rv3⟩ := r3.get hu
    have lt : ∀ d, d ∈ [z, TI, TO, i1, i2, i3] → d < s.heap.objs.size := fun d hd => by
      obtain ⟨_, _, _, hz'⟩ := hz
      obtain ⟨_, _, _, hTO'⟩ := hTO
      have e' : d = z ∨ d = TI ∨ d = TO ∨ d = i1 ∨ d = i2 ∨ d = i3 := by simpa using hd
      rcases e' with rfl | rfl | rfl | rfl | rfl | rfl
      · exact Heap.lt_size hz'
      · exact Heap.lt_size hTI
      · exact Heap.lt_size hTO'
      · obtain ⟨_, e, _⟩ := h1; exact Heap.lt_size e
      · obtain ⟨_, e, _⟩ := h2; exact Heap.lt_size e
      · obtain ⟨_, e, _⟩ := h3; exact Heap.lt_size e
    refine z3_next D hz hTI hTO h1 h2 h3 p1 p2 p3 (x := v1) (y := v2) (u := v3) (by simpa using hv1) (by simpa using hv2) (by simpa using hv3) fun h' z' TO' j1 j2 j3 hT hsz hk => ?_
    refine ⟨_, rfl, wpAny_pure ?_⟩
    have new : ObjOk X.prog X.w (upd H s.heap.objs.size (.tup [x, y, u])) h' s.heap.objs.size (.tup [x, y, u]) :=
      ⟨by show 3 ≤ sizeLine; decide, [v1, v2, v3], .cons rv1 (.cons rv2 (.cons rv3 .nil)), ⟨_, hT, rfl, _, rfl⟩⟩
    have I1 : Inv X pins σ (upd H s.heap.objs.size (.tup [x, y, u])) { s with heap := h' } :=
      I.turnedNew (t' := s.toks) (ch := [z, TI, TO, i1, i2, i3]) (fun d o hb q => hk d o (fun m => hb (by
        simp only [List.mem_cons, List.not_mem_nil, or_false] at m ⊢
        rcases m with m | m | m | m | m <;> simp [m])) q) hf (Nat.le_refl _) new
    refine ⟨.ref s.heap.objs.size, _, I1, rfl, ⟨_, x, y, u, rfl, I.hok.fresh (Nat.le_refl _), rfl, fun l hl => by rw [I.tuple_inj hl q1]; exact hx, fun l hl => by rw [I.tuple_inj hl q2]; exact hy, fun l hl => by rw [I.tuple_inj hl q3]; exact hu⟩, ⟨z', hk TI _ (by simp [D.a1, D.a3, D.b1.2.1.symm, D.b2.2.1.symm, D.b3.2.1.symm]) hTI, TO', j1, j2, j3⟩, fun d hd => ?_⟩
    rw [upd_ne (Nat.ne_of_lt (lt d hd))]
    exact (hf d hd).1
  done := by
    intro X hP hw hK hc i pins s σ H E I hf st hg
    subst hP hw hK
    obtain ⟨hz, hTI, hTO, h1, h2, h3⟩ := st
    obtain ⟨xs, q1, hend⟩ := hg
    obtain ⟨its1, r1, p1, _⟩ := I.tuple q1
    have l1 := r1.length
    exact z3_stop (I.ok.hd hc) D hz hTI h1 p1 (by simp; omega) fun h' hk => ⟨rfl, I.turnedL (t' := s.toks) (ch := [z, TI, TO, i1, i2, i3]) (fun d o hb q => hk d o (fun m => hb (by
      simp only [List.mem_cons, List.not_mem_nil, or_false] at m ⊢
      rcases m with m | m | m | m | m <;> simp [m])) q) hf⟩
  self := fun A i s Q E st h => by
    obtain ⟨⟨f0, f1, _, hz⟩, _⟩ := st
    have ty : s.TypeIs (.ref z) "zip" := ⟨_, hz, rfl⟩
    exact wpAny_pyIter_slot ty F.slot_zip_iter (wpAny_call_entry F.slot_zip_iter ty F.entry_zip_iter (wpAny_pure ⟨_, rfl, "zip", _, ty, F.slot_zip_next.lookup, h⟩) (F.args_zip_iter_1 _))
theorem z3a_new {N a b c : Nat} (b1 : a < N) (b2 : b < N) (b3 : c < N) : Z3A (N + 5) (N + 3) (N + 4) N (N + 1) (N + 2) a b c where
  a1 := show (N + 3 : Nat) ≠ N + 5 by omega
  a2 := show (N + 4 : Nat) ≠ N + 5 by omega
  a3 := show (N + 3 : Nat) ≠ N + 4 by omega
  b1 := show (N : Nat) ≠ N + 5 ∧ (N : Nat) ≠ N + 3 ∧ (N : Nat) ≠ N + 4 by omega
  b2 := show (N + 1 : Nat) ≠ N + 5 ∧ (N + 1 : Nat) ≠ N + 3 ∧ (N + 1 : Nat) ≠ N + 4 ∧ (N + 1 : Nat) ≠ N by omega
  b3 := show (N + 2 : Nat) ≠ N + 5 ∧ (N + 2 : Nat) ≠ N + 3 ∧ (N + 2 : Nat) ≠ N + 4 ∧ (N + 2 : Nat) ≠ N ∧ (N + 2 : Nat) ≠ N + 1 by omega
  c1 := show (a : Nat) ≠ N + 5 ∧ (a : Nat) ≠ N + 4 ∧ (a : Nat) ≠ N ∧ (a : Nat) ≠ N + 1 ∧ (a : Nat) ≠ N + 2 by omega
  c2 := show (b : Nat) ≠ N + 5 ∧ (b : Nat) ≠ N + 4 ∧ (b : Nat) ≠ N ∧ (b : Nat) ≠ N + 1 ∧ (b : Nat) ≠ N + 2 by omega
  c3 := show (c : Nat) ≠ N + 5 ∧ (c : Nat) ≠ N + 4 ∧ (c : Nat) ≠ N ∧ (c : Nat) ≠ N + 1 ∧ (c : Nat) ≠ N + 2 by omega
def iZip3 (K : PySem.W.Frag) (ta : TA) : TI := fun σ H R => ta σ H fun vs H1 => ∃ a b c xs ys us, vs = [.ref a, .ref b, .ref c] ∧ SqT K H1 a xs ∧ SqT K H1 b ys ∧ SqT K H1 c us ∧ R (It3 K a b c) H1
theorem pi_zip3 {X : Cx} {e e2 e3 : Expr} {ta : TA} {p pos np : Pos} {n : Str} (hg : Gl X "zip") (hm : X.mg "zip" = none) (ha : PA X [e, e2, e3] ta)
    (hs : starEach [e, e2, e3] X.env = (false, eval e X.env) :: starEach [e2, e3] X.env := by rfl) (hpl : (backTo pos (starEach [e2, e3] X.env)).any (·.1) = false := by rfl) :
    PI X (.Name n np) (.Call (.Name "zip" p) [e, e2, e3] [] pos) (iZip3 X.K ta) := by
  refine ⟨fun pins s σ H R I h => ?_⟩
  refine Call_ (ld_blt I hg hm PyProof.Rows.boot_zip (PyProof.Rows.callWith_type1 (thn (ha.run pos pins s σ H _ I h) fun us s1 ⟨vs, H1, I1, r1, q1⟩ => ?_) hs hpl))
  obtain ⟨a, b, c, xs, ys, zs, ex, s1', s2', s3', q⟩ := q1
  subst ex
  cases r1 with
  | cons r rr =>
    cases rr with
    | cons r' rr =>
      cases rr with
      | cons r'' rr =>
        cases rr
        cases r
        cases r'
        cases r''
        obtain ⟨its1, _, p1, _⟩ := I1.tuple s1'
        obtain ⟨its2, _, p2, _⟩ := I1.tuple s2'
        obtain ⟨its3, _, p3, _⟩ := I1.tuple s3'
        have b1 : a < s1.heap.objs.size := by obtain ⟨o, ho, _⟩ := id p1; exact Heap.lt_size ho
        have b2 : b < s1.heap.objs.size := by obtain ⟨o, ho, _⟩ := id p2; exact Heap.lt_size ho
        have b3 : c < s1.heap.objs.size := by obtain ⟨o, ho, _⟩ := id p3; exact Heap.lt_size ho
        refine zip_begins3 (begins_tuple a its1.toArray) (begins_tuple b its2.toArray) (begins_tuple c its3.toArray) p1 p2 p3 fun h' hz hTI hTO g1 g2 g3 hsz hk => wpAny_pyIter_zip hz ?_
        have I2 : Inv X pins σ H1 { s1 with heap := h' } := I1.kept (t' := s1.toks) hk
        have fr : ∀ d, d ∈ [s1.heap.objs.size + 5, s1.heap.objs.size + 3, s1.heap.objs.size + 4, s1.heap.objs.size, s1.heap.objs.size + 1, s1.heap.objs.size + 2] → FpOk X pins H1 d := fun d hd => by
          have e' : d = s1.heap.objs.size + 5 ∨ d = s1.heap.objs.size + 3 ∨ d = s1.heap.objs.size + 4 ∨ d = s1.heap.objs.size ∨ d = s1.heap.objs.size + 1 ∨ d = s1.heap.objs.size + 2 := by simpa using hd
          have hle : s1.heap.objs.size ≤ d := by
            rcases e' with q | q | q | q | q | q <;> rw [q] <;> first | exact Nat.le_refl _ | exact Nat.le_add_right _ _
          exact I1.fpOk hle (I1.hok.fresh hle)
        have ap : Z3A (s1.heap.objs.size + 5) (s1.heap.objs.size + 3) (s1.heap.objs.size + 4) s1.heap.objs.size (s1.heap.objs.size + 1) (s1.heap.objs.size + 2) a b c := z3a_new b1 b2 b3
        exact ⟨s1.heap.objs.size + 5, [s1.heap.objs.size + 5, s1.heap.objs.size + 3, s1.heap.objs.size + 4, s1.heap.objs.size, s1.heap.objs.size + 1, s1.heap.objs.size + 2], _, _, H1, rfl, I2, turn_zip3 ap, ⟨⟨_, _, .inl rfl, hz⟩, hTI, ⟨_, _, _, hTO⟩, ⟨_, g1, rfl, rfl⟩, ⟨_, g2, rfl, rfl⟩, ⟨_, g3, rfl, rfl⟩⟩, fr, q⟩
end WD
/-! WDRep: a tuple once, or not at all -/
namespace WD
open PySem PySem.Spec PyProof.Rows L2
theorem tuple_mul1 (l : Addr) (items : Array Value) (n : Nat) (dd : Option Addr) (sl : Array (Option Value)) (u : Tok) :
    Meets (Builtin.«tuple.__mul__» ⟨[.ref l, .int 1 u], []⟩) (fun _ R s => s.heap.get? l = some { cls := .type "tuple", dict := dd, data := .seq items n, slots := sl } ∧ R (.ok (.ret (Value.ref l))) s) :=
  .of_wp fun prog w A R s h => by
    obtain ⟨hp, g, d, tk, os⟩ := s
    obtain ⟨hl, h⟩ := h
    have f1 := AutoSeq1.idx_int
    wp_walk using wpAny_loadPart' hl
    exact ⟨_, rfl, h⟩
theorem tuple_mul0 (l : Addr) (items : Array Value) (n : Nat) (dd : Option Addr) (sl : Array (Option Value)) (u : Tok) (hi : items.isEmpty = false) :
    Meets (Builtin.«tuple.__mul__» ⟨[.ref l, .int 0 u], []⟩) (fun _ R s => s.heap.get? l = some { cls := .type "tuple", dict := dd, data := .seq items n, slots := sl } ∧
      R (.ok (.ret (Value.ref s.heap.objs.size))) { s with heap := s.heap.push { cls := Value.type "tuple", data := Data.seq #[] }, toks := s.toks }) :=
  .of_wp fun prog w A R s h => by
    obtain ⟨hp, g, d, tk, os⟩ := s
    obtain ⟨hl, h⟩ := h
    have f1 := AutoSeq1.idx_int
    wp_walk using wpAny_loadPart' hl
    exact ⟨_, rfl, h⟩
def rRep1 (K : PySem.W.Frag) : R2 := fun x y H Q => ∃ l xs, x = .ref l ∧ y = .int 1 ∧ SqT K H l xs ∧ Q (.ref l) H
def rRep0 (K : PySem.W.Frag) : R2 := fun x y H Q => ∃ l xs, x = .ref l ∧ y = .int 0 ∧ SqT K H l xs ∧ xs ≠ [] ∧ ∀ p, H p = none → Q (.ref p) (upd H p (.tup []))
section
variable {X : Cx}
theorem op_rep1 : OpR X (binaryOp .Mult) (rRep1 X.K) := by
  intro pins s σ H x y v u Q I rx ry h
  obtain ⟨l, xs, rfl, rfl, hT, q⟩ := h
  cases rx
  obtain ⟨t, rfl⟩ := ry
  obtain ⟨its, r, ⟨⟨cls, dd, data, sl⟩, ho, hc, n, hd⟩, hs⟩ := I.tuple hT
  simp only at hc hd
  subst hc hd
  refine wpAny_binaryOp_repeat_ref (T := "tuple") (U := "int") (by decide) ⟨_, ho, rfl⟩ (fun s' => typeIs_int s' 1 t) noFill_tuple_mul F.fills_int_mul F.slot_int_rmul repeat_tuple F.slot_int_index.lookup
    (call_meets F.slot_int_rmul (typeIs_int s 1 t) F.entry_int_rmul (F.args_int_rmul_2 _ _) (int_rmul_tuple 1 t l its.toArray n dd sl)
      ⟨ho, rfl, ⟨_, ho, rfl⟩, call_meets F.slot_tuple_mul ⟨_, ho, rfl⟩ F.entry_tuple_mul (F.args_tuple_mul_2 _ _) (tuple_mul1 l its.toArray n dd sl t) ⟨ho, ?_⟩⟩)
  exact ⟨.ref l, H, I, rfl, q⟩
theorem op_rep0 : OpR X (binaryOp .Mult) (rRep0 X.K) := by
  intro pins s σ H x y v u Q I rx ry h
  obtain ⟨l, xs, rfl, rfl, hT, hne, q⟩ := h
  cases rx
  obtain ⟨t, rfl⟩ := ry
  obtain ⟨its, r, ⟨⟨cls, dd, data, sl⟩, ho, hc, n, hd⟩, hs⟩ := I.tuple hT
  simp only at hc hd
  subst hc hd
  have hle : its.length = xs.length := r.length.symm
  have hi : its.toArray.isEmpty = false := by
    cases its with
    | nil => exact absurd (List.eq_nil_of_length_eq_zero (by simpa using hle.symm)) hne
    | cons a b => rfl
  refine wpAny_binaryOp_repeat_ref (T := "tuple") (U := "int") (by decide) ⟨_, ho, rfl⟩ (fun s' => typeIs_int s' 0 t) noFill_tuple_mul F.fills_int_mul F.slot_int_rmul repeat_tuple F.slot_int_index.lookup
    (call_meets F.slot_int_rmul (typeIs_int s 0 t) F.entry_int_rmul (F.args_int_rmul_2 _ _) (int_rmul_tuple 0 t l its.toArray n dd sl)
      ⟨ho, rfl, ⟨_, ho, rfl⟩, call_meets F.slot_tuple_mul ⟨_, ho, rfl⟩ F.entry_tuple_mul (F.args_tuple_mul_2 _ _) (tuple_mul0 l its.toArray n dd sl t hi) ⟨ho, ?_⟩⟩)
  refine ⟨.ref s.heap.objs.size, _, I.laid (t' := s.toks) (o := .tup []) (fun b ob q => Heap.get?_push_of_some _ q) (Nat.le_refl _) ?_, rfl, q _ (I.hok.fresh (Nat.le_refl _))⟩
  exact ⟨Nat.zero_le _, [], .nil, IsTup.new _ _⟩
end
end WD
/-! PM: a machine over plain values, and what holds of the model's heap when it runs -/
namespace PM
open PySem PySem.Spec PyProof.Rows L2
open WD (MS upd_none)

/-- the fragment, with the tables of the code objects of those that make lambdas -/
structure KT where
  fr : PySem.W.Frag
  tb : List (Addr × Str)
instance : Coe KT PySem.W.Frag := ⟨KT.fr⟩
def isTb : HO → Bool
  | .tbl _ => true
  | _ => false
/-- no table, or none is to change -/
abbrev nt (T : List (Addr × Str)) (o : HO) : Prop := (isTb o && !T.isEmpty) = false
theorem nt_ne {o : HO} (h : isTb o = false) (ps : Array Value) : o ≠ .tbl ps := fun z => by rw [z] at h; cases h
theorem nt_nil {o : HO} : nt [] o := Bool.and_false _
/-- nothing that lasts -/
def nn (T : List (Addr × Str)) (x : Option HO) : Prop := ∀ o, x = some o → ¬ nt T o
theorem nn_none {T : List (Addr × Str)} {x : Option HO} (h : x = none) : nn T x := fun o e => by rw [h] at e; cases e
theorem nnn {T : List (Addr × Str)} {x : Option HO} {o : HO} (h : x = some o) (n : nt T o := by rfl) : ¬ nn T x := fun z => z o h n
theorem nn_nil {x : Option HO} (h : nn [] x) : x = none := by
  cases x with
  | none => rfl
  | some o => exact (h o rfl nt_nil).elim
def isX : HO → Bool
  | .ext _ => true
  | _ => false
/-- something of the program's own -/
def Ob (x : Option HO) : Prop := ∃ o, x = some o ∧ isTb o = false ∧ isX o = false
theorem nt_of {T : List (Addr × Str)} {o : HO} (h : isTb o = false) : nt T o := by show (isTb o && _) = false; rw [h]; rfl
theorem Ob.nn {T : List (Addr × Str)} {x : Option HO} (h : Ob x) : ¬ nn T x := fun z => let ⟨o, e, n, _⟩ := h; z o e (nt_of n)
theorem Ob.ne {x : Option HO} (h : Ob x) : x ≠ none := fun z => by obtain ⟨o, e, _⟩ := h; rw [z] at e; cases e
structure Fr (T : List (Addr × Str)) (M : MS) (H H' : Hp) : Prop where
  keep : ∀ a o, nt T o → ¬ M a → H a = some o → H' a = some o
  dom : ∀ a, nn T (H' a) → nn T (H a)
theorem Fr.refl {T : List (Addr × Str)} {M : MS} (H : Hp) : Fr T M H H := ⟨fun _ _ _ _ h => h, fun _ h => h⟩
theorem Fr.new {T : List (Addr × Str)} {M : MS} {H : Hp} {p : Addr} {o : HO} (h : H p = none) : Fr T M H (upd H p o) := ⟨fun a u _ _ e => by rw [upd_ne (ne_of_none e h)]; exact e, fun a z u e n => z u (by rw [upd_ne (ne_of_none e h)]; exact e) n⟩
theorem Fr.mut {T : List (Addr × Str)} {M : MS} {H : Hp} {p : Addr} {o : HO} (h : M p) (no : isTb o = false) : Fr T M H (upd H p o) := ⟨fun a u _ n e => by rw [upd_ne fun z => n (by rw [z]; exact h)]; exact e, fun a z u e n => by
  by_cases q : a = p
  · rw [q] at z; exact z o upd_same (nt_of no)
  · exact z u (by rw [upd_ne q]; exact e) n⟩
theorem Fr.mutNew {T : List (Addr × Str)} {M : MS} {H H1 : Hp} {D : Addr} {o : HO} (f : Fr T M H H1) (h : nn T (H D)) : Fr T M H (upd H1 D o) := by
  have ne : ∀ a u, nt T u → H a = some u → a ≠ D := fun a u t e z => h u (by rw [← z]; exact e) t
  refine ⟨fun a u t n e => by rw [upd_ne (ne a u t e)]; exact f.keep a u t n e, fun a z u e n => ?_⟩
  refine f.dom a (fun u' e' n' => ?_) u e n
  exact z u' (by rw [upd_ne (ne a u n e)]; exact e') n'
/-- the tables stay where something else is changed -/
theorem tabs_mut {T : List (Addr × Str)} {H : Hp} {a : Addr} {o o' : HO} (h : H a = some o) (n : isTb o = false) (x : isX o = false) (t : LamX.Tabs T H) : LamX.Tabs T (upd H a o') := fun p hp => by
  obtain ⟨ps, h1, h2, h3⟩ := t p hp
  refine ⟨ps, ?_, h2, fun pos cv hc => ?_⟩
  · rw [upd_ne fun z => nt_ne n ps (Option.some.inj (h.symm.trans (by rw [← z]; exact h1)))]
    exact h1
  · obtain ⟨c, e1, e2⟩ := h3 pos cv hc
    refine ⟨c, e1, ?_⟩
    rw [upd_ne fun z => by rw [z, h] at e2; rw [Option.some.inj e2] at x; cases x]
    exact e2
/-- a datum: a tree without names -/
inductive PV where
  | non
  | bl (b : Bool)
  | int (i : Int)
  | str (x : Str)
  | tup (xs : List PV)
  | lst (xs : List PV)
  | dic (b : Bool) (ks vs : List PV)
  | obj (C : Str) (ns : List Str) (vs : List PV)
/-- a part of what holds others: a datum, or a thing that changes (by its number) -/
inductive Fl where
  | t (d : PV)
  | c (k : Nat)
/-- what holds others: a tuple, an instance of an own class -/
inductive Gd where
  | tup
  | ob (C : Str) (ns : List Str)
/-- a thing that changes -/
inductive Cell where
  | lst (xs : List PV)
  | dic (b : Bool) (ks vs : List PV)
  | ob (C : Str) (ns : List Str) (fs : List Fl)
abbrev Store := List (Option Cell)
/-- what a name holds: a datum, a thing that changes (by its number), a caught exception, the script, what holds things that change, an instance in the making -/
inductive Val where
  | t (d : PV)
  | c (k : Nat)
  | x (cls : Str) (f : Option (Str × PV))
  | s (ns : List Int)
  | g (h : Gd) (fs : List Fl)
  | self
  | lam (L : Addr × Addr × Str × L2.St) (fs : List (Option Fl))
inductive R (α : Type) where
  | ok (a : α) (μ : Store)
  | ex (c : Str) (f : Option (Str × PV)) (μ : Store)
  | stuck
abbrev Sl := List (Option Val)
abbrev ME := Sl → Store → R Val
inductive RS where
  | nx (σ : Sl) (μ : Store)
  | rt (w : Val) (μ : Store)
  | bk (σ : Sl) (μ : Store)
  | ct (σ : Sl) (μ : Store)
  | ex (c : Str) (f : Option (Str × PV)) (σ : Sl) (μ : Store)
  | stuck
abbrev MSt := Sl → Store → RS

/-! ### a datum in the heap -/
def kPV : Key → PV
  | .inl i => .int i
  | .inr x => .str x
def kOk : Key → Prop
  | .inl _ => True
  | .inr x => PyData.strOk x = true
def DicR (b : Bool) (H : Hp) (a : Addr) (ks : List PV) (vs : List V) : Prop := match b with
  | false => ∃ kl : List Key, ks = kl.map kPV ∧ kl.length = vs.length ∧ (∀ k ∈ kl, kOk k) ∧ H a = some (.dK (kl.zip vs))
  | true => ∃ kl : List (List Key), ks = kl.map (fun k => PV.tup (k.map kPV)) ∧ kl.length = vs.length ∧ (∀ k ∈ kl, ∀ z ∈ k, kOk z) ∧ H a = some (.dT (kl.zip vs))
theorem DicR.has {b : Bool} {H : Hp} {a : Addr} {ks : List PV} {vs : List V} (h : DicR b H a ks vs) : ∃ o, H a = some o := by
  cases b <;> obtain ⟨_, _, _, _, h⟩ := h <;> exact ⟨_, h⟩
theorem DicR.ob {b : Bool} {H : Hp} {a : Addr} {ks : List PV} {vs : List V} (h : DicR b H a ks vs) : Ob (H a) := by
  cases b <;> obtain ⟨_, _, _, _, h⟩ := h <;> exact ⟨_, h, rfl, rfl⟩
theorem DicR.to {T : List (Addr × Str)} {b : Bool} {H H' : Hp} {a : Addr} {ks : List PV} {vs : List V} (h : DicR b H a ks vs) (k : ∀ o, nt T o → H a = some o → H' a = some o) : DicR b H' a ks vs := by
  cases b <;> obtain ⟨kl, h1, h2, h3, h4⟩ := h <;> exact ⟨kl, h1, h2, h3, k _ rfl h4⟩
theorem DicR.len {b : Bool} {H : Hp} {a : Addr} {ks : List PV} {vs : List V} (h : DicR b H a ks vs) : ks.length = vs.length := by
  cases b <;> obtain ⟨kl, h1, h2, h3, h4⟩ := h <;> rw [h1, List.length_map, h2]
mutual
def rv (K : KT) (M : MS) (H : Hp) : V → PV → Prop
  | v, .non => v = .non
  | v, .bl b => v = .bl b
  | v, .int i => v = .int i
  | v, .str x => v = .str x ∧ PyData.strOk x = true
  | v, .tup l => ∃ a vs, v = .ref a ∧ ¬ M a ∧ H a = some (.tup vs) ∧ rvs K M H vs l
  | v, .lst l => ∃ a vs, v = .ref a ∧ ¬ M a ∧ H a = some (.lst vs) ∧ rvs K M H vs l
  | v, .dic b ks l => ∃ a vs, v = .ref a ∧ ¬ M a ∧ DicR b H a ks vs ∧ rvs K M H vs l
  | v, .obj C ns l => ∃ a dx vs, v = .ref a ∧ ¬ M a ∧ ¬ M dx ∧ H a = some (.ins (He.ga K C) dx (ns.zip vs)) ∧ H dx = some (.own a) ∧ vs.length = ns.length ∧ rvs K M H vs l
def rvs (K : KT) (M : MS) (H : Hp) : List V → List PV → Prop
  | [], [] => True
  | v :: vs, d :: ds => rv K M H v d ∧ rvs K M H vs ds
  | _, _ => False
end
section
variable {K : KT} {M M' : MS} {H H' : Hp} {v : V} {vs : List V}
theorem rv_non : rv K M H v .non ↔ v = .non := by unfold rv; exact Iff.rfl
theorem rv_bl {b : Bool} : rv K M H v (.bl b) ↔ v = .bl b := by unfold rv; exact Iff.rfl
theorem rv_int {i : Int} : rv K M H v (.int i) ↔ v = .int i := by unfold rv; exact Iff.rfl
theorem rv_str {x : Str} : rv K M H v (.str x) ↔ v = .str x ∧ PyData.strOk x = true := by unfold rv; exact Iff.rfl
theorem rv_tup {l : List PV} : rv K M H v (.tup l) ↔ ∃ a vs, v = .ref a ∧ ¬ M a ∧ H a = some (.tup vs) ∧ rvs K M H vs l := by rw [rv]
theorem rv_lst {l : List PV} : rv K M H v (.lst l) ↔ ∃ a vs, v = .ref a ∧ ¬ M a ∧ H a = some (.lst vs) ∧ rvs K M H vs l := by rw [rv]
theorem rv_dic {b : Bool} {ks l : List PV} : rv K M H v (.dic b ks l) ↔ ∃ a vs, v = .ref a ∧ ¬ M a ∧ DicR b H a ks vs ∧ rvs K M H vs l := by rw [rv]
theorem rv_obj {C : Str} {ns : List Str} {l : List PV} : rv K M H v (.obj C ns l) ↔ ∃ a dx vs, v = .ref a ∧ ¬ M a ∧ ¬ M dx ∧ H a = some (.ins (He.ga K C) dx (ns.zip vs)) ∧ H dx = some (.own a) ∧ vs.length = ns.length ∧ rvs K M H vs l := by rw [rv]
theorem rvs_nil : rvs K M H [] [] := by unfold rvs; trivial
theorem rvs_cons {d : PV} {ds : List PV} : rvs K M H (v :: vs) (d :: ds) ↔ rv K M H v d ∧ rvs K M H vs ds := by rw [rvs]
mutual
theorem rv_st (na : ∀ a, ¬ M a → ¬ nn K.tb (H a) → ¬ M' a) (f : ∀ a o, nt K.tb o → ¬ M a → H a = some o → H' a = some o) : ∀ (d : PV) (v : V), rv K M H v d → rv K M' H' v d
  | .non, v, h => by rw [rv_non] at h ⊢; exact h
  | .bl b, v, h => by rw [rv_bl] at h ⊢; exact h
  | .int i, v, h => by rw [rv_int] at h ⊢; exact h
  | .str x, v, h => by rw [rv_str] at h ⊢; exact h
  | .tup l, v, h => by
    rw [rv_tup] at h ⊢
    obtain ⟨a, vs, h1, h2, h3, h4⟩ := h
    exact ⟨a, vs, h1, na a h2 (nnn h3), f a _ rfl h2 h3, rvs_st na f l vs h4⟩
  | .lst l, v, h => by
    rw [rv_lst] at h ⊢
    obtain ⟨a, vs, h1, h2, h3, h4⟩ := h
    exact ⟨a, vs, h1, na a h2 (nnn h3), f a _ rfl h2 h3, rvs_st na f l vs h4⟩
  | .dic b ks l, v, h => by
    rw [rv_dic] at h ⊢
    obtain ⟨a, vs, h1, h2, h3, h4⟩ := h
    exact ⟨a, vs, h1, na a h2 h3.ob.nn, h3.to fun o t e => f a o t h2 e, rvs_st na f l vs h4⟩
  | .obj C ns l, v, h => by
    rw [rv_obj] at h ⊢
    obtain ⟨a, dx, vs, h1, h2, h3, h4, h5, h6, h7⟩ := h
    exact ⟨a, dx, vs, h1, na a h2 (nnn h4), na dx h3 (nnn h5), f a _ rfl h2 h4, f dx _ rfl h3 h5, h6, rvs_st na f l vs h7⟩
theorem rvs_st (na : ∀ a, ¬ M a → ¬ nn K.tb (H a) → ¬ M' a) (f : ∀ a o, nt K.tb o → ¬ M a → H a = some o → H' a = some o) : ∀ (ds : List PV) (vs : List V), rvs K M H vs ds → rvs K M' H' vs ds
  | [], [], _ => rvs_nil
  | d :: ds, v :: vs, h => by
    rw [rvs_cons] at h ⊢
    exact ⟨rv_st na f d v h.1, rvs_st na f ds vs h.2⟩
  | [], _ :: _, h => by unfold rvs at h; exact h.elim
  | _ :: _, [], h => by unfold rvs at h; exact h.elim
end
theorem rvs_len : ∀ {vs : List V} {ds : List PV}, rvs K M H vs ds → vs.length = ds.length
  | [], [], _ => rfl
  | _ :: _, _ :: _, h => by rw [rvs_cons] at h; exact congrArg Nat.succ (rvs_len h.2)
  | [], _ :: _, h => by unfold rvs at h; exact h.elim
  | _ :: _, [], h => by unfold rvs at h; exact h.elim
theorem rvs_app : ∀ {vs ws : List V} {ds es : List PV}, rvs K M H vs ds → rvs K M H ws es → rvs K M H (vs ++ ws) (ds ++ es)
  | [], _, [], _, _, h => h
  | _ :: _, _, _ :: _, _, g, h => by rw [rvs_cons] at g; exact rvs_cons.mpr ⟨g.1, rvs_app g.2 h⟩
  | [], _, _ :: _, _, g, _ => by unfold rvs at g; exact g.elim
  | _ :: _, _, [], _, g, _ => by unfold rvs at g; exact g.elim
theorem rvs_get : ∀ {vs : List V} {ds : List PV} {i : Nat} {v : V}, rvs K M H vs ds → vs[i]? = some v → ∃ d, ds[i]? = some d ∧ rv K M H v d
  | [], [], _, _, _, e => by simp at e
  | x :: _, a :: _, 0, v, h, e => by
    rw [rvs_cons] at h
    obtain rfl : x = v := Option.some.inj e
    exact ⟨a, rfl, h.1⟩
  | _ :: _, _ :: _, i + 1, v, h, e => by rw [rvs_cons] at h; exact rvs_get (i := i) h.2 e
  | [], _ :: _, _, _, h, _ => by unfold rvs at h; exact h.elim
  | _ :: _, [], _, _, h, _ => by unfold rvs at h; exact h.elim
theorem rvs_at : ∀ {vs : List V} {ds : List PV} {i : Nat} {d : PV}, rvs K M H vs ds → ds[i]? = some d → ∃ v, vs[i]? = some v ∧ rv K M H v d
  | [], [], _, _, _, e => by simp at e
  | x :: _, a :: _, 0, d, h, e => by
    rw [rvs_cons] at h
    obtain rfl : a = d := Option.some.inj e
    exact ⟨x, rfl, h.1⟩
  | _ :: _, _ :: _, i + 1, v, h, e => by rw [rvs_cons] at h; exact rvs_at (i := i) h.2 e
  | [], _ :: _, _, _, h, _ => by unfold rvs at h; exact h.elim
  | _ :: _, [], _, _, h, _ => by unfold rvs at h; exact h.elim
theorem rvs_take : ∀ {vs : List V} {ds : List PV} (n : Nat), rvs K M H vs ds → rvs K M H (vs.take n) (ds.take n)
  | [], [], n, _ => by cases n <;> exact rvs_nil
  | _ :: _, _ :: _, 0, _ => rvs_nil
  | _ :: _, _ :: _, n + 1, h => by rw [rvs_cons] at h; exact rvs_cons.mpr ⟨h.1, rvs_take n h.2⟩
  | [], _ :: _, _, h => by unfold rvs at h; exact h.elim
  | _ :: _, [], _, h => by unfold rvs at h; exact h.elim
theorem rvs_drop : ∀ {vs : List V} {ds : List PV} (n : Nat), rvs K M H vs ds → rvs K M H (vs.drop n) (ds.drop n)
  | [], [], n, _ => by cases n <;> exact rvs_nil
  | _ :: _, _ :: _, 0, h => h
  | _ :: _, _ :: _, n + 1, h => by rw [rvs_cons] at h; exact rvs_drop n h.2
  | [], _ :: _, _, h => by unfold rvs at h; exact h.elim
  | _ :: _, [], _, h => by unfold rvs at h; exact h.elim
theorem rvs_set {v : V} {d : PV} (h : rv K M H v d) : ∀ {vs : List V} {ds : List PV} (j : Nat), rvs K M H vs ds → rvs K M H (vs.set j v) (ds.set j d)
  | [], [], _, _ => rvs_nil
  | _ :: _, _ :: _, 0, g => by rw [rvs_cons] at g; exact rvs_cons.mpr ⟨h, g.2⟩
  | _ :: _, _ :: _, j + 1, g => by rw [rvs_cons] at g; exact rvs_cons.mpr ⟨g.1, rvs_set h j g.2⟩
  | [], _ :: _, _, g => by unfold rvs at g; exact g.elim
  | _ :: _, [], _, g => by unfold rvs at g; exact g.elim
theorem rvs_erase : ∀ {vs : List V} {ds : List PV} (j : Nat), rvs K M H vs ds → rvs K M H (vs.eraseIdx j) (ds.eraseIdx j)
  | [], [], _, _ => rvs_nil
  | _ :: _, _ :: _, 0, g => by rw [rvs_cons] at g; exact g.2
  | _ :: _, _ :: _, j + 1, g => by rw [rvs_cons] at g; exact rvs_cons.mpr ⟨g.1, rvs_erase j g.2⟩
  | [], _ :: _, _, g => by unfold rvs at g; exact g.elim
  | _ :: _, [], _, g => by unfold rvs at g; exact g.elim
theorem rvs_rev : ∀ {vs : List V} {ds : List PV}, rvs K M H vs ds → rvs K M H vs.reverse ds.reverse
  | [], [], _ => rvs_nil
  | _ :: _, _ :: _, h => by
    rw [rvs_cons] at h
    rw [List.reverse_cons, List.reverse_cons]
    exact rvs_app (rvs_rev h.2) (rvs_cons.mpr ⟨h.1, rvs_nil⟩)
  | [], _ :: _, h => by unfold rvs at h; exact h.elim
  | _ :: _, [], h => by unfold rvs at h; exact h.elim
theorem rv_ad {D : Addr} {d : PV} (hD : H D = none) (h : rv K M H v d) : rv K (WD.plus M D) H v d := rv_st (fun a n ne z => z.elim n fun e => ne (nn_none (by rw [e]; exact hD))) (fun _ _ _ _ e => e) d v h
theorem rvs_ad {D : Addr} {ds : List PV} (hD : H D = none) (h : rvs K M H vs ds) : rvs K (WD.plus M D) H vs ds := rvs_st (fun a n ne z => z.elim n fun e => ne (nn_none (by rw [e]; exact hD))) (fun _ _ _ _ e => e) ds vs h
theorem rv_wk {d : PV} (s : ∀ a, M' a → M a) (h : rv K M H v d) : rv K M' H v d := rv_st (fun a n _ z => n (s a z)) (fun _ _ _ _ e => e) d v h
theorem rvs_wk {ds : List PV} (s : ∀ a, M' a → M a) (h : rvs K M H vs ds) : rvs K M' H vs ds := rvs_st (fun a n _ z => n (s a z)) (fun _ _ _ _ e => e) ds vs h
theorem rv_fr {d : PV} (f : Fr K.tb M H H') (h : rv K M H v d) : rv K M H' v d := rv_st (fun a n _ => n) f.keep d v h
theorem rvs_fr {ds : List PV} (f : Fr K.tb M H H') (h : rvs K M H vs ds) : rvs K M H' vs ds := rvs_st (fun a n _ => n) f.keep ds vs h
end

/-! ### the world: the things that change -/
def Mof (ζ : List Addr) (μ : Store) : MS := fun a => ∃ (k : Nat) (c : Cell), ζ[k]? = some a ∧ μ[k]? = some (some c)
/-- .. with those that are set aside -/
def MM (N : MS) (ζ : List Addr) (μ : Store) : MS := fun a => Mof ζ μ a ∨ N a
def FR (K : KT) (ζ : List Addr) (M : MS) (H : Hp) (v : V) : Fl → Prop
  | .t d => rv K M H v d
  | .c k => ∃ a, ζ[k]? = some a ∧ v = .ref a
def FRs (K : KT) (ζ : List Addr) (M : MS) (H : Hp) : List V → List Fl → Prop
  | [], [] => True
  | v :: vs, w :: ws => FR K ζ M H v w ∧ FRs K ζ M H vs ws
  | _, _ => False
theorem FR.st {K : KT} {ζ ζ' : List Addr} {M M' : MS} {H H' : Hp} {v : V} (pre : ∀ (k : Nat) (a : Addr), ζ[k]? = some a → ζ'[k]? = some a) (na : ∀ a, ¬ M a → ¬ nn K.tb (H a) → ¬ M' a) (f : ∀ a o, nt K.tb o → ¬ M a → H a = some o → H' a = some o) : ∀ {w : Fl}, FR K ζ M H v w → FR K ζ' M' H' v w
  | .t d, h => rv_st na f d v h
  | .c k, ⟨a, h1, h2⟩ => ⟨a, pre k a h1, h2⟩
theorem FRs.st {K : KT} {ζ ζ' : List Addr} {M M' : MS} {H H' : Hp} (pre : ∀ (k : Nat) (a : Addr), ζ[k]? = some a → ζ'[k]? = some a) (na : ∀ a, ¬ M a → ¬ nn K.tb (H a) → ¬ M' a) (f : ∀ a o, nt K.tb o → ¬ M a → H a = some o → H' a = some o) : ∀ {vs : List V} {ws : List Fl}, FRs K ζ M H vs ws → FRs K ζ' M' H' vs ws
  | [], [], _ => trivial
  | _ :: _, _ :: _, h => ⟨FR.st pre na f h.1, FRs.st pre na f h.2⟩
  | [], _ :: _, h => h.elim
  | _ :: _, [], h => h.elim
theorem FRs.len {K : KT} {ζ : List Addr} {M : MS} {H : Hp} : ∀ {vs : List V} {ws : List Fl}, FRs K ζ M H vs ws → vs.length = ws.length
  | [], [], _ => rfl
  | _ :: _, _ :: _, h => congrArg Nat.succ (FRs.len h.2)
  | [], _ :: _, h => h.elim
  | _ :: _, [], h => h.elim
def cellR (K : KT) (ζ : List Addr) (M : MS) (H : Hp) (a : Addr) : Cell → Prop
  | .lst ds => ∃ vs, H a = some (.lst vs) ∧ rvs K M H vs ds
  | .dic b ks ds => ∃ vs, DicR b H a ks vs ∧ rvs K M H vs ds
  | .ob C ns fs => ∃ dx vs, ¬ M dx ∧ H a = some (.ins (He.ga K C) dx (ns.zip vs)) ∧ H dx = some (.own a) ∧ vs.length = ns.length ∧ FRs K ζ M H vs fs
theorem cellR.has {K : KT} {ζ : List Addr} {M : MS} {H : Hp} {a : Addr} {c : Cell} (h : cellR K ζ M H a c) : ∃ o, H a = some o := by
  cases c with
  | lst ds => obtain ⟨vs, e, _⟩ := h; exact ⟨_, e⟩
  | dic b ks ds => obtain ⟨vs, e, _⟩ := h; exact e.has
  | ob C ns ds => obtain ⟨dx, vs, _, e, _⟩ := h; exact ⟨_, e⟩
theorem cellR.obj {K : KT} {ζ : List Addr} {M : MS} {H : Hp} {a : Addr} {c : Cell} (h : cellR K ζ M H a c) : Ob (H a) := by
  cases c with
  | lst ds => obtain ⟨vs, e, _⟩ := h; exact ⟨_, e, rfl, rfl⟩
  | dic b ks ds => obtain ⟨vs, e, _⟩ := h; cases b <;> obtain ⟨_, _, _, _, e⟩ := e <;> exact ⟨_, e, rfl, rfl⟩
  | ob C ns ds => obtain ⟨dx, vs, _, e, _⟩ := h; exact ⟨_, e, rfl, rfl⟩
theorem cellR.st {K : KT} {ζ ζ' : List Addr} {M M' : MS} {H H' : Hp} {a : Addr} {c : Cell} (pre : ∀ (k : Nat) (a : Addr), ζ[k]? = some a → ζ'[k]? = some a) (na : ∀ a, ¬ M a → ¬ nn K.tb (H a) → ¬ M' a) (f : ∀ a o, nt K.tb o → ¬ M a → H a = some o → H' a = some o) (fa : ∀ o, nt K.tb o → H a = some o → H' a = some o) (h : cellR K ζ M H a c) : cellR K ζ' M' H' a c := by
  cases c with
  | lst ds => obtain ⟨vs, e, r⟩ := h; exact ⟨vs, fa _ rfl e, rvs_st na f _ _ r⟩
  | dic b ks ds => obtain ⟨vs, e, r⟩ := h; exact ⟨vs, e.to fa, rvs_st na f _ _ r⟩
  | ob C ns ds => obtain ⟨dx, vs, nd, e, e2, l, r⟩ := h; exact ⟨dx, vs, na dx nd (nnn e2), fa _ rfl e, f _ _ rfl nd e2, l, FRs.st pre na f r⟩
structure Wd (K : KT) (N : MS) (ζ : List Addr) (μ : Store) (H : Hp) : Prop where
  len : ζ.length = μ.length
  inj : ∀ (i j : Nat) (a : Addr) (c c' : Cell), ζ[i]? = some a → ζ[j]? = some a → μ[i]? = some (some c) → μ[j]? = some (some c') → i = j
  cell : ∀ (k : Nat) (c : Cell) (a : Addr), μ[k]? = some (some c) → ζ[k]? = some a → cellR K (ζ.take k) (MM N ζ μ) H a c
  nd : ∀ a, N a → ¬ Mof ζ μ a ∧ Ob (H a)
  tb : LamX.Tabs K.tb H
structure Ev (T : List (Addr × Str)) (ζ : List Addr) (μ : Store) (H : Hp) (ζ' : List Addr) (μ' : Store) (H' : Hp) : Prop where
  pre : ∀ (k : Nat) (a : Addr), ζ[k]? = some a → ζ'[k]? = some a
  fr : Fr T (Mof ζ μ) H H'
  ml : ∀ a, Mof ζ' μ' a → Mof ζ μ a ∨ nn T (H a)
section
variable {K : KT} {N : MS} {ζ ζ1 ζ2 : List Addr} {μ μ1 μ2 : Store} {H H1 H2 : Hp} {v : V} {d : PV} {vs : List V} {ds : List PV}
theorem Ev.refl : Ev K.tb ζ μ H ζ μ H := ⟨fun _ _ h => h, Fr.refl _, fun _ h => .inl h⟩
theorem Ev.trans (a : Ev K.tb ζ μ H ζ1 μ1 H1) (b : Ev K.tb ζ1 μ1 H1 ζ2 μ2 H2) : Ev K.tb ζ μ H ζ2 μ2 H2 := by
  refine ⟨fun k x h => b.pre k x (a.pre k x h), ⟨fun x o t n h => b.fr.keep x o t (fun z => (a.ml x z).elim n fun q => q o h t) (a.fr.keep x o t n h), fun x h => a.fr.dom x (b.fr.dom x h)⟩, fun x h => ?_⟩
  rcases b.ml x h with h | h
  · exact a.ml x h
  · exact .inr (a.fr.dom x h)
theorem Ev.na (e : Ev K.tb ζ μ H ζ1 μ1 H1) : ∀ a, ¬ MM N ζ μ a → ¬ nn K.tb (H a) → ¬ MM N ζ1 μ1 a := fun a n ne z => z.elim (fun z => (e.ml a z).elim (fun q => n (.inl q)) ne) fun q => n (.inr q)
theorem Ev.keep (e : Ev K.tb ζ μ H ζ1 μ1 H1) : ∀ a o, nt K.tb o → ¬ MM N ζ μ a → H a = some o → H1 a = some o := fun a o t n h => e.fr.keep a o t (fun z => n (.inl z)) h
theorem Ev.rv (e : Ev K.tb ζ μ H ζ1 μ1 H1) (h : rv K (MM N ζ μ) H v d) : rv K (MM N ζ1 μ1) H1 v d := rv_st e.na e.keep d v h
theorem Ev.rvs (e : Ev K.tb ζ μ H ζ1 μ1 H1) (h : rvs K (MM N ζ μ) H vs ds) : rvs K (MM N ζ1 μ1) H1 vs ds := rvs_st e.na e.keep ds vs h
theorem Wd.min (w : Wd K N ζ μ H) : ∀ a, MM N ζ μ a → Ob (H a) := fun a h => by
  rcases h with ⟨k, c, h1, h2⟩ | h
  case inr => exact (w.nd a h).2
  exact (w.cell k c a h2 h1).obj
theorem Wd.no (w : Wd K N ζ μ H) {p : Addr} (h : H p = none) : ¬ MM N ζ μ p := fun z => (w.min p z).ne h
/-- something new is laid -/
theorem Ev.new {p : Addr} {o : HO} (h : H p = none) : Ev K.tb ζ μ H ζ μ (upd H p o) := ⟨fun _ _ e => e, Fr.new h, fun _ e => .inl e⟩
theorem Wd.new (w : Wd K N ζ μ H) {p : Addr} {o : HO} (h : H p = none) : Wd K N ζ μ (upd H p o) := by
  refine ⟨w.len, w.inj, fun k c a h1 h2 => ?_, fun a h' => ⟨(w.nd a h').1, (by obtain ⟨u, e, r⟩ := (w.nd a h').2; exact ⟨u, by rw [upd_ne (ne_of_none e h)]; exact e, r⟩)⟩, w.tb.ext fun b u e => by rw [upd_ne (ne_of_none e h)]; exact e⟩
  exact (w.cell k c a h1 h2).st (fun _ _ h => h) (fun _ n _ => n) (fun b u _ _ e => by rw [upd_ne (ne_of_none e h)]; exact e) (fun u _ e => by rw [upd_ne (ne_of_none e h)]; exact e)
/-- the heap may grow -/
theorem Wd.fr0 (w : Wd K N ζ μ H) (f : ∀ a o, H a = some o → H1 a = some o) : Wd K N ζ μ H1 :=
  ⟨w.len, w.inj, fun k c a h1 h2 => (w.cell k c a h1 h2).st (fun _ _ h => h) (fun _ n _ => n) (fun b u _ _ e => f b u e) (fun o _ => f a o), fun a h => ⟨(w.nd a h).1, let ⟨u, e, r⟩ := (w.nd a h).2; ⟨u, f a u e, r⟩⟩, w.tb.ext f⟩
end

/-! ### values, slots -/
abbrev Xi := Option (Addr × Value × Option Addr)
def XR (K : KT) (M : MS) (H : Hp) (d : Option Addr) : Option (Str × PV) → Prop
  | none => d = none
  | some (n, p) => ∃ dd v, d = some dd ∧ ¬ M dd ∧ H dd = some (.xd [(n, v)]) ∧ rv K M H v p
def RV (K : KT) (ξ : Xi) (ζ : List Addr) (M : MS) (H : Hp) (v : V) : Val → Prop
  | .t d => rv K M H v d
  | .c k => ∃ a, ζ[k]? = some a ∧ v = .ref a
  | .x c f => ∃ a d, ξ = some (a, .ref (He.ga K c), d) ∧ v = .ref a ∧ XR K M H d f
  | .s ns => ∃ a, v = .ref a ∧ ((¬ M a ∧ Rd H a (.lst (ns.map V.int))) ∨ ∀ H', SqL K H' a (ns.map V.int))
  | .g .tup fs => ∃ a vs, v = .ref a ∧ ¬ M a ∧ H a = some (.tup vs) ∧ FRs K ζ M H vs fs
  | .g (.ob C ns) fs => ∃ a dx vs, v = .ref a ∧ ¬ M a ∧ ¬ M dx ∧ H a = some (.ins (He.ga K C) dx (ns.zip vs)) ∧ H dx = some (.own a) ∧ vs.length = ns.length ∧ FRs K ζ M H vs fs
  | .self => ∃ a cv d, ξ = some (a, cv, d) ∧ v = .ref a
  | .lam L fs => v = .ref L.1 ∧ ¬ M L.2.1 ∧ H L.2.1 = some (LamX.CodeO L.2.1 L.2.2.1) ∧ L.2.2.2.length = fs.length ∧ ∀ (i : Nat) (w : Fl), fs[i]? = some (some w) → ∃ u, L.2.2.2[i]? = some (some u) ∧ FR K ζ M H u w
def RVs (K : KT) (ξ : Xi) (ζ : List Addr) (M : MS) (H : Hp) : List V → List Val → Prop
  | [], [] => True
  | v :: vs, w :: ws => RV K ξ ζ M H v w ∧ RVs K ξ ζ M H vs ws
  | _, _ => False
def Sok (K : KT) (ξ : Xi) (ζ : List Addr) (M : MS) (H : Hp) (σr : L2.St) (σ : Sl) : Prop :=
  σr.length = σ.length ∧ ∀ (i : Nat) (w : Val), σ[i]? = some (some w) → ∃ v, σr[i]? = some (some v) ∧ RV K ξ ζ M H v w
section
variable {K : KT} {ξ : Xi} {N : MS} {ζ ζ1 : List Addr} {μ μ1 : Store} {M : MS} {H H1 : Hp} {v : V} {w : Val} {vs : List V} {ws : List Val} {σr : L2.St} {σ : Sl}
theorem XR.st {M' : MS} {d : Option Addr} (na : ∀ a, ¬ M a → ¬ nn K.tb (H a) → ¬ M' a) (f : ∀ a o, nt K.tb o → ¬ M a → H a = some o → H1 a = some o) : ∀ {x : Option (Str × PV)}, XR K M H d x → XR K M' H1 d x
  | none, h => h
  | some (n, p), ⟨dd, v, h1, h2, h3, h4⟩ => ⟨dd, v, h1, na dd h2 (nnn h3), f _ _ rfl h2 h3, rv_st na f _ _ h4⟩
theorem XR.ev {d : Option Addr} {f : Option (Str × PV)} (e : Ev K.tb ζ μ H ζ1 μ1 H1) (h : XR K (MM N ζ μ) H d f) : XR K (MM N ζ1 μ1) H1 d f := h.st e.na e.keep
theorem RV.st {M' : MS} (pre : ∀ (k : Nat) (a : Addr), ζ[k]? = some a → ζ1[k]? = some a) (na : ∀ a, ¬ M a → ¬ nn K.tb (H a) → ¬ M' a) (f : ∀ a o, nt K.tb o → ¬ M a → H a = some o → H1 a = some o) : ∀ {w : Val}, RV K ξ ζ M H v w → RV K ξ ζ1 M' H1 v w
  | .t d, h => rv_st na f d v h
  | .c _, ⟨a, h1, h2⟩ => ⟨a, pre _ _ h1, h2⟩
  | .x _ _, ⟨a, d, h1, h2, h3⟩ => ⟨a, d, h1, h2, h3.st na f⟩
  | .s _, ⟨a, h1, .inr h⟩ => ⟨a, h1, .inr h⟩
  | .s _, ⟨a, h1, .inl ⟨h2, h3⟩⟩ => by
    refine ⟨a, h1, .inl ⟨?_, ?_⟩⟩
    · rcases h3 with h3 | ⟨o, h3⟩ <;> exact na a h2 (nnn h3)
    · rcases h3 with h3 | ⟨o, h3⟩
      · exact .inl (f a _ rfl h2 h3)
      · exact .inr ⟨o, f a _ rfl h2 h3⟩
  | .g .tup fs, ⟨a, vs, h1, h2, h3, h4⟩ => ⟨a, vs, h1, na a h2 (nnn h3), f _ _ rfl h2 h3, FRs.st pre na f h4⟩
  | .g (.ob C ns) fs, ⟨a, dx, vs, h1, h2, h3, h4, h5, h6, h7⟩ => ⟨a, dx, vs, h1, na a h2 (nnn h4), na dx h3 (nnn h5), f _ _ rfl h2 h4, f _ _ rfl h3 h5, h6, FRs.st pre na f h7⟩
  | .self, h => h
  | .lam _ _, ⟨h1, h2, h3, h4, h5⟩ => ⟨h1, na _ h2 (nnn h3), f _ _ rfl h2 h3, h4, fun i w e => let ⟨u, e1, e2⟩ := h5 i w e; ⟨u, e1, e2.st pre na f⟩⟩
theorem RV.ev (e : Ev K.tb ζ μ H ζ1 μ1 H1) {w : Val} (h : RV K ξ ζ (MM N ζ μ) H v w) : RV K ξ ζ1 (MM N ζ1 μ1) H1 v w := h.st e.pre e.na e.keep
theorem RVs.ev (e : Ev K.tb ζ μ H ζ1 μ1 H1) : ∀ {vs : List V} {ws : List Val}, RVs K ξ ζ (MM N ζ μ) H vs ws → RVs K ξ ζ1 (MM N ζ1 μ1) H1 vs ws
  | [], [], _ => trivial
  | _ :: _, _ :: _, h => ⟨RV.ev e h.1, RVs.ev e h.2⟩
  | [], _ :: _, h => h.elim
  | _ :: _, [], h => h.elim
theorem RVs.len : ∀ {vs : List V} {ws : List Val}, RVs K ξ ζ M H vs ws → vs.length = ws.length
  | [], [], _ => rfl
  | _ :: _, _ :: _, h => congrArg Nat.succ (RVs.len h.2)
  | [], _ :: _, h => h.elim
  | _ :: _, [], h => h.elim
theorem Sok.ev (e : Ev K.tb ζ μ H ζ1 μ1 H1) (h : Sok K ξ ζ (MM N ζ μ) H σr σ) : Sok K ξ ζ1 (MM N ζ1 μ1) H1 σr σ :=
  ⟨h.1, fun i w hw => let ⟨v, h1, h2⟩ := h.2 i w hw; ⟨v, h1, h2.ev e⟩⟩
theorem Sok.set {i : Nat} (h : Sok K ξ ζ M H σr σ) (r : RV K ξ ζ M H v w) : Sok K ξ ζ M H (σr.set i (some v)) (σ.set i (some w)) := by
  refine ⟨by rw [List.length_set, List.length_set]; exact h.1, fun j u hu => ?_⟩
  by_cases e : i = j
  · subst e
    have hl : i < σ.length := by
      have := (List.getElem?_eq_some_iff.mp hu).1
      rwa [List.length_set] at this
    rw [List.getElem?_set_self hl] at hu
    cases hu
    exact ⟨v, by rw [List.getElem?_set_self (by rw [h.1]; exact hl)], r⟩
  · rw [List.getElem?_set_ne e] at hu
    rw [List.getElem?_set_ne e]
    exact h.2 j u hu
theorem Sok.drop {i : Nat} (h : Sok K ξ ζ M H σr σ) : Sok K ξ ζ M H (σr.set i none) (σ.set i none) := by
  refine ⟨by rw [List.length_set, List.length_set]; exact h.1, fun j u hu => ?_⟩
  by_cases e : i = j
  · subst e
    have hl : i < σ.length := by
      have := (List.getElem?_eq_some_iff.mp hu).1
      rwa [List.length_set] at this
    rw [List.getElem?_set_self hl] at hu
    cases hu
  · rw [List.getElem?_set_ne e] at hu
    rw [List.getElem?_set_ne e]
    exact h.2 j u hu
end

/-! ### readings -/
def PostE (K : KT) (ξ : Xi) (W : WX) (N : MS) (ζ : List Addr) (μ : Store) (H : Hp) (σr : L2.St) (Q : VK) : R Val → Prop
  | .ok w μ' => ∀ ζ' H' v, Ev K.tb ζ μ H ζ' μ' H' → Wd K N ζ' μ' H' → RV K ξ ζ' (MM N ζ' μ') H' v w → Q v H'
  | .ex c f μ' => ∀ ζ' H' d, Ev K.tb ζ μ H ζ' μ' H' → Wd K N ζ' μ' H' → XR K (MM N ζ' μ') H' d f → W (.ref (He.ga K c)) d σr H'
  | .stuck => False
def tE (K : KT) (ξ : Xi) (W : WX) (f : ME) : TE := fun σr H Q => ∃ N ζ μ σ, Wd K N ζ μ H ∧ Sok K ξ ζ (MM N ζ μ) H σr σ ∧ PostE K ξ W N ζ μ H σr Q (f σ μ)
def PostT {α : Type} (K : KT) (W : WX) (N : MS) (ζ : List Addr) (μ : Store) (H : Hp) (σr : L2.St) (Q : α → Hp → Prop) : R α → Prop
  | .ok b μ' => ∀ ζ' H', Ev K.tb ζ μ H ζ' μ' H' → Wd K N ζ' μ' H' → Q b H'
  | .ex c f μ' => ∀ ζ' H' d, Ev K.tb ζ μ H ζ' μ' H' → Wd K N ζ' μ' H' → XR K (MM N ζ' μ') H' d f → W (.ref (He.ga K c)) d σr H'
  | .stuck => False
def tT (K : KT) (ξ : Xi) (W : WX) (f : Sl → Store → R Bool) : TT := fun σr H Q => ∃ N ζ μ σ, Wd K N ζ μ H ∧ Sok K ξ ζ (MM N ζ μ) H σr σ ∧ PostT K W N ζ μ H σr Q (f σ μ)
def PostA (K : KT) (ξ : Xi) (W : WX) (N : MS) (ζ : List Addr) (μ : Store) (H : Hp) (σr : L2.St) (Q : List V → Hp → Prop) : R (List Val) → Prop
  | .ok ws μ' => ∀ ζ' H' vs, Ev K.tb ζ μ H ζ' μ' H' → Wd K N ζ' μ' H' → RVs K ξ ζ' (MM N ζ' μ') H' vs ws → Q vs H'
  | .ex c f μ' => ∀ ζ' H' d, Ev K.tb ζ μ H ζ' μ' H' → Wd K N ζ' μ' H' → XR K (MM N ζ' μ') H' d f → W (.ref (He.ga K c)) d σr H'
  | .stuck => False
def tA (K : KT) (ξ : Xi) (W : WX) (f : Sl → Store → R (List Val)) : TA := fun σr H Q => ∃ N ζ μ σ, Wd K N ζ μ H ∧ Sok K ξ ζ (MM N ζ μ) H σr σ ∧ PostA K ξ W N ζ μ H σr Q (f σ μ)
/-- a new list -/
def PostF (K : KT) (W : WX) (N : MS) (ζ : List Addr) (μ : Store) (H : Hp) (σr : L2.St) (Q : VK) : R (List PV) → Prop
  | .ok ds μ' => ∀ ζ' H' a vs, Ev K.tb ζ μ H ζ' μ' H' → Wd K (WD.plus N a) ζ' μ' H' → nn K.tb (H a) → H' a = some (.lst vs) → rvs K (MM (WD.plus N a) ζ' μ') H' vs ds → Q (.ref a) H'
  | .ex c f μ' => ∀ ζ' H' d, Ev K.tb ζ μ H ζ' μ' H' → Wd K N ζ' μ' H' → XR K (MM N ζ' μ') H' d f → W (.ref (He.ga K c)) d σr H'
  | .stuck => False
def tF (K : KT) (ξ : Xi) (W : WX) (f : Sl → Store → R (List PV)) : TE := fun σr H Q => ∃ N ζ μ σ, Wd K N ζ μ H ∧ Sok K ξ ζ (MM N ζ μ) H σr σ ∧ PostF K W N ζ μ H σr Q (f σ μ)
def PostS (K : KT) (ξ : Xi) (W : WX) (N : MS) (ζ : List Addr) (μ : Store) (H : Hp) (D : Ends) : RS → Prop
  | .nx σ' μ' => ∀ ζ' H' σr', Ev K.tb ζ μ H ζ' μ' H' → Wd K N ζ' μ' H' → Sok K ξ ζ' (MM N ζ' μ') H' σr' σ' → D.nx σr' H'
  | .bk σ' μ' => ∀ ζ' H' σr', Ev K.tb ζ μ H ζ' μ' H' → Wd K N ζ' μ' H' → Sok K ξ ζ' (MM N ζ' μ') H' σr' σ' → D.bk σr' H'
  | .ct σ' μ' => ∀ ζ' H' σr', Ev K.tb ζ μ H ζ' μ' H' → Wd K N ζ' μ' H' → Sok K ξ ζ' (MM N ζ' μ') H' σr' σ' → D.ct σr' H'
  | .rt w μ' => ∀ ζ' H' v, Ev K.tb ζ μ H ζ' μ' H' → Wd K N ζ' μ' H' → RV K ξ ζ' (MM N ζ' μ') H' v w → D.rt v H'
  | .ex c f σ' μ' => ∀ ζ' H' d σr', Ev K.tb ζ μ H ζ' μ' H' → Wd K N ζ' μ' H' → XR K (MM N ζ' μ') H' d f → Sok K ξ ζ' (MM N ζ' μ') H' σr' σ' → W (.ref (He.ga K c)) d σr' H'
  | .stuck => False
def tS (K : KT) (ξ : Xi) (W : WX) (F : MSt) : TS := fun D σr H => ∃ N ζ μ σ, Wd K N ζ μ H ∧ Sok K ξ ζ (MM N ζ μ) H σr σ ∧ PostS K ξ W N ζ μ H D (F σ μ)

/-! ### judgements -/
abbrev IE (K : KT) (ξ : Xi) (W : WX) (X : Cx) (e : Expr) (f : ME) : Prop := PE X e (tE K ξ W f)
abbrev IT (K : KT) (ξ : Xi) (W : WX) (X : Cx) (e : Expr) (f : Sl → Store → R Bool) : Prop := PT X e (tT K ξ W f)
abbrev IA (K : KT) (ξ : Xi) (W : WX) (X : Cx) (es : List Expr) (f : Sl → Store → R (List Val)) : Prop := PA X es (tA K ξ W f)
abbrev IF (K : KT) (ξ : Xi) (W : WX) (X : Cx) (e : Expr) (f : Sl → Store → R (List PV)) : Prop := PE X e (tF K ξ W f)
abbrev IS (K : KT) (ξ : Xi) (W : WX) (X : Cx) (s : Stmt) (F : MSt) : Prop := PS X s (tS K ξ W F)
abbrev ISs (K : KT) (ξ : Xi) (W : WX) (X : Cx) (ss : List Stmt) (F : MSt) : Prop := PSs X ss (tS K ξ W F)
theorem PE.of {X : Cx} {e : Expr} {t t' : TE} (h : PE X e t) (k : ∀ σ H Q, t' σ H Q → t σ H Q) : PE X e t' := ⟨fun pins s σ H Q I q => h.run pins s σ H Q I (k σ H Q q)⟩
theorem PT.of {X : Cx} {e : Expr} {t t' : TT} (h : PT X e t) (k : ∀ σ H Q, t' σ H Q → t σ H Q) : PT X e t' := ⟨fun pins s σ H Q I q => h.run pins s σ H Q I (k σ H Q q)⟩
theorem PW.of {X : Cx} {e : Expr} {t t' : TT} (h : PW X e t) (k : ∀ σ H Q, t' σ H Q → t σ H Q) : PW X e t' := ⟨fun wh pins s σ H Q I q => h.run wh pins s σ H Q I (k σ H Q q)⟩
theorem PA.of {X : Cx} {e : List Expr} {t t' : TA} (h : PA X e t) (k : ∀ σ H Q, t' σ H Q → t σ H Q) : PA X e t' := ⟨fun p pins s σ H Q I q => h.run p pins s σ H Q I (k σ H Q q)⟩
theorem PS.of {X : Cx} {e : Stmt} {t t' : TS} (h : PS X e t) (k : ∀ D σ H, t' D σ H → t D σ H) : PS X e t' := ⟨fun pins s σ H D I q => h.run pins s σ H D I (k D σ H q)⟩
theorem PSs.of {X : Cx} {e : List Stmt} {t t' : TS} (h : PSs X e t) (k : ∀ D σ H, t' D σ H → t D σ H) : PSs X e t' := ⟨fun pins s σ H D I q => h.run pins s σ H D I (k D σ H q)⟩
/-- a rule chosen by what is read -/
theorem PE.pick {X : Cx} {e : Expr} {t' : TE} (k : ∀ σ H Q, t' σ H Q → ∃ t, PE X e t ∧ t σ H Q) : PE X e t' := ⟨fun pins s σ H Q I q => let ⟨_, h, q'⟩ := k σ H Q q; h.run pins s σ H Q I q'⟩
end PM
namespace PM
open PySem PySem.Spec PyProof.Rows L2
open WD (MS upd_none)

/-! ### what is written out of readings -/
section
variable {K : KT} {ξ : Xi} {W : WX} {N : MS} {ζ ζ1 : List Addr} {μ μ1 : Store} {H H1 : Hp} {σr : L2.St}
theorem PostE.ev {Q : VK} (e : Ev K.tb ζ μ H ζ1 μ1 H1) : ∀ {r : R Val}, PostE K ξ W N ζ μ H σr Q r → PostE K ξ W N ζ1 μ1 H1 σr Q r
  | .ok _ _, h => fun ζ' H' v a b c => h ζ' H' v (e.trans a) b c
  | .ex _ _ _, h => fun ζ' H' d a b c => h ζ' H' d (e.trans a) b c
  | .stuck, h => h
theorem PostT.ev {α : Type} {Q : α → Hp → Prop} (e : Ev K.tb ζ μ H ζ1 μ1 H1) : ∀ {r : R α}, PostT K W N ζ μ H σr Q r → PostT K W N ζ1 μ1 H1 σr Q r
  | .ok _ _, h => fun ζ' H' a b => h ζ' H' (e.trans a) b
  | .ex _ _ _, h => fun ζ' H' d a b c => h ζ' H' d (e.trans a) b c
  | .stuck, h => h
theorem PostA.ev {Q : List V → Hp → Prop} (e : Ev K.tb ζ μ H ζ1 μ1 H1) : ∀ {r : R (List Val)}, PostA K ξ W N ζ μ H σr Q r → PostA K ξ W N ζ1 μ1 H1 σr Q r
  | .ok _ _, h => fun ζ' H' v a b c => h ζ' H' v (e.trans a) b c
  | .ex _ _ _, h => fun ζ' H' d a b c => h ζ' H' d (e.trans a) b c
  | .stuck, h => h
theorem PostF.ev {Q : VK} (e : Ev K.tb ζ μ H ζ1 μ1 H1) : ∀ {r : R (List PV)}, PostF K W N ζ μ H σr Q r → PostF K W N ζ1 μ1 H1 σr Q r
  | .ok _ _, h => fun ζ' H' a vs e' b c d f => h ζ' H' a vs (e.trans e') b (e.fr.dom a c) d f
  | .ex _ _ _, h => fun ζ' H' d a b c => h ζ' H' d (e.trans a) b c
  | .stuck, h => h
theorem PostS.ev {D : Ends} (e : Ev K.tb ζ μ H ζ1 μ1 H1) : ∀ {r : RS}, PostS K ξ W N ζ μ H D r → PostS K ξ W N ζ1 μ1 H1 D r
  | .nx _ _, h => fun ζ' H' v a b c => h ζ' H' v (e.trans a) b c
  | .bk _ _, h => fun ζ' H' v a b c => h ζ' H' v (e.trans a) b c
  | .ct _ _, h => fun ζ' H' v a b c => h ζ' H' v (e.trans a) b c
  | .rt _ _, h => fun ζ' H' v a b c => h ζ' H' v (e.trans a) b c
  | .ex _ _ _ _, h => fun ζ' H' d s a b c f => h ζ' H' d s (e.trans a) b c f
  | .stuck, h => h
end

def R.bind {α β : Type} : R α → (α → Store → R β) → R β
  | .ok a μ, k => k a μ
  | .ex c f μ, _ => .ex c f μ
  | .stuck, _ => .stuck
/-- what of a value is to be read -/
def view (μ : Store) : Val → Option PV
  | .t d => some d
  | .c k => match μ[k]? with
    | some (some (.lst ds)) => some (.lst ds)
    | some (some (.dic b ks vs)) => some (.dic b ks vs)
    | _ => none
  | _ => none
def vv (K : KT) (M : MS) (H : Hp) (v : V) : PV → Prop
  | .lst l => ∃ a vs, v = .ref a ∧ H a = some (.lst vs) ∧ rvs K M H vs l
  | .dic b ks l => ∃ a vs, v = .ref a ∧ DicR b H a ks vs ∧ rvs K M H vs l
  | .obj C ns l => ∃ a dx vs, v = .ref a ∧ H a = some (.ins (He.ga K C) dx (ns.zip vs)) ∧ vs.length = ns.length ∧ rvs K M H vs l
  | d => rv K M H v d
section
variable {K : KT} {ξ : Xi} {N : MS} {ζ : List Addr} {μ : Store} {M : MS} {H : Hp} {v : V}
theorem vv_of : ∀ {d : PV}, rv K M H v d → vv K M H v d
  | .lst l, h => let ⟨a, vs, h1, _, h3, h4⟩ := rv_lst.mp h; ⟨a, vs, h1, h3, h4⟩
  | .dic b ks l, h => let ⟨a, vs, h1, _, h3, h4⟩ := rv_dic.mp h; ⟨a, vs, h1, h3, h4⟩
  | .obj C ns l, h => let ⟨a, dx, vs, h1, _, _, h3, _, h5, h6⟩ := rv_obj.mp h; ⟨a, dx, vs, h1, h3, h5, h6⟩
  | .non, h => h
  | .bl _, h => h
  | .int _, h => h
  | .str _, h => h
  | .tup _, h => h
theorem RV.view {w : Val} {d : PV} (wd : Wd K N ζ μ H) (h : RV K ξ ζ (MM N ζ μ) H v w) (e : view μ w = some d) : vv K (MM N ζ μ) H v d := by
  cases w with
  | t d' => cases e; exact vv_of h
  | c k =>
    obtain ⟨a, ha, rfl⟩ := h
    simp only [PM.view] at e
    split at e
    · rename_i ds hk
      cases e
      obtain ⟨vs, h1, h2⟩ := wd.cell k _ a hk ha
      exact ⟨a, vs, rfl, h1, h2⟩
    · rename_i b ks ds hk
      cases e
      obtain ⟨vs, h1, h2⟩ := wd.cell k _ a hk ha
      exact ⟨a, vs, rfl, h1, h2⟩
    · cases e
  | x _ _ => cases e
  | s _ => cases e
  | g _ _ => cases e
  | self => cases e
  | lam _ _ => cases e
/-- the heap grows -/
def Grow (H H' : Hp) : Prop := ∀ a o, H a = some o → H' a = some o
theorem Grow.refl : Grow H H := fun _ _ h => h
theorem Grow.upd {p : Addr} {o : HO} (h : H p = none) : Grow H (upd H p o) := fun a u e => by rw [upd_ne (ne_of_none e h)]; exact e
theorem Grow.trans {H1 H2 : Hp} (a : Grow H H1) (b : Grow H1 H2) : Grow H H2 := fun x o h => b x o (a x o h)
theorem Grow.dom {H' : Hp} (g : Grow H H') {a : Addr} (h : H' a = none) : H a = none := by
  cases e : H a with
  | none => rfl
  | some o => rw [g a o e] at h; cases h
theorem Grow.ev {H' : Hp} (g : Grow H H') : Ev K.tb ζ μ H ζ μ H' := ⟨fun _ _ h => h, ⟨fun a o _ _ h => g a o h, fun a z o e => z o (g a o e)⟩, fun _ h => .inl h⟩
theorem Grow.rv {H' : Hp} {d : PV} (g : Grow H H') (h : rv K M H v d) : rv K M H' v d := rv_st (fun _ n _ => n) (fun a o _ _ e => g a o e) d v h
theorem Grow.rvs {H' : Hp} {vs : List V} {ds : List PV} (g : Grow H H') (h : rvs K M H vs ds) : rvs K M H' vs ds := rvs_st (fun _ n _ => n) (fun a o _ _ e => g a o e) ds vs h
end
def Fre (M : MS) (H : Hp) : Prop := ∀ p, H p = none → ¬ M p
/-- what a pure answer is to give -/
def Gives (K : KT) (M : MS) (H : Hp) (Q : VK) (d : PV) : Prop := ∀ H' v, Grow H H' → rv K M H' v d → Q v H'
def GivesF (K : KT) (M : MS) (H : Hp) (Q : VK) (ds : List PV) : Prop := ∀ H' a vs, Grow H H' → H a = none → H' a = some (.lst vs) → rvs K (WD.plus M a) H' vs ds → Q (.ref a) H'
section
variable {K : KT} {M : MS} {H : Hp} {Q : VK}
theorem Gives.int {i : Int} (g : Gives K M H Q (.int i)) : Q (.int i) H := g H _ Grow.refl (rv_int.mpr rfl)
theorem Gives.bl {i : Bool} (g : Gives K M H Q (.bl i)) : Q (.bl i) H := g H _ Grow.refl (rv_bl.mpr rfl)
theorem Gives.str {i : Str} (g : Gives K M H Q (.str i)) (h : PyData.strOk i = true) : Q (.str i) H := g H _ Grow.refl (rv_str.mpr ⟨rfl, h⟩)
theorem Gives.tup {vs : List V} {ds : List PV} {p : Addr} (g : Gives K M H Q (.tup ds)) (f : Fre M H) (r : rvs K M H vs ds) (hp : H p = none) : Q (.ref p) (upd H p (.tup vs)) :=
  g _ _ (Grow.upd hp) (rv_tup.mpr ⟨p, vs, rfl, f p hp, upd_same, (Grow.upd hp).rvs r⟩)
theorem Gives.lst {vs : List V} {ds : List PV} {p : Addr} (g : Gives K M H Q (.lst ds)) (f : Fre M H) (r : rvs K M H vs ds) (hp : H p = none) : Q (.ref p) (upd H p (.lst vs)) :=
  g _ _ (Grow.upd hp) (rv_lst.mpr ⟨p, vs, rfl, f p hp, upd_same, (Grow.upd hp).rvs r⟩)
theorem GivesF.lst {vs : List V} {ds : List PV} {p : Addr} (g : GivesF K M H Q ds) (r : rvs K M H vs ds) (hp : H p = none) : Q (.ref p) (upd H p (.lst vs)) :=
  g _ p vs (Grow.upd hp) hp upd_same (Grow.rvs_ad (Grow.upd hp) hp r)
where Grow.rvs_ad {K : KT} {M : MS} {H H' : Hp} {p : Addr} {vs : List V} {ds : List PV} (g : Grow H H') (hp : H p = none) (r : rvs K M H vs ds) : rvs K (WD.plus M p) H' vs ds := rvs_st (fun a n ne z => z.elim n fun e => ne (nn_none (by rw [e]; exact hp))) (fun a o _ _ e => g a o e) ds vs r
end
/-- readings of pure operators -/
def rP1 (K : KT) (g : PV → Option PV) : V → Hp → VK → Prop := fun x H Q => ∃ M d1 d, vv K M H x d1 ∧ Fre M H ∧ g d1 = some d ∧ Gives K M H Q d
def rP2 (K : KT) (g : PV → PV → Option PV) : R2 := fun x y H Q => ∃ M d1 d2 d, vv K M H x d1 ∧ vv K M H y d2 ∧ Fre M H ∧ g d1 d2 = some d ∧ Gives K M H Q d
def rPF1 (K : KT) (g : PV → Option (List PV)) : V → Hp → VK → Prop := fun x H Q => ∃ M d1 d, vv K M H x d1 ∧ Fre M H ∧ g d1 = some d ∧ GivesF K M H Q d
def rPF2 (K : KT) (g : PV → PV → Option (List PV)) : R2 := fun x y H Q => ∃ M d1 d2 d, vv K M H x d1 ∧ vv K M H y d2 ∧ Fre M H ∧ g d1 d2 = some d ∧ GivesF K M H Q d
def vvs (K : KT) (M : MS) (H : Hp) : List V → List PV → Prop
  | [], [] => True
  | v :: vs, d :: ds => vv K M H v d ∧ vvs K M H vs ds
  | _, _ => False
def rPN (K : KT) (g : List PV → Option PV) : List V → Hp → VK → Prop := fun xs H Q => ∃ M ds d, vvs K M H xs ds ∧ Fre M H ∧ g ds = some d ∧ Gives K M H Q d
def rPFN (K : KT) (g : List PV → Option (List PV)) : List V → Hp → VK → Prop := fun xs H Q => ∃ M ds d, vvs K M H xs ds ∧ Fre M H ∧ g ds = some d ∧ GivesF K M H Q d
def OR.ok {α : Type} (μ : Store) : Option α → R α
  | some d => .ok d μ
  | none => .stuck
/-- .. in the machine -/
def views (μ : Store) : List Val → Option (List PV)
  | [] => some []
  | w :: ws => match view μ w, views μ ws with
    | some d, some ds => some (d :: ds)
    | _, _ => none
def p1 (g : PV → Option PV) (w : Val) (μ : Store) : R Val := match view μ w with
  | some d => OR.ok μ ((g d).map .t)
  | none => .stuck
def p2 (g : PV → PV → Option PV) (w u : Val) (μ : Store) : R Val := match view μ w, view μ u with
  | some d, some e => OR.ok μ ((g d e).map .t)
  | _, _ => .stuck
def pf1 (g : PV → Option (List PV)) (w : Val) (μ : Store) : R (List PV) := match view μ w with
  | some d => OR.ok μ (g d)
  | none => .stuck
def pf2 (g : PV → PV → Option (List PV)) (w u : Val) (μ : Store) : R (List PV) := match view μ w, view μ u with
  | some d, some e => OR.ok μ (g d e)
  | _, _ => .stuck
def pN (g : List PV → Option PV) (ws : List Val) (μ : Store) : R Val := match views μ ws with
  | some ds => OR.ok μ ((g ds).map .t)
  | none => .stuck
def pfN (g : List PV → Option (List PV)) (ws : List Val) (μ : Store) : R (List PV) := match views μ ws with
  | some ds => OR.ok μ (g ds)
  | none => .stuck
def e1 {α : Type} (g : Val → Store → R α) (a : ME) : Sl → Store → R α := fun σ μ => (a σ μ).bind g
def e2 {α : Type} (g : Val → Val → Store → R α) (a b : ME) : Sl → Store → R α := fun σ μ => (a σ μ).bind fun w μ1 => (b σ μ1).bind fun u μ2 => g w u μ2
def eN {α : Type} (g : List Val → Store → R α) (a : Sl → Store → R (List Val)) : Sl → Store → R α := fun σ μ => (a σ μ).bind g

section
variable {K : KT} {ξ : Xi} {W : WX} {N : MS} {ζ : List Addr} {μ : Store} {H : Hp} {σr : L2.St} {Q : VK} {x y : V} {w u : Val} {xs : List V} {ws : List Val}
theorem Wd.fre (h : Wd K N ζ μ H) : Fre (MM N ζ μ) H := fun _ e => h.no e
theorem postE_p {d : PV} (wd : Wd K N ζ μ H) (h : PostE K ξ W N ζ μ H σr Q (.ok (.t d) μ)) : Gives K (MM N ζ μ) H Q d := fun H' v g r => h ζ H' v g.ev (wd.fr0 g) r
theorem Wd.aside {H' : Hp} {a : Addr} (wd : Wd K N ζ μ H) (g : Grow H H') (n : H a = none) (e : Ob (H' a)) : Wd K (WD.plus N a) ζ μ H' := by
  refine ⟨wd.len, wd.inj, fun k c b h1 h2 => ?_, fun b h => ?_, wd.tb.ext g⟩
  · exact (wd.cell k c b h1 h2).st (fun _ _ h => h) (fun x nx ne z => z.elim (fun z => nx (.inl z)) fun z => z.elim (fun z => nx (.inr z)) fun z => ne (nn_none (by rw [z]; exact n))) (fun x o _ _ hx => g x o hx) (fun o _ => g b o)
  · rcases h with h | h
    · exact ⟨(wd.nd b h).1, let ⟨u, e, r⟩ := (wd.nd b h).2; ⟨u, g b u e, r⟩⟩
    · rw [show b = a from h]
      exact ⟨fun z => wd.no n (.inl z), e⟩
theorem MM_aside {a : Addr} : ∀ x, MM (WD.plus N a) ζ μ x → WD.plus (MM N ζ μ) a x := fun x h => h.elim (fun h => .inl (.inl h)) fun h => h.elim (fun h => .inl (.inr h)) fun h => .inr h
theorem postF_p {d : List PV} (wd : Wd K N ζ μ H) (h : PostF K W N ζ μ H σr Q (.ok d μ)) : GivesF K (MM N ζ μ) H Q d := fun H' a vs g n e r => h ζ H' a vs g.ev (wd.aside g n ⟨_, e, rfl, rfl⟩) (nn_none n) e (rvs_wk MM_aside r)
theorem read_p1 {g : PV → Option PV} (wd : Wd K N ζ μ H) (r : RV K ξ ζ (MM N ζ μ) H x w) (h : PostE K ξ W N ζ μ H σr Q (p1 g w μ)) : rP1 K g x H Q := by
  unfold p1 at h
  split at h
  · rename_i d e
    cases e2 : g d with
    | none => rw [e2] at h; exact h.elim
    | some d' => rw [e2] at h; exact ⟨_, d, d', r.view wd e, wd.fre, e2, postE_p wd h⟩
  · exact h.elim
theorem read_pf1 {g : PV → Option (List PV)} (wd : Wd K N ζ μ H) (r : RV K ξ ζ (MM N ζ μ) H x w) (h : PostF K W N ζ μ H σr Q (pf1 g w μ)) : rPF1 K g x H Q := by
  unfold pf1 at h
  split at h
  · rename_i d e
    cases e2 : g d with
    | none => rw [e2] at h; exact h.elim
    | some d' => rw [e2] at h; exact ⟨_, d, d', r.view wd e, wd.fre, e2, postF_p wd h⟩
  · exact h.elim
theorem read_p2 {g : PV → PV → Option PV} (wd : Wd K N ζ μ H) (r : RV K ξ ζ (MM N ζ μ) H x w) (r' : RV K ξ ζ (MM N ζ μ) H y u) (h : PostE K ξ W N ζ μ H σr Q (p2 g w u μ)) : rP2 K g x y H Q := by
  unfold p2 at h
  split at h
  · rename_i d d2 e e'
    cases e2 : g d d2 with
    | none => rw [e2] at h; exact h.elim
    | some d' => rw [e2] at h; exact ⟨_, d, d2, d', r.view wd e, r'.view wd e', wd.fre, e2, postE_p wd h⟩
  · exact h.elim
theorem read_pf2 {g : PV → PV → Option (List PV)} (wd : Wd K N ζ μ H) (r : RV K ξ ζ (MM N ζ μ) H x w) (r' : RV K ξ ζ (MM N ζ μ) H y u) (h : PostF K W N ζ μ H σr Q (pf2 g w u μ)) : rPF2 K g x y H Q := by
  unfold pf2 at h
  split at h
  · rename_i d d2 e e'
    cases e2 : g d d2 with
    | none => rw [e2] at h; exact h.elim
    | some d' => rw [e2] at h; exact ⟨_, d, d2, d', r.view wd e, r'.view wd e', wd.fre, e2, postF_p wd h⟩
  · exact h.elim
theorem RVs.views (wd : Wd K N ζ μ H) : ∀ {xs : List V} {ws : List Val} {ds : List PV}, RVs K ξ ζ (MM N ζ μ) H xs ws → views μ ws = some ds → vvs K (MM N ζ μ) H xs ds
  | [], [], ds, _, e => by cases e; exact trivial
  | x :: xs, w :: ws, ds, h, e => by
    unfold PM.views at e
    split at e
    · rename_i d ds' e1 e2
      cases e
      exact ⟨h.1.view wd e1, RVs.views wd h.2 e2⟩
    · cases e
  | [], _ :: _, _, h, _ => h.elim
  | _ :: _, [], _, h, _ => h.elim
theorem read_pN {g : List PV → Option PV} (wd : Wd K N ζ μ H) (r : RVs K ξ ζ (MM N ζ μ) H xs ws) (h : PostE K ξ W N ζ μ H σr Q (pN g ws μ)) : rPN K g xs H Q := by
  unfold pN at h
  split at h
  · rename_i d e
    cases e2 : g d with
    | none => rw [e2] at h; exact h.elim
    | some d' => rw [e2] at h; exact ⟨_, d, d', r.views wd e, wd.fre, e2, postE_p wd h⟩
  · exact h.elim
theorem read_pfN {g : List PV → Option (List PV)} (wd : Wd K N ζ μ H) (r : RVs K ξ ζ (MM N ζ μ) H xs ws) (h : PostF K W N ζ μ H σr Q (pfN g ws μ)) : rPFN K g xs H Q := by
  unfold pfN at h
  split at h
  · rename_i d e
    cases e2 : g d with
    | none => rw [e2] at h; exact h.elim
    | some d' => rw [e2] at h; exact ⟨_, d, d', r.views wd e, wd.fre, e2, postF_p wd h⟩
  · exact h.elim
/-- a reading in a row, then a step -/
theorem seq1 {a : ME} {σ : Sl} {Z : Hp → V → Prop} {P : Store → R Val → Prop} (wd : Wd K N ζ μ H) (so : Sok K ξ ζ (MM N ζ μ) H σr σ)
    (hok : ∀ w1 μ1 ζ1 H1 v, a σ μ = .ok w1 μ1 → Ev K.tb ζ μ H ζ1 μ1 H1 → Wd K N ζ1 μ1 H1 → RV K ξ ζ1 (MM N ζ1 μ1) H1 v w1 → Q v H1)
    (hex : ∀ c f μ1 ζ1 H1 d, a σ μ = .ex c f μ1 → Ev K.tb ζ μ H ζ1 μ1 H1 → Wd K N ζ1 μ1 H1 → XR K (MM N ζ1 μ1) H1 d f → W (.ref (He.ga K c)) d σr H1) (hst : a σ μ ≠ .stuck) : tE K ξ W a σr H Q := by
  refine ⟨N, ζ, μ, σ, wd, so, ?_⟩
  cases e : a σ μ with
  | ok w1 μ1 => exact fun ζ' H' v ev w r => hok w1 μ1 ζ' H' v e ev w r
  | ex c f μ1 => exact fun ζ' H' d ev w r => hex c f μ1 ζ' H' d e ev w r
  | stuck => exact hst e
end
theorem RV.blI {K : KT} {ξ : Xi} {ζ : List Addr} {M : MS} {H : Hp} {b : Bool} : RV K ξ ζ M H (.bl b) (.t (.bl b)) := (rv_bl (K := K) (M := M) (H := H)).mpr rfl
section
variable {K : KT} {ξ : Xi} {W : WX} {N : MS} {ζ : List Addr} {μ : Store} {H : Hp} {σr : L2.St} {σ : Sl} {Q : VK}
/-- a, then a step g whose answer is an R Val -/
theorem then1 {a : ME} {g : Val → Store → R Val} (wd : Wd K N ζ μ H) (so : Sok K ξ ζ (MM N ζ μ) H σr σ) (h : PostE K ξ W N ζ μ H σr Q ((a σ μ).bind g)) :
    tE K ξ W a σr H fun x H1 => ∃ ζ1 μ1 w1, Ev K.tb ζ μ H ζ1 μ1 H1 ∧ Wd K N ζ1 μ1 H1 ∧ Sok K ξ ζ1 (MM N ζ1 μ1) H1 σr σ ∧ RV K ξ ζ1 (MM N ζ1 μ1) H1 x w1 ∧ PostE K ξ W N ζ1 μ1 H1 σr Q (g w1 μ1) := by
  refine ⟨N, ζ, μ, σ, wd, so, ?_⟩
  cases e : a σ μ with
  | ok w1 μ1 => rw [e] at h; exact fun ζ' H' v ev w r => ⟨ζ', μ1, w1, ev, w, so.ev ev, r, h.ev ev⟩
  | ex c f μ1 => rw [e] at h; exact h
  | stuck => rw [e] at h; exact h
theorem then1F {a : ME} {g : Val → Store → R (List PV)} (wd : Wd K N ζ μ H) (so : Sok K ξ ζ (MM N ζ μ) H σr σ) (h : PostF K W N ζ μ H σr Q ((a σ μ).bind g)) :
    tE K ξ W a σr H fun x H1 => ∃ ζ1 μ1 w1, Ev K.tb ζ μ H ζ1 μ1 H1 ∧ Wd K N ζ1 μ1 H1 ∧ Sok K ξ ζ1 (MM N ζ1 μ1) H1 σr σ ∧ RV K ξ ζ1 (MM N ζ1 μ1) H1 x w1 ∧ PostF K W N ζ1 μ1 H1 σr Q (g w1 μ1) := by
  refine ⟨N, ζ, μ, σ, wd, so, ?_⟩
  cases e : a σ μ with
  | ok w1 μ1 => rw [e] at h; exact fun ζ' H' v ev w r => ⟨ζ', μ1, w1, ev, w, so.ev ev, r, h.ev ev⟩
  | ex c f μ1 => rw [e] at h; exact h
  | stuck => rw [e] at h; exact h
theorem then1T {α : Type} {a : ME} {P : α → Hp → Prop} {g : Val → Store → R α} (wd : Wd K N ζ μ H) (so : Sok K ξ ζ (MM N ζ μ) H σr σ) (h : PostT K W N ζ μ H σr P ((a σ μ).bind g)) :
    tE K ξ W a σr H fun x H1 => ∃ ζ1 μ1 w1, Ev K.tb ζ μ H ζ1 μ1 H1 ∧ Wd K N ζ1 μ1 H1 ∧ Sok K ξ ζ1 (MM N ζ1 μ1) H1 σr σ ∧ RV K ξ ζ1 (MM N ζ1 μ1) H1 x w1 ∧ PostT K W N ζ1 μ1 H1 σr P (g w1 μ1) := by
  refine ⟨N, ζ, μ, σ, wd, so, ?_⟩
  cases e : a σ μ with
  | ok w1 μ1 => rw [e] at h; exact fun ζ' H' v ev w r => ⟨ζ', μ1, w1, ev, w, so.ev ev, r, h.ev ev⟩
  | ex c f μ1 => rw [e] at h; exact h
  | stuck => rw [e] at h; exact h
theorem thenN {a : Sl → Store → R (List Val)} {g : List Val → Store → R Val} (wd : Wd K N ζ μ H) (so : Sok K ξ ζ (MM N ζ μ) H σr σ) (h : PostE K ξ W N ζ μ H σr Q ((a σ μ).bind g)) :
    tA K ξ W a σr H fun xs H1 => ∃ ζ1 μ1 ws, Ev K.tb ζ μ H ζ1 μ1 H1 ∧ Wd K N ζ1 μ1 H1 ∧ Sok K ξ ζ1 (MM N ζ1 μ1) H1 σr σ ∧ RVs K ξ ζ1 (MM N ζ1 μ1) H1 xs ws ∧ PostE K ξ W N ζ1 μ1 H1 σr Q (g ws μ1) := by
  refine ⟨N, ζ, μ, σ, wd, so, ?_⟩
  cases e : a σ μ with
  | ok w1 μ1 => rw [e] at h; exact fun ζ' H' v ev w r => ⟨ζ', μ1, w1, ev, w, so.ev ev, r, h.ev ev⟩
  | ex c f μ1 => rw [e] at h; exact h
  | stuck => rw [e] at h; exact h
theorem thenNF {a : Sl → Store → R (List Val)} {g : List Val → Store → R (List PV)} (wd : Wd K N ζ μ H) (so : Sok K ξ ζ (MM N ζ μ) H σr σ) (h : PostF K W N ζ μ H σr Q ((a σ μ).bind g)) :
    tA K ξ W a σr H fun xs H1 => ∃ ζ1 μ1 ws, Ev K.tb ζ μ H ζ1 μ1 H1 ∧ Wd K N ζ1 μ1 H1 ∧ Sok K ξ ζ1 (MM N ζ1 μ1) H1 σr σ ∧ RVs K ξ ζ1 (MM N ζ1 μ1) H1 xs ws ∧ PostF K W N ζ1 μ1 H1 σr Q (g ws μ1) := by
  refine ⟨N, ζ, μ, σ, wd, so, ?_⟩
  cases e : a σ μ with
  | ok w1 μ1 => rw [e] at h; exact fun ζ' H' v ev w r => ⟨ζ', μ1, w1, ev, w, so.ev ev, r, h.ev ev⟩
  | ex c f μ1 => rw [e] at h; exact h
  | stuck => rw [e] at h; exact h
/-- a reading is monotone -/
theorem tE.mono {a : ME} {Q' : VK} (h : tE K ξ W a σr H Q) (k : ∀ v H', Q v H' → Q' v H') : tE K ξ W a σr H Q' := by
  obtain ⟨N, ζ, μ, σ, wd, so, h⟩ := h
  refine ⟨N, ζ, μ, σ, wd, so, ?_⟩
  cases e : a σ μ with
  | ok w1 μ1 => rw [e] at h; exact fun ζ' H' v ev w r => k _ _ (h ζ' H' v ev w r)
  | ex c f μ1 => rw [e] at h; exact h
  | stuck => rw [e] at h; exact h
theorem tA.mono {a : Sl → Store → R (List Val)} {Q Q' : List V → Hp → Prop} (h : tA K ξ W a σr H Q) (k : ∀ v H', Q v H' → Q' v H') : tA K ξ W a σr H Q' := by
  obtain ⟨N, ζ, μ, σ, wd, so, h⟩ := h
  refine ⟨N, ζ, μ, σ, wd, so, ?_⟩
  cases e : a σ μ with
  | ok w1 μ1 => rw [e] at h; exact fun ζ' H' v ev w r => k _ _ (h ζ' H' v ev w r)
  | ex c f μ1 => rw [e] at h; exact h
  | stuck => rw [e] at h; exact h
end

/-! ### expressions -/
def eV (i : Nat) : ME := fun σ μ => match σ[i]? with
  | some (some w) => .ok w μ
  | _ => .stuck
def eC (d : PV) : ME := fun _ μ => .ok (.t d) μ
def asBl : Val → Option Bool
  | .t (.bl b) => some b
  | _ => none
def gBl {α : Type} (k : Bool → Store → R α) (w : Val) (μ : Store) : R α := match asBl w with
  | some b => k b μ
  | none => .stuck
def eAnd (a b : ME) : ME := fun σ μ => (a σ μ).bind (gBl fun c μ1 => if c then b σ μ1 else .ok (.t (.bl false)) μ1)
def eOr (a b : ME) : ME := fun σ μ => (a σ μ).bind (gBl fun c μ1 => if c then .ok (.t (.bl true)) μ1 else b σ μ1)
def eNot (a : ME) : ME := e1 (gBl fun c μ1 => .ok (.t (.bl (!c))) μ1) a
def eIf (c : Sl → Store → R Bool) (a b : ME) : ME := fun σ μ => (c σ μ).bind fun k μ1 => if k then a σ μ1 else b σ μ1
def tVal (a : ME) : Sl → Store → R Bool := e1 (gBl fun c μ1 => .ok c μ1) a
def tAnd' (a b : Sl → Store → R Bool) : Sl → Store → R Bool := fun σ μ => (a σ μ).bind fun k μ1 => if k then b σ μ1 else .ok false μ1
def tOr' (a b : Sl → Store → R Bool) : Sl → Store → R Bool := fun σ μ => (a σ μ).bind fun k μ1 => if k then .ok true μ1 else b σ μ1
def tNot' (a : Sl → Store → R Bool) : Sl → Store → R Bool := fun σ μ => (a σ μ).bind fun k μ1 => .ok (!k) μ1
def aNil : Sl → Store → R (List Val) := fun _ μ => .ok [] μ
def aCons (a : ME) (b : Sl → Store → R (List Val)) : Sl → Store → R (List Val) := fun σ μ => (a σ μ).bind fun w μ1 => (b σ μ1).bind fun ws μ2 => .ok (w :: ws) μ2
def asT : List Val → Option (List PV)
  | [] => some []
  | .t d :: ws => (asT ws).map (d :: ·)
  | _ :: _ => none
def gTup (ws : List Val) (μ : Store) : R Val := if ws.length ≤ sizeLine then OR.ok μ ((asT ws).map fun ds => .t (.tup ds)) else .stuck
def gLst (ws : List Val) (μ : Store) : R (List PV) := if ws.length ≤ sizeLine then OR.ok μ (asT ws) else .stuck
/-- a new list as a datum; as a thing that changes -/
def eOfF (f : Sl → Store → R (List PV)) : ME := fun σ μ => (f σ μ).bind fun ds μ1 => .ok (.t (.lst ds)) μ1
def eCellF (f : Sl → Store → R (List PV)) : ME := fun σ μ => (f σ μ).bind fun ds μ1 => .ok (.c μ1.length) (μ1 ++ [some (.lst ds)])

section
variable {X : Cx} {K : KT} {ξ : Xi} {W : WX} {a b c e : Expr} {es : List Expr} {fa fb fc : ME} {ta tb tc : Sl → Store → R Bool} {fs : Sl → Store → R (List Val)} {pos : Pos}
theorem i_pv {i : Nat} {x : Str} (h : PE X (.Name x pos) (tVar i)) : IE K ξ W X (.Name x pos) (eV i) := PE.of h fun σr H Q q => by
  obtain ⟨N, ζ, μ, σ, wd, so, q⟩ := q
  unfold eV at q
  split at q
  · rename_i w hw
    obtain ⟨v, h1, h2⟩ := so.2 i w hw
    exact ⟨v, h1, q ζ H v Ev.refl wd h2⟩
  · exact q.elim
theorem i_c {v : V} {d : PV} (h : PE X e (tC v)) (r : ∀ M H, rv K M H v d) : IE K ξ W X e (eC d) := PE.of h fun σr H Q q => by
  obtain ⟨N, ζ, μ, σ, wd, so, q⟩ := q
  exact q ζ H v Ev.refl wd (r _ _)
theorem i_int {i : Int} {j pos} : IE K ξ W X (.Constant (.int i) j pos) (eC (.int i)) := i_c pe_int fun _ _ => rv_int.mpr rfl
theorem i_bl {i : Bool} {j pos} : IE K ξ W X (.Constant (.bool i) j pos) (eC (.bl i)) := i_c pe_bl fun _ _ => rv_bl.mpr rfl
theorem i_non {j pos} : IE K ξ W X (.Constant .none j pos) (eC .non) := i_c pe_non fun _ _ => rv_non.mpr rfl
theorem i_str {x : Str} {j pos} (h : PyData.strOk x = true := by decide +kernel) : IE K ξ W X (.Constant (.str x) j pos) (eC (.str x)) := i_c pe_str fun _ _ => rv_str.mpr ⟨rfl, h⟩
theorem i_gi {x : Str} {i : Int} (hg : Gl X x) (h : ∃ t, X.mg x = some (.int i t)) (hd : (x == ("__debug__" : Str)) = false := by decide) : IE K ξ W X (.Name x pos) (eC (.int i)) := i_c (WD.pe_gi hg h hd) fun _ _ => rv_int.mpr rfl
theorem i_gs {x z : Str} (hg : Gl X x) (h : ∃ t, X.mg x = some (.str z t)) (hz : PyData.strOk z = true := by decide +kernel) (hd : (x == ("__debug__" : Str)) = false := by decide) : IE K ξ W X (.Name x pos) (eC (.str z)) := i_c (WD.pe_gs hg h hd) fun _ _ => rv_str.mpr ⟨rfl, hz⟩

theorem i_op {op : Operator} {g : PV → PV → Option PV} (r : OpR X (binaryOp op) (rP2 K g)) (ha : IE K ξ W X a fa) (hb : IE K ξ W X b fb) : IE K ξ W X (.BinOp a op b pos) (e2 (p2 g) fa fb) := PE.of (pe_op r ha hb) fun σr H Q q => by
  obtain ⟨N, ζ, μ, σ, wd, so, q⟩ := q
  refine (then1 wd so q).mono fun x H1 ⟨ζ1, μ1, w1, ev1, wd1, so1, r1, q1⟩ => ?_
  refine (then1 wd1 so1 q1).mono fun y H2 ⟨ζ2, μ2, w2, ev2, wd2, so2, r2, q2⟩ => ?_
  exact read_p2 wd2 (r1.ev ev2) r2 q2
theorem f_op {op : Operator} {g : PV → PV → Option (List PV)} (r : OpR X (binaryOp op) (rPF2 K g)) (ha : IE K ξ W X a fa) (hb : IE K ξ W X b fb) : IF K ξ W X (.BinOp a op b pos) (e2 (pf2 g) fa fb) := PE.of (pe_op r ha hb) fun σr H Q q => by
  obtain ⟨N, ζ, μ, σ, wd, so, q⟩ := q
  refine (then1F wd so q).mono fun x H1 ⟨ζ1, μ1, w1, ev1, wd1, so1, r1, q1⟩ => ?_
  refine (then1F wd1 so1 q1).mono fun y H2 ⟨ζ2, μ2, w2, ev2, wd2, so2, r2, q2⟩ => ?_
  exact read_pf2 wd2 (r1.ev ev2) r2 q2
theorem i_cmp {op : CmpOp} {g : PV → PV → Option PV} (r : OpR X (compareOp op) (rP2 K g)) (ha : IE K ξ W X a fa) (hb : IE K ξ W X b fb) (hm : behindInMarks op b = false) : IE K ξ W X (.Compare a [op] [b] pos) (e2 (p2 g) fa fb) := PE.of (pe_cmpR r ha hb hm) fun σr H Q q => by
  obtain ⟨N, ζ, μ, σ, wd, so, q⟩ := q
  refine (then1 wd so q).mono fun x H1 ⟨ζ1, μ1, w1, ev1, wd1, so1, r1, q1⟩ => ?_
  refine (then1 wd1 so1 q1).mono fun y H2 ⟨ζ2, μ2, w2, ev2, wd2, so2, r2, q2⟩ => ?_
  exact read_p2 wd2 (r1.ev ev2) r2 q2
/-- a value that is True or False, at once -/
theorem PostT.bl {N : MS} {ζ : List Addr} {μ : Store} {H : Hp} {σr : L2.St} {v : V} {w : Val} {P : Bool → Hp → Prop} {k : Bool → Store → R Bool} (wd : Wd K N ζ μ H) (r : RV K ξ ζ (MM N ζ μ) H v w) (h : PostT K W N ζ μ H σr P (gBl k w μ)) : ∃ c, v = .bl c ∧ PostT K W N ζ μ H σr P (k c μ) := by
  unfold gBl at h
  split at h
  · rename_i c e
    unfold asBl at e
    split at e
    · cases e; exact ⟨c, rv_bl.mp (show rv K (MM N ζ μ) H v (.bl c) from r), h⟩
    · cases e
  · exact h.elim
theorem PostE.bl {N : MS} {ζ : List Addr} {μ : Store} {H : Hp} {σr : L2.St} {v : V} {w : Val} {Q : VK} {k : Bool → Store → R Val} (wd : Wd K N ζ μ H) (r : RV K ξ ζ (MM N ζ μ) H v w) (h : PostE K ξ W N ζ μ H σr Q (gBl k w μ)) : ∃ c, v = .bl c ∧ PostE K ξ W N ζ μ H σr Q (k c μ) := by
  unfold gBl at h
  split at h
  · rename_i c e
    unfold asBl at e
    split at e
    · cases e; exact ⟨c, rv_bl.mp (show rv K (MM N ζ μ) H v (.bl c) from r), h⟩
    · cases e
  · exact h.elim
theorem t_cmp {op : CmpOp} {g : PV → PV → Option PV} (r : OpR X (compareOp op) (rP2 K g)) (ha : IE K ξ W X a fa) (hb : IE K ξ W X b fb) (hm : behindInMarks op b = false) : IT K ξ W X (.Compare a [op] [b] pos) (tVal (e2 (p2 g) fa fb)) := PT.of (pt_cmpR r ha hb hm) fun σr H Q q => by
  obtain ⟨N, ζ, μ, σ, wd, so, q⟩ := q
  have q' := then1T (a := e2 (p2 g) fa fb) wd so q
  obtain ⟨N, ζ', μ', σ', wd', so', q'⟩ := q'
  refine (then1 wd' so' q').mono fun x H1 ⟨ζ1, μ1, w1, ev1, wd1, so1, r1, q1⟩ => ?_
  refine (then1 wd1 so1 q1).mono fun y H2 ⟨ζ2, μ2, w2, ev2, wd2, so2, r2, q2⟩ => ?_
  obtain ⟨M, d1, d2, d, h1, h2, h3, h4, h5⟩ := read_p2 wd2 (r1.ev ev2) r2 q2
  refine ⟨M, d1, d2, d, h1, h2, h3, h4, fun H' v gr rr => ?_⟩
  obtain ⟨ζ3, μ3, w3, ev3, wd3, so3, r3, q3⟩ := h5 H' v gr rr
  obtain ⟨c, hc, q3⟩ := PostT.bl wd3 r3 q3
  exact ⟨c, hc, q3 ζ3 H' Ev.refl wd3⟩
theorem i_and {rest : List Expr} (ha : IE K ξ W X a fa) (hb : IE K ξ W X (.BoolOp .And (b :: rest) pos) fb) : IE K ξ W X (.BoolOp .And (a :: b :: rest) pos) (eAnd fa fb) := PE.of (pe_and ha hb) fun σr H Q q => by
  obtain ⟨N, ζ, μ, σ, wd, so, q⟩ := q
  refine (then1 wd so q).mono fun x H1 ⟨ζ1, μ1, w1, ev1, wd1, so1, r1, q1⟩ => ?_
  obtain ⟨c, hc, q2⟩ := PostE.bl wd1 r1 q1
  refine ⟨c, hc, ?_⟩
  cases c with
  | true => exact iteT ⟨N, ζ1, μ1, σ, wd1, so1, q2⟩
  | false => exact iteF (q2 ζ1 H1 _ Ev.refl wd1 RV.blI)
theorem i_or {rest : List Expr} (ha : IE K ξ W X a fa) (hb : IE K ξ W X (.BoolOp .Or (b :: rest) pos) fb) : IE K ξ W X (.BoolOp .Or (a :: b :: rest) pos) (eOr fa fb) := PE.of (pe_or ha hb) fun σr H Q q => by
  obtain ⟨N, ζ, μ, σ, wd, so, q⟩ := q
  refine (then1 wd so q).mono fun x H1 ⟨ζ1, μ1, w1, ev1, wd1, so1, r1, q1⟩ => ?_
  obtain ⟨c, hc, q2⟩ := PostE.bl wd1 r1 q1
  refine ⟨c, hc, ?_⟩
  cases c with
  | true => exact iteT (q2 ζ1 H1 _ Ev.refl wd1 RV.blI)
  | false => exact iteF ⟨N, ζ1, μ1, σ, wd1, so1, q2⟩
theorem i_not (ha : IE K ξ W X a fa) : IE K ξ W X (.UnaryOp .Not a pos) (eNot fa) := PE.of (pe_not ha) fun σr H Q q => by
  obtain ⟨N, ζ, μ, σ, wd, so, q⟩ := q
  refine (then1 wd so q).mono fun x H1 ⟨ζ1, μ1, w1, ev1, wd1, so1, r1, q1⟩ => ?_
  obtain ⟨c, hc, q2⟩ := PostE.bl wd1 r1 q1
  exact ⟨c, hc, q2 ζ1 H1 _ Ev.refl wd1 RV.blI⟩
theorem thenT {N : MS} {ζ : List Addr} {μ : Store} {H : Hp} {σr : L2.St} {σ : Sl} {Q : VK} {t : Sl → Store → R Bool} {g : Bool → Store → R Val} (wd : Wd K N ζ μ H) (so : Sok K ξ ζ (MM N ζ μ) H σr σ) (h : PostE K ξ W N ζ μ H σr Q ((t σ μ).bind g)) :
    tT K ξ W t σr H fun b H1 => ∃ ζ1 μ1, Ev K.tb ζ μ H ζ1 μ1 H1 ∧ Wd K N ζ1 μ1 H1 ∧ Sok K ξ ζ1 (MM N ζ1 μ1) H1 σr σ ∧ PostE K ξ W N ζ1 μ1 H1 σr Q (g b μ1) := by
  refine ⟨N, ζ, μ, σ, wd, so, ?_⟩
  cases e : t σ μ with
  | ok w1 μ1 => rw [e] at h; exact fun ζ' H' ev w => ⟨ζ', μ1, ev, w, so.ev ev, h.ev ev⟩
  | ex c f μ1 => rw [e] at h; exact h
  | stuck => rw [e] at h; exact h
theorem thenTT {N : MS} {ζ : List Addr} {μ : Store} {H : Hp} {σr : L2.St} {σ : Sl} {Q : Bool → Hp → Prop} {t : Sl → Store → R Bool} {g : Bool → Store → R Bool} (wd : Wd K N ζ μ H) (so : Sok K ξ ζ (MM N ζ μ) H σr σ) (h : PostT K W N ζ μ H σr Q ((t σ μ).bind g)) :
    tT K ξ W t σr H fun b H1 => ∃ ζ1 μ1, Ev K.tb ζ μ H ζ1 μ1 H1 ∧ Wd K N ζ1 μ1 H1 ∧ Sok K ξ ζ1 (MM N ζ1 μ1) H1 σr σ ∧ PostT K W N ζ1 μ1 H1 σr Q (g b μ1) := by
  refine ⟨N, ζ, μ, σ, wd, so, ?_⟩
  cases e : t σ μ with
  | ok w1 μ1 => rw [e] at h; exact fun ζ' H' ev w => ⟨ζ', μ1, ev, w, so.ev ev, h.ev ev⟩
  | ex c f μ1 => rw [e] at h; exact h
  | stuck => rw [e] at h; exact h
theorem tT.mono {σr : L2.St} {H : Hp} {t : Sl → Store → R Bool} {Q Q' : Bool → Hp → Prop} (h : tT K ξ W t σr H Q) (k : ∀ v H', Q v H' → Q' v H') : tT K ξ W t σr H Q' := by
  obtain ⟨N, ζ, μ, σ, wd, so, h⟩ := h
  refine ⟨N, ζ, μ, σ, wd, so, ?_⟩
  cases e : t σ μ with
  | ok w1 μ1 => rw [e] at h; exact fun ζ' H' ev w => k _ _ (h ζ' H' ev w)
  | ex c f μ1 => rw [e] at h; exact h
  | stuck => rw [e] at h; exact h
theorem i_if (hc : IT K ξ W X c tc) (ha : IE K ξ W X a fa) (hb : IE K ξ W X b fb) : IE K ξ W X (.IfExp c a b pos) (eIf tc fa fb) := PE.of (pe_ifExp hc ha hb) fun σr H Q q => by
  obtain ⟨N, ζ, μ, σ, wd, so, q⟩ := q
  refine (thenT wd so q).mono fun k H1 ⟨ζ1, μ1, ev1, wd1, so1, q1⟩ => ?_
  cases k with
  | true => exact iteT ⟨N, ζ1, μ1, σ, wd1, so1, q1⟩
  | false => exact iteF ⟨N, ζ1, μ1, σ, wd1, so1, q1⟩
theorem t_val (ha : IE K ξ W X a fa) (hv : ∀ (whole : Sem Value), PySem.isTrue a X.env whole = (do
            let v ← whole
            standAt (Expr.pos a)
            holding [v] (truthy v)) := by intro _; rfl) : IT K ξ W X a (tVal fa) := PT.of (pt_val ha hv) fun σr H Q q => by
  obtain ⟨N, ζ, μ, σ, wd, so, q⟩ := q
  refine (then1T wd so q).mono fun x H1 ⟨ζ1, μ1, w1, ev1, wd1, so1, r1, q1⟩ => ?_
  obtain ⟨c, hc, q2⟩ := PostT.bl wd1 r1 q1
  exact ⟨c, hc, q2 ζ1 H1 Ev.refl wd1⟩
theorem t_not (ha : IT K ξ W X a ta) : IT K ξ W X (.UnaryOp .Not a pos) (tNot' ta) := PT.of (pt_not ha) fun σr H Q q => by
  obtain ⟨N, ζ, μ, σ, wd, so, q⟩ := q
  refine (thenTT wd so q).mono fun k H1 ⟨ζ1, μ1, ev1, wd1, so1, q1⟩ => q1 ζ1 H1 Ev.refl wd1
abbrev IW (K : KT) (ξ : Xi) (W : WX) (X : Cx) (e : Expr) (f : Sl → Store → R Bool) : Prop := PW X e (tT K ξ W f)
theorem w_and {rest : List Expr} (ha : IT K ξ W X a ta) (hb : IW K ξ W X (.BoolOp .And (b :: rest) pos) tb) : IW K ξ W X (.BoolOp .And (a :: b :: rest) pos) (tAnd' ta tb) := PW.of (pw_and ha hb) fun σr H Q q => by
  obtain ⟨N, ζ, μ, σ, wd, so, q⟩ := q
  refine (thenTT wd so q).mono fun k H1 ⟨ζ1, μ1, ev1, wd1, so1, q1⟩ => ?_
  cases k with
  | true => exact iteT ⟨N, ζ1, μ1, σ, wd1, so1, q1⟩
  | false => exact iteF (q1 ζ1 H1 Ev.refl wd1)
theorem w_or {rest : List Expr} (ha : IT K ξ W X a ta) (hb : IW K ξ W X (.BoolOp .Or (b :: rest) pos) tb) : IW K ξ W X (.BoolOp .Or (a :: b :: rest) pos) (tOr' ta tb) := PW.of (pw_or ha hb) fun σr H Q q => by
  obtain ⟨N, ζ, μ, σ, wd, so, q⟩ := q
  refine (thenTT wd so q).mono fun k H1 ⟨ζ1, μ1, ev1, wd1, so1, q1⟩ => ?_
  cases k with
  | true => exact iteT (q1 ζ1 H1 Ev.refl wd1)
  | false => exact iteF ⟨N, ζ1, μ1, σ, wd1, so1, q1⟩
theorem a_nil : IA K ξ W X [] aNil := PA.of pa_nil fun σr H Q q => by
  obtain ⟨N, ζ, μ, σ, wd, so, q⟩ := q
  exact q ζ H [] Ev.refl wd trivial
theorem thenNA {N : MS} {ζ : List Addr} {μ : Store} {H : Hp} {σr : L2.St} {σ : Sl} {Q : List V → Hp → Prop} {a : Sl → Store → R (List Val)} {g : List Val → Store → R (List Val)} (wd : Wd K N ζ μ H) (so : Sok K ξ ζ (MM N ζ μ) H σr σ) (h : PostA K ξ W N ζ μ H σr Q ((a σ μ).bind g)) :
    tA K ξ W a σr H fun xs H1 => ∃ ζ1 μ1 ws, Ev K.tb ζ μ H ζ1 μ1 H1 ∧ Wd K N ζ1 μ1 H1 ∧ RVs K ξ ζ1 (MM N ζ1 μ1) H1 xs ws ∧ PostA K ξ W N ζ1 μ1 H1 σr Q (g ws μ1) := by
  refine ⟨N, ζ, μ, σ, wd, so, ?_⟩
  cases e : a σ μ with
  | ok w1 μ1 => rw [e] at h; exact fun ζ' H' v ev w r => ⟨ζ', μ1, w1, ev, w, r, h.ev ev⟩
  | ex c f μ1 => rw [e] at h; exact h
  | stuck => rw [e] at h; exact h
theorem then1A {N : MS} {ζ : List Addr} {μ : Store} {H : Hp} {σr : L2.St} {σ : Sl} {Q : List V → Hp → Prop} {a : ME} {g : Val → Store → R (List Val)} (wd : Wd K N ζ μ H) (so : Sok K ξ ζ (MM N ζ μ) H σr σ) (h : PostA K ξ W N ζ μ H σr Q ((a σ μ).bind g)) :
    tE K ξ W a σr H fun x H1 => ∃ ζ1 μ1 w1, Ev K.tb ζ μ H ζ1 μ1 H1 ∧ Wd K N ζ1 μ1 H1 ∧ Sok K ξ ζ1 (MM N ζ1 μ1) H1 σr σ ∧ RV K ξ ζ1 (MM N ζ1 μ1) H1 x w1 ∧ PostA K ξ W N ζ1 μ1 H1 σr Q (g w1 μ1) := by
  refine ⟨N, ζ, μ, σ, wd, so, ?_⟩
  cases e : a σ μ with
  | ok w1 μ1 => rw [e] at h; exact fun ζ' H' v ev w r => ⟨ζ', μ1, w1, ev, w, so.ev ev, r, h.ev ev⟩
  | ex c f μ1 => rw [e] at h; exact h
  | stuck => rw [e] at h; exact h
theorem a_cons (ha : IE K ξ W X a fa) (hs : IA K ξ W X es fs) (h : starEach (a :: es) X.env = (false, eval a X.env) :: starEach es X.env := by rfl) : IA K ξ W X (a :: es) (aCons fa fs) := PA.of (pa_cons ha hs h) fun σr H Q q => by
  obtain ⟨N, ζ, μ, σ, wd, so, q⟩ := q
  refine (then1A wd so q).mono fun x H1 ⟨ζ1, μ1, w1, ev1, wd1, so1, r1, q1⟩ => ?_
  refine (thenNA wd1 so1 q1).mono fun xs H2 ⟨ζ2, μ2, ws, ev2, wd2, r2, q2⟩ => ?_
  exact q2 ζ2 H2 (x :: xs) Ev.refl wd2 ⟨r1.ev ev2, r2⟩
theorem asT_rvs {ζ : List Addr} {M : MS} {H : Hp} : ∀ {vs : List V} {ws : List Val} {ds : List PV}, RVs K ξ ζ M H vs ws → asT ws = some ds → rvs K M H vs ds
  | [], [], ds, _, e => by cases e; exact rvs_nil
  | v :: vs, .t d :: ws, ds, h, e => by
    obtain ⟨ds', e1, rfl⟩ := Option.map_eq_some_iff.mp e
    exact rvs_cons.mpr ⟨h.1, asT_rvs h.2 e1⟩
  | _ :: _, .c _ :: _, _, _, e => by cases e
  | _ :: _, .x _ _ :: _, _, _, e => by cases e
  | _ :: _, .s _ :: _, _, _, e => by cases e
  | _ :: _, .g _ _ :: _, _, _, e => by cases e
  | _ :: _, .self :: _, _, _, e => by cases e
  | [], _ :: _, _, h, _ => h.elim
  | _ :: _, [], _, h, _ => h.elim
theorem i_tup {x1 : Nat} (hs : IA K ξ W X es fs) : IE K ξ W X (.Tuple es x1 pos) (eN gTup fs) := PE.of (pe_tup hs) fun σr H Q q => by
  obtain ⟨N, ζ, μ, σ, wd, so, q⟩ := q
  refine (thenN wd so q).mono fun xs H1 ⟨ζ1, μ1, ws, ev1, wd1, so1, r1, q1⟩ => ?_
  unfold gTup at q1
  split at q1
  · rename_i hl
    cases e : asT ws with
    | none => rw [e] at q1; exact q1.elim
    | some ds =>
      rw [e] at q1
      exact ⟨by rw [r1.len]; exact hl, fun p hp => (postE_p wd1 q1).tup wd1.fre (asT_rvs r1 e) hp⟩
  · exact q1.elim
theorem f_lst (hs : IA K ξ W X es fs) : IF K ξ W X (.List es pos) (eN gLst fs) := PE.of (pe_lst hs) fun σr H Q q => by
  obtain ⟨N, ζ, μ, σ, wd, so, q⟩ := q
  refine (thenNF wd so q).mono fun xs H1 ⟨ζ1, μ1, ws, ev1, wd1, so1, r1, q1⟩ => ?_
  unfold gLst at q1
  split at q1
  · rename_i hl
    cases e : asT ws with
    | none => rw [e] at q1; exact q1.elim
    | some ds =>
      rw [e] at q1
      exact ⟨by rw [r1.len]; exact hl, fun p hp => (postF_p wd1 q1).lst (asT_rvs r1 e) hp⟩
  · exact q1.elim
/-- what was set aside is let go -/
theorem Wd.unside {N : MS} {ζ : List Addr} {μ : Store} {H : Hp} {a : Addr} (wd : Wd K (WD.plus N a) ζ μ H) : Wd K N ζ μ H :=
  ⟨wd.len, wd.inj, fun k c b h1 h2 => (wd.cell k c b h1 h2).st (fun _ _ h => h) (fun x nx _ z => nx (z.elim .inl fun z => .inr (.inl z))) (fun _ _ _ _ e => e) (fun _ _ e => e), fun b h => wd.nd b (.inl h), wd.tb⟩
/-- a new list as a datum -/
theorem i_ofF {f : Sl → Store → R (List PV)} (h : IF K ξ W X e f) : IE K ξ W X e (eOfF f) := PE.of h fun σr H Q q => by
  obtain ⟨N, ζ, μ, σ, wd, so, q⟩ := q
  refine ⟨N, ζ, μ, σ, wd, so, ?_⟩
  unfold eOfF at q
  cases e : f σ μ with
  | ok ds μ1 =>
    rw [e] at q
    intro ζ' H' a vs ev w hn ha r
    refine q ζ' H' _ ev w.unside (rv_lst.mpr ⟨a, vs, rfl, fun z => ?_, ha, rvs_wk (fun x z => z.elim .inl fun z => .inr (.inl z)) r⟩)
    rcases z with z | z
    · exact (w.nd a (.inr rfl)).1 z
    · exact (wd.nd a z).2.nn hn
  | ex c f μ1 => rw [e] at q; exact q
  | stuck => rw [e] at q; exact q
theorem Mof_snoc {ζ : List Addr} {μ : Store} {a : Addr} {c : Cell} (hl : ζ.length = μ.length) : ∀ x, Mof (ζ ++ [a]) (μ ++ [some c]) x ↔ WD.plus (Mof ζ μ) a x := by
  intro x
  constructor
  · rintro ⟨k, c', h1, h2⟩
    by_cases hk : k < ζ.length
    · rw [List.getElem?_append_left hk] at h1
      rw [List.getElem?_append_left (by omega)] at h2
      exact .inl ⟨k, c', h1, h2⟩
    · rw [List.getElem?_append_right (by omega)] at h1
      have h0 : k - ζ.length = 0 := by
        have := (List.getElem?_eq_some_iff.mp h1).1
        simp at this; omega
      rw [h0] at h1
      exact .inr (Option.some.inj h1).symm
  · rintro (⟨k, c', h1, h2⟩ | h)
    · have hk := (List.getElem?_eq_some_iff.mp h1).1
      exact ⟨k, c', by rw [List.getElem?_append_left hk]; exact h1, by rw [List.getElem?_append_left (by omega)]; exact h2⟩
    · exact ⟨ζ.length, c, by rw [List.getElem?_append_right (Nat.le_refl _), Nat.sub_self, h]; rfl, by rw [hl, List.getElem?_append_right (Nat.le_refl _), Nat.sub_self]; rfl⟩
theorem snoc_at {α : Type} {l : List α} {x y : α} {i : Nat} (h : (l ++ [x])[i]? = some y) : (i < l.length ∧ l[i]? = some y) ∨ (i = l.length ∧ y = x) := by
  by_cases hi : i < l.length
  · rw [List.getElem?_append_left hi] at h
    exact .inl ⟨hi, h⟩
  · rw [List.getElem?_append_right (by omega)] at h
    have h0 : i - l.length = 0 := by
      have := (List.getElem?_eq_some_iff.mp h).1
      simp at this; omega
    rw [h0] at h
    exact .inr ⟨by omega, (Option.some.inj h).symm⟩
theorem MM_snoc {N : MS} {ζ : List Addr} {μ : Store} {a : Addr} {c : Cell} (hl : ζ.length = μ.length) : ∀ x, MM N (ζ ++ [a]) (μ ++ [some c]) x → MM (WD.plus N a) ζ μ x := fun x h => by
  rcases h with h | h
  · rcases (Mof_snoc hl x).mp h with h | h
    · exact .inl h
    · exact .inr (.inr h)
  · exact .inr (.inl h)
/-- what was set aside becomes a thing that changes -/
theorem Wd.push {N : MS} {ζ : List Addr} {μ : Store} {H : Hp} {a : Addr} {c : Cell} (wd : Wd K (WD.plus N a) ζ μ H) (nN : ¬ N a) (hc : cellR K ζ (MM (WD.plus N a) ζ μ) H a c) : Wd K N (ζ ++ [a]) (μ ++ [some c]) H := by
  have hM := MM_snoc (N := N) (a := a) (c := c) wd.len
  have na : ¬ Mof ζ μ a := (wd.nd a (.inr rfl)).1
  have up : ∀ {b : Addr} {c' : Cell} {k : Nat}, k ≤ ζ.length → cellR K (ζ.take k) (MM (WD.plus N a) ζ μ) H b c' → cellR K ((ζ ++ [a]).take k) (MM N (ζ ++ [a]) (μ ++ [some c])) H b c' := fun {b c' k} hk r => r.st (fun j x h => by rw [List.take_append_of_le_length hk]; exact h) (fun x nx _ z => nx (hM x z)) (fun _ _ _ _ e => e) (fun _ _ e => e)
  refine ⟨by rw [List.length_append, List.length_append, wd.len]; rfl, fun i j b c1 c2 h1 h2 h3 h4 => ?_, fun k c' b h1 h2 => ?_, fun b hb => ?_, wd.tb⟩
  · have hl := wd.len
    rcases snoc_at h1 with ⟨i1, g1⟩ | ⟨i1, g1⟩ <;> rcases snoc_at h2 with ⟨j1, g2⟩ | ⟨j1, g2⟩ <;> rcases snoc_at h3 with ⟨i2, g3⟩ | ⟨i2, g3⟩ <;> rcases snoc_at h4 with ⟨j2, g4⟩ | ⟨j2, g4⟩ <;> first
      | omega
      | exact wd.inj i j b c1 c2 g1 g2 g3 g4
      | (subst g2; exact absurd ⟨i, c1, g1, g3⟩ na)
      | (subst g1; exact absurd ⟨j, c2, g2, g4⟩ na)
  · have hl := wd.len
    rcases snoc_at h1 with ⟨i1, g1⟩ | ⟨i1, g1⟩ <;> rcases snoc_at h2 with ⟨j1, g2⟩ | ⟨j1, g2⟩
    · exact up (by omega) (wd.cell k c' b g1 g2)
    · omega
    · omega
    · cases g1
      rw [g2]
      exact up (by omega) (by rw [List.take_of_length_le (by omega)]; exact hc)
  · refine ⟨fun z => ?_, (wd.nd b (.inl hb)).2⟩
    rcases (Mof_snoc wd.len b).mp z with z | z
    · exact (wd.nd b (.inl hb)).1 z
    · exact nN (z ▸ hb)
/-- a new list as a thing that changes -/
theorem i_cellF {f : Sl → Store → R (List PV)} (h : IF K ξ W X e f) : IE K ξ W X e (eCellF f) := PE.of h fun σr H Q q => by
  obtain ⟨N, ζ, μ, σ, wd, so, q⟩ := q
  refine ⟨N, ζ, μ, σ, wd, so, ?_⟩
  unfold eCellF at q
  cases e : f σ μ with
  | ok ds μ1 =>
    rw [e] at q
    intro ζ' H' a vs ev w hn ha r
    refine q (ζ' ++ [a]) H' _ ⟨fun k b hb => ?_, ev.fr, fun b hb => ?_⟩ (w.push (fun z => (wd.nd a z).2.nn hn) ⟨vs, ha, r⟩) ⟨a, by rw [← w.len, List.getElem?_append_right (Nat.le_refl _), Nat.sub_self]; rfl, rfl⟩
    · have := ev.pre k b hb
      rw [List.getElem?_append_left (List.getElem?_eq_some_iff.mp this).1]
      exact this
    · rcases (Mof_snoc w.len b).mp hb with z | z
      · exact ev.ml b z
      · exact .inr (by rw [z]; exact hn)
  | ex c f μ1 => rw [e] at q; exact q
  | stuck => rw [e] at q; exact q
end
end PM
namespace PM
open PySem PySem.Spec PyProof.Rows L2
open WD (MS upd_none)

/-! ### data to be compared -/
mutual
def PV.data : PV → PyData
  | .non => .none
  | .bl b => .bool b
  | .int i => .int i
  | .str x => .str x
  | .tup xs => .tuple (datas xs)
  | .lst xs => .list (datas xs)
  | .dic _ _ _ => .none
  | .obj _ _ _ => .none
def datas : List PV → List PyData
  | [] => []
  | x :: xs => x.data :: datas xs
end
mutual
def PV.flat : PV → Bool
  | .tup xs => flats xs
  | .lst xs => flats xs
  | .dic _ _ _ => false
  | .obj _ _ _ => false
  | _ => true
def flats : List PV → Bool
  | [] => true
  | x :: xs => x.flat && flats xs
end
/-- to be compared -/
def okD (d : PV) : Bool := d.flat && decide (d.data.depth ≤ 64)
def eqB (x y : PV) : Bool := PyData.eqv x.data y.data
def eqV (x y : PV) : Option PV := if okD x && okD y then some (.bl (eqB x y)) else none
def neV (x y : PV) : Option PV := if okD x && okD y then some (.bl (!eqB x y)) else none
section
variable {K : KT} {M : MS} {H : Hp}
mutual
theorem rv_dp : ∀ (d : PV) (v : V), d.flat = true → rv K M H v d → Dp K H v d.data ∧ d.data.canLay0 = true
  | .non, v, _, h => by rw [rv_non] at h; subst h; exact ⟨.non, rfl⟩
  | .bl b, v, _, h => by rw [rv_bl] at h; subst h; exact ⟨.bl b, rfl⟩
  | .int i, v, _, h => by rw [rv_int] at h; subst h; exact ⟨.int i, rfl⟩
  | .str x, v, _, h => by
    rw [rv_str] at h
    obtain ⟨rfl, h⟩ := h
    exact ⟨.str x, by show PyData.canLay0 (.str x) = true; exact h⟩
  | .tup l, v, f, h => by
    rw [rv_tup] at h
    obtain ⟨a, vs, rfl, _, h3, h4⟩ := h
    obtain ⟨g1, g2⟩ := rvs_dp l vs (by unfold PV.flat at f; exact f) h4
    unfold PV.data
    exact ⟨.tup (SqT.of h3) g1, g2⟩
  | .lst l, v, f, h => by
    rw [rv_lst] at h
    obtain ⟨a, vs, rfl, _, h3, h4⟩ := h
    obtain ⟨g1, g2⟩ := rvs_dp l vs (by unfold PV.flat at f; exact f) h4
    unfold PV.data
    exact ⟨.lst (SqL.of h3) g1, g2⟩
  | .dic _ _ _, v, f, _ => by unfold PV.flat at f; cases f
  | .obj _ _ _, v, f, _ => by unfold PV.flat at f; cases f
theorem rvs_dp : ∀ (ds : List PV) (vs : List V), flats ds = true → rvs K M H vs ds → DpAll K H vs (datas ds) ∧ PyData.canLayAll0 (datas ds) = true
  | [], [], _, _ => by unfold datas; exact ⟨.nil, rfl⟩
  | d :: ds, v :: vs, f, h => by
    rw [rvs_cons] at h
    unfold flats at f
    rw [Bool.and_eq_true] at f
    obtain ⟨h1, h2⟩ := rv_dp d v f.1 h.1
    obtain ⟨h3, h4⟩ := rvs_dp ds vs f.2 h.2
    unfold datas
    exact ⟨.cons h1 h3, by show (d.data.canLay0 && PyData.canLayAll0 (datas ds)) = true; rw [h2, h4]; rfl⟩
  | [], _ :: _, _, h => by unfold rvs at h; exact h.elim
  | _ :: _, [], _, h => by unfold rvs at h; exact h.elim
end
theorem vv_dp : ∀ {d : PV} {v : V}, d.flat = true → vv K M H v d → Dp K H v d.data ∧ d.data.canLay0 = true
  | .lst l, v, f, h => by
    obtain ⟨a, vs, rfl, h3, h4⟩ := h
    obtain ⟨g1, g2⟩ := rvs_dp l vs (by unfold PV.flat at f; exact f) h4
    unfold PV.data
    exact ⟨.lst (SqL.of h3) g1, g2⟩
  | .dic _ _ _, v, f, _ => by unfold PV.flat at f; cases f
  | .obj _ _ _, v, f, _ => by unfold PV.flat at f; cases f
  | .non, v, f, h => rv_dp (M := M) _ v f h
  | .bl b, v, f, h => rv_dp (M := M) _ v f h
  | .int i, v, f, h => rv_dp (M := M) _ v f h
  | .str x, v, f, h => rv_dp (M := M) _ v f h
  | .tup l, v, f, h => rv_dp (M := M) _ v f h
theorem okD_dp {d : PV} {v : V} (f : okD d = true) (h : vv K M H v d) : Dp K H v d.data ∧ SeqAt.shaped d.data = true := by
  unfold okD at f
  rw [Bool.and_eq_true] at f
  obtain ⟨h1, h2⟩ := vv_dp f.1 h
  exact ⟨h1, by unfold SeqAt.shaped; rw [h2, f.2]; rfl⟩
end
section
variable {X : Cx} {K : KT}
theorem op_eqV (hu : X.A.units + 64 < cLine) (hK : X.K = K := by rfl) : OpR X (compareOp .Eq) (rP2 K eqV) := by
  obtain ⟨K, Kt⟩ := K; obtain rfl : X.K = K := hK
  intro pins s σ H x y v u Q I rx ry h
  obtain ⟨M, d1, d2, d, h1, h2, fr, e, g⟩ := h
  unfold eqV at e
  split at e
  · rename_i hc
    cases e
    rw [Bool.and_eq_true] at hc
    obtain ⟨p1, p2⟩ := okD_dp hc.1 h1
    obtain ⟨q1, q2⟩ := okD_dp hc.2 h2
    exact op_eqD hu pins s σ H x y v u Q I rx ry ⟨_, _, p1, q1, p2, q2, g.bl⟩
  · cases e
theorem op_neV (hu : X.A.units + 64 < cLine) (hK : X.K = K := by rfl) : OpR X (compareOp .NotEq) (rP2 K neV) := by
  obtain ⟨K, Kt⟩ := K; obtain rfl : X.K = K := hK
  intro pins s σ H x y v u Q I rx ry h
  obtain ⟨M, d1, d2, d, h1, h2, fr, e, g⟩ := h
  unfold neV at e
  split at e
  · rename_i hc
    cases e
    rw [Bool.and_eq_true] at hc
    obtain ⟨p1, p2⟩ := okD_dp hc.1 h1
    obtain ⟨q1, q2⟩ := okD_dp hc.2 h2
    exact op_neD hu pins s σ H x y v u Q I rx ry ⟨_, _, p1, q1, p2, q2, g.bl⟩
  · cases e
end

/-! ### arithmetic -/
def addV : PV → PV → Option PV
  | .int i, .int j => some (.int (i + j))
  | .str a, .str b => if a.length + b.length ≤ sizeLine then some (.str (a ++ b)) else none
  | .tup a, .tup b => if a.length + b.length ≤ sizeLine then some (.tup (a ++ b)) else none
  | .lst a, .lst b => if a.length + b.length ≤ sizeLine then some (.lst (a ++ b)) else none
  | _, _ => none
def addF : PV → PV → Option (List PV)
  | .lst a, .lst b => if a.length + b.length ≤ sizeLine then some (a ++ b) else none
  | _, _ => none
def subV : PV → PV → Option PV
  | .int i, .int j => some (.int (i - j))
  | _, _ => none
/-- bounds, so said that the kernel never counts down from them -/
def inW (i : Int) : Bool := Nat.ble i.natAbs 18446744073709551615
def bnd (i : Int) : Bool := Nat.ble i.natAbs 1000000000000
theorem bnd_ok {i : Int} (h : bnd i = true) : -(2 ^ 62) ≤ i ∧ i < 2 ^ 62 := by
  have := Nat.le_of_ble_eq_true h
  omega
theorem bnd_of {i : Int} (h1 : -1000000000000 ≤ i) (h2 : i ≤ 1000000000000) : bnd i = true := Nat.ble_eq_true_of_le (by omega)
def rep {α : Type} (k : Int) (l : List α) : List α := (List.replicate k.toNat l).flatten
def mulV : PV → PV → Option PV
  | .int i, .int j => if inW i || inW j then some (.int (i * j)) else none
  | .tup a, .int k => if !a.isEmpty && (decide (0 ≤ k) && (Nat.ble k.toNat 1000 && Nat.ble a.length 1000)) then some (.tup (rep k a)) else none
  | _, _ => none
def mulF : PV → PV → Option (List PV)
  | .lst a, .int k => if bnd k && Nat.ble (a.length * k.toNat) sizeLine then some (rep k a) else none
  | _, _ => none
def modV : PV → PV → Option PV
  | .int i, .int j => if 0 < j then some (.int (i % j)) else none
  | _, _ => none
def fdivV : PV → PV → Option PV
  | .int i, .int j => if Nat.ble 1 j.toNat && Nat.ble j.toNat 1073741823 then some (.int (i / j)) else none
  | _, _ => none
def powV : PV → PV → Option PV
  | .int i, .int j => if decide (0 ≤ j) && (Nat.ble j.toNat 1000000 && inW i) then some (.int (i ^ j.toNat)) else none
  | _, _ => none
def negV : PV → Option PV
  | .int i => some (.int (-i))
  | _ => none
theorem strOk_app {a b : Str} (ha : PyData.strOk a = true) (hb : PyData.strOk b = true) : PyData.strOk (a ++ b) = true := by
  unfold PyData.strOk at *
  show (a.cps ++ b.cps).all (· < 0x110000) = true
  rw [Array.all_append, ha, hb]; rfl
section
variable {X : Cx} {K : KT} {M : MS} {H : Hp} {v : V}
theorem vv_int {i : Int} (h : vv K M H v (.int i)) : v = .int i := (rv_int (K := K) (M := M) (H := H)).mp h
theorem vv_bl {i : Bool} (h : vv K M H v (.bl i)) : v = .bl i := (rv_bl (K := K) (M := M) (H := H)).mp h
theorem vv_non (h : vv K M H v .non) : v = .non := (rv_non (K := K) (M := M) (H := H)).mp h
theorem vv_str {x : Str} (h : vv K M H v (.str x)) : v = .str x ∧ PyData.strOk x = true := (rv_str (K := K) (M := M) (H := H)).mp h
theorem vv_tup {l : List PV} (h : vv K M H v (.tup l)) : ∃ a vs, v = .ref a ∧ ¬ M a ∧ H a = some (.tup vs) ∧ rvs K M H vs l := (rv_tup (K := K) (M := M) (H := H)).mp h
theorem op_addV (hK : X.K = K := by rfl) : OpR X (binaryOp .Add) (rP2 K addV) := by
  obtain ⟨K, Kt⟩ := K; obtain rfl : X.K = K := hK
  intro pins s σ H x y v u Q I rx ry h
  obtain ⟨M, d1, d2, d, h1, h2, fr, e, g⟩ := h
  unfold addV at e
  split at e
  · cases e
    cases vv_int h1; cases vv_int h2
    exact op_add pins s σ H _ _ v u Q I rx ry ⟨_, _, rfl, rfl, g.int⟩
  · split at e
    · cases e
      obtain ⟨rfl, s1⟩ := vv_str h1
      obtain ⟨rfl, s2⟩ := vv_str h2
      exact op_add_str pins s σ H _ _ v u Q I rx ry ⟨_, _, rfl, rfl, by assumption, g.str (strOk_app s1 s2)⟩
    · cases e
  · split at e
    · rename_i a b hl
      cases e
      obtain ⟨p, vs, rfl, n1, g1, r1⟩ := vv_tup h1
      obtain ⟨q, ws, rfl, n2, g2, r2⟩ := vv_tup h2
      have l1 := rvs_len r1
      have l2 := rvs_len r2
      refine op_catA pins s σ H _ _ v u Q I rx ry ⟨p, q, vs, ws, rfl, rfl, SqT.of g1, SqT.of g2, by omega, fun z => ?_, fun z1 z2 => ?_, fun _ _ r hr => g.tup fr (rvs_app r1 r2) hr⟩
      · have e1 : a = [] := List.eq_nil_of_length_eq_zero (by rw [← l1, z]; rfl)
        subst e1
        exact g H _ Grow.refl (rv_tup.mpr ⟨q, ws, rfl, n2, g2, r2⟩)
      · have e1 : b = [] := List.eq_nil_of_length_eq_zero (by rw [← l2, z2]; rfl)
        subst e1
        rw [List.append_nil] at g
        exact g H _ Grow.refl (rv_tup.mpr ⟨p, vs, rfl, n1, g1, r1⟩)
    · cases e
  · split at e
    · rename_i a b hl
      cases e
      obtain ⟨p, vs, rfl, g1, r1⟩ := h1
      obtain ⟨q, ws, rfl, g2, r2⟩ := h2
      have l1 := rvs_len r1
      have l2 := rvs_len r2
      exact WD.op_catL pins s σ H _ _ v u Q I rx ry ⟨p, q, vs, ws, rfl, rfl, SqL.of g1, SqL.of g2, by omega, fun r hr => g.lst fr (rvs_app r1 r2) hr⟩
    · cases e
  · cases e
theorem op_addF (hK : X.K = K := by rfl) : OpR X (binaryOp .Add) (rPF2 K addF) := by
  obtain ⟨K, Kt⟩ := K; obtain rfl : X.K = K := hK
  intro pins s σ H x y v u Q I rx ry h
  obtain ⟨M, d1, d2, d, h1, h2, fr, e, g⟩ := h
  unfold addF at e
  split at e
  · split at e
    · rename_i a b hl
      cases e
      obtain ⟨p, vs, rfl, g1, r1⟩ := h1
      obtain ⟨q, ws, rfl, g2, r2⟩ := h2
      have l1 := rvs_len r1
      have l2 := rvs_len r2
      exact WD.op_catL pins s σ H _ _ v u Q I rx ry ⟨p, q, vs, ws, rfl, rfl, SqL.of g1, SqL.of g2, by omega, fun r hr => g.lst (rvs_app r1 r2) hr⟩
    · cases e
  · cases e
theorem op_subV (hK : X.K = K := by rfl) : OpR X (binaryOp .Sub) (rP2 K subV) := by
  intro pins s σ H x y v u Q I rx ry h
  obtain ⟨M, d1, d2, d, h1, h2, fr, e, g⟩ := h
  unfold subV at e
  split at e
  · cases e
    cases vv_int h1; cases vv_int h2
    exact op_sub pins s σ H _ _ v u Q I rx ry ⟨_, _, rfl, rfl, g.int⟩
  · cases e
theorem op_modV (hK : X.K = K := by rfl) : OpR X (binaryOp .Mod) (rP2 K modV) := by
  intro pins s σ H x y v u Q I rx ry h
  obtain ⟨M, d1, d2, d, h1, h2, fr, e, g⟩ := h
  unfold modV at e
  split at e
  · split at e
    · cases e
      cases vv_int h1; cases vv_int h2
      exact op_mod pins s σ H _ _ v u Q I rx ry ⟨_, _, rfl, rfl, by assumption, g.int⟩
    · cases e
  · cases e
theorem op_fdivV (hK : X.K = K := by rfl) : OpR X (binaryOp .FloorDiv) (rP2 K fdivV) := by
  intro pins s σ H x y v u Q I rx ry h
  obtain ⟨M, d1, d2, d, h1, h2, fr, e, g⟩ := h
  unfold fdivV at e
  split at e
  · split at e
    · cases e
      rename_i hc
      cases vv_int h1; cases vv_int h2
      rw [Bool.and_eq_true] at hc
      have c1 := Nat.le_of_ble_eq_true hc.1
      have c2 := Nat.le_of_ble_eq_true hc.2
      exact op_fdiv pins s σ H _ _ v u Q I rx ry ⟨_, _, rfl, rfl, ⟨by omega, by omega⟩, g.int⟩
    · cases e
  · cases e
theorem op_powV (hK : X.K = K := by rfl) : OpR X (binaryOp .Pow) (rP2 K powV) := by
  intro pins s σ H x y v u Q I rx ry h
  obtain ⟨M, d1, d2, d, h1, h2, fr, e, g⟩ := h
  unfold powV at e
  split at e
  · split at e
    · cases e
      rename_i hc
      cases vv_int h1; cases vv_int h2
      rw [Bool.and_eq_true, Bool.and_eq_true] at hc
      have c1 := of_decide_eq_true hc.1
      have c2 := Nat.le_of_ble_eq_true hc.2.1
      have c3 := Nat.le_of_ble_eq_true hc.2.2
      exact op_pow pins s σ H _ _ v u Q I rx ry ⟨_, _, rfl, rfl, ⟨c1, by omega, by omega⟩, g.int⟩
    · cases e
  · cases e
theorem inW_ok {i : Int} (h : inW i = true) : -(2 ^ 64) < i ∧ i < 2 ^ 64 := by
  have := Nat.le_of_ble_eq_true h
  omega
theorem rvs_rep {vs : List V} {ds : List PV} (h : rvs K M H vs ds) : ∀ n : Nat, rvs K M H ((List.replicate n vs).flatten) ((List.replicate n ds).flatten)
  | 0 => rvs_nil
  | n + 1 => by
    rw [List.replicate_succ, List.replicate_succ, List.flatten_cons, List.flatten_cons]
    exact rvs_app h (rvs_rep h n)
end
end PM
/-! dicts: what is looked up, what is put -/
namespace PM
open PySem PySem.Spec PyProof.Rows L2
open WD (MS upd_none)
def keyOf : PV → Option Key
  | .int i => some (.inl i)
  | .str x => some (.inr x)
  | _ => none
def keysOf : List PV → Option (List Key)
  | [] => some []
  | d :: ds => match keyOf d, keysOf ds with
    | some k, some ks => some (k :: ks)
    | _, _ => none
/-- may it be a key of such a dict? -/
def keyB : Bool → PV → Bool
  | false, d => (keyOf d).isSome
  | true, .tup l => (keysOf l).isSome
  | true, _ => false
def kEq1 : PV → PV → Bool
  | .int i, .int j => decide (i = j)
  | .str x, .str y => decide (x = y)
  | _, _ => false
def kEqs : List PV → List PV → Bool
  | [], [] => true
  | a :: as, b :: bs => kEq1 a b && kEqs as bs
  | _, _ => false
def keyEq : PV → PV → Bool
  | .tup a, .tup b => kEqs a b
  | a, b => kEq1 a b
def dfind : List PV → List PV → PV → Option PV
  | x :: ks, v :: vs, k => if keyEq x k then some v else dfind ks vs k
  | _, _, _ => none
def dset : List PV → List PV → PV → PV → List PV
  | x :: ks, v :: vs, k, d => (if keyEq x k then d else v) :: dset ks vs k d
  | _, _, _, _ => []
def dput (ks vs : List PV) (k d : PV) : List PV × List PV := if ks.any (keyEq · k) then (ks, dset ks vs k d) else (ks ++ [k], vs ++ [d])
theorem kEq1_k (a b : Key) : kEq1 (kPV a) (kPV b) = decide (a = b) := by
  cases a <;> cases b <;> simp [kPV, kEq1]
theorem keyEq_k (a b : Key) : keyEq (kPV a) (kPV b) = decide (a = b) := by
  rw [← kEq1_k]
  cases a <;> cases b <;> rfl
theorem kEqs_k : ∀ (a b : List Key), kEqs (a.map kPV) (b.map kPV) = decide (a = b)
  | [], [] => by simp [kEqs]
  | [], _ :: _ => by simp [kEqs]
  | _ :: _, [] => by simp [kEqs]
  | a :: as, b :: bs => by simp [kEqs, kEq1_k, kEqs_k as bs]
theorem keyEq_t (a b : List Key) : keyEq (.tup (a.map kPV)) (.tup (b.map kPV)) = decide (a = b) := kEqs_k a b
theorem keyOf_some {d : PV} {k : Key} (h : keyOf d = some k) : d = kPV k := by
  unfold keyOf at h
  split at h <;> cases h <;> rfl
theorem keysOf_some : ∀ {l : List PV} {ks : List Key}, keysOf l = some ks → l = ks.map kPV
  | [], ks, h => by cases h; rfl
  | d :: ds, ks, h => by
    unfold keysOf at h
    split at h
    · rename_i k ks' h1 h2
      cases h
      rw [keyOf_some h1, keysOf_some h2]
      rfl
    · cases h
section
variable {K : KT} {M : MS} {H : Hp} {κ : Type} [DecidableEq κ] {φ : κ → PV}
theorem dfind_ok (hφ : ∀ a b, keyEq (φ a) (φ b) = decide (a = b)) (k : κ) : ∀ {kl : List κ} {vs : List V} {ds : List PV}, kl.length = vs.length → rvs K M H vs ds →
    (∃ d v, dfind (kl.map φ) ds (φ k) = some d ∧ valV (kl.zip vs) k = some v ∧ rv K M H v d) ∨ (dfind (kl.map φ) ds (φ k) = none ∧ valV (kl.zip vs) k = none)
  | [], [], [], _, _ => .inr ⟨rfl, rfl⟩
  | x :: kl, v :: vs, d :: ds, hl, r => by
    rw [rvs_cons] at r
    by_cases e : x = k
    · refine .inl ⟨d, v, ?_, valV_pos (p := (x, v)) e, r.1⟩
      show (if keyEq (φ x) (φ k) then some d else _) = _
      rw [hφ, decide_eq_true e]; rfl
    · have e1 : dfind ((x :: kl).map φ) (d :: ds) (φ k) = dfind (kl.map φ) ds (φ k) := by
        show (if keyEq (φ x) (φ k) then some d else _) = _
        rw [hφ, decide_eq_false e]; rfl
      have e2 : valV ((x :: kl).zip (v :: vs)) k = valV (kl.zip vs) k := valV_neg (p := (x, v)) e
      rw [e1, e2]
      exact dfind_ok hφ k (Nat.succ.inj hl) r.2
  | [], _ :: _, _, hl, _ => by cases hl
  | _ :: _, [], _, hl, _ => by cases hl
  | [], [], _ :: _, _, r => by unfold rvs at r; exact r.elim
  | _ :: _, _ :: _, [], _, r => by unfold rvs at r; exact r.elim
theorem any_ok (hφ : ∀ a b, keyEq (φ a) (φ b) = decide (a = b)) (k : κ) : ∀ {kl : List κ} {vs : List V}, kl.length = vs.length → ((kl.map φ).any (keyEq · (φ k))) = ((kl.zip vs).any fun kv => decide (kv.1 = k))
  | [], [], _ => rfl
  | x :: kl, v :: vs, hl => by
    show (keyEq (φ x) (φ k) || (kl.map φ).any (keyEq · (φ k))) = (decide (x = k) || (kl.zip vs).any fun kv => decide (kv.1 = k))
    rw [hφ, any_ok hφ k (Nat.succ.inj hl)]
  | [], _ :: _, hl => by cases hl
  | _ :: _, [], hl => by cases hl
def vset {κ : Type} [DecidableEq κ] : List κ → List V → κ → V → List V
  | x :: ks, u :: vs, k, v => (if x = k then v else u) :: vset ks vs k v
  | _, _, _, _ => []
theorem vset_zip (k : κ) (v : V) : ∀ {kl : List κ} {vs : List V}, kl.length = vs.length → (kl.zip vs).map (fun kv => if kv.1 = k then (kv.1, v) else kv) = kl.zip (vset kl vs k v) ∧ kl.length = (vset kl vs k v).length
  | [], [], _ => ⟨rfl, rfl⟩
  | x :: kl, u :: vs, hl => by
    obtain ⟨h1, h2⟩ := vset_zip k v (Nat.succ.inj hl)
    refine ⟨?_, congrArg Nat.succ h2⟩
    show (if x = k then (x, v) else (x, u)) :: (kl.zip vs).map _ = (x, if x = k then v else u) :: kl.zip (vset kl vs k v)
    rw [h1]
    split <;> rfl
  | [], _ :: _, hl => by cases hl
  | _ :: _, [], hl => by cases hl
theorem dset_ok (hφ : ∀ a b, keyEq (φ a) (φ b) = decide (a = b)) {k : κ} {v : V} {d : PV} (hv : rv K M H v d) : ∀ {kl : List κ} {vs : List V} {ds : List PV}, kl.length = vs.length → rvs K M H vs ds → rvs K M H (vset kl vs k v) (dset (kl.map φ) ds (φ k) d)
  | [], [], [], _, _ => rvs_nil
  | x :: kl, u :: vs, e :: ds, hl, r => by
    rw [rvs_cons] at r
    refine rvs_cons.mpr ⟨?_, dset_ok hφ hv (Nat.succ.inj hl) r.2⟩
    rw [hφ]
    by_cases hx : x = k
    · rw [if_pos hx, if_pos (decide_eq_true hx)]; exact hv
    · rw [if_neg hx, if_neg (by rw [decide_eq_false hx]; exact Bool.false_ne_true)]; exact r.1
  | [], _ :: _, _, hl, _ => by cases hl
  | _ :: _, [], _, hl, _ => by cases hl
  | [], [], _ :: _, _, r => by unfold rvs at r; exact r.elim
  | _ :: _, _ :: _, [], _, r => by unfold rvs at r; exact r.elim
theorem dput_ok (hφ : ∀ a b, keyEq (φ a) (φ b) = decide (a = b)) {k : κ} {v : V} {d : PV} {kl : List κ} {vs : List V} {ds : List PV} (hv : rv K M H v d) (hl : kl.length = vs.length) (r : rvs K M H vs ds) {P : κ → Prop} (hp : ∀ x ∈ kl, P x) (hk : P k) :
    ∃ (kl' : List κ) (vs' : List V), putK (kl.zip vs) k v = kl'.zip vs' ∧ (dput (kl.map φ) ds (φ k) d).1 = kl'.map φ ∧ kl'.length = vs'.length ∧ rvs K M H vs' (dput (kl.map φ) ds (φ k) d).2 ∧ ∀ x ∈ kl', P x := by
  unfold putK dput
  rw [← any_ok hφ k hl]
  split
  · obtain ⟨h1, h2⟩ := vset_zip k v hl
    exact ⟨kl, vset kl vs k v, h1, rfl, h2, dset_ok hφ hv hl r, hp⟩
  · refine ⟨kl ++ [k], vs ++ [v], by rw [List.zip_append hl]; rfl, by simp, by simp [hl], rvs_app r (rvs_cons.mpr ⟨hv, rvs_nil⟩), fun x hx => ?_⟩
    rcases List.mem_append.mp hx with h | h
    · exact hp x h
    · rw [List.mem_singleton.mp h]; exact hk
end
section
variable {X : Cx} {K : KT} {M : MS} {H : Hp} {v : V}
theorem kV_of {k : Key} (h : rv K M H v (kPV k)) : v = kV k ∧ kOk k := by
  cases k with
  | inl i => exact ⟨rv_int.mp h, trivial⟩
  | inr x => exact ⟨(rv_str.mp h).1, (rv_str.mp h).2⟩
theorem kVs_of : ∀ {vs : List V} {ks : List Key}, rvs K M H vs (ks.map kPV) → vs = ks.map kV ∧ ∀ k ∈ ks, kOk k
  | [], [], _ => ⟨rfl, fun _ h => nomatch h⟩
  | v :: vs, k :: ks, h => by
    have h : rvs K M H (v :: vs) (kPV k :: ks.map kPV) := h
    rw [rvs_cons] at h
    obtain ⟨h1, h2⟩ := kV_of h.1
    obtain ⟨h3, h4⟩ := kVs_of h.2
    refine ⟨by rw [h1, h3]; rfl, fun z hz => ?_⟩
    rcases List.mem_cons.mp hz with e | e
    · rw [e]; exact h2
    · exact h4 z e
  | [], _ :: _, h => by
    have := rvs_len h
    simp at this
  | _ :: _, [], h => by
    have := rvs_len h
    simp at this
theorem vv_key : ∀ {d : PV} {k : Key}, keyOf d = some k → vv K M H v d → v = kV k ∧ kOk k := by
  intro d k e h
  rw [keyOf_some e] at h
  refine kV_of (K := K) (M := M) (H := H) ?_
  cases k <;> exact h
/-- what is looked up -/
theorem dget_rel {b : Bool} {a : Addr} {ks ds : List PV} {vs : List V} {y : V} {k : PV} (h : DicR b H a ks vs) (r : rvs K M H vs ds) (hy : vv K M H y k) (hk : keyB b k = true) :
    (∃ d v, dfind ks ds k = some d ∧ DGet H a y (some v) ∧ rv K M H v d) ∨ (dfind ks ds k = none ∧ DGet H a y none) := by
  cases b with
  | false =>
    obtain ⟨kl, rfl, hl, hok, ha⟩ := h
    obtain ⟨k', hk'⟩ := Option.isSome_iff_exists.mp hk
    obtain ⟨rfl, _⟩ := vv_key hk' hy
    rw [keyOf_some hk']
    rcases dfind_ok keyEq_k k' hl r with ⟨d, v, h1, h2, h3⟩ | ⟨h1, h2⟩
    · exact .inl ⟨d, v, h1, by rw [← h2]; exact DGet.k ha, h3⟩
    · exact .inr ⟨h1, by rw [← h2]; exact DGet.k ha⟩
  | true =>
    obtain ⟨kl, rfl, hl, hok, ha⟩ := h
    cases k with
    | tup l =>
      obtain ⟨k', hk'⟩ := Option.isSome_iff_exists.mp (show (keysOf l).isSome = true from hk)
      rw [keysOf_some hk'] at hy ⊢
      obtain ⟨p, us, rfl, _, hp, ru⟩ := vv_tup hy
      obtain ⟨rfl, _⟩ := kVs_of ru
      rcases dfind_ok (φ := fun k => PV.tup (k.map kPV)) keyEq_t k' hl r with ⟨d, v, h1, h2, h3⟩ | ⟨h1, h2⟩
      · exact .inl ⟨d, v, h1, by rw [← h2]; exact DGet.t ha hp, h3⟩
      · exact .inr ⟨h1, by rw [← h2]; exact DGet.t ha hp⟩
    | _ => cases hk
/-- what is put -/
theorem dput_rel {b : Bool} {a : Addr} {ks ds : List PV} {vs : List V} {y v : V} {k d : PV} (h : DicR b H a ks vs) (r : rvs K M H vs ds) (hy : vv K M H y k) (hk : keyB b k = true) (hv : rv K M H v d) (hz : ks.length < sizeLine) :
    ∃ H' o vs', DPut H a y v H' ∧ H' = upd H a o ∧ DicR b H' a (dput ks ds k d).1 vs' ∧ rvs K M H vs' (dput ks ds k d).2 := by
  have hlen := h.len
  cases b with
  | false =>
    obtain ⟨kl, rfl, hl, hok, ha⟩ := h
    obtain ⟨k', hk'⟩ := Option.isSome_iff_exists.mp hk
    obtain ⟨rfl, ok'⟩ := vv_key hk' hy
    rw [keyOf_some hk']
    obtain ⟨kl', vs', e1, e2, e3, e4, e5⟩ := dput_ok keyEq_k hv hl r hok ok'
    exact ⟨_, _, vs', DPut.k ha (by rw [List.length_zip, hl, Nat.min_self, ← hl]; simpa using hz), rfl, ⟨kl', e2, e3, e5, by rw [upd_same, e1]⟩, e4⟩
  | true =>
    obtain ⟨kl, rfl, hl, hok, ha⟩ := h
    cases k with
    | tup l =>
      obtain ⟨k', hk'⟩ := Option.isSome_iff_exists.mp (show (keysOf l).isSome = true from hk)
      rw [keysOf_some hk'] at hy ⊢
      obtain ⟨p, us, rfl, _, hp, ru⟩ := vv_tup hy
      obtain ⟨rfl, ok'⟩ := kVs_of ru
      obtain ⟨kl', vs', e1, e2, e3, e4, e5⟩ := dput_ok (φ := fun k => PV.tup (k.map kPV)) keyEq_t (P := fun k => ∀ z ∈ k, kOk z) hv hl r hok ok'
      exact ⟨_, _, vs', DPut.t ha hp (by rw [List.length_zip, hl, Nat.min_self, ← hl]; simpa using hz), rfl, ⟨kl', e2, e3, e5, by rw [upd_same, e1]⟩, e4⟩
    | _ => cases hk
theorem ix_dict (hu : X.A.units + 1 < cLine) : IxR X (fun x y H Q => ∃ a v, x = .ref a ∧ DGet H a y (some v) ∧ Q v H) := by
  intro value slice pins s σ H x y v u Q I rx ry h hs
  obtain ⟨a, z, rfl, g, q⟩ := h
  obtain rfl : v = Value.ref a := rx
  have hT := dict_typeIs I g
  unfold subscriptTail
  refine wpAny_bind ?_
  rw [getitemInPython_of_ne hT.not_modules]
  refine wpAny_bind (wpAny_specialOf hT PySem.F.slot_dict_getitem.lookup ?_)
  have fin : wpAny (model X.prog X.w) X.A (subscripted slice false (.ref a) u) (fun r s₃ => wpAny (model X.prog X.w) X.A (letTemporaryGo value (.ref a) r >>= fun _ => pure r) (EP X pins σ Q) X.xe s₃) X.xe s := by
    rw [hs]
    exact wpAny_operating (wpAny_mono (d_getItem hu I g ry fun w' s3 I3 rw' => (⟨z, H, I3, rw', q⟩ : EP X pins σ Q w' s3)) (fun r s₃ h₃ => wpAny_bind (wpAny_letTemporaryGo (wpAny_pure h₃))) fun _ _ x => x)
  first
    | exact wpAny_pure (wpAny_bind fin)
    | exact wpAny_bind (wpAny_pure (wpAny_bind fin))
    | exact wpAny_bind fin
theorem op_inDict (hu : X.A.units + 1 < cLine) : OpR X (compareOp .In) (fun y x H Q => ∃ a o, x = .ref a ∧ DGet H a y o ∧ Q (.bl o.isSome) H) := by
  intro pins s σ H x y v u Q I rx ry h
  obtain ⟨a, o, rfl, g, q⟩ := h
  obtain rfl : u = Value.ref a := ry
  exact d_in hu I g rx fun s3 I3 => ⟨.bl o.isSome, H, I3, rfl, q⟩
theorem op_notInDict (hu : X.A.units + 1 < cLine) : OpR X (compareOp .NotIn) (fun y x H Q => ∃ a o, x = .ref a ∧ DGet H a y o ∧ Q (.bl (!o.isSome)) H) := by
  intro pins s σ H x y v u Q I rx ry h
  obtain ⟨a, o, rfl, g, q⟩ := h
  obtain rfl : u = Value.ref a := ry
  exact d_notIn hu I g rx fun s3 I3 => ⟨.bl (!o.isSome), H, I3, rfl, q⟩
end
end PM
namespace PM
open PySem PySem.Spec PyProof.Rows L2
open WD (MS upd_none)
section
variable {X : Cx} {K : KT} {M : MS} {H : Hp} {v : V}
theorem op_mulV (hK : X.K = K := by rfl) : OpR X (binaryOp .Mult) (rP2 K mulV) := by
  obtain ⟨K, Kt⟩ := K; obtain rfl : X.K = K := hK
  intro pins s σ H x y v u Q I rx ry h
  obtain ⟨M, d1, d2, d, h1, h2, fr, e, g⟩ := h
  unfold mulV at e
  split at e
  · split at e
    · rename_i i j hc
      cases e
      cases vv_int h1; cases vv_int h2
      refine op_mul pins s σ H _ _ v u Q I rx ry ⟨_, _, rfl, rfl, ?_, g.int⟩
      rw [Bool.or_eq_true] at hc
      rcases hc with hc | hc
      · exact .inl (inW_ok hc)
      · exact .inr (inW_ok hc)
    · cases e
  · split at e
    · rename_i a k hc
      cases e
      obtain ⟨p, vs, rfl, n1, g1, r1⟩ := vv_tup h1
      cases vv_int h2
      have l1 := rvs_len r1
      rw [Bool.and_eq_true, Bool.and_eq_true, Bool.and_eq_true] at hc
      have c1 : 0 ≤ k := of_decide_eq_true hc.2.1
      have c2 := Nat.le_of_ble_eq_true hc.2.2.1
      have c3 := Nat.le_of_ble_eq_true hc.2.2.2
      have hne : vs ≠ [] := fun z => by
        have e0 : a = [] := List.eq_nil_of_length_eq_zero (by rw [← l1, z]; rfl)
        rw [e0] at hc
        simp at hc
      by_cases k0 : k = 0
      · subst k0
        refine WD.op_rep0 pins s σ H _ _ v u Q I rx ry ⟨p, vs, rfl, rfl, SqT.of g1, hne, fun r hr => ?_⟩
        exact g.tup fr (vs := []) rvs_nil hr
      · by_cases k1 : k = 1
        · subst k1
          refine WD.op_rep1 pins s σ H _ _ v u Q I rx ry ⟨p, vs, rfl, rfl, SqT.of g1, ?_⟩
          refine g H _ Grow.refl (rv_tup.mpr ⟨p, vs, rfl, n1, g1, ?_⟩)
          have e : rep 1 a = a := by unfold rep; simp
          rw [e]; exact r1
        · refine op_repT pins s σ H _ _ v u Q I rx ry ⟨p, k, vs, rfl, rfl, SqT.of g1, hne, by omega, by omega, by omega, fun r hr => g.tup fr (rvs_rep r1 _) hr⟩
    · cases e
  · cases e
theorem op_mulF (hK : X.K = K := by rfl) : OpR X (binaryOp .Mult) (rPF2 K mulF) := by
  obtain ⟨K, Kt⟩ := K; obtain rfl : X.K = K := hK
  intro pins s σ H x y v u Q I rx ry h
  obtain ⟨M, d1, d2, d, h1, h2, fr, e, g⟩ := h
  unfold mulF at e
  split at e
  · split at e
    · rename_i a k hc
      cases e
      obtain ⟨p, vs, rfl, g1, r1⟩ := h1
      cases vv_int h2
      have l1 := rvs_len r1
      rw [Bool.and_eq_true] at hc
      have c1 := bnd_ok hc.1
      have c2 := Nat.le_of_ble_eq_true hc.2
      exact op_rep pins s σ H _ _ v u Q I rx ry ⟨p, k, vs, rfl, rfl, g1, by omega, by omega, by rw [l1]; exact c2, fun r hr => g.lst (rvs_rep r1 _) hr⟩
    · cases e
  · cases e
theorem un_negV (hK : X.K = K := by rfl) : UnR X (unaryOp .USub) (rP1 K negV) := by
  intro pins s σ H x v Q I rx h
  obtain ⟨M, d1, d, h1, fr, e, g⟩ := h
  unfold negV at e
  split at e
  · cases e
    cases vv_int h1
    exact un_neg pins s σ H _ v Q I rx ⟨_, rfl, g.int⟩
  · cases e
end
/-! ### comparisons -/
def intsOf : List PV → Option (List Int)
  | [] => some []
  | .int i :: r => (intsOf r).map (i :: ·)
  | _ :: _ => none
theorem intsOf_map (l : List Int) : intsOf (l.map .int) = some l := by
  induction l with
  | nil => rfl
  | cons a l ih => show (intsOf (l.map .int)).map _ = _; rw [ih]; rfl
def ltV : PV → PV → Option PV
  | .int i, .int j => some (.bl (decide (i < j)))
  | .tup a, .tup b => match intsOf a, intsOf b with
    | some l, some m => some (.bl (HT.lexLt l m))
    | _, _ => none
  | _, _ => none
def leV : PV → PV → Option PV
  | .int i, .int j => some (.bl (decide (i ≤ j)))
  | _, _ => none
def gtV : PV → PV → Option PV
  | .int i, .int j => some (.bl (decide (j < i)))
  | _, _ => none
def geV : PV → PV → Option PV
  | .int i, .int j => some (.bl (decide (j ≤ i)))
  | _, _ => none
def isNon : PV → Bool
  | .non => true
  | _ => false
/-- is None, is True .. -/
def isV : PV → PV → Option PV
  | x, .non => some (.bl (isNon x))
  | .bl a, .bl b => some (.bl (decide (a = b)))
  | _, _ => none
def isntV : PV → PV → Option PV
  | x, .non => some (.bl (!isNon x))
  | _, _ => none
def scalB : PV → Bool
  | .non => true
  | .bl _ => true
  | .int _ => true
  | .str _ => true
  | _ => false
/-- x in y -/
def inV' : PV → PV → Option Bool
  | .str c, .str z => match c.cps.toList with
    | [k] => some (decide (k ∈ z.cps.toList))
    | _ => none
  | d, .lst l => if okD d && okD (.lst l) then some (l.any fun z => eqB z d) else none
  | d, .tup l => if scalB d && l.all scalB then some (l.any fun z => eqB z d) else none
  | d, .dic b ks vs => if keyB b d then some (dfind ks vs d).isSome else none
  | _, _ => none
def inPV (x y : PV) : Option PV := (inV' x y).map .bl
def notInPV (x y : PV) : Option PV := (inV' x y).map fun b => .bl (!b)
section
variable {X : Cx} {K : KT} {M : MS} {H : Hp} {v : V}
theorem ints_vals : ∀ {vs : List V} {ds : List PV} {l : List Int}, rvs K M H vs ds → intsOf ds = some l → vs = l.map V.int
  | [], [], l, _, e => by cases e; rfl
  | v :: vs, .int i :: ds, l, h, e => by
    rw [rvs_cons] at h
    obtain ⟨l', e1, rfl⟩ := Option.map_eq_some_iff.mp e
    rw [rv_int.mp h.1, ints_vals h.2 e1]
    rfl
  | _ :: _, .non :: _, _, _, e => by cases e
  | _ :: _, .bl _ :: _, _, _, e => by cases e
  | _ :: _, .str _ :: _, _, _, e => by cases e
  | _ :: _, .tup _ :: _, _, _, e => by cases e
  | _ :: _, .lst _ :: _, _, _, e => by cases e
  | _ :: _, .dic _ _ _ :: _, _, _, e => by cases e
  | _ :: _, .obj _ _ _ :: _, _, _, e => by cases e
  | [], _ :: _, _, h, _ => by unfold rvs at h; exact h.elim
  | _ :: _, [], _, h, _ => by unfold rvs at h; exact h.elim
theorem op_ltV (hu : X.A.units < cLine) (hK : X.K = K := by rfl) : OpR X (compareOp .Lt) (rP2 K ltV) := by
  obtain ⟨K, Kt⟩ := K; obtain rfl : X.K = K := hK
  intro pins s σ H x y v u Q I rx ry h
  obtain ⟨M, d1, d2, d, h1, h2, fr, e, g⟩ := h
  unfold ltV at e
  split at e
  · cases e
    cases vv_int h1; cases vv_int h2
    exact op_lt pins s σ H _ _ v u Q I rx ry ⟨_, _, rfl, rfl, g.bl⟩
  · split at e
    · rename_i a b l m e1 e2
      cases e
      obtain ⟨p, vs, rfl, n1, g1, r1⟩ := vv_tup h1
      obtain ⟨q, ws, rfl, n2, g2, r2⟩ := vv_tup h2
      have z1 := ints_vals r1 e1
      have z2 := ints_vals r2 e2
      subst z1 z2
      exact op_ltT hu pins s σ H _ _ v u Q I rx ry ⟨p, q, l, m, rfl, rfl, SqT.of g1, SqT.of g2, g.bl⟩
    · cases e
  · cases e
theorem op_leV (hK : X.K = K := by rfl) : OpR X (compareOp .LtE) (rP2 K leV) := by
  intro pins s σ H x y v u Q I rx ry h
  obtain ⟨M, d1, d2, d, h1, h2, fr, e, g⟩ := h
  unfold leV at e
  split at e
  · cases e
    cases vv_int h1; cases vv_int h2
    exact op_le pins s σ H _ _ v u Q I rx ry ⟨_, _, rfl, rfl, g.bl⟩
  · cases e
theorem op_gtV (hK : X.K = K := by rfl) : OpR X (compareOp .Gt) (rP2 K gtV) := by
  intro pins s σ H x y v u Q I rx ry h
  obtain ⟨M, d1, d2, d, h1, h2, fr, e, g⟩ := h
  unfold gtV at e
  split at e
  · cases e
    cases vv_int h1; cases vv_int h2
    exact op_gt pins s σ H _ _ v u Q I rx ry ⟨_, _, rfl, rfl, g.bl⟩
  · cases e
theorem op_geV (hK : X.K = K := by rfl) : OpR X (compareOp .GtE) (rP2 K geV) := by
  intro pins s σ H x y v u Q I rx ry h
  obtain ⟨M, d1, d2, d, h1, h2, fr, e, g⟩ := h
  unfold geV at e
  split at e
  · cases e
    cases vv_int h1; cases vv_int h2
    exact op_ge pins s σ H _ _ v u Q I rx ry ⟨_, _, rfl, rfl, g.bl⟩
  · cases e
theorem isNon_v : ∀ {d : PV}, vv K M H v d → decide (v = .non) = isNon d
  | .non, h => by rw [vv_non h]; rfl
  | .bl _, h => by rw [vv_bl h]; rfl
  | .int _, h => by rw [vv_int h]; rfl
  | .str _, h => by rw [(vv_str h).1]; rfl
  | .tup _, h => by obtain ⟨a, _, rfl, _⟩ := vv_tup h; rfl
  | .lst _, h => by obtain ⟨a, _, rfl, _⟩ := h; rfl
  | .dic _ _ _, h => by obtain ⟨a, _, rfl, _⟩ := h; rfl
  | .obj _ _ _, h => by obtain ⟨a, _, _, rfl, _⟩ := h; rfl
theorem op_isV (hK : X.K = K := by rfl) : OpR X (compareOp .Is) (rP2 K isV) := by
  intro pins s σ H x y v u Q I rx ry h
  obtain ⟨M, d1, d2, d, h1, h2, fr, e, g⟩ := h
  unfold isV at e
  split at e
  · cases e
    cases vv_non h2
    refine op_isN pins s σ H _ _ v u Q I rx ry ⟨rfl, ?_⟩
    rw [isNon_v h1]
    exact g.bl
  · cases e
    cases vv_bl h1; cases vv_bl h2
    exact op_is_bl pins s σ H _ _ v u Q I rx ry ⟨_, _, rfl, rfl, g.bl⟩
  · cases e
theorem op_isntV (hK : X.K = K := by rfl) : OpR X (compareOp .IsNot) (rP2 K isntV) := by
  intro pins s σ H x y v u Q I rx ry h
  obtain ⟨M, d1, d2, d, h1, h2, fr, e, g⟩ := h
  unfold isntV at e
  split at e
  · cases e
    cases vv_non h2
    refine op_notN pins s σ H _ _ v u Q I rx ry ⟨rfl, ?_⟩
    rw [isNon_v h1]
    exact g.bl
  · cases e
theorem datas_any (l : List PV) (p : PyData → Bool) : (datas l).any p = l.any fun z => p z.data := by
  induction l with
  | nil => unfold datas; rfl
  | cons a l ih => unfold datas; rw [List.any_cons, List.any_cons, ih]
theorem scal_flat : ∀ {d : PV}, scalB d = true → vv K M H v d → flatV v = true
  | .non, _, h => by rw [vv_non h]; rfl
  | .bl _, _, h => by rw [vv_bl h]; rfl
  | .int _, _, h => by rw [vv_int h]; rfl
  | .str _, _, h => by rw [(vv_str h).1]; rfl
  | .tup _, f, _ => by cases f
  | .lst _, f, _ => by cases f
  | .dic _ _ _, f, _ => by cases f
  | .obj _ _ _, f, _ => by cases f
theorem scal_eq : ∀ {d e : PV} {u : V}, scalB d = true → scalB e = true → vv K M H v d → rv K M H u e → L2.eqV v u = eqB d e := by
  intro d e u f1 f2 h1 h2
  have h2 := vv_of h2
  cases d <;> (first | cases f1 | skip) <;> cases e <;> (first | cases f2 | skip) <;> (
    first
    | rw [vv_non h1] | rw [vv_bl h1] | rw [vv_int h1] | rw [(vv_str h1).1]) <;> (
    first
    | rw [vv_non h2] | rw [vv_bl h2] | rw [vv_int h2] | rw [(vv_str h2).1]) <;> simp only [L2.eqV, eqB, PV.data, PyData.eqv]
theorem scal_any {d : PV} {u : V} (f : scalB d = true) (h : vv K M H u d) : ∀ {vs : List V} {ds : List PV}, ds.all scalB = true → rvs K M H vs ds → vs.all flatV = true ∧ inV u vs = ds.any fun z => eqB z d := by
  intro vs ds
  induction ds generalizing vs with
  | nil => intro _ r; have := rvs_len r; cases List.eq_nil_of_length_eq_zero this; exact ⟨rfl, rfl⟩
  | cons e ds ih =>
    intro hf r
    cases vs with
    | nil => unfold rvs at r; exact r.elim
    | cons w vs =>
      rw [rvs_cons] at r
      rw [List.all_cons, Bool.and_eq_true] at hf
      obtain ⟨g1, g2⟩ := ih hf.2 r.2
      have k1 := scal_flat hf.1 (vv_of r.1)
      have k2 : L2.eqV w u = eqB e d := by
        have hd : rv K M H u d := by
          cases d <;> first | exact h | cases f
        exact scal_eq hf.1 f (vv_of r.1) hd
      refine ⟨by rw [List.all_cons, k1, g1]; rfl, ?_⟩
      show (L2.eqV w u || inV u vs) = _
      rw [k2, g2, List.any_cons]
theorem op_inX (neg : Bool) (hu : X.A.units + 65 < cLine) (hK : X.K = K := by rfl) : OpR X (compareOp (if neg then .NotIn else .In)) (rP2 K fun x y => (inV' x y).map fun b => .bl (if neg then !b else b)) := by
  obtain ⟨K, Kt⟩ := K; obtain rfl : X.K = K := hK
  intro pins s σ H x y v u Q I rx ry h
  obtain ⟨M, d1, d2, d, h1, h2, fr, e0, g⟩ := h
  obtain ⟨b, e, ed⟩ := Option.map_eq_some_iff.mp e0
  subst ed
  clear e0
  have g := g.bl
  unfold inV' at e
  split at e
  · split at e
    · rename_i c z _ k hk
      cases e
      obtain ⟨rfl, _⟩ := vv_str h1
      obtain ⟨rfl, _⟩ := vv_str h2
      have hc : c = ⟨#[k]⟩ := by
        obtain ⟨cp⟩ := c
        congr 1
        have : cp.toList = [k] := hk
        rw [← Array.toArray_toList (xs := cp), this]
      subst hc
      cases neg
      · exact op_inS pins s σ H _ _ v u Q I rx ry ⟨k, z, rfl, rfl, g⟩
      · exact op_notInS pins s σ H _ _ v u Q I rx ry ⟨k, z, rfl, rfl, g⟩
    · cases e
  · split at e
    · rename_i l hc
      cases e
      rw [Bool.and_eq_true] at hc
      obtain ⟨p1, p2⟩ := okD_dp hc.1 h1
      obtain ⟨q1, q2⟩ := okD_dp hc.2 h2
      have ea : (l.any fun z => eqB z d1) = (datas l).any fun z => PyData.eqv z d1.data := (datas_any l (fun z => PyData.eqv z d1.data)).symm
      rw [ea] at g
      unfold PV.data at q1 q2
      cases neg
      · exact op_inD hu pins s σ H _ _ v u Q I rx ry ⟨_, _, p1, q1, p2, q2, g⟩
      · exact op_notInD hu pins s σ H _ _ v u Q I rx ry ⟨_, _, p1, q1, p2, q2, g⟩
    · cases e
  · split at e
    · rename_i l hc
      cases e
      rw [Bool.and_eq_true] at hc
      obtain ⟨p, vs, rfl, n1, g1, r1⟩ := vv_tup h2
      obtain ⟨k1, k2⟩ := scal_any hc.1 h1 hc.2 r1
      have k3 := scal_flat hc.1 h1
      cases neg
      · refine op_in_seq pins s σ H _ _ v u Q I rx ry ⟨p, vs, rfl, .inr (SqT.of g1), k3, k1, ?_⟩
        rw [k2]
        exact g
      · refine op_notIn_seq pins s σ H _ _ v u Q I rx ry ⟨p, vs, rfl, .inr (SqT.of g1), k3, k1, ?_⟩
        rw [k2]
        exact g
    · cases e
  · split at e
    · rename_i b ks ds hk
      cases e
      obtain ⟨a, vs, rfl, hd, r⟩ := h2
      have hu1 : X.A.units + 1 < cLine := by omega
      rcases dget_rel hd r h1 hk with ⟨d, z, e1, g1, _⟩ | ⟨e1, g1⟩
      · rw [e1] at g
        cases neg
        · exact op_inDict hu1 pins s σ H _ _ v u Q I rx ry ⟨a, _, rfl, g1, g⟩
        · exact op_notInDict hu1 pins s σ H _ _ v u Q I rx ry ⟨a, _, rfl, g1, g⟩
      · rw [e1] at g
        cases neg
        · exact op_inDict hu1 pins s σ H _ _ v u Q I rx ry ⟨a, _, rfl, g1, g⟩
        · exact op_notInDict hu1 pins s σ H _ _ v u Q I rx ry ⟨a, _, rfl, g1, g⟩
    · cases e
  · cases e
theorem op_inV (hu : X.A.units + 65 < cLine) (hK : X.K = K := by rfl) : OpR X (compareOp .In) (rP2 K inPV) := op_inX false hu hK
theorem op_notInV (hu : X.A.units + 65 < cLine) (hK : X.K = K := by rfl) : OpR X (compareOp .NotIn) (rP2 K notInPV) := op_inX true hu hK
end
end PM
namespace PM
open PySem PySem.Spec PyProof.Rows L2
open WD (MS upd_none)
/-! ### items, slices -/
def atV : PV → PV → Option PV
  | .lst l, .int i => atI l i
  | .tup l, .int i => atI l i
  | .str z, .int i => if z.length ≤ sizeLine then (atI z.cps.toList i).map fun c => .str ⟨#[c]⟩ else none
  | .dic b ks vs, k => if keyB b k then dfind ks vs k else none
  | _, _ => none
def cutG {α : Type} (xs : List α) (lo hi : Option Int) : List α := (xs.drop (HT.sIx xs.length 0 lo)).take (HT.sIx xs.length xs.length hi - HT.sIx xs.length 0 lo)
def slV (lo hi : Option Int) : PV → Option PV
  | .lst l => some (.lst (cutG l lo hi))
  | .tup l => some (.tup (cutG l lo hi))
  | .str z => if z.length ≤ sizeLine then some (.str (cutS z lo hi)) else none
  | _ => none
def slF (lo hi : Option Int) : PV → Option (List PV)
  | .lst l => some (cutG l lo hi)
  | _ => none
abbrev MO := Sl → Store → R (Option Int)
def oNone : MO := fun _ μ => .ok none μ
def gOpt : Val → Store → R (Option Int)
  | .t (.int i), μ => .ok (some i) μ
  | _, _ => .stuck
def oSome (f : ME) : MO := e1 gOpt f
def eSl {α : Type} (g : Option Int → Option Int → Val → Store → R α) (a : ME) (lo hi : MO) : Sl → Store → R α := fun σ μ => (a σ μ).bind fun w μ1 => (lo σ μ1).bind fun l μ2 => (hi σ μ2).bind fun h μ3 => g l h w μ3
def tO (K : KT) (ξ : Xi) (W : WX) (f : MO) : TO := fun σr H Q => ∃ N ζ μ σ, Wd K N ζ μ H ∧ Sok K ξ ζ (MM N ζ μ) H σr σ ∧ PostT K W N ζ μ H σr Q (f σ μ)
abbrev IO (K : KT) (ξ : Xi) (W : WX) (X : Cx) (e : Option Expr) (f : MO) : Prop := PO X e (tO K ξ W f)
theorem PO.of {X : Cx} {e : Option Expr} {t t' : TO} (h : PO X e t) (k : ∀ σ H Q, t' σ H Q → t σ H Q) : PO X e t' := ⟨fun pins s σ H Q I q => h.run pins s σ H Q I (k σ H Q q)⟩
section
variable {X : Cx} {K : KT} {ξ : Xi} {W : WX} {M : MS} {H : Hp} {v : V} {a b e : Expr} {fa fb : ME} {pos : Pos}
theorem rvs_atI {vs : List V} {ds : List PV} {i : Int} {d : PV} (h : rvs K M H vs ds) (e : atI ds i = some d) : ∃ v, atI vs i = some v ∧ rv K M H v d := by
  unfold atI at e ⊢
  rw [rvs_len h]
  cases e2 : ixN ds.length i with
  | none => rw [e2] at e; cases e
  | some j =>
    rw [e2] at e
    obtain ⟨v, h1, h2⟩ := rvs_at h e
    exact ⟨v, h1, h2⟩
theorem rvs_cut {vs : List V} {ds : List PV} (h : rvs K M H vs ds) (lo hi : Option Int) : rvs K M H (cutV vs lo hi) (cutG ds lo hi) := by
  unfold cutV cutG
  rw [rvs_len h]
  exact rvs_take _ (rvs_drop _ h)
theorem strOk_sub {z : Str} {l : List Nat} (h : PyData.strOk z = true) (s : ∀ c ∈ l, c ∈ z.cps.toList) : PyData.strOk ⟨l.toArray⟩ = true := by
  unfold PyData.strOk at *
  rw [Array.all_eq_true_iff_forall_mem] at h ⊢
  intro c hc
  exact h c (by rw [← Array.mem_toList_iff]; exact s c (by simpa using hc))
theorem ix_V (hu : X.A.units + 1 < cLine) (hK : X.K = K := by rfl) : IxR X (rP2 K atV) := by
  obtain ⟨K, Kt⟩ := K; obtain rfl : X.K = K := hK
  intro val sl pins s σ H x y v u Q I rx ry h hs
  obtain ⟨M, d1, d2, d, h1, h2, fr, e, g⟩ := h
  unfold atV at e
  split at e
  · obtain ⟨p, vs, rfl, g1, r1⟩ := h1
    cases vv_int h2
    obtain ⟨z, z1, z2⟩ := rvs_atI r1 e
    exact ix_list val sl pins s σ H _ _ v u Q I rx ry ⟨p, vs, _, z, rfl, rfl, SqL.of g1, z1, g H _ Grow.refl z2⟩ hs
  · obtain ⟨p, vs, rfl, n1, g1, r1⟩ := vv_tup h1
    cases vv_int h2
    obtain ⟨z, z1, z2⟩ := rvs_atI r1 e
    exact ix_tup val sl pins s σ H _ _ v u Q I rx ry ⟨p, vs, _, z, rfl, rfl, SqT.of g1, z1, g H _ Grow.refl z2⟩ hs
  · split at e
    · rename_i z i hz
      obtain ⟨rfl, so⟩ := vv_str h1
      cases vv_int h2
      obtain ⟨c, c1, c2⟩ := Option.map_eq_some_iff.mp e
      subst c2
      refine ix_str val sl pins s σ H _ _ v u Q I rx ry ⟨z, i, c, rfl, rfl, hz, c1, g.str (strOk_sub (l := [c]) so fun c' hc' => ?_)⟩ hs
      rw [List.mem_singleton.mp hc']
      unfold atI at c1
      cases e2 : ixN z.cps.toList.length i with
      | none => rw [e2] at c1; cases c1
      | some j => rw [e2] at c1; exact List.mem_of_getElem? c1
    · cases e
  · split at e
    · rename_i b ks ds k hk
      obtain ⟨a, vs, rfl, hd, r⟩ := h1
      rcases dget_rel hd r h2 hk with ⟨d', z, e1, g1, r1⟩ | ⟨e1, g1⟩
      · rw [e1] at e
        cases e
        exact ix_dict hu val sl pins s σ H _ _ v u Q I rx ry ⟨a, z, rfl, g1, g H _ Grow.refl r1⟩ hs
      · rw [e1] at e
        cases e
    · cases e
  · cases e
theorem i_ix (hu : X.A.units + 1 < cLine) (ha : IE K ξ W X a fa) (hb : IE K ξ W X b fb) (hp : PlainIx b) (hK : X.K = K := by rfl) : IE K ξ W X (.Subscript a b pos) (e2 (p2 atV) fa fb) := PE.of (pe_ix (ix_V hu hK) ha hb hp) fun σr H Q q => by
  obtain ⟨N, ζ, μ, σ, wd, so, q⟩ := q
  refine (then1 wd so q).mono fun x H1 ⟨ζ1, μ1, w1, ev1, wd1, so1, r1, q1⟩ => ?_
  refine (then1 wd1 so1 q1).mono fun y H2 ⟨ζ2, μ2, w2, ev2, wd2, so2, r2, q2⟩ => ?_
  exact read_p2 wd2 (r1.ev ev2) r2 q2
theorem sl_V (hK : X.K = K := by rfl) : SlR X (fun x lo hi H Q => rP1 K (slV lo hi) x H Q) := by
  obtain ⟨K, Kt⟩ := K; obtain rfl : X.K = K := hK
  intro pins s σ H x v vl vu lo hi sl Q I rx hsl hl hu h
  obtain ⟨M, d1, d, h1, fr, e, g⟩ := h
  unfold slV at e
  split at e
  · cases e
    obtain ⟨p, vs, rfl, g1, r1⟩ := h1
    exact sl_list pins s σ H _ v vl vu lo hi sl Q I rx hsl hl hu ⟨p, vs, rfl, SqL.of g1, fun q hq => g.lst fr (rvs_cut r1 lo hi) hq⟩
  · cases e
    rename_i l
    obtain ⟨p, vs, rfl, n1, g1, r1⟩ := vv_tup h1
    refine sl_tupA pins s σ H _ v vl vu lo hi sl Q I rx hsl hl hu ⟨p, vs, rfl, SqT.of g1, fun z => ?_, fun _ q hq => g.tup fr (rvs_cut r1 lo hi) hq⟩
    have ec : cutG l lo hi = l := by
      unfold cutG
      rw [← rvs_len r1, z.1, z.2, List.drop_zero, Nat.sub_zero, rvs_len r1, List.take_length]
    rw [ec] at g
    exact g H _ Grow.refl (rv_tup.mpr ⟨p, vs, rfl, n1, g1, r1⟩)
  · split at e
    · cases e
      obtain ⟨rfl, so⟩ := vv_str h1
      refine sl_str pins s σ H _ v vl vu lo hi sl Q I rx hsl hl hu ⟨_, rfl, by assumption, g.str ?_⟩
      exact strOk_sub so fun c hc => List.mem_of_mem_drop (List.mem_of_mem_take hc)
    · cases e
  · cases e
theorem sl_F (hK : X.K = K := by rfl) : SlR X (fun x lo hi H Q => rPF1 K (slF lo hi) x H Q) := by
  obtain ⟨K, Kt⟩ := K; obtain rfl : X.K = K := hK
  intro pins s σ H x v vl vu lo hi sl Q I rx hsl hl hu h
  obtain ⟨M, d1, d, h1, fr, e, g⟩ := h
  unfold slF at e
  split at e
  · cases e
    obtain ⟨p, vs, rfl, g1, r1⟩ := h1
    exact sl_list pins s σ H _ v vl vu lo hi sl Q I rx hsl hl hu ⟨p, vs, rfl, SqL.of g1, fun q hq => g.lst (rvs_cut r1 lo hi) hq⟩
  · cases e
theorem o_none : IO K ξ W X none oNone := PO.of po_none fun σr H Q q => by
  obtain ⟨N, ζ, μ, σ, wd, so, q⟩ := q
  exact q ζ H Ev.refl wd
theorem o_some (ha : IE K ξ W X a fa) : IO K ξ W X (some a) (oSome fa) := PO.of (po_some ha) fun σr H Q q => by
  obtain ⟨N, ζ, μ, σ, wd, so, q⟩ := q
  refine (then1T wd so q).mono fun x H1 ⟨ζ1, μ1, w1, ev1, wd1, so1, r1, q1⟩ => ?_
  unfold gOpt at q1
  split at q1
  · rename_i i
    exact ⟨i, rv_int.mp (show rv K (MM N ζ1 μ1) H1 x (.int i) from r1), q1 ζ1 H1 Ev.refl wd1⟩
  · exact q1.elim
variable {N : MS} {ζ : List Addr} {μ : Store} {σr : L2.St} {σ : Sl}
theorem thenO {Q : VK} {t : MO} {g : Option Int → Store → R Val} (wd : Wd K N ζ μ H) (so : Sok K ξ ζ (MM N ζ μ) H σr σ) (h : PostE K ξ W N ζ μ H σr Q ((t σ μ).bind g)) :
    tO K ξ W t σr H fun b H1 => ∃ ζ1 μ1, Ev K.tb ζ μ H ζ1 μ1 H1 ∧ Wd K N ζ1 μ1 H1 ∧ Sok K ξ ζ1 (MM N ζ1 μ1) H1 σr σ ∧ PostE K ξ W N ζ1 μ1 H1 σr Q (g b μ1) := by
  refine ⟨N, ζ, μ, σ, wd, so, ?_⟩
  cases e : t σ μ with
  | ok w1 μ1 => rw [e] at h; exact fun ζ' H' ev w => ⟨ζ', μ1, ev, w, so.ev ev, h.ev ev⟩
  | ex c f μ1 => rw [e] at h; exact h
  | stuck => rw [e] at h; exact h
theorem thenOF {Q : VK} {t : MO} {g : Option Int → Store → R (List PV)} (wd : Wd K N ζ μ H) (so : Sok K ξ ζ (MM N ζ μ) H σr σ) (h : PostF K W N ζ μ H σr Q ((t σ μ).bind g)) :
    tO K ξ W t σr H fun b H1 => ∃ ζ1 μ1, Ev K.tb ζ μ H ζ1 μ1 H1 ∧ Wd K N ζ1 μ1 H1 ∧ Sok K ξ ζ1 (MM N ζ1 μ1) H1 σr σ ∧ PostF K W N ζ1 μ1 H1 σr Q (g b μ1) := by
  refine ⟨N, ζ, μ, σ, wd, so, ?_⟩
  cases e : t σ μ with
  | ok w1 μ1 => rw [e] at h; exact fun ζ' H' ev w => ⟨ζ', μ1, ev, w, so.ev ev, h.ev ev⟩
  | ex c f μ1 => rw [e] at h; exact h
  | stuck => rw [e] at h; exact h
theorem tO.mono {t : MO} {Q Q' : Option Int → Hp → Prop} (h : tO K ξ W t σr H Q) (k : ∀ v H', Q v H' → Q' v H') : tO K ξ W t σr H Q' := by
  obtain ⟨N, ζ, μ, σ, wd, so, h⟩ := h
  refine ⟨N, ζ, μ, σ, wd, so, ?_⟩
  cases e : t σ μ with
  | ok w1 μ1 => rw [e] at h; exact fun ζ' H' ev w => k _ _ (h ζ' H' ev w)
  | ex c f μ1 => rw [e] at h; exact h
  | stuck => rw [e] at h; exact h
theorem i_sl {lo hi : Option Expr} {fl fh : MO} {p2 : Pos} (ha : IE K ξ W X a fa) (hl : IO K ξ W X lo fl) (hh : IO K ξ W X hi fh) (hK : X.K = K := by rfl) : IE K ξ W X (.Subscript a (.Slice lo hi none p2) pos) (eSl (fun l h => p1 (slV l h)) fa fl fh) := PE.of (pe_slice (sl_V hK) ha hl hh) fun σr H Q q => by
  obtain ⟨N, ζ, μ, σ, wd, so, q⟩ := q
  refine (then1 wd so q).mono fun x H1 ⟨ζ1, μ1, w1, ev1, wd1, so1, r1, q1⟩ => ?_
  refine (thenO wd1 so1 q1).mono fun l H2 ⟨ζ2, μ2, ev2, wd2, so2, q2⟩ => ?_
  refine (thenO wd2 so2 q2).mono fun h H3 ⟨ζ3, μ3, ev3, wd3, so3, q3⟩ => ?_
  exact read_p1 wd3 ((r1.ev ev2).ev ev3) q3
theorem f_sl {lo hi : Option Expr} {fl fh : MO} {p2 : Pos} (ha : IE K ξ W X a fa) (hl : IO K ξ W X lo fl) (hh : IO K ξ W X hi fh) (hK : X.K = K := by rfl) : IF K ξ W X (.Subscript a (.Slice lo hi none p2) pos) (eSl (fun l h => pf1 (slF l h)) fa fl fh) := PE.of (pe_slice (sl_F hK) ha hl hh) fun σr H Q q => by
  obtain ⟨N, ζ, μ, σ, wd, so, q⟩ := q
  refine (then1F wd so q).mono fun x H1 ⟨ζ1, μ1, w1, ev1, wd1, so1, r1, q1⟩ => ?_
  refine (thenOF wd1 so1 q1).mono fun l H2 ⟨ζ2, μ2, ev2, wd2, so2, q2⟩ => ?_
  refine (thenOF wd2 so2 q2).mono fun h H3 ⟨ζ3, μ3, ev3, wd3, so3, q3⟩ => ?_
  exact read_pf1 wd3 ((r1.ev ev2).ev ev3) q3
/-- x[::-1] -/
def revV : PV → Option PV
  | .lst l => some (.lst l.reverse)
  | .tup l => some (.tup l.reverse)
  | _ => none
theorem i_rev {k : Nat} {p1 p2 p3 : Pos} (ha : IE K ξ W X a fa) (hK : X.K = K := by rfl) : IE K ξ W X (.Subscript a (.Slice none none (some (.UnaryOp .USub (.Constant (.int 1) k p1) p2)) p3) pos) (e1 (PM.p1 revV) fa) := by
  obtain ⟨K, Kt⟩ := K; obtain rfl : X.K = K := hK
  refine PE.pick fun σr H Q q => ?_
  obtain ⟨N, ζ, μ, σ, wd, so, q⟩ := q
  have key := then1 wd so q
  cases ea : fa σ μ with
  | ex c f μ1 =>
    refine ⟨_, pe_revL ha, ?_⟩
    refine ⟨N, ζ, μ, σ, wd, so, ?_⟩
    unfold e1 at q
    rw [ea] at q ⊢
    exact q
  | stuck =>
    unfold e1 at q
    rw [ea] at q
    exact q.elim
  | ok w μ1 =>
    unfold e1 at q
    rw [ea] at q
    have q' : PostE ⟨X.K, Kt⟩ ξ W N ζ μ H σr Q (PM.p1 revV w μ1) := q
    cases ev : view μ1 w with
    | none => unfold PM.p1 at q'; rw [ev] at q'; exact q'.elim
    | some d =>
      cases d with
      | lst l =>
        refine ⟨_, pe_revL ha, ⟨N, ζ, μ, σ, wd, so, ?_⟩⟩
        rw [ea]
        intro ζ' H' v ev1 wd1 r1
        obtain ⟨M, d1, d, h1, fr, e2, g⟩ := read_p1 wd1 r1 (q'.ev ev1)
        obtain ⟨p, vs, rfl, g1, r2⟩ := r1.view wd1 ev
        refine ⟨p, vs, rfl, SqL.of g1, fun q hq => ?_⟩
        refine q'.ev ev1 |> fun z => ?_
        unfold PM.p1 at z
        rw [ev] at z
        exact (postE_p wd1 z).lst wd1.fre (rvs_rev r2) hq
      | tup l =>
        refine ⟨_, WD.pe_revT ha, ⟨N, ζ, μ, σ, wd, so, ?_⟩⟩
        rw [ea]
        intro ζ' H' v ev1 wd1 r1
        obtain ⟨p, vs, rfl, n1, g1, r2⟩ := vv_tup (r1.view wd1 ev)
        refine ⟨p, vs, rfl, SqT.of g1, fun q hq => ?_⟩
        refine q'.ev ev1 |> fun z => ?_
        unfold PM.p1 at z
        rw [ev] at z
        exact (postE_p wd1 z).tup wd1.fre (rvs_rev r2) hq
      | non => unfold PM.p1 at q'; rw [ev] at q'; exact q'.elim
      | bl _ => unfold PM.p1 at q'; rw [ev] at q'; exact q'.elim
      | int _ => unfold PM.p1 at q'; rw [ev] at q'; exact q'.elim
      | str _ => unfold PM.p1 at q'; rw [ev] at q'; exact q'.elim
      | dic _ _ _ => unfold PM.p1 at q'; rw [ev] at q'; exact q'.elim
      | obj _ _ _ => unfold PM.p1 at q'; rw [ev] at q'; exact q'.elim
theorem i_un {op : UnaryOp} {g : PV → Option PV} (r : UnR X (unaryOp op) (rP1 K g)) (ha : IE K ξ W X a fa) : IE K ξ W X (.UnaryOp op a pos) (e1 (p1 g) fa) := PE.of (pe_un r ha) fun σr H Q q => by
  obtain ⟨N, ζ, μ, σ, wd, so, q⟩ := q
  refine (then1 wd so q).mono fun x H1 ⟨ζ1, μ1, w1, ev1, wd1, so1, r1, q1⟩ => ?_
  exact read_p1 wd1 r1 q1
/-- a < b < c -/
def eChain (g h : PV → PV → Option PV) (a b c : ME) : ME := fun σ μ => (a σ μ).bind fun w μ1 => (b σ μ1).bind fun u μ2 => (p2 g w u μ2).bind (gBl fun k μ3 => if k then (c σ μ3).bind fun z μ4 => p2 h u z μ4 else .ok (.t (.bl false)) μ3)
end
end PM
namespace PM
open PySem PySem.Spec PyProof.Rows L2
open WD (MS upd_none)
section
variable {X : Cx} {K : KT} {ξ : Xi} {W : WX} {N : MS} {ζ : List Addr} {μ : Store} {H : Hp} {σr : L2.St} {σ : Sl} {v : V} {a b c e : Expr} {es : List Expr} {fa fb fc : ME} {fs : Sl → Store → R (List Val)} {pos : Pos}
/-- a pure operator, then a step -/
theorem read_p2then {x y : V} {w u : Val} {g : PV → PV → Option PV} {Q : VK} {k : Val → Store → R Val} (wd : Wd K N ζ μ H) (r : RV K ξ ζ (MM N ζ μ) H x w) (r' : RV K ξ ζ (MM N ζ μ) H y u) (h : PostE K ξ W N ζ μ H σr Q ((p2 g w u μ).bind k)) :
    rP2 K g x y H fun z H' => ∃ d, Grow H H' ∧ rv K (MM N ζ μ) H' z d ∧ PostE K ξ W N ζ μ H' σr Q (k (.t d) μ) := by
  unfold p2 at h
  split at h
  · rename_i d d2 e e'
    cases e2 : g d d2 with
    | none => rw [e2] at h; exact h.elim
    | some d' =>
      rw [e2] at h
      exact ⟨_, d, d2, d', r.view wd e, r'.view wd e', wd.fre, e2, fun H' v gr rr => ⟨d', gr, rr, PostE.ev gr.ev h⟩⟩
  · exact h.elim
theorem i_chain {op op' : CmpOp} {g h : PV → PV → Option PV} (r : OpR X (compareOp op) (rP2 K g)) (r' : OpR X (compareOp op') (rP2 K h)) (ha : IE K ξ W X a fa) (hb : IE K ξ W X b fb) (hc : IE K ξ W X c fc) (hm : lastMarks [op, op'] [b, c] = false := by rfl) :
    IE K ξ W X (.Compare a [op, op'] [b, c] pos) (eChain g h fa fb fc) := PE.of (pe_chain r r' ha hb hc hm) fun σr H Q q => by
  obtain ⟨N, ζ, μ, σ, wd, so, q⟩ := q
  refine (then1 wd so q).mono fun x H1 ⟨ζ1, μ1, w1, ev1, wd1, so1, r1, q1⟩ => ?_
  refine (then1 wd1 so1 q1).mono fun y H2 ⟨ζ2, μ2, w2, ev2, wd2, so2, r2, q2⟩ => ?_
  obtain ⟨M, d1, d2, d, h1, h2, fr, e, gv⟩ := read_p2then wd2 (r1.ev ev2) r2 q2
  refine ⟨M, d1, d2, d, h1, h2, fr, e, fun H' z gr rz => ?_⟩
  obtain ⟨d', gr', rz', q3⟩ := gv H' z gr rz
  have wd3 := wd2.fr0 gr'
  obtain ⟨k, hk, q3⟩ := PostE.bl (w := .t d') wd3 rz' q3
  refine ⟨k, hk, ?_⟩
  cases k with
  | false => exact iteF (q3 ζ2 H' _ Ev.refl wd3 RV.blI)
  | true =>
    refine iteT ?_
    refine (then1 wd3 (so2.ev gr'.ev) q3).mono fun z H3 ⟨ζ3, μ3, w3, ev3, wd4, so3, r3, q4⟩ => ?_
    exact read_p2 wd4 ((r2.ev gr'.ev).ev ev3) r3 q4
theorem t_chain {op op' : CmpOp} {g h : PV → PV → Option PV} (r : OpR X (compareOp op) (rP2 K g)) (r' : OpR X (compareOp op') (rP2 K h)) (ha : IE K ξ W X a fa) (hb : IE K ξ W X b fb) (hc : IE K ξ W X c fc) (hm : lastMarks [op, op'] [b, c] = false := by rfl) :
    IT K ξ W X (.Compare a [op, op'] [b, c] pos) (tVal (eChain g h fa fb fc)) := PT.of (pt_chain r r' ha hb hc hm) fun σr H Q q => by
  obtain ⟨N, ζ, μ, σ, wd, so, q⟩ := q
  have q' := then1T (a := eChain g h fa fb fc) wd so q
  obtain ⟨N', ζ', μ', σ', wd', so', q'⟩ := q'
  refine (then1 wd' so' q').mono fun x H1 ⟨ζ1, μ1, w1, ev1, wd1, so1, r1, q1⟩ => ?_
  refine (then1 wd1 so1 q1).mono fun y H2 ⟨ζ2, μ2, w2, ev2, wd2, so2, r2, q2⟩ => ?_
  obtain ⟨M, d1, d2, d, h1, h2, fr, e, gv⟩ := read_p2then wd2 (r1.ev ev2) r2 q2
  refine ⟨M, d1, d2, d, h1, h2, fr, e, fun H' z gr rz => ?_⟩
  obtain ⟨d', gr', rz', q3⟩ := gv H' z gr rz
  have wd3 := wd2.fr0 gr'
  obtain ⟨k, hk, q3⟩ := PostE.bl (w := .t d') wd3 rz' q3
  refine ⟨k, hk, ?_⟩
  have fin : ∀ {z : V} {H3 : Hp}, (∃ ζ1 μ1 w1, Ev K.tb ζ μ H ζ1 μ1 H3 ∧ Wd K N ζ1 μ1 H3 ∧ Sok K ξ ζ1 (MM N ζ1 μ1) H3 σr σ ∧ RV K ξ ζ1 (MM N ζ1 μ1) H3 z w1 ∧ PostT K W N ζ1 μ1 H3 σr Q (gBl (fun c μ1 => .ok c μ1) w1 μ1)) → ∃ k, z = .bl k ∧ Q k H3 := by
    rintro z H3 ⟨ζ5, μ5, w5, ev5, wd5, so5, r5, q5⟩
    obtain ⟨c, hc, q5⟩ := PostT.bl wd5 r5 q5
    exact ⟨c, hc, q5 ζ5 H3 Ev.refl wd5⟩
  cases k with
  | false => exact iteF (fin (q3 ζ2 H' _ Ev.refl wd3 RV.blI))
  | true =>
    refine iteT ?_
    refine (then1 wd3 (so2.ev gr'.ev) q3).mono fun z H3 ⟨ζ3, μ3, w3, ev3, wd4, so3, r3, q4⟩ => ?_
    obtain ⟨M, d1, d2, d, h1, h2, h3, h4, h5⟩ := read_p2 wd4 ((r2.ev gr'.ev).ev ev3) r3 q4
    exact ⟨M, d1, d2, d, h1, h2, h3, h4, fun H4 v4 g4 r4 => fin (h5 H4 v4 g4 r4)⟩

/-! ### built-in calls -/
theorem i_callB {x : Str} {p : Pos} {id : String} {g : List PV → Option PV} (r : CallR X (.builtin id) (rPN K g)) (hg : Gl X x) (hm : X.mg x = none) (hb : bootBuiltins x = some (.builtin id)) (ha : IA K ξ W X (e :: es) fs) (hn : x ≠ "__name__" := by decide) (hd : (x == ("__debug__" : Str)) = false := by decide)
    (hs : starEach (e :: es) X.env = (false, eval e X.env) :: starEach es X.env := by rfl) (hp : ((backTo pos (starEach es X.env)).any (·.1)) = false := by rfl) : IE K ξ W X (.Call (.Name x p) (e :: es) [] pos) (eN (pN g) fs) := PE.of (pe_callB r hg hm hb ha hn hd hs hp) fun σr H Q q => by
  obtain ⟨N, ζ, μ, σ, wd, so, q⟩ := q
  refine (thenN wd so q).mono fun xs H1 ⟨ζ1, μ1, ws, ev1, wd1, so1, r1, q1⟩ => read_pN wd1 r1 q1
theorem i_callTy {x : Str} {p : Pos} {T : String} {g : List PV → Option PV} (r : CallR X (.type T) (rPN K g)) (hg : Gl X x) (hm : X.mg x = none) (hb : bootBuiltins x = some (.type T)) (ha : IA K ξ W X (e :: es) fs) (hn : x ≠ "__name__" := by decide) (hd : (x == ("__debug__" : Str)) = false := by decide)
    (hs : starEach (e :: es) X.env = (false, eval e X.env) :: starEach es X.env := by rfl) (hp : ((backTo pos (starEach es X.env)).any (·.1)) = false := by rfl) : IE K ξ W X (.Call (.Name x p) (e :: es) [] pos) (eN (pN g) fs) := PE.of (pe_callTy r hg hm hb ha hn hd hs hp) fun σr H Q q => by
  obtain ⟨N, ζ, μ, σ, wd, so, q⟩ := q
  refine (thenN wd so q).mono fun xs H1 ⟨ζ1, μ1, ws, ev1, wd1, so1, r1, q1⟩ => read_pN wd1 r1 q1
theorem f_callB {x : Str} {p : Pos} {id : String} {g : List PV → Option (List PV)} (r : CallR X (.builtin id) (rPFN K g)) (hg : Gl X x) (hm : X.mg x = none) (hb : bootBuiltins x = some (.builtin id)) (ha : IA K ξ W X (e :: es) fs) (hn : x ≠ "__name__" := by decide) (hd : (x == ("__debug__" : Str)) = false := by decide)
    (hs : starEach (e :: es) X.env = (false, eval e X.env) :: starEach es X.env := by rfl) (hp : ((backTo pos (starEach es X.env)).any (·.1)) = false := by rfl) : IF K ξ W X (.Call (.Name x p) (e :: es) [] pos) (eN (pfN g) fs) := PE.of (pe_callB r hg hm hb ha hn hd hs hp) fun σr H Q q => by
  obtain ⟨N, ζ, μ, σ, wd, so, q⟩ := q
  refine (thenNF wd so q).mono fun xs H1 ⟨ζ1, μ1, ws, ev1, wd1, so1, r1, q1⟩ => read_pfN wd1 r1 q1
theorem f_callTy {x : Str} {p : Pos} {T : String} {g : List PV → Option (List PV)} (r : CallR X (.type T) (rPFN K g)) (hg : Gl X x) (hm : X.mg x = none) (hb : bootBuiltins x = some (.type T)) (ha : IA K ξ W X (e :: es) fs) (hn : x ≠ "__name__" := by decide) (hd : (x == ("__debug__" : Str)) = false := by decide)
    (hs : starEach (e :: es) X.env = (false, eval e X.env) :: starEach es X.env := by rfl) (hp : ((backTo pos (starEach es X.env)).any (·.1)) = false := by rfl) : IF K ξ W X (.Call (.Name x p) (e :: es) [] pos) (eN (pfN g) fs) := PE.of (pe_callTy r hg hm hb ha hn hd hs hp) fun σr H Q q => by
  obtain ⟨N, ζ, μ, σ, wd, so, q⟩ := q
  refine (thenNF wd so q).mono fun xs H1 ⟨ζ1, μ1, ws, ev1, wd1, so1, r1, q1⟩ => read_pfN wd1 r1 q1
end
section
variable {X : Cx} {K : KT} {M : MS} {H : Hp}
theorem vvs1 {xs : List V} {d : PV} (h : vvs K M H xs [d]) : ∃ v, xs = [v] ∧ vv K M H v d := by
  match xs, h with
  | [v], h => exact ⟨v, rfl, h.1⟩
  | [], h => exact h.elim
  | _ :: _ :: _, h => exact h.2.elim
theorem vvs2 {xs : List V} {d e : PV} (h : vvs K M H xs [d, e]) : ∃ v u, xs = [v, u] ∧ vv K M H v d ∧ vv K M H u e := by
  match xs, h with
  | [v, u], h => exact ⟨v, u, rfl, h.1, h.2.1⟩
  | [], h => exact h.elim
  | [_], h => exact h.2.elim
  | _ :: _ :: _ :: _, h => exact h.2.2.elim
/-- len -/
def lenV : List PV → Option PV
  | [.lst l] => some (.int l.length)
  | [.tup l] => some (.int l.length)
  | [.str z] => if z.length ≤ sizeLine then some (.int z.length) else none
  | [.dic _ ks _] => some (.int ks.length)
  | _ => none
theorem cr_lenV (hK : X.K = K := by rfl) : CallR X (.builtin "len") (rPN K lenV) := by
  obtain ⟨K, Kt⟩ := K; obtain rfl : X.K = K := hK
  intro pins s σ H xs us Q I r h
  obtain ⟨M, ds, d, hv, fr, e, g⟩ := h
  unfold lenV at e
  split at e
  · cases e
    obtain ⟨v, rfl, h1⟩ := vvs1 hv
    obtain ⟨p, vs, rfl, g1, r1⟩ := h1
    refine call_len_seq pins s σ H _ us Q I r ⟨p, vs, rfl, .inl (SqL.of g1), ?_⟩
    rw [rvs_len r1]; exact g.int
  · cases e
    obtain ⟨v, rfl, h1⟩ := vvs1 hv
    obtain ⟨p, vs, rfl, _, g1, r1⟩ := vv_tup h1
    refine call_len_seq pins s σ H _ us Q I r ⟨p, vs, rfl, .inr (SqT.of g1), ?_⟩
    rw [rvs_len r1]; exact g.int
  · split at e
    · cases e
      obtain ⟨v, rfl, h1⟩ := vvs1 hv
      obtain ⟨rfl, _⟩ := vv_str h1
      exact call_len_str pins s σ H _ us Q I r ⟨_, rfl, by assumption, g.int⟩
    · cases e
  · rename_i b ks ds
    cases e
    obtain ⟨v, rfl, h1⟩ := vvs1 hv
    obtain ⟨p, vs, rfl, g1, r1⟩ := h1
    cases b with
    | false =>
      obtain ⟨kl, rfl, hl, _, ha⟩ := g1
      have e : (kl.zip vs).length = (kl.map kPV).length := by rw [List.length_zip, ← hl, Nat.min_self, List.length_map]
      refine call_lenD pins s σ H _ us Q I r ⟨p, _, rfl, ha, ?_⟩
      rw [e]; exact g.int
    | true =>
      obtain ⟨kl, rfl, hl, _, ha⟩ := g1
      have e : (kl.zip vs).length = (kl.map fun k => PV.tup (k.map kPV)).length := by rw [List.length_zip, ← hl, Nat.min_self, List.length_map]
      refine call_len_dT pins s σ H _ us Q I r ⟨p, _, rfl, ha, ?_⟩
      rw [e]; exact g.int
  · cases e
/-- max, min of two ints -/
def maxV : List PV → Option PV
  | [.int i, .int j] => some (.int (if j > i then j else i))
  | _ => none
def minV : List PV → Option PV
  | [.int i, .int j] => some (.int (if j < i then j else i))
  | _ => none
theorem cr_maxV (hc : X.calm = true) : CallR X (.builtin "max") (rPN K maxV) := by
  intro pins s σ H xs us Q I r h
  obtain ⟨M, ds, d, hv, fr, e, g⟩ := h
  unfold maxV at e
  split at e
  · cases e
    obtain ⟨v, u, rfl, h1, h2⟩ := vvs2 hv
    cases vv_int h1; cases vv_int h2
    exact call_max2 hc pins s σ H _ us Q I r ⟨_, _, rfl, g.int⟩
  · cases e
theorem cr_minV (hc : X.calm = true) : CallR X (.builtin "min") (rPN K minV) := by
  intro pins s σ H xs us Q I r h
  obtain ⟨M, ds, d, hv, fr, e, g⟩ := h
  unfold minV at e
  split at e
  · cases e
    obtain ⟨v, u, rfl, h1, h2⟩ := vvs2 hv
    cases vv_int h1; cases vv_int h2
    exact call_min2 hc pins s σ H _ us Q I r ⟨_, _, rfl, g.int⟩
  · cases e
/-- int(x) -/
def intV : List PV → Option PV
  | [.int i] => some (.int i)
  | [.bl k] => some (.int (if k then 1 else 0))
  | _ => none
theorem cr_intV : CallR X (.type "int") (rPN K intV) := by
  intro pins s σ H xs us Q I r h
  obtain ⟨M, ds, d, hv, fr, e, g⟩ := h
  unfold intV at e
  split at e
  · cases e
    obtain ⟨v, rfl, h1⟩ := vvs1 hv
    cases vv_int h1
    exact call_int1 pins s σ H _ us Q I r (.inl ⟨_, rfl, g.int⟩)
  · cases e
    obtain ⟨v, rfl, h1⟩ := vvs1 hv
    cases vv_bl h1
    exact call_int1 pins s σ H _ us Q I r (.inr ⟨_, rfl, g.int⟩)
  · cases e
/-- all, any of a list of bools -/
def blsOf : List PV → Option (List Bool)
  | [] => some []
  | .bl i :: r => (blsOf r).map (i :: ·)
  | _ :: _ => none
theorem blsOf_map (l : List Bool) : blsOf (l.map .bl) = some l := by
  induction l with
  | nil => rfl
  | cons a l ih => show (blsOf (l.map .bl)).map _ = _; rw [ih]; rfl
theorem bls_vals : ∀ {vs : List V} {ds : List PV} {l : List Bool}, rvs K M H vs ds → blsOf ds = some l → vs = l.map V.bl
  | [], [], l, _, e => by cases e; rfl
  | v :: vs, .bl i :: ds, l, h, e => by
    rw [rvs_cons] at h
    obtain ⟨l', e1, rfl⟩ := Option.map_eq_some_iff.mp e
    rw [rv_bl.mp h.1, bls_vals h.2 e1]
    rfl
  | _ :: _, .non :: _, _, _, e => by cases e
  | _ :: _, .int _ :: _, _, _, e => by cases e
  | _ :: _, .str _ :: _, _, _, e => by cases e
  | _ :: _, .tup _ :: _, _, _, e => by cases e
  | _ :: _, .lst _ :: _, _, _, e => by cases e
  | _ :: _, .dic _ _ _ :: _, _, _, e => by cases e
  | _ :: _, .obj _ _ _ :: _, _, _, e => by cases e
  | [], _ :: _, _, h, _ => by unfold rvs at h; exact h.elim
  | _ :: _, [], _, h, _ => by unfold rvs at h; exact h.elim
def allV : List PV → Option PV
  | [.lst l] => (blsOf l).map fun bs => .bl (bs.all id)
  | _ => none
def anyV : List PV → Option PV
  | [.lst l] => (blsOf l).map fun bs => .bl (bs.any id)
  | _ => none
theorem cr_allV (hc : X.calm = true) (hK : X.K = K := by rfl) : CallR X (.builtin "all") (rPN K allV) := by
  obtain ⟨K, Kt⟩ := K; obtain rfl : X.K = K := hK
  intro pins s σ H xs us Q I r h
  obtain ⟨M, ds, d, hv, fr, e, g⟩ := h
  unfold allV at e
  split at e
  · obtain ⟨bs, e1, e2⟩ := Option.map_eq_some_iff.mp e
    subst e2
    obtain ⟨v, rfl, h1⟩ := vvs1 hv
    obtain ⟨p, vs, rfl, g1, r1⟩ := h1
    have z := bls_vals r1 e1
    subst z
    exact cr_all hc pins s σ H _ us Q I r ⟨p, bs, rfl, SqL.of g1, g.bl⟩
  · cases e
theorem cr_anyV (hc : X.calm = true) (hK : X.K = K := by rfl) : CallR X (.builtin "any") (rPN K anyV) := by
  obtain ⟨K, Kt⟩ := K; obtain rfl : X.K = K := hK
  intro pins s σ H xs us Q I r h
  obtain ⟨M, ds, d, hv, fr, e, g⟩ := h
  unfold anyV at e
  split at e
  · obtain ⟨bs, e1, e2⟩ := Option.map_eq_some_iff.mp e
    subst e2
    obtain ⟨v, rfl, h1⟩ := vvs1 hv
    obtain ⟨p, vs, rfl, g1, r1⟩ := h1
    have z := bls_vals r1 e1
    subst z
    exact cr_any hc pins s σ H _ us Q I r ⟨p, bs, rfl, SqL.of g1, g.bl⟩
  · cases e
/-- tuple(x), list(x) -/
def tupleV : List PV → Option PV
  | [.lst l] => some (.tup l)
  | [.tup l] => some (.tup l)
  | _ => none
def listF : List PV → Option (List PV)
  | [.lst l] => some l
  | [.tup l] => some l
  | [.dic false ks _] => some ks
  | _ => none
theorem rvs_keys : ∀ {kl : List Key}, (∀ k ∈ kl, kOk k) → rvs K M H (kl.map kV) (kl.map kPV)
  | [], _ => rvs_nil
  | k :: kl, h => by
    refine rvs_cons.mpr ⟨?_, rvs_keys fun z hz => h z (List.mem_cons_of_mem _ hz)⟩
    have := h k List.mem_cons_self
    cases k with
    | inl i => exact rv_int.mpr rfl
    | inr x => exact rv_str.mpr ⟨rfl, this⟩
theorem cr_tupleV (hK : X.K = K := by rfl) : CallR X (.type "tuple") (rPN K tupleV) := by
  obtain ⟨K, Kt⟩ := K; obtain rfl : X.K = K := hK
  intro pins s σ H xs us Q I r h
  obtain ⟨M, ds, d, hv, fr, e, g⟩ := h
  unfold tupleV at e
  split at e
  · cases e
    obtain ⟨v, rfl, h1⟩ := vvs1 hv
    obtain ⟨p, vs, rfl, g1, r1⟩ := h1
    exact call_tuple_of pins s σ H _ us Q I r ⟨p, vs, rfl, .inl ⟨SqL.of g1, fun l hl => g.tup fr r1 hl⟩⟩
  · cases e
    obtain ⟨v, rfl, h1⟩ := vvs1 hv
    obtain ⟨p, vs, rfl, n1, g1, r1⟩ := vv_tup h1
    exact call_tuple_of pins s σ H _ us Q I r ⟨p, vs, rfl, .inr ⟨SqT.of g1, g H _ Grow.refl (rv_tup.mpr ⟨p, vs, rfl, n1, g1, r1⟩)⟩⟩
  · cases e
theorem cr_listF (hc : X.calm = true) (hK : X.K = K := by rfl) : CallR X (.type "list") (rPFN K listF) := by
  obtain ⟨K, Kt⟩ := K; obtain rfl : X.K = K := hK
  intro pins s σ H xs us Q I r h
  obtain ⟨M, ds, d, hv, fr, e, g⟩ := h
  unfold listF at e
  split at e
  · cases e
    obtain ⟨v, rfl, h1⟩ := vvs1 hv
    obtain ⟨p, vs, rfl, g1, r1⟩ := h1
    exact call_list_of pins s σ H _ us Q I r ⟨p, vs, rfl, .inl (SqL.of g1), fun l hl => g.lst r1 hl⟩
  · cases e
    obtain ⟨v, rfl, h1⟩ := vvs1 hv
    obtain ⟨p, vs, rfl, n1, g1, r1⟩ := vv_tup h1
    exact call_list_of pins s σ H _ us Q I r ⟨p, vs, rfl, .inr (SqT.of g1), fun l hl => g.lst r1 hl⟩
  · cases e
    obtain ⟨v, rfl, h1⟩ := vvs1 hv
    obtain ⟨p, vs, rfl, g1, r1⟩ := h1
    obtain ⟨kl, rfl, hl, hok, ha⟩ := g1
    refine call_listD hc pins s σ H _ us Q I r ⟨p, _, rfl, .inl ha, fun l hl' => ?_⟩
    have e : ((kl.zip vs).map fun kv => kV kv.1) = kl.map kV := by
      have h1 : ((kl.zip vs).map fun kv => kV kv.1) = ((kl.zip vs).map Prod.fst).map kV := by rw [List.map_map]; rfl
      rw [h1, List.map_fst_zip (by omega)]
    rw [e]
    exact g.lst (rvs_keys hok) hl'
  · cases e
/-- sorted(x), of ints -/
def sortI (l : List Int) : List Int := l.mergeSort (fun a b => decide (a ≤ b))
def sortedF : List PV → Option (List PV)
  | [.lst l] => (intsOf l).map fun ns => (sortI ns).map .int
  | _ => none
theorem rvs_ints (l : List Int) : rvs K M H (l.map V.int) (l.map PV.int) := by
  induction l with
  | nil => exact rvs_nil
  | cons a l ih => exact rvs_cons.mpr ⟨rv_int.mpr rfl, ih⟩
theorem perm_sorted_eq {l m : List Int} (h : l.Perm m) (hl : l.Pairwise (· ≤ ·)) (hm : m.Pairwise (· ≤ ·)) : l = m := h.eq_of_pairwise (fun a b _ _ h1 h2 => Int.le_antisymm h1 h2) hl hm
theorem cr_sortedF (hK : X.K = K := by rfl) : CallR X (.builtin "sorted") (rPFN K sortedF) := by
  obtain ⟨K, Kt⟩ := K; obtain rfl : X.K = K := hK
  intro pins s σ H xs us Q I r h
  obtain ⟨M, ds, d, hv, fr, e, g⟩ := h
  unfold sortedF at e
  split at e
  · obtain ⟨ns, e1, e2⟩ := Option.map_eq_some_iff.mp e
    subst e2
    obtain ⟨v, rfl, h1⟩ := vvs1 hv
    obtain ⟨p, vs, rfl, g1, r1⟩ := h1
    have z := ints_vals r1 e1
    subst z
    refine cr_sortedI pins s σ H _ us Q I r ⟨p, ns, rfl, SqL.of g1, fun ns' q hp hs hq => ?_⟩
    have es : sortI ns = ns' := by
      refine perm_sorted_eq ((List.mergeSort_perm _ _).trans hp.symm) ?_ hs
      have := List.pairwise_mergeSort (le := fun (a b : Int) => decide (a ≤ b)) (fun a b c h1 h2 => by simp only [decide_eq_true_eq] at *; omega) (fun a b => by simp only [Bool.or_eq_true, decide_eq_true_eq]; omega) ns
      exact this.imp fun h => of_decide_eq_true h
    rw [es] at g
    exact g.lst (rvs_ints ns') hq
  · cases e
end
end PM
namespace PM
open PySem PySem.Spec PyProof.Rows L2
open WD (MS upd_none)
/-! ### targets -/
inductive Tgt where
  | nm (i : Nat)
  | tp (ts : List Tgt)
def Fl.v : Fl → Val
  | .t d => .t d
  | .c k => .c k
mutual
def asg : Tgt → Val → Sl → Option Sl
  | .nm i, w, σ => some (σ.set i (some w))
  | .tp ts, .t (.tup ds), σ => asgs ts (ds.map .t) σ
  | .tp ts, .g .tup fs, σ => asgs ts (fs.map Fl.v) σ
  | .tp _, _, _ => none
def asgs : List Tgt → List Val → Sl → Option Sl
  | [], [], σ => some σ
  | t :: ts, w :: ws, σ => match asg t w σ with
    | some σ1 => asgs ts ws σ1
    | none => none
  | _, _, _ => none
end
mutual
def Tgt.sl : Tgt → List Nat
  | .nm i => [i]
  | .tp ts => sls ts
def sls : List Tgt → List Nat
  | [] => []
  | t :: ts => t.sl ++ sls ts
end
def Agree (σ' σ : L2.St) (s : List Nat) : Prop := σ'.length = σ.length ∧ ∀ j, j ∉ s → σ'[j]? = σ[j]?
theorem wipe_get (σ : L2.St) : ∀ (s : List Nat) (j : Nat), (wipe σ s)[j]? = if j ∈ s then (if j < σ.length then some none else none) else σ[j]?
  | [], j => by simp [wipe]
  | v :: vs, j => by
    unfold wipe
    by_cases hv : v = j
    · subst hv
      by_cases hl : v < σ.length
      · rw [List.getElem?_set_self (by rw [wipe_length]; exact hl)]
        simp [hl]
      · rw [List.getElem?_eq_none (by rw [List.length_set, wipe_length]; omega)]
        simp [hl]
    · rw [List.getElem?_set_ne hv, wipe_get σ vs j]
      have : (j ∈ v :: vs) ↔ j ∈ vs := by
        rw [List.mem_cons]
        exact ⟨fun h => h.elim (fun e => absurd e.symm hv) id, .inr⟩
      simp only [this]
theorem Agree.wipe {σ' σ : L2.St} {s : List Nat} (h : Agree σ' σ s) : L2.wipe σ' s = L2.wipe σ s := by
  refine List.ext_getElem? fun j => ?_
  rw [wipe_get, wipe_get, h.1]
  by_cases hj : j ∈ s
  · rw [if_pos hj, if_pos hj]
  · rw [if_neg hj, if_neg hj, h.2 j hj]
theorem Agree.refl {σ : L2.St} {s : List Nat} : Agree σ σ s := ⟨rfl, fun _ _ => rfl⟩
theorem Agree.trans {σ σ1 σ2 : L2.St} {s t : List Nat} (h : Agree σ1 σ s) (g : Agree σ2 σ1 t) : Agree σ2 σ (s ++ t) :=
  ⟨g.1.trans h.1, fun j hj => (g.2 j fun z => hj (List.mem_append_right _ z)).trans (h.2 j fun z => hj (List.mem_append_left _ z))⟩
theorem Agree.set {σ : L2.St} {i : Nat} {v : Option V} : Agree (σ.set i v) σ [i] := ⟨List.length_set, fun j hj => by
  rw [List.getElem?_set_ne fun z => hj (by rw [z]; exact List.mem_singleton.mpr rfl)]⟩
def tG (K : KT) (ξ : Xi) (T : Tgt) : TG := fun v σr H Q => ∃ N ζ μ σ w σ', Wd K N ζ μ H ∧ Sok K ξ ζ (MM N ζ μ) H σr σ ∧ RV K ξ ζ (MM N ζ μ) H v w ∧ asg T w σ = some σ' ∧ ∀ σr', Sok K ξ ζ (MM N ζ μ) H σr' σ' → Agree σr' σr T.sl → Q σr' H
def tGs (K : KT) (ξ : Xi) (ts : List Tgt) : TGs := fun vs σr H Q => ∃ N ζ μ σ ws σ', Wd K N ζ μ H ∧ Sok K ξ ζ (MM N ζ μ) H σr σ ∧ RVs K ξ ζ (MM N ζ μ) H vs ws ∧ asgs ts ws σ = some σ' ∧ ∀ σr', Sok K ξ ζ (MM N ζ μ) H σr' σ' → Agree σr' σr (sls ts) → Q σr' H
abbrev IG (K : KT) (ξ : Xi) (X : Cx) (tg : Expr) (T : Tgt) : Prop := PG X tg (tG K ξ T)
abbrev IGs (K : KT) (ξ : Xi) (X : Cx) (tg : List Expr) (T : List Tgt) : Prop := PGs X tg (tGs K ξ T)
theorem PG.of {X : Cx} {e : Expr} {t t' : TG} (h : PG X e t) (k : ∀ v σ H Q, t' v σ H Q → t v σ H Q) : PG X e t' := by
  obtain ⟨r⟩ := h
  exact ⟨fun pins s σ H v u Q I ru q => r pins s σ H v u Q I ru (k _ _ _ _ q)⟩
theorem PGs.of {X : Cx} {e : List Expr} {t t' : TGs} (h : PGs X e t) (k : ∀ v σ H Q, t' v σ H Q → t v σ H Q) : PGs X e t' := by
  obtain ⟨r⟩ := h
  exact ⟨fun pins s σ H v u Q I ru q => r pins s σ H v u Q I ru (k _ _ _ _ q)⟩
section
variable {X : Cx} {K : KT} {ξ : Xi} {W : WX} {e : Expr} {es : List Expr} {pos : Pos} {T : Tgt} {Ts : List Tgt}
theorem g_name {i : Nat} {x : Str} (h : PG X (.Name x pos) (gName i)) : IG K ξ X (.Name x pos) (.nm i) := PG.of h fun v σr H Q q => by
  obtain ⟨N, ζ, μ, σ, w, σ', wd, so, r, e, k⟩ := q
  unfold asg at e
  cases e
  exact k _ (so.set r) (by unfold Tgt.sl; exact Agree.set)
theorem gs_nil : IGs K ξ X [] [] := PGs.of pgs_nil fun vs σr H Q q => by
  obtain ⟨N, ζ, μ, σ, ws, σ', wd, so, r, e, k⟩ := q
  cases ws with
  | nil =>
    cases List.eq_nil_of_length_eq_zero r.len
    unfold asgs at e
    cases e
    exact ⟨rfl, k σr so Agree.refl⟩
  | cons d ds => unfold asgs at e; cases e
theorem gs_cons (h : IG K ξ X e T) (hs : IGs K ξ X es Ts) (hz : (assignEach (e :: es) X.env).map (·.2) = assign e X.env :: (assignEach es X.env).map (·.2) := by rfl) : IGs K ξ X (e :: es) (T :: Ts) := PGs.of (pgs_cons h hs hz) fun vs σr H Q q => by
  obtain ⟨N, ζ, μ, σ, ws, σ', wd, so, r, e, k⟩ := q
  cases ws with
  | nil => unfold asgs at e; cases e
  | cons w ws =>
    cases vs with
    | nil => exact r.elim
    | cons v vs =>
      unfold asgs at e
      split at e
      · rename_i σ1 e1
        refine ⟨v, vs, rfl, N, ζ, μ, σ, w, σ1, wd, so, r.1, e1, fun σr1 so1 ag1 => ?_⟩
        refine ⟨N, ζ, μ, σ1, ws, σ', wd, so1, r.2, e, fun σr2 so2 ag2 => k σr2 so2 ?_⟩
        unfold sls
        exact ag1.trans ag2
      · cases e
theorem asgs_len : ∀ {ts : List Tgt} {ds : List Val} {σ σ' : Sl}, asgs ts ds σ = some σ' → ds.length = ts.length
  | [], [], _, _, _ => rfl
  | t :: ts, d :: ds, σ, σ', e => by
    unfold asgs at e
    split at e
    · exact congrArg Nat.succ (asgs_len e)
    · cases e
  | [], _ :: _, _, _, e => by unfold asgs at e; cases e
  | _ :: _, [], _, _, e => by unfold asgs at e; cases e
theorem rvs_RVs {ζ : List Addr} {M : MS} {H : Hp} : ∀ {vs : List V} {ds : List PV}, rvs K M H vs ds → RVs K ξ ζ M H vs (ds.map .t)
  | [], [], _ => trivial
  | _ :: _, _ :: _, h => by rw [rvs_cons] at h; exact ⟨h.1, rvs_RVs h.2⟩
  | [], _ :: _, h => by unfold rvs at h; exact h.elim
  | _ :: _, [], h => by unfold rvs at h; exact h.elim
theorem FR.RV {ζ : List Addr} {M : MS} {H : Hp} {v : V} : ∀ {w : Fl}, FR K ζ M H v w → RV K ξ ζ M H v w.v
  | .t _, h => h
  | .c _, h => h
theorem FRs.RVs {ζ : List Addr} {M : MS} {H : Hp} : ∀ {vs : List V} {ws : List Fl}, FRs K ζ M H vs ws → RVs K ξ ζ M H vs (ws.map Fl.v)
  | [], [], _ => trivial
  | _ :: _, _ :: _, h => ⟨h.1.RV, FRs.RVs h.2⟩
  | [], _ :: _, h => h.elim
  | _ :: _, [], h => h.elim
theorem g_tup {kk : Nat} (hs : IGs K ξ X es Ts) (hc : X.calm = true) (hn : (assignEach es X.env).length = Ts.length := by rfl) (hst : (assignEach es X.env).findIdx? (·.1) = none := by rfl) (hK : X.K = K := by rfl) : IG K ξ X (.Tuple es kk pos) (.tp Ts) := PG.of (WD.k_pg_tup K hc hs hn hst hK) fun v σr H Q q => by
  obtain ⟨N, ζ, μ, σ, w, σ', wd, so, r, e, k⟩ := q
  have e0 : ∃ a vs ws, v = .ref a ∧ H a = some (.tup vs) ∧ RVs K ξ ζ (MM N ζ μ) H vs ws ∧ asgs Ts ws σ = some σ' := by
    cases w with
    | t d =>
      cases d with
      | tup ds =>
        unfold asg at e
        obtain ⟨a, vs, h0, n1, h1, r1⟩ := rv_tup.mp (show rv K (MM N ζ μ) H v (.tup ds) from r)
        exact ⟨a, vs, _, h0, h1, rvs_RVs r1, e⟩
      | _ => unfold asg at e; cases e
    | g h fs =>
      cases h with
      | tup =>
        unfold asg at e
        obtain ⟨a, vs, h0, n1, h1, r1⟩ := r
        exact ⟨a, vs, _, h0, h1, r1.RVs, e⟩
      | ob _ _ => unfold asg at e; cases e
    | c _ => unfold asg at e; cases e
    | x _ _ => unfold asg at e; cases e
    | s _ => unfold asg at e; cases e
    | self => unfold asg at e; cases e
    | lam _ _ => unfold asg at e; cases e
  obtain ⟨a, vs, ws, rfl, h1, r1, e⟩ := e0
  refine ⟨a, vs, rfl, SqT.of h1, by rw [r1.len]; exact asgs_len e, N, ζ, μ, σ, ws, σ', wd, so, r1, e, fun σr' so' ag => k σr' so' ?_⟩
  unfold Tgt.sl
  exact ag
end
end PM
namespace PM
open PySem PySem.Spec PyProof.Rows L2
open WD (MS upd_none)
/-! ### statements -/
def R.st {α : Type} (σ : Sl) : R α → (α → Store → RS) → RS
  | .ok a μ, k => k a μ
  | .ex c f μ, _ => .ex c f σ μ
  | .stuck, _ => .stuck
def RS.seq : RS → (Sl → Store → RS) → RS
  | .nx σ μ, k => k σ μ
  | r, _ => r
def sPass : MSt := fun σ μ => .nx σ μ
def sCont : MSt := fun σ μ => .ct σ μ
def sSeq (a b : MSt) : MSt := fun σ μ => (a σ μ).seq b
def sAsg (T : Tgt) (f : ME) : MSt := fun σ μ => (f σ μ).st σ fun w μ1 => match asg T w σ with
  | some σ1 => .nx σ1 μ1
  | none => .stuck
def sExp (f : ME) : MSt := fun σ μ => (f σ μ).st σ fun _ μ1 => .nx σ μ1
def sRet (f : ME) : MSt := fun σ μ => (f σ μ).st σ fun w μ1 => .rt w μ1
def sRetN : MSt := fun _ μ => .rt (.t .non) μ
def sIf (c : Sl → Store → R Bool) (a b : MSt) : MSt := fun σ μ => (c σ μ).st σ fun k μ1 => if k then a σ μ1 else b σ μ1
def forL (T : Tgt) (body : MSt) : List PV → Sl → Store → RS
  | [], σ, μ => .nx σ μ
  | d :: ds, σ, μ => match asg T (.t d) σ with
    | none => .stuck
    | some σ1 => match body σ1 μ with
      | .nx σ2 μ2 => forL T body ds σ2 μ2
      | .ct σ2 μ2 => forL T body ds σ2 μ2
      | .bk σ2 μ2 => .nx σ2 μ2
      | r => r
def sFor (it : Sl → Store → R (List PV)) (T : Tgt) (body : MSt) : MSt := fun σ μ => (it σ μ).st σ fun items μ1 => forL T body items σ μ1
def whileL (c : Sl → Store → R Bool) (body : MSt) : Nat → Sl → Store → RS
  | 0, _, _ => .stuck
  | n + 1, σ, μ => (c σ μ).st σ fun k μ1 => if k then (match body σ μ1 with
      | .nx σ2 μ2 => whileL c body n σ2 μ2
      | .ct σ2 μ2 => whileL c body n σ2 μ2
      | .bk σ2 μ2 => .nx σ2 μ2
      | r => r) else .nx σ μ1
def sWhile (n : Nat) (c : Sl → Store → R Bool) (body : MSt) : MSt := fun σ μ => whileL c body n σ μ

section
variable {X : Cx} {K : KT} {ξ : Xi} {W : WX} {N : MS} {ζ : List Addr} {μ : Store} {H : Hp} {σr : L2.St} {σ : Sl} {D : Ends} {e tg : Expr} {st : Stmt} {ss : List Stmt} {fa : ME} {ta : Sl → Store → R Bool} {A B : MSt} {T : Tgt} {pos : Pos}
/-- a reading, then a statement's step -/
theorem stE {k : Val → Store → RS} (wd : Wd K N ζ μ H) (so : Sok K ξ ζ (MM N ζ μ) H σr σ) (h : PostS K ξ W N ζ μ H D ((fa σ μ).st σ k)) :
    tE K ξ W fa σr H fun x H1 => ∃ ζ1 μ1 w1, Ev K.tb ζ μ H ζ1 μ1 H1 ∧ Wd K N ζ1 μ1 H1 ∧ Sok K ξ ζ1 (MM N ζ1 μ1) H1 σr σ ∧ RV K ξ ζ1 (MM N ζ1 μ1) H1 x w1 ∧ PostS K ξ W N ζ1 μ1 H1 D (k w1 μ1) := by
  refine ⟨N, ζ, μ, σ, wd, so, ?_⟩
  cases e : fa σ μ with
  | ok w1 μ1 => rw [e] at h; exact fun ζ' H' v ev w r => ⟨ζ', μ1, w1, ev, w, so.ev ev, r, PostS.ev ev h⟩
  | ex c f μ1 => rw [e] at h; exact fun ζ' H' d ev w r => h ζ' H' d σr ev w r (so.ev ev)
  | stuck => rw [e] at h; exact h
theorem stT {k : Bool → Store → RS} (wd : Wd K N ζ μ H) (so : Sok K ξ ζ (MM N ζ μ) H σr σ) (h : PostS K ξ W N ζ μ H D ((ta σ μ).st σ k)) :
    tT K ξ W ta σr H fun b H1 => ∃ ζ1 μ1, Ev K.tb ζ μ H ζ1 μ1 H1 ∧ Wd K N ζ1 μ1 H1 ∧ Sok K ξ ζ1 (MM N ζ1 μ1) H1 σr σ ∧ PostS K ξ W N ζ1 μ1 H1 D (k b μ1) := by
  refine ⟨N, ζ, μ, σ, wd, so, ?_⟩
  cases e : ta σ μ with
  | ok w1 μ1 => rw [e] at h; exact fun ζ' H' ev w => ⟨ζ', μ1, ev, w, so.ev ev, PostS.ev ev h⟩
  | ex c f μ1 => rw [e] at h; exact fun ζ' H' d ev w r => h ζ' H' d σr ev w r (so.ev ev)
  | stuck => rw [e] at h; exact h
theorem s_pass {pos : Pos} : IS K ξ W X (.Pass pos) sPass := PS.of ps_pass fun D σr H q => by
  obtain ⟨N, ζ, μ, σ, wd, so, q⟩ := q
  exact q ζ H σr Ev.refl wd so
theorem s_cont {pos : Pos} : IS K ξ W X (.Continue pos) sCont := PS.of ps_continue fun D σr H q => by
  obtain ⟨N, ζ, μ, σ, wd, so, q⟩ := q
  exact q ζ H σr Ev.refl wd so
theorem s_exp (ha : IE K ξ W X e fa) (hs : swapsWith e none pos.line X.env = pure false := by rfl) : IS K ξ W X (.Expr e pos) (sExp fa) := PS.of (ps_expr ha hs) fun D σr H q => by
  obtain ⟨N, ζ, μ, σ, wd, so, q⟩ := q
  refine (stE wd so q).mono fun x H1 ⟨ζ1, μ1, w1, ev1, wd1, so1, r1, q1⟩ => q1 ζ1 H1 σr Ev.refl wd1 so1
theorem s_ret (h : PS X st (tRet (tE K ξ W fa))) : IS K ξ W X st (sRet fa) := PS.of h fun D σr H q => by
  obtain ⟨N, ζ, μ, σ, wd, so, q⟩ := q
  refine (stE wd so q).mono fun x H1 ⟨ζ1, μ1, w1, ev1, wd1, so1, r1, q1⟩ => q1 ζ1 H1 x Ev.refl wd1 r1
theorem s_retN (h : PS X st tRetN) : IS K ξ W X st sRetN := PS.of h fun D σr H q => by
  obtain ⟨N, ζ, μ, σ, wd, so, q⟩ := q
  exact q ζ H .non Ev.refl wd ((rv_non (K := K) (M := MM N ζ μ) (H := H)).mpr rfl)
/-- x = e, by any rule for it -/
theorem s_asgR {te : TE} {i : Nat} (h : PS X st (tAsg te (gName i))) (k : ∀ σ H Q, tE K ξ W fa σ H Q → te σ H Q) : IS K ξ W X st (sAsg (.nm i) fa) := PS.of h fun D σr H q => by
  obtain ⟨N, ζ, μ, σ, wd, so, q⟩ := q
  refine k _ _ _ ((stE wd so q).mono fun x H1 ⟨ζ1, μ1, w1, ev1, wd1, so1, r1, q1⟩ => ?_)
  unfold asg at q1
  exact q1 ζ1 H1 _ Ev.refl wd1 (so1.set r1)
theorem s_set {i : Nat} (h : PS X st (tAsg (tE K ξ W fa) (gName i))) : IS K ξ W X st (sAsg (.nm i) fa) := s_asgR h fun _ _ _ q => q
theorem s_asg (h : PS X st (tAsg (tE K ξ W fa) (tG K ξ T))) : IS K ξ W X st (sAsg T fa) := PS.of h fun D σr H q => by
  obtain ⟨N, ζ, μ, σ, wd, so, q⟩ := q
  refine (stE wd so q).mono fun x H1 ⟨ζ1, μ1, w1, ev1, wd1, so1, r1, q1⟩ => ?_
  split at q1
  · rename_i σ1 e1
    exact ⟨N, ζ1, μ1, σ, w1, σ1, wd1, so1, r1, e1, fun σr' so' _ => q1 ζ1 H1 σr' Ev.refl wd1 so'⟩
  · exact q1.elim
theorem s_if (h : PS X st (tIfS (tT K ξ W ta) (tS K ξ W A) (tS K ξ W B))) : IS K ξ W X st (sIf ta A B) := PS.of h fun D σr H q => by
  obtain ⟨N, ζ, μ, σ, wd, so, q⟩ := q
  refine (stT wd so q).mono fun b H1 ⟨ζ1, μ1, ev1, wd1, so1, q1⟩ => ?_
  cases b with
  | true => exact iteT ⟨N, ζ1, μ1, σ, wd1, so1, q1⟩
  | false => exact iteF ⟨N, ζ1, μ1, σ, wd1, so1, q1⟩
theorem PostS.seq {r : RS} (h : PostS K ξ W N ζ μ H D (r.seq B)) : PostS K ξ W N ζ μ H { D with nx := tS K ξ W B D } r := by
  cases r with
  | nx σ' μ' => exact fun ζ' H' σr' ev wd so => ⟨N, ζ', μ', σ', wd, so, PostS.ev ev h⟩
  | bk _ _ => exact h
  | ct _ _ => exact h
  | rt _ _ => exact h
  | ex _ _ _ _ => exact h
  | stuck => exact h
theorem ss_nil : ISs K ξ W X [] sPass := PSs.of pss_nil fun D σr H q => by
  obtain ⟨N, ζ, μ, σ, wd, so, q⟩ := q
  exact q ζ H σr Ev.refl wd so
theorem ss_cons (ha : IS K ξ W X st A) (hb : ISs K ξ W X ss B) : ISs K ξ W X (st :: ss) (sSeq A B) := PSs.of (pss_cons ha hb) fun D σr H q => by
  obtain ⟨N, ζ, μ, σ, wd, so, q⟩ := q
  exact ⟨N, ζ, μ, σ, wd, so, PostS.seq q⟩
theorem ss_one (ha : IS K ξ W X st A) : ISs K ξ W X [st] A := pss_one ha
/-- a ghost step ahead of a block -/
theorem ss_ghost {G : MSt} (hb : ISs K ξ W X ss B) (g : ∀ (D : Ends) (σr : L2.St) (H : Hp) (N : MS) (ζ : List Addr) (μ : Store) (σ : Sl), Wd K N ζ μ H → Sok K ξ ζ (MM N ζ μ) H σr σ → PostS K ξ W N ζ μ H D ((G σ μ).seq B) → tS K ξ W B D σr H) : ISs K ξ W X ss (sSeq G B) := PSs.of hb fun D σr H q => by
  obtain ⟨N, ζ, μ, σ, wd, so, q⟩ := q
  exact g D σr H N ζ μ σ wd so q

/-! ### what is walked -/
def ItOk (K : KT) (M : MS) (H : Hp) (J : It) (items : List PV) : Prop := ∀ M1 H1, (∀ a, ¬ M a → ¬ nn K.tb (H a) → ¬ M1 a) → (∀ a o, nt K.tb o → ¬ M a → H a = some o → H1 a = some o) → Fre M1 H1 →
  (∀ (i : Nat) d, items[i]? = some d → J.go i H1 ∧ ∀ x H2, J.yld i H1 x H2 → Grow H1 H2 ∧ rv K M1 H2 x d) ∧ J.stop items.length H1
def PostI (K : KT) (W : WX) (N : MS) (ζ : List Addr) (μ : Store) (H : Hp) (σr : L2.St) (Q : It → Hp → Prop) : R (List PV) → Prop
  | .ok ds μ' => ∀ ζ' H' J, Ev K.tb ζ μ H ζ' μ' H' → Wd K N ζ' μ' H' → ItOk K (MM N ζ' μ') H' J ds → Q J H'
  | .ex c f μ' => ∀ ζ' H' d, Ev K.tb ζ μ H ζ' μ' H' → Wd K N ζ' μ' H' → XR K (MM N ζ' μ') H' d f → W (.ref (He.ga K c)) d σr H'
  | .stuck => False
def tI (K : KT) (ξ : Xi) (W : WX) (f : Sl → Store → R (List PV)) : TI := fun σr H Q => ∃ N ζ μ σ, Wd K N ζ μ H ∧ Sok K ξ ζ (MM N ζ μ) H σr σ ∧ PostI K W N ζ μ H σr Q (f σ μ)
abbrev II (K : KT) (ξ : Xi) (W : WX) (X : Cx) (tg it : Expr) (f : Sl → Store → R (List PV)) : Prop := PI X tg it (tI K ξ W f)
theorem PI.of {tg it : Expr} {t t' : TI} (h : PI X tg it t) (k : ∀ σ H Q, t' σ H Q → t σ H Q) : PI X tg it t' := ⟨fun pins s σ H Q I q => h.run pins s σ H Q I (k σ H Q q)⟩
theorem PI.pick {tg it : Expr} {t' : TI} (k : ∀ σ H Q, t' σ H Q → ∃ t, PI X tg it t ∧ t σ H Q) : PI X tg it t' := ⟨fun pins s σ H Q I q => let ⟨_, h, q'⟩ := k σ H Q q; h.run pins s σ H Q I q'⟩
theorem PostI.ev {ζ1 : List Addr} {μ1 : Store} {H1 : Hp} {Q : It → Hp → Prop} (e : Ev K.tb ζ μ H ζ1 μ1 H1) : ∀ {r : R (List PV)}, PostI K W N ζ μ H σr Q r → PostI K W N ζ1 μ1 H1 σr Q r
  | .ok _ _, h => fun ζ' H' v a b c => h ζ' H' v (e.trans a) b c
  | .ex _ _ _, h => fun ζ' H' d a b c => h ζ' H' d (e.trans a) b c
  | .stuck, h => h
theorem then1I {a : ME} {P : It → Hp → Prop} {g : Val → Store → R (List PV)} (wd : Wd K N ζ μ H) (so : Sok K ξ ζ (MM N ζ μ) H σr σ) (h : PostI K W N ζ μ H σr P ((a σ μ).bind g)) :
    tE K ξ W a σr H fun x H1 => ∃ ζ1 μ1 w1, Ev K.tb ζ μ H ζ1 μ1 H1 ∧ Wd K N ζ1 μ1 H1 ∧ Sok K ξ ζ1 (MM N ζ1 μ1) H1 σr σ ∧ RV K ξ ζ1 (MM N ζ1 μ1) H1 x w1 ∧ PostI K W N ζ1 μ1 H1 σr P (g w1 μ1) := by
  refine ⟨N, ζ, μ, σ, wd, so, ?_⟩
  cases e : a σ μ with
  | ok w1 μ1 => rw [e] at h; exact fun ζ' H' v ev w r => ⟨ζ', μ1, w1, ev, w, so.ev ev, r, h.ev ev⟩
  | ex c f μ1 => rw [e] at h; exact h
  | stuck => rw [e] at h; exact h
theorem thenNI {a : Sl → Store → R (List Val)} {P : It → Hp → Prop} {g : List Val → Store → R (List PV)} (wd : Wd K N ζ μ H) (so : Sok K ξ ζ (MM N ζ μ) H σr σ) (h : PostI K W N ζ μ H σr P ((a σ μ).bind g)) :
    tA K ξ W a σr H fun xs H1 => ∃ ζ1 μ1 ws, Ev K.tb ζ μ H ζ1 μ1 H1 ∧ Wd K N ζ1 μ1 H1 ∧ Sok K ξ ζ1 (MM N ζ1 μ1) H1 σr σ ∧ RVs K ξ ζ1 (MM N ζ1 μ1) H1 xs ws ∧ PostI K W N ζ1 μ1 H1 σr P (g ws μ1) := by
  refine ⟨N, ζ, μ, σ, wd, so, ?_⟩
  cases e : a σ μ with
  | ok w1 μ1 => rw [e] at h; exact fun ζ' H' v ev w r => ⟨ζ', μ1, w1, ev, w, so.ev ev, r, h.ev ev⟩
  | ex c f μ1 => rw [e] at h; exact h
  | stuck => rw [e] at h; exact h
/-- for .. in .. -/
theorem s_for {it : Expr} {body : List Stmt} {fi : Sl → Store → R (List PV)} (hp : PassesOwn (model X.prog X.w) X.A X.env X.xe) (hc : X.calm = true) (hi : II K ξ W X tg it fi) (hg : IG K ξ X tg T) (hb : ISs K ξ W X body B)
    (hf : ∀ x : Value, foldedSetIterable it X.env x = pure x := by intro _; rfl) : IS K ξ W X (.For tg it body [] pos) (sFor fi T B) := PS.of (ps_for hp hc hi hg hb hf) fun D σr H q => by
  obtain ⟨N, ζ, μ, σ, wd, so, q⟩ := q
  refine ⟨N, ζ, μ, σ, wd, so, ?_⟩
  unfold sFor at q
  cases e : fi σ μ with
  | stuck => rw [e] at q; exact q
  | ex c f μ1 => rw [e] at q; exact fun ζ' H' d ev w r => q ζ' H' d σr ev w r (so.ev ev)
  | ok items μ1 =>
    rw [e] at q
    intro ζ1 H1 J ev1 wd1 ok
    have q1 : PostS K ξ W N ζ1 μ1 H1 D (forL T B items σ μ1) := PostS.ev ev1 q
    refine ⟨fun i m σr' H' => ∃ ζ' μ' σ', i ≤ items.length ∧ m = items.length - i ∧ Ev K.tb ζ1 μ1 H1 ζ' μ' H' ∧ Wd K N ζ' μ' H' ∧ Sok K ξ ζ' (MM N ζ' μ') H' σr' σ' ∧ PostS K ξ W N ζ' μ' H' D (forL T B (items.drop i) σ' μ'),
      ⟨_, ζ1, μ1, σ, Nat.zero_le _, rfl, Ev.refl, wd1, so.ev ev1, q1⟩, ?_⟩
    rintro i m σr' H' ⟨ζ', μ', σ', hi, hm, ev', wd', so', q'⟩
    obtain ⟨k1, k2⟩ := ok (MM N ζ' μ') H' ev'.na ev'.keep wd'.fre
    by_cases hlt : i < items.length
    · refine .inr ?_
      have hd : items.drop i = items[i] :: items.drop (i + 1) := List.drop_eq_getElem_cons hlt
      obtain ⟨kgo, ky⟩ := k1 i _ (List.getElem?_eq_getElem hlt)
      refine ⟨kgo, fun σ2 H2 => ∃ ζ2 μ2 σm, i + 1 ≤ items.length ∧ Ev K.tb ζ1 μ1 H1 ζ2 μ2 H2 ∧ Wd K N ζ2 μ2 H2 ∧ Sok K ξ ζ2 (MM N ζ2 μ2) H2 σ2 σm ∧ PostS K ξ W N ζ2 μ2 H2 D (forL T B (items.drop (i + 1)) σm μ2), fun σ2 H2 ⟨ζ2, μ2, σm, a1, a2, a3, a4, a5⟩ => ⟨items.length - (i + 1), by omega, ζ2, μ2, σm, a1, rfl, a2, a3, a4, a5⟩, fun x Hy hy => ?_⟩
      obtain ⟨gr, rx⟩ := ky x Hy hy
      rw [hd] at q'
      unfold forL at q'
      cases ea : asg T (.t items[i]) σ' with
      | none => rw [ea] at q'; exact q'.elim
      | some σ1 =>
        rw [ea] at q'
        dsimp only at q'
        refine ⟨N, ζ', μ', σ', .t items[i], σ1, wd'.fr0 gr, so'.ev gr.ev, rx, ea, fun σr1 so1 _ => ⟨N, ζ', μ', σ1, wd'.fr0 gr, so1, ?_⟩⟩
        have q2 := PostS.ev (gr.ev (ζ := ζ') (μ := μ')) q'
        have evy : Ev K.tb ζ1 μ1 H1 ζ' μ' Hy := ev'.trans gr.ev
        cases eb : B σ1 μ' with
        | nx σ2 μ2 => rw [eb] at q2; exact fun ζ2 H2 σr2 ev2 wd2 so2 => ⟨ζ2, μ2, σ2, hlt, evy.trans ev2, wd2, so2, PostS.ev ev2 q2⟩
        | ct σ2 μ2 => rw [eb] at q2; exact fun ζ2 H2 σr2 ev2 wd2 so2 => ⟨ζ2, μ2, σ2, hlt, evy.trans ev2, wd2, so2, PostS.ev ev2 q2⟩
        | bk σ2 μ2 => rw [eb] at q2; exact q2
        | rt w μ2 => rw [eb] at q2; exact q2
        | ex c f σ2 μ2 => rw [eb] at q2; exact q2
        | stuck => rw [eb] at q2; exact q2
    · refine .inl ?_
      have hi2 : i = items.length := by omega
      subst hi2
      rw [List.drop_length] at q'
      exact ⟨k2, q' ζ' H' σr' Ev.refl wd' so'⟩
theorem s_while {c : Expr} {body : List Stmt} {n : Nat} (hp : PassesOwn (model X.prog X.w) X.A X.env X.xe) (hc : IT K ξ W X c ta) (hb : ISs K ξ W X body B) : IS K ξ W X (.While c body [] pos) (sWhile n ta B) := PS.of (ps_while hp hc hb) fun D σr H q => by
  obtain ⟨N, ζ, μ, σ, wd, so, q⟩ := q
  refine ⟨fun m σr' H' => ∃ ζ' μ' σ', Wd K N ζ' μ' H' ∧ Sok K ξ ζ' (MM N ζ' μ') H' σr' σ' ∧ PostS K ξ W N ζ' μ' H' D (whileL ta B m σ' μ'), ⟨n, ζ, μ, σ, wd, so, q⟩, ?_⟩
  rintro m σr' H' ⟨ζ', μ', σ', wd', so', q'⟩
  cases m with
  | zero => exact q'.elim
  | succ m =>
    unfold whileL at q'
    refine (stT wd' so' q').mono fun b H1 ⟨ζ1, μ1, ev1, wd1, so1, q1⟩ => ?_
    cases b with
    | false => exact iteF (q1 ζ1 H1 σr' Ev.refl wd1 so1)
    | true =>
      refine iteT ⟨fun σ2 H2 => ∃ ζ2 μ2 σm, Wd K N ζ2 μ2 H2 ∧ Sok K ξ ζ2 (MM N ζ2 μ2) H2 σ2 σm ∧ PostS K ξ W N ζ2 μ2 H2 D (whileL ta B m σm μ2), fun σ2 H2 z => ⟨m, Nat.lt_succ_self m, z⟩, N, ζ1, μ1, σ', wd1, so1, ?_⟩
      have q2 : PostS K ξ W N ζ1 μ1 H1 D (match B σ' μ1 with
        | .nx σ2 μ2 => whileL ta B m σ2 μ2
        | .ct σ2 μ2 => whileL ta B m σ2 μ2
        | .bk σ2 μ2 => .nx σ2 μ2
        | r => r) := q1
      cases eb : B σ' μ1 with
      | nx σ2 μ2 => rw [eb] at q2; exact fun ζ2 H2 σr2 ev2 wd2 so2 => ⟨ζ2, μ2, σ2, wd2, so2, PostS.ev ev2 q2⟩
      | ct σ2 μ2 => rw [eb] at q2; exact fun ζ2 H2 σr2 ev2 wd2 so2 => ⟨ζ2, μ2, σ2, wd2, so2, PostS.ev ev2 q2⟩
      | bk σ2 μ2 => rw [eb] at q2; exact q2
      | rt w μ2 => rw [eb] at q2; exact q2
      | ex c f σ2 μ2 => rw [eb] at q2; exact q2
      | stuck => rw [eb] at q2; exact q2
end
end PM
namespace PM
open PySem PySem.Spec PyProof.Rows L2
open WD (MS upd_none)
/-! ### what can be walked -/
def itemsV : PV → Option (List PV)
  | .lst l => some l
  | .tup l => some l
  | .str z => some (z.cps.toList.map fun c => .str ⟨#[c]⟩)
  | _ => none
/-- only data are walked: a thing that changes isn't -/
def gIt (w : Val) (μ : Store) : R (List PV) := match w with
  | .t d => OR.ok μ (itemsV d)
  | _ => .stuck
def rgI (lo : Int) (n : Nat) : List PV := (List.range n).map fun (k : Nat) => .int (lo + (k : Int))
def gRange1 : List Val → Store → R (List PV)
  | [.t (.int j)], μ => if bnd j then .ok (rgI 0 j.toNat) μ else .stuck
  | _, _ => .stuck
def gRange2 : List Val → Store → R (List PV)
  | [.t (.int i), .t (.int j)], μ => if bnd i && bnd j then .ok (rgI i (j - i).toNat) μ else .stuck
  | _, _ => .stuck
def enumP (l : List PV) : List PV := (List.range l.length).zipWith (fun (k : Nat) d => .tup [.int (k : Int), d]) l
def seqV : PV → Option (List PV)
  | .lst l => some l
  | .tup l => some l
  | _ => none
def gEnum : List Val → Store → R (List PV)
  | [.t d], μ => match seqV d with
    | some l => .ok (enumP l) μ
    | none => .stuck
  | _, _ => .stuck
def zipP (l m : List PV) : List PV := l.zipWith (fun a b => .tup [a, b]) m
def gZip : List Val → Store → R (List PV)
  | [.t (.lst l), .t (.lst m)], μ => .ok (zipP l m) μ
  | [.t (.tup l), .t (.tup m)], μ => .ok (zipP l m) μ
  | _, _ => .stuck
section
variable {X : Cx} {K : KT} {ξ : Xi} {W : WX} {N : MS} {ζ : List Addr} {μ : Store} {M : MS} {H : Hp} {σr : L2.St} {σ : Sl} {tg it e : Expr} {es : List Expr} {fa : ME} {fs : Sl → Store → R (List Val)} {pos : Pos}
theorem it_list {a : Addr} {vs : List V} {ds : List PV} (n : ¬ M a) (h : H a = some (.lst vs)) (r : rvs K M H vs ds) : ItOk K M H (Itl K a) ds := fun M1 H1 na kp fr => by
  have h1 : SqL K H1 a vs := SqL.of (kp a _ rfl n h)
  have r1 := rvs_st na kp ds vs r
  have hl := rvs_len r
  refine ⟨fun i d hd => ?_, ⟨vs, h1, by omega⟩⟩
  obtain ⟨v, hv, rvv⟩ := rvs_at r1 hd
  refine ⟨⟨vs, v, h1, hv⟩, fun x H2 hy => ?_⟩
  obtain ⟨rfl, hx⟩ := hy
  have := hx vs h1
  rw [hv] at this
  cases this
  exact ⟨Grow.refl, rvv⟩
theorem it_tup {a : Addr} {vs : List V} {ds : List PV} (n : ¬ M a) (h : H a = some (.tup vs)) (r : rvs K M H vs ds) : ItOk K M H (Itt K a) ds := fun M1 H1 na kp fr => by
  have h1 : SqT K H1 a vs := SqT.of (kp a _ rfl n h)
  have r1 := rvs_st na kp ds vs r
  have hl := rvs_len r
  refine ⟨fun i d hd => ?_, ⟨vs, h1, by omega⟩⟩
  obtain ⟨v, hv, rvv⟩ := rvs_at r1 hd
  refine ⟨⟨vs, v, h1, hv⟩, fun x H2 hy => ?_⟩
  obtain ⟨rfl, hx⟩ := hy
  have := hx vs h1
  rw [hv] at this
  cases this
  exact ⟨Grow.refl, rvv⟩
theorem it_str {z : Str} (h : PyData.strOk z = true) : ItOk K M H (Its z) (z.cps.toList.map fun c => .str ⟨#[c]⟩) := fun M1 H1 na kp fr => by
  refine ⟨fun i d hd => ?_, by show z.cps.size ≤ _; simp⟩
  rw [List.getElem?_map] at hd
  obtain ⟨c, hc, rfl⟩ := Option.map_eq_some_iff.mp hd
  have hc' : z.cps[i]? = some c := by rw [← Array.getElem?_toList]; exact hc
  refine ⟨(Array.getElem?_eq_some_iff.mp hc').1, fun x H2 hy => ?_⟩
  obtain ⟨rfl, c', h1, rfl⟩ := hy
  rw [hc'] at h1
  cases h1
  exact ⟨Grow.refl, rv_str.mpr ⟨rfl, strOk_sub (l := [c]) h fun c' hc2 => by rw [List.mem_singleton.mp hc2]; exact List.mem_of_getElem? hc⟩⟩
theorem it_rng {lo : Int} {n : Nat} : ItOk K M H (Itr lo n) (rgI lo n) := fun M1 H1 na kp fr => by
  refine ⟨fun i d hd => ?_, by show n ≤ (rgI lo n).length; unfold rgI; simp⟩
  unfold rgI at hd
  rw [List.getElem?_map] at hd
  obtain ⟨k, hk, rfl⟩ := Option.map_eq_some_iff.mp hd
  have hi : i < n := by
    have := (List.getElem?_eq_some_iff.mp hk).1
    simpa using this
  rw [List.getElem?_range hi] at hk
  cases hk
  refine ⟨hi, fun x H2 hy => ?_⟩
  obtain ⟨rfl, rfl⟩ := hy
  exact ⟨Grow.refl, rv_int.mpr rfl⟩
theorem pair_new {T : Addr} {x y : V} {d e : PV} {M1 : MS} {H1 : Hp} (fr : Fre M1 H1) (hT : H1 T = none) (hx : rv K M1 H1 x d) (hy : rv K M1 H1 y e) : Grow H1 (upd H1 T (.tup [x, y])) ∧ rv K M1 (upd H1 T (.tup [x, y])) (.ref T) (.tup [d, e]) :=
  ⟨Grow.upd hT, rv_tup.mpr ⟨T, _, rfl, fr T hT, upd_same, rvs_cons.mpr ⟨(Grow.upd hT).rv hx, rvs_cons.mpr ⟨(Grow.upd hT).rv hy, rvs_nil⟩⟩⟩⟩
theorem enum_at {l : List PV} {i : Nat} {d : PV} (h : (enumP l)[i]? = some d) : ∃ z, l[i]? = some z ∧ d = .tup [.int (i : Int), z] := by
  unfold enumP at h
  rw [List.getElem?_zipWith] at h
  by_cases hi : i < l.length
  · rw [List.getElem?_range hi, List.getElem?_eq_getElem hi] at h
    exact ⟨l[i], List.getElem?_eq_getElem hi, (Option.some.inj h).symm⟩
  · rw [List.getElem?_eq_none (l := l) (by omega)] at h
    cases h2 : (List.range l.length)[i]? <;> rw [h2] at h <;> cases h
theorem enum_len (l : List PV) : (enumP l).length = l.length := by unfold enumP; simp
theorem it_enL {a : Addr} {vs : List V} {ds : List PV} (n : ¬ M a) (h : H a = some (.lst vs)) (r : rvs K M H vs ds) : ItOk K M H (Ite K a) (enumP ds) := fun M1 H1 na kp fr => by
  have h1 : SqL K H1 a vs := SqL.of (kp a _ rfl n h)
  have r1 := rvs_st na kp ds vs r
  have hl := rvs_len r
  refine ⟨fun i d hd => ?_, ⟨vs, h1, by rw [enum_len]; omega⟩⟩
  obtain ⟨z, hz, rfl⟩ := enum_at hd
  obtain ⟨v, hv, rvv⟩ := rvs_at r1 hz
  refine ⟨⟨vs, v, h1, hv⟩, fun x H2 hy => ?_⟩
  obtain ⟨T, y, rfl, hT, rfl, hx⟩ := hy
  have := hx vs h1
  rw [hv] at this
  cases this
  exact pair_new fr hT (rv_int.mpr rfl) rvv
theorem it_enT {a : Addr} {vs : List V} {ds : List PV} (n : ¬ M a) (h : H a = some (.tup vs)) (r : rvs K M H vs ds) : ItOk K M H (WD.ItEnT K a) (enumP ds) := fun M1 H1 na kp fr => by
  have h1 : SqT K H1 a vs := SqT.of (kp a _ rfl n h)
  have r1 := rvs_st na kp ds vs r
  have hl := rvs_len r
  refine ⟨fun i d hd => ?_, ⟨vs, h1, by rw [enum_len]; omega⟩⟩
  obtain ⟨z, hz, rfl⟩ := enum_at hd
  obtain ⟨v, hv, rvv⟩ := rvs_at r1 hz
  refine ⟨⟨vs, v, h1, hv⟩, fun x H2 hy => ?_⟩
  obtain ⟨T, y, rfl, hT, rfl, hx⟩ := hy
  have := hx vs h1
  rw [hv] at this
  cases this
  exact pair_new fr hT (rv_int.mpr rfl) rvv
theorem zip_at {l m : List PV} {i : Nat} {d : PV} (h : (zipP l m)[i]? = some d) : ∃ z y, l[i]? = some z ∧ m[i]? = some y ∧ d = .tup [z, y] := by
  unfold zipP at h
  rw [List.getElem?_zipWith] at h
  cases h1 : l[i]? with
  | none => rw [h1] at h; cases h
  | some z =>
    rw [h1] at h
    cases h2 : m[i]? with
    | none => rw [h2] at h; cases h
    | some y => rw [h2] at h; exact ⟨z, y, rfl, rfl, (Option.some.inj h).symm⟩
theorem zip_len (l m : List PV) : (zipP l m).length = min l.length m.length := by unfold zipP; simp
/-- a value that is walked -/
theorem ii_val (h : IE K ξ W X it fa) (hK : X.K = K := by rfl) : II K ξ W X tg it (e1 gIt fa) := by
  obtain ⟨K, Kt⟩ := K; obtain rfl : X.K = K := hK
  refine PI.pick fun σr H Q q => ?_
  obtain ⟨N, ζ, μ, σ, wd, so, q⟩ := q
  have key := then1I wd so q
  cases ea : fa σ μ with
  | ex c f μ1 =>
    refine ⟨_, pi_list h, N, ζ, μ, σ, wd, so, ?_⟩
    unfold e1 at q
    rw [ea] at q ⊢
    exact q
  | stuck =>
    unfold e1 at q
    rw [ea] at q
    exact q.elim
  | ok w μ1 =>
    unfold e1 at q
    rw [ea] at q
    have q' : PostI ⟨X.K, Kt⟩ W N ζ μ H σr Q (gIt w μ1) := q
    cases w with
    | c _ => exact q'.elim
    | x _ _ => exact q'.elim
    | s _ => exact q'.elim
    | g _ _ => exact q'.elim
    | self => exact q'.elim
    | lam _ _ => exact q'.elim
    | t d =>
      cases d with
      | lst l =>
        refine ⟨_, pi_list h, N, ζ, μ, σ, wd, so, ?_⟩
        rw [ea]
        intro ζ' H' v ev1 wd1 r1
        obtain ⟨p, vs, rfl, n1, g1, r2⟩ := rv_lst.mp (show rv ⟨X.K, Kt⟩ (MM N ζ' μ1) H' v (.lst l) from r1)
        exact ⟨p, rfl, ⟨vs, SqL.of g1⟩, q' ζ' H' _ ev1 wd1 (it_list n1 g1 r2)⟩
      | tup l =>
        refine ⟨_, pi_tup h, N, ζ, μ, σ, wd, so, ?_⟩
        rw [ea]
        intro ζ' H' v ev1 wd1 r1
        obtain ⟨p, vs, rfl, n1, g1, r2⟩ := rv_tup.mp (show rv ⟨X.K, Kt⟩ (MM N ζ' μ1) H' v (.tup l) from r1)
        exact ⟨p, rfl, ⟨vs, SqT.of g1⟩, q' ζ' H' _ ev1 wd1 (it_tup n1 g1 r2)⟩
      | str z =>
        refine ⟨_, pi_str h, N, ζ, μ, σ, wd, so, ?_⟩
        rw [ea]
        intro ζ' H' v ev1 wd1 r1
        obtain ⟨rfl, so1⟩ := rv_str.mp (show rv ⟨X.K, Kt⟩ (MM N ζ' μ1) H' v (.str z) from r1)
        exact ⟨z, rfl, q' ζ' H' _ ev1 wd1 (it_str so1)⟩
      | non => exact q'.elim
      | bl _ => exact q'.elim
      | int _ => exact q'.elim
      | dic _ _ _ => exact q'.elim
      | obj _ _ _ => exact q'.elim
theorem RVs1 {xs : List V} {w : Val} (h : RVs K ξ ζ M H xs [w]) : ∃ v, xs = [v] ∧ RV K ξ ζ M H v w := by
  match xs, h with
  | [v], h => exact ⟨v, rfl, h.1⟩
  | [], h => exact h.elim
  | _ :: _ :: _, h => exact h.2.elim
theorem RVs2 {xs : List V} {w u : Val} (h : RVs K ξ ζ M H xs [w, u]) : ∃ v z, xs = [v, z] ∧ RV K ξ ζ M H v w ∧ RV K ξ ζ M H z u := by
  match xs, h with
  | [v, u], h => exact ⟨v, u, rfl, h.1, h.2.1⟩
  | [], h => exact h.elim
  | [_], h => exact h.2.elim
  | _ :: _ :: _ :: _, h => exact h.2.2.elim
theorem ii_range1 {p : Pos} (hg : Gl X "range") (hm : X.mg "range" = none) (ha : IA K ξ W X [e] fs) (hs : starEach [e] X.env = [(false, eval e X.env)] := by rfl) : II K ξ W X tg (.Call (.Name "range" p) [e] [] pos) (eN gRange1 fs) := PI.of (pi_range1 hg hm ha hs) fun σr H Q q => by
  obtain ⟨N, ζ, μ, σ, wd, so, q⟩ := q
  refine (thenNI wd so q).mono fun xs H1 ⟨ζ1, μ1, ws, ev1, wd1, so1, r1, q1⟩ => ?_
  unfold gRange1 at q1
  split at q1
  · split at q1
    · rename_i j hj
      obtain ⟨v, rfl, hv⟩ := RVs1 r1
      cases rv_int.mp (show rv K (MM N ζ1 μ1) H1 v (.int j) from hv)
      exact ⟨j, rfl, (bnd_ok hj).1, (bnd_ok hj).2, q1 ζ1 H1 _ Ev.refl wd1 it_rng⟩
    · exact q1.elim
  · exact q1.elim
theorem ii_range2 {e2 : Expr} {p : Pos} (hg : Gl X "range") (hm : X.mg "range" = none) (ha : IA K ξ W X [e, e2] fs) (h : ∀ {t : TA}, PA X [e, e2] t → PI X tg (.Call (.Name "range" p) [e, e2] [] pos) (iRng2 t)) : II K ξ W X tg (.Call (.Name "range" p) [e, e2] [] pos) (eN gRange2 fs) := PI.of (h ha) fun σr H Q q => by
  obtain ⟨N, ζ, μ, σ, wd, so, q⟩ := q
  refine (thenNI wd so q).mono fun xs H1 ⟨ζ1, μ1, ws, ev1, wd1, so1, r1, q1⟩ => ?_
  unfold gRange2 at q1
  split at q1
  · split at q1
    · rename_i i j hj
      obtain ⟨v, u, rfl, hv, hu⟩ := RVs2 r1
      cases rv_int.mp (show rv K (MM N ζ1 μ1) H1 v (.int i) from hv)
      cases rv_int.mp (show rv K (MM N ζ1 μ1) H1 u (.int j) from hu)
      rw [Bool.and_eq_true] at hj
      exact ⟨i, j, rfl, ⟨(bnd_ok hj.1).1, (bnd_ok hj.1).2, (bnd_ok hj.2).1, (bnd_ok hj.2).2⟩, q1 ζ1 H1 _ Ev.refl wd1 it_rng⟩
    · exact q1.elim
  · exact q1.elim
theorem ii_enum {p tpos : Pos} {elts : List Expr} {kk : Nat} (hg : Gl X "enumerate") (hm : X.mg "enumerate" = none) (ha : IA K ξ W X [e] fs) (hs : starEach [e] X.env = [(false, eval e X.env)] := by rfl) (hK : X.K = K := by rfl) : II K ξ W X (.Tuple elts kk tpos) (.Call (.Name "enumerate" p) [e] [] pos) (eN gEnum fs) := by
  obtain ⟨K, Kt⟩ := K; obtain rfl : X.K = K := hK
  refine PI.pick fun σr H Q q => ?_
  obtain ⟨N, ζ, μ, σ, wd, so, q⟩ := q
  unfold eN at q
  cases ea : fs σ μ with
  | ex c f μ1 =>
    refine ⟨_, pi_enum hg hm ha hs, N, ζ, μ, σ, wd, so, ?_⟩
    rw [ea] at q ⊢
    exact q
  | stuck =>
    rw [ea] at q
    exact q.elim
  | ok ws μ1 =>
    rw [ea] at q
    have q' : PostI ⟨X.K, Kt⟩ W N ζ μ H σr Q (gEnum ws μ1) := q
    unfold gEnum at q'
    split at q'
    · rename_i d
      cases d with
      | lst l =>
        refine ⟨_, pi_enum hg hm ha hs, N, ζ, μ, σ, wd, so, ?_⟩
        rw [ea]
        intro ζ' H' vs ev1 wd1 r1
        obtain ⟨v, rfl, r1'⟩ := RVs1 r1
        obtain ⟨p, vs, rfl, n1, g1, r2⟩ := rv_lst.mp (show rv ⟨X.K, Kt⟩ (MM N ζ' μ1) H' v (.lst l) from r1')
        exact ⟨p, vs, rfl, SqL.of g1, q' ζ' H' _ ev1 wd1 (it_enL n1 g1 r2)⟩
      | tup l =>
        refine ⟨_, WD.pi_enumT X.K hg hm ha hs, N, ζ, μ, σ, wd, so, ?_⟩
        rw [ea]
        intro ζ' H' vs ev1 wd1 r1
        obtain ⟨v, rfl, r1'⟩ := RVs1 r1
        obtain ⟨p, vs, rfl, n1, g1, r2⟩ := rv_tup.mp (show rv ⟨X.K, Kt⟩ (MM N ζ' μ1) H' v (.tup l) from r1')
        exact ⟨p, vs, rfl, SqT.of g1, q' ζ' H' _ ev1 wd1 (it_enT n1 g1 r2)⟩
      | str z => exact q'.elim
      | non => exact q'.elim
      | bl _ => exact q'.elim
      | int _ => exact q'.elim
      | dic _ _ _ => exact q'.elim
      | obj _ _ _ => exact q'.elim
    · exact q'.elim
theorem it_zipL {a b : Addr} {vs ws : List V} {ds es : List PV} (n : ¬ M a) (n' : ¬ M b) (h : H a = some (.lst vs)) (h' : H b = some (.lst ws)) (r : rvs K M H vs ds) (r' : rvs K M H ws es) : ItOk K M H (Itz K a b) (zipP ds es) := fun M1 H1 na kp fr => by
  have h1 : SqL K H1 a vs := SqL.of (kp a _ rfl n h)
  have h2 : SqL K H1 b ws := SqL.of (kp b _ rfl n' h')
  have r1 := rvs_st na kp ds vs r
  have r2 := rvs_st na kp es ws r'
  have hl := rvs_len r
  have hl2 := rvs_len r'
  refine ⟨fun i d hd => ?_, ?_⟩
  · obtain ⟨z, y, hz, hy, rfl⟩ := zip_at hd
    obtain ⟨v, hv, rvv⟩ := rvs_at r1 hz
    obtain ⟨u, hu, rvu⟩ := rvs_at r2 hy
    refine ⟨⟨vs, ws, v, u, h1, h2, hv, hu⟩, fun x H2 hy => ?_⟩
    obtain ⟨T, x1, x2, rfl, hT, rfl, k1, k2⟩ := hy
    have e1 := k1 vs h1
    have e2 := k2 ws h2
    rw [hv] at e1
    rw [hu] at e2
    cases e1
    cases e2
    exact pair_new fr hT rvv rvu
  · refine ⟨vs, ws, h1, h2, ?_⟩
    rw [zip_len]
    omega
theorem it_zipT {a b : Addr} {vs ws : List V} {ds es : List PV} (n : ¬ M a) (n' : ¬ M b) (h : H a = some (.tup vs)) (h' : H b = some (.tup ws)) (r : rvs K M H vs ds) (r' : rvs K M H ws es) : ItOk K M H (RZ.ItzT K a b) (zipP ds es) := fun M1 H1 na kp fr => by
  have h1 : SqT K H1 a vs := SqT.of (kp a _ rfl n h)
  have h2 : SqT K H1 b ws := SqT.of (kp b _ rfl n' h')
  have r1 := rvs_st na kp ds vs r
  have r2 := rvs_st na kp es ws r'
  have hl := rvs_len r
  have hl2 := rvs_len r'
  refine ⟨fun i d hd => ?_, ?_⟩
  · obtain ⟨z, y, hz, hy, rfl⟩ := zip_at hd
    obtain ⟨v, hv, rvv⟩ := rvs_at r1 hz
    obtain ⟨u, hu, rvu⟩ := rvs_at r2 hy
    refine ⟨⟨vs, ws, v, u, h1, h2, hv, hu⟩, fun x H2 hy => ?_⟩
    obtain ⟨T, x1, x2, rfl, hT, rfl, k1, k2⟩ := hy
    have e1 := k1 vs h1
    have e2 := k2 ws h2
    rw [hv] at e1
    rw [hu] at e2
    cases e1
    cases e2
    exact pair_new fr hT rvv rvu
  · refine ⟨vs, ws, h1, h2, ?_⟩
    rw [zip_len]
    omega

theorem ii_zip {e2 : Expr} {p tpos : Pos} {elts : List Expr} {kk : Nat} (hg : Gl X "zip") (hm : X.mg "zip" = none) (ha : IA K ξ W X [e, e2] fs) (hs : starEach [e, e2] X.env = (false, eval e X.env) :: starEach [e2] X.env := by rfl) (hpl : (backTo pos (starEach [e2] X.env)).any (·.1) = false := by rfl) (hK : X.K = K := by rfl) :
    II K ξ W X (.Tuple elts kk tpos) (.Call (.Name "zip" p) [e, e2] [] pos) (eN gZip fs) := PI.of (WD.k_pi_zipA K hg hm ha hs hpl hK) fun σr H Q q => by
  obtain ⟨N, ζ, μ, σ, wd, so, q⟩ := q
  refine (thenNI wd so q).mono fun xs H1 ⟨ζ1, μ1, ws, ev1, wd1, so1, r1, q1⟩ => ?_
  unfold gZip at q1
  split at q1
  · rename_i l m
    obtain ⟨v, u, rfl, hv, hu⟩ := RVs2 r1
    obtain ⟨p, vs, rfl, n1, g1, r2⟩ := rv_lst.mp (show rv K (MM N ζ1 μ1) H1 v (.lst l) from hv)
    obtain ⟨p', vs', rfl, n1', g1', r2'⟩ := rv_lst.mp (show rv K (MM N ζ1 μ1) H1 u (.lst m) from hu)
    exact ⟨p, p', vs, vs', rfl, .inl ⟨SqL.of g1, SqL.of g1', q1 ζ1 H1 _ Ev.refl wd1 (it_zipL n1 n1' g1 g1' r2 r2')⟩⟩
  · rename_i l m
    obtain ⟨v, u, rfl, hv, hu⟩ := RVs2 r1
    obtain ⟨p, vs, rfl, n1, g1, r2⟩ := rv_tup.mp (show rv K (MM N ζ1 μ1) H1 v (.tup l) from hv)
    obtain ⟨p', vs', rfl, n1', g1', r2'⟩ := rv_tup.mp (show rv K (MM N ζ1 μ1) H1 u (.tup m) from hu)
    exact ⟨p, p', vs, vs', rfl, .inr ⟨SqT.of g1, SqT.of g1', q1 ζ1 H1 _ Ev.refl wd1 (it_zipT n1 n1' g1 g1' r2 r2')⟩⟩
  · exact q1.elim
end
/-! ### list comprehensions -/
def R.noex {α : Type} : R α → R α
  | .ex _ _ _ => .stuck
  | r => r
def wipeM (σ : Sl) : List Nat → Sl
  | [] => σ
  | v :: vs => (wipeM σ vs).set v none
def gT (w : Val) (μ : Store) : R PV := match w with
  | .t d => .ok d μ
  | _ => .stuck
def lcL (T : Tgt) (test : Sl → Store → R Bool) (elt : ME) : List PV → Sl → Store → R (List PV)
  | [], _, μ => .ok [] μ
  | d :: ds, σ, μ => match asg T (.t d) σ with
    | none => .stuck
    | some σ1 => (test σ1 μ).noex.bind fun b μ1 => if b then (elt σ1 μ1).noex.bind fun w μ2 => (gT w μ2).bind fun y μ3 => (lcL T test elt ds σ μ3).bind fun ys μ4 => .ok (y :: ys) μ4 else lcL T test elt ds σ μ1
def szF (ds : List PV) (μ : Store) : R (List PV) := if ds.length ≤ sizeLine then .ok ds μ else .stuck
def lcF (it : Sl → Store → R (List PV)) (T : Tgt) (test : Sl → Store → R Bool) (elt : ME) : Sl → Store → R (List PV) := fun σ μ => (it σ μ).bind fun items μ1 => (lcL T test elt items (wipeM σ T.sl) μ1).bind szF
def tYes' : Sl → Store → R Bool := fun _ μ => .ok true μ
abbrev W0 : WX := fun _ _ _ _ => False
section
variable {X : Cx} {K : KT} {ξ : Xi} {W : WX} {N : MS} {ζ : List Addr} {μ : Store} {M : MS} {H : Hp} {σr : L2.St} {σ : Sl} {tg it e : Expr} {T : Tgt} {fi : Sl → Store → R (List PV)} {test : Sl → Store → R Bool} {elt : ME}
theorem Sok.wipe (h : Sok K ξ ζ M H σr σ) : ∀ s : List Nat, Sok K ξ ζ M H (L2.wipe σr s) (wipeM σ s)
  | [] => h
  | v :: vs => (Sok.wipe h vs).drop
theorem Ev.mutNew {ζ1 : List Addr} {μ1 : Store} {H1 : Hp} {D : Addr} {o : HO} (e : Ev K.tb ζ μ H ζ1 μ1 H1) (h : nn K.tb (H D)) : Ev K.tb ζ μ H ζ1 μ1 (upd H1 D o) := ⟨e.pre, e.fr.mutNew h, e.ml⟩
theorem Wd.mutN {D : Addr} {o o0 : HO} (wd : Wd K N ζ μ H) (h : N D) (h0 : H D = some o0) (n : isTb o0 = false := by rfl) (x : isX o0 = false := by rfl) (n1 : isTb o = false := by rfl) (x1 : isX o = false := by rfl) : Wd K N ζ μ (upd H D o) := by
  have ne : ∀ a, ¬ MM N ζ μ a → a ≠ D := fun a n z => n (.inr (by rw [z]; exact h))
  refine ⟨wd.len, wd.inj, fun k c a h1 h2 => (wd.cell k c a h1 h2).st (fun _ _ h => h) (fun _ n _ => n) (fun b u _ n e => by rw [upd_ne (ne b n)]; exact e) (fun u _ e => ?_), fun a ha => ⟨(wd.nd a ha).1, (by
    by_cases q : a = D
    · rw [q]; exact ⟨o, upd_same, n1, x1⟩
    · rw [upd_ne q]; exact (wd.nd a ha).2)⟩, tabs_mut h0 n x wd.tb⟩
  rw [upd_ne]
  · exact e
  · rintro rfl
    exact (wd.nd a h).1 ⟨k, c, h2, h1⟩
theorem rvs_mutN {D : Addr} {o : HO} {vs : List V} {ds : List PV} (h : M D) (r : rvs K M H vs ds) : rvs K M (upd H D o) vs ds := rvs_st (fun _ n _ => n) (fun b u _ n e => by rw [upd_ne fun z => n (by rw [z]; exact h)]; exact e) ds vs r
theorem rv_mutN {D : Addr} {o : HO} {v : V} {d : PV} (h : M D) (r : rv K M H v d) : rv K M (upd H D o) v d := rv_st (fun _ n _ => n) (fun b u _ n e => by rw [upd_ne fun z => n (by rw [z]; exact h)]; exact e) d v r
/-- the slots, seen with more set aside -/
theorem Sok.aside {N' : MS} {ζ1 : List Addr} {μ1 : Store} {H1 : Hp} (h : Sok K ξ ζ (MM N ζ μ) H σr σ) (pre : ∀ (k : Nat) (a : Addr), ζ[k]? = some a → ζ1[k]? = some a) (na : ∀ a, ¬ MM N ζ μ a → ¬ nn K.tb (H a) → ¬ MM N' ζ1 μ1 a) (kp : ∀ a o, nt K.tb o → ¬ MM N ζ μ a → H a = some o → H1 a = some o) : Sok K ξ ζ1 (MM N' ζ1 μ1) H1 σr σ := by
  refine ⟨h.1, fun i w hw => ?_⟩
  obtain ⟨v, h1, h2⟩ := h.2 i w hw
  exact ⟨v, h1, h2.st pre na kp⟩
theorem lcL_noex : ∀ {items : List PV} {σ : Sl} {μ3 : Store} {c : Str} {f : Option (Str × PV)} {μ4 : Store}, lcL T test elt items σ μ3 = .ex c f μ4 → False := by
  intro items
  induction items with
  | nil => intro σ μ3 c f μ4 h; unfold lcL at h; cases h
  | cons d ds ih =>
    intro σ μ3 c f μ4 h
    unfold lcL at h
    split at h
    · cases h
    · rename_i σ1 _
      cases et : test σ1 μ3 with
      | stuck => rw [et] at h; cases h
      | ex _ _ _ => rw [et] at h; cases h
      | ok b μ5 =>
        rw [et] at h
        cases b with
        | false => exact ih h
        | true =>
          have h2 : ((elt σ1 μ5).noex.bind fun w μ2 => (gT w μ2).bind fun y μ3 => (lcL T test elt ds σ μ3).bind fun ys μ4 => .ok (y :: ys) μ4) = .ex c f μ4 := h
          cases ee : elt σ1 μ5 with
          | stuck => rw [ee] at h2; cases h2
          | ex _ _ _ => rw [ee] at h2; cases h2
          | ok w μ6 =>
            rw [ee] at h2
            cases w with
            | c _ => cases h2
            | x _ _ => cases h2
            | s _ => cases h2
            | g _ _ => cases h2
            | self => cases h2
            | lam _ _ => cases h2
            | t y' =>
              have h3 : ((lcL T test elt ds σ μ6).bind fun ys μ4 => R.ok (y' :: ys) μ4) = .ex c f μ4 := h2
              cases el : lcL T test elt ds σ μ6 with
              | stuck => rw [el] at h3; cases h3
              | ok _ _ => rw [el] at h3; cases h3
              | ex c' f' μ7 => exact ih el
/-- the reading of a comprehension -/
theorem rd_lc {Q : VK} (q : tF K ξ W (lcF fi T test elt) σr H Q) : tLc (tI K ξ W fi) (tG K ξ T) (tT K ξ W0 test) (tE K ξ W0 elt) T.sl σr H Q := by
  obtain ⟨N, ζ, μ, σ, wd, so, q⟩ := q
  refine ⟨N, ζ, μ, σ, wd, so, ?_⟩
  unfold lcF at q
  cases e : fi σ μ with
  | stuck => rw [e] at q; exact q
  | ex c f μ1 => rw [e] at q; exact q
  | ok items μ1 =>
    rw [e] at q
    intro ζ1 H1 J ev1 wd1 ok D hD
    have q1 : PostF K W N ζ1 μ1 H1 σr Q ((lcL T test elt items (wipeM σ T.sl) μ1).bind szF) := PostF.ev ev1 q
    have so1 := so.ev ev1
    have nN : ¬ N D := fun z => (wd1.nd D z).2.ne hD
    refine ⟨fun i m H' => ∃ ζ' μ' acc vs, i ≤ items.length ∧ m = items.length - i ∧ Ev K.tb ζ1 μ1 H1 ζ' μ' H' ∧ Wd K (WD.plus N D) ζ' μ' H' ∧ H' D = some (.lst vs) ∧ rvs K (MM (WD.plus N D) ζ' μ') H' vs acc ∧ PostF K W N ζ1 μ1 H1 σr Q ((lcL T test elt (items.drop i) (wipeM σ T.sl) μ').bind fun ys μ4 => szF (acc ++ ys) μ4),
      ⟨_, ζ1, μ1, [], [], Nat.zero_le _, rfl, Ev.new hD, wd1.aside (Grow.upd hD) hD ⟨_, upd_same, rfl, rfl⟩, upd_same, rvs_nil, q1⟩, ?_⟩
    rintro i m H' ⟨ζ', μ', acc, vs, hi, hm, ev', wd', hD', ra, q'⟩
    have na : ∀ a, ¬ MM N ζ1 μ1 a → ¬ nn K.tb (H1 a) → ¬ MM (WD.plus N D) ζ' μ' a := fun a n ne z => by
      rcases z with z | z | z
      · exact (ev'.ml a z).elim (fun z => n (.inl z)) ne
      · exact n (.inr z)
      · exact ne (nn_none (by rw [z]; exact hD))
    obtain ⟨k1, k2⟩ := ok (MM (WD.plus N D) ζ' μ') H' na ev'.keep wd'.fre
    have hDM : MM (WD.plus N D) ζ' μ' D := .inr (.inr rfl)
    have hlen := rvs_len ra
    by_cases hlt : i < items.length
    · refine .inr ?_
      have hd : items.drop i = items[i] :: items.drop (i + 1) := List.drop_eq_getElem_cons hlt
      obtain ⟨kgo, ky⟩ := k1 i _ (List.getElem?_eq_getElem hlt)
      refine ⟨kgo, fun H2 => ∃ ζ2 μ2 acc2 vs2, i + 1 ≤ items.length ∧ Ev K.tb ζ1 μ1 H1 ζ2 μ2 H2 ∧ Wd K (WD.plus N D) ζ2 μ2 H2 ∧ H2 D = some (.lst vs2) ∧ rvs K (MM (WD.plus N D) ζ2 μ2) H2 vs2 acc2 ∧ PostF K W N ζ1 μ1 H1 σr Q ((lcL T test elt (items.drop (i + 1)) (wipeM σ T.sl) μ2).bind fun ys μ4 => szF (acc2 ++ ys) μ4),
        fun H2 ⟨ζ2, μ2, acc2, vs2, a1, a2, a3, a4, a5, a6⟩ => ⟨items.length - (i + 1), by omega, ζ2, μ2, acc2, vs2, a1, rfl, a2, a3, a4, a5, a6⟩, fun x Hy hy => ?_⟩
      obtain ⟨gr, rx⟩ := ky x Hy hy
      rw [hd] at q'
      unfold lcL at q'
      cases ea : asg T (.t items[i]) (wipeM σ T.sl) with
      | none => rw [ea] at q'; exact q'.elim
      | some σ1 =>
        rw [ea] at q'
        dsimp only at q'
        have wdy := wd'.fr0 gr
        have evy : Ev K.tb ζ1 μ1 H1 ζ' μ' Hy := ev'.trans gr.ev
        have soy : Sok K ξ ζ' (MM (WD.plus N D) ζ' μ') Hy (L2.wipe σr T.sl) (wipeM σ T.sl) := (so1.wipe T.sl).aside ev'.pre na (fun a o t n h => gr a o (ev'.keep a o t n h))
        refine ⟨WD.plus N D, ζ', μ', wipeM σ T.sl, .t items[i], σ1, wdy, soy, rx, ea, fun σr1 so1 ag => ⟨?_, WD.plus N D, ζ', μ', σ1, wdy, so1, ?_⟩⟩
        · have h1 := ag.wipe
          rw [h1]
          refine List.ext_getElem? fun j => ?_
          rw [wipe_get, wipe_get]
          by_cases hj : j ∈ T.sl
          · rw [if_pos hj, if_pos hj, wipe_length]
          · rw [if_neg hj, if_neg hj]
        · cases et : test σ1 μ' with
          | stuck => rw [et] at q'; exact q'.elim
          | ex c f μ2 => rw [et] at q'; exact q'.elim
          | ok b μ2 =>
            rw [et] at q'
            intro ζ2 H2 ev2 wd2
            cases b with
            | false =>
              refine iteF ⟨ζ2, μ2, acc, vs, hlt, evy.trans ev2, wd2, ?_, ?_, q'⟩
              · exact ev2.fr.keep _ _ rfl (fun z => (wdy.nd D (.inr rfl)).1 z) (gr _ _ hD')
              · exact ev2.rvs (gr.rvs ra)
            | true =>
              refine iteT ⟨WD.plus N D, ζ2, μ2, σ1, wd2, so1.ev ev2, ?_⟩
              have q2 : PostF K W N ζ1 μ1 H1 σr Q (((elt σ1 μ2).noex.bind fun w μ2 => (gT w μ2).bind fun y μ3 => (lcL T test elt (items.drop (i + 1)) (wipeM σ T.sl) μ3).bind fun ys μ4 => .ok (y :: ys) μ4).bind fun ys μ4 => szF (acc ++ ys) μ4) := q'
              cases ee : elt σ1 μ2 with
              | stuck => rw [ee] at q2; exact q2.elim
              | ex c f μ3 => rw [ee] at q2; exact q2.elim
              | ok w μ3 =>
                rw [ee] at q2
                intro ζ3 H3 y ev3 wd3 r3
                cases w with
                | c _ => exact q2.elim
                | x _ _ => exact q2.elim
                | s _ => exact q2.elim
                | g _ _ => exact q2.elim
                | self => exact q2.elim
                | lam _ _ => exact q2.elim
                | t y' =>
                  have q3 : PostF K W N ζ1 μ1 H1 σr Q (((lcL T test elt (items.drop (i + 1)) (wipeM σ T.sl) μ3).bind fun ys μ4 => .ok (y' :: ys) μ4).bind fun ys μ4 => szF (acc ++ ys) μ4) := q2
                  have hD3 : H3 D = some (.lst vs) := ev3.fr.keep _ _ rfl (fun z => (wd2.nd D (.inr rfl)).1 z) (ev2.fr.keep _ _ rfl (fun z => (wdy.nd D (.inr rfl)).1 z) (gr _ _ hD'))
                  have hDM3 : MM (WD.plus N D) ζ3 μ3 D := .inr (.inr rfl)
                  have hsz : vs.length < sizeLine := by
                    cases el : lcL T test elt (items.drop (i + 1)) (wipeM σ T.sl) μ3 with
                    | stuck => rw [el] at q3; exact q3.elim
                    | ex c f μ4 =>
                      exfalso
                      exact lcL_noex el
                    | ok ys μ4 =>
                      rw [el] at q3
                      have q4 : PostF K W N ζ1 μ1 H1 σr Q (szF (acc ++ (y' :: ys)) μ4) := q3
                      unfold szF at q4
                      split at q4
                      · rename_i hz
                        rw [List.length_append, List.length_cons] at hz
                        omega
                      · exact q4.elim
                  refine ⟨vs, hD3, hsz, ζ3, μ3, acc ++ [y'], vs ++ [y], hlt, ((evy.trans ev2).trans ev3).mutNew (nn_none hD), wd3.mutN (.inr rfl) hD3, upd_same, rvs_app (rvs_mutN hDM3 (ev3.rvs (ev2.rvs (gr.rvs ra)))) (rvs_cons.mpr ⟨rv_mutN hDM3 r3, rvs_nil⟩), ?_⟩
                  cases el : lcL T test elt (items.drop (i + 1)) (wipeM σ T.sl) μ3 with
                  | stuck => rw [el] at q3; exact q3
                  | ex c f μ4 => exact (lcL_noex el).elim
                  | ok ys μ4 =>
                    rw [el] at q3
                    show PostF K W N ζ1 μ1 H1 σr Q (szF ((acc ++ [y']) ++ ys) μ4)
                    rw [List.append_assoc]
                    exact q3
    · refine .inl ?_
      have hi2 : i = items.length := by omega
      subst hi2
      rw [List.drop_length] at q'
      have q2 : PostF K W N ζ1 μ1 H1 σr Q (szF (acc ++ []) μ') := q'
      rw [List.append_nil] at q2
      unfold szF at q2
      split at q2
      · exact ⟨k2, q2 ζ' H' D vs ev' wd' (nn_none hD) hD' ra⟩
      · exact q2.elim
end
end PM
namespace PM
open PySem PySem.Spec PyProof.Rows L2
open WD (MS upd_none)
section
variable {X : Cx} {K : KT} {ξ : Xi} {W : WX} {N : MS} {ζ : List Addr} {μ : Store} {M : MS} {H : Hp} {σr : L2.St} {σ : Sl} {tg it e o : Expr} {es : List Expr} {T : Tgt} {fi : Sl → Store → R (List PV)} {fs : Sl → Store → R (List Val)} {test : Sl → Store → R Bool} {elt fa fo : ME} {st : Stmt} {pos : Pos}
theorem r_ofF {f : Sl → Store → R (List PV)} {Q : VK} (q : tE K ξ W (eOfF f) σr H Q) : tF K ξ W f σr H Q := by
  obtain ⟨N, ζ, μ, σ, wd, so, q⟩ := q
  refine ⟨N, ζ, μ, σ, wd, so, ?_⟩
  unfold eOfF at q
  cases e : f σ μ with
  | ok ds μ1 =>
    rw [e] at q
    intro ζ' H' a vs ev w hn ha r
    refine q ζ' H' _ ev w.unside (rv_lst.mpr ⟨a, vs, rfl, fun z => ?_, ha, rvs_wk (fun x z => z.elim .inl fun z => .inr (.inl z)) r⟩)
    rcases z with z | z
    · exact (w.nd a (.inr rfl)).1 z
    · exact (wd.nd a z).2.nn hn
  | ex c f μ1 => rw [e] at q; exact q
  | stuck => rw [e] at q; exact q
theorem r_cellF {f : Sl → Store → R (List PV)} {Q : VK} (q : tE K ξ W (eCellF f) σr H Q) : tF K ξ W f σr H Q := by
  obtain ⟨N, ζ, μ, σ, wd, so, q⟩ := q
  refine ⟨N, ζ, μ, σ, wd, so, ?_⟩
  unfold eCellF at q
  cases e : f σ μ with
  | ok ds μ1 =>
    rw [e] at q
    intro ζ' H' a vs ev w hn ha r
    refine q (ζ' ++ [a]) H' _ ⟨fun k b hb => ?_, ev.fr, fun b hb => ?_⟩ (w.push (fun z => (wd.nd a z).2.nn hn) ⟨vs, ha, r⟩) ⟨a, by rw [← w.len, List.getElem?_append_right (Nat.le_refl _), Nat.sub_self]; rfl, rfl⟩
    · have := ev.pre k b hb
      rw [List.getElem?_append_left (List.getElem?_eq_some_iff.mp this).1]
      exact this
    · rcases (Mof_snoc w.len b).mp hb with z | z
      · exact ev.ml b z
      · exact .inr (by rw [z]; exact hn)
  | ex c f μ1 => rw [e] at q; exact q
  | stuck => rw [e] at q; exact q
/-- [e for ..] -/
theorem f_lc (h : PE X e (tLc (tI K ξ W fi) (tG K ξ T) (tT K ξ W0 test) (tE K ξ W0 elt) T.sl)) : IF K ξ W X e (lcF fi T test elt) := PE.of h fun _ _ _ q => rd_lc q
theorem s_lcT {i : Nat} (h : PS X st (tAsg (tLc (tI K ξ W fi) (tG K ξ T) (tT K ξ W0 test) (tE K ξ W0 elt) T.sl) (gName i))) : IS K ξ W X st (sAsg (.nm i) (eOfF (lcF fi T test elt))) := s_asgR h fun _ _ _ q => rd_lc (r_ofF q)
theorem s_lcC {i : Nat} (h : PS X st (tAsg (tLc (tI K ξ W fi) (tG K ξ T) (tT K ξ W0 test) (tE K ξ W0 elt) T.sl) (gName i))) : IS K ξ W X st (sAsg (.nm i) (eCellF (lcF fi T test elt))) := s_asgR h fun _ _ _ q => rd_lc (r_cellF q)
theorem ts_yes : PTs X [] (tT K ξ W tYes') := by
  have h : PTs X [] tYes := pts_nil
  exact ⟨fun pins s σ H Q I q => h.run pins s σ H Q I (by
    obtain ⟨N, ζ, μ, σ, wd, so, q⟩ := q
    exact q ζ _ Ev.refl wd)⟩

/-! ### a thing that changes is changed -/
theorem Mof_set {k : Nat} {c c' : Cell} (h : μ[k]? = some (some c)) : ∀ x, Mof ζ (μ.set k (some c')) x ↔ Mof ζ μ x := by
  have hk := (List.getElem?_eq_some_iff.mp h).1
  intro x
  constructor
  · rintro ⟨j, d, h1, h2⟩
    by_cases e : k = j
    · subst e; exact ⟨k, c, h1, h⟩
    · rw [List.getElem?_set_ne e] at h2; exact ⟨j, d, h1, h2⟩
  · rintro ⟨j, d, h1, h2⟩
    by_cases e : k = j
    · subst e; exact ⟨k, c', h1, List.getElem?_set_self hk⟩
    · exact ⟨j, d, h1, by rw [List.getElem?_set_ne e]; exact h2⟩
theorem MM_set {k : Nat} {c c' : Cell} (h : μ[k]? = some (some c)) : ∀ x, MM N ζ (μ.set k (some c')) x ↔ MM N ζ μ x := fun x => or_congr (Mof_set h x) Iff.rfl
theorem ev_set {k : Nat} {a : Addr} {c c' : Cell} {o' : HO} (hk : μ[k]? = some (some c)) (ha : ζ[k]? = some a) (no : isTb o' = false := by rfl) : Ev K.tb ζ μ H ζ (μ.set k (some c')) (upd H a o') :=
  ⟨fun _ _ h => h, Fr.mut ⟨k, c, ha, hk⟩ no, fun x h => .inl ((Mof_set hk x).mp h)⟩
theorem Wd.setC {k : Nat} {a : Addr} {c c' : Cell} {o' : HO} (wd : Wd K N ζ μ H) (hk : μ[k]? = some (some c)) (ha : ζ[k]? = some a) (r : cellR K (ζ.take k) (MM N ζ μ) (upd H a o') a c') : Wd K N ζ (μ.set k (some c')) (upd H a o') := by
  have hM := MM_set (N := N) (ζ := ζ) (c' := c') hk
  have hkl := (List.getElem?_eq_some_iff.mp hk).1
  have aM : MM N ζ μ a := .inl ⟨k, c, ha, hk⟩
  have live : ∀ {j : Nat} {d : Cell}, (μ.set k (some c'))[j]? = some (some d) → ∃ d', μ[j]? = some (some d') ∧ (j ≠ k → d' = d) := by
    intro j d h
    by_cases e : k = j
    · subst e; exact ⟨c, hk, fun z => absurd rfl z⟩
    · rw [List.getElem?_set_ne e] at h; exact ⟨d, h, fun _ => rfl⟩
  refine ⟨by rw [List.length_set]; exact wd.len, fun i j b c1 c2 h1 h2 h3 h4 => ?_, fun j d b h1 h2 => ?_, fun b hb => ?_, (by obtain ⟨o, e1, e2, e3⟩ := (wd.cell k c a hk ha).obj; exact tabs_mut e1 e2 e3 wd.tb)⟩
  · obtain ⟨d1, g1, _⟩ := live h3
    obtain ⟨d2, g2, _⟩ := live h4
    exact wd.inj i j b d1 d2 h1 h2 g1 g2
  · by_cases e : k = j
    · subst e
      rw [ha] at h2
      cases h2
      rw [List.getElem?_set_self hkl] at h1
      cases h1
      exact r.st (fun _ _ h => h) (fun x n _ z => n ((hM x).mp z)) (fun _ _ _ _ e => e) (fun _ _ e => e)
    · rw [List.getElem?_set_ne e] at h1
      have hb : b ≠ a := fun z => e (wd.inj k j a c d ha (z ▸ h2) hk h1)
      exact (wd.cell j d b h1 h2).st (fun _ _ h => h) (fun x n _ z => n ((hM x).mp z)) (fun x o _ n hx => by rw [upd_ne fun z => n (by rw [z]; exact aM)]; exact hx) (fun o _ hx => by rw [upd_ne hb]; exact hx)
  · refine ⟨fun z => (wd.nd b hb).1 ((Mof_set hk b).mp z), ?_⟩
    rw [upd_ne fun z => (wd.nd b hb).1 (by rw [z]; exact ⟨k, c, ha, hk⟩)]
    exact (wd.nd b hb).2
/-- methods that change a list: what they answer, what the list is then -/
abbrev MF := List PV → List PV → Option (PV × List PV)
def mAppend : MF := fun old args => match args with
  | [d] => if old.length < sizeLine then some (.non, old ++ [d]) else none
  | _ => none
def mPop : MF := fun old args => match args with
  | [] => (old[old.length - 1]?).map fun y => (y, old.dropLast)
  | _ => none
def mPopAt : MF := fun old args => match args with
  | [.int i] => if bnd i then (seqIndex? i old.length).bind fun k => (old[k]?).map fun y => (y, old.eraseIdx k) else none
  | _ => none
def mClear : MF := fun _ args => match args with
  | [] => some (.non, [])
  | _ => none
def mReverse : MF := fun old args => match args with
  | [] => some (.non, old.reverse)
  | _ => none
/-- the reading of such a method: in the heap -/
def rMF (K : KT) (m : MF) : V → List V → Hp → VK → Prop := fun x xs H Q => ∃ M a vs ds es ret new, x = .ref a ∧ M a ∧ H a = some (.lst vs) ∧ rvs K M H vs ds ∧ rvs K M H xs es ∧ m ds es = some (ret, new) ∧
  ∀ v vs', rv K M H v ret → rvs K M H vs' new → Q v (upd H a (.lst vs'))
def lstAt (μ : Store) : Val → Option (Nat × List PV)
  | .c k => match μ[k]? with
    | some (some (.lst ds)) => some (k, ds)
    | _ => none
  | _ => none
def gMut (m : MF) (w : Val) (ws : List Val) (μ : Store) : R Val := match lstAt μ w, asT ws with
  | some (k, ds), some es => match m ds es with
    | some (ret, new) => .ok (.t ret) (μ.set k (some (.lst new)))
    | none => .stuck
  | _, _ => .stuck
def gExt (w : Val) (ws : List Val) (μ : Store) : R Val := match lstAt μ w, views μ ws with
  | some (k, ds), some [.lst es] => if ds.length + es.length ≤ sizeLine then .ok (.t .non) (μ.set k (some (.lst (ds ++ es)))) else .stuck
  | _, _ => .stuck
def eMutG (g : Val → List Val → Store → R Val) (o : ME) (as : Sl → Store → R (List Val)) : ME := fun σ μ => (o σ μ).bind fun w μ1 => match lstAt μ1 w with
  | none => .stuck
  | some _ => (as σ μ1).bind fun ws μ2 => g w ws μ2
abbrev eMut (m : MF) := eMutG (gMut m)
abbrev eExt := eMutG gExt
theorem lstAt_ok {w : Val} {k : Nat} {ds : List PV} {v : V} (wd : Wd K N ζ μ H) (r : RV K ξ ζ (MM N ζ μ) H v w) (e : lstAt μ w = some (k, ds)) : ∃ a vs, w = .c k ∧ v = .ref a ∧ ζ[k]? = some a ∧ μ[k]? = some (some (.lst ds)) ∧ H a = some (.lst vs) ∧ rvs K (MM N ζ μ) H vs ds := by
  cases w with
  | c j =>
    obtain ⟨a, ha, rfl⟩ := r
    simp only [lstAt] at e
    split at e
    · rename_i ds' hk
      cases e
      obtain ⟨vs, h1, h2⟩ := wd.cell k _ a hk ha
      exact ⟨a, vs, rfl, rfl, ha, hk, h1, h2⟩
    · cases e
  | t _ => cases e
  | x _ _ => cases e
  | s _ => cases e
  | g _ _ => cases e
  | self => cases e
  | lam _ _ => cases e
theorem read_mut {m : MF} {w : Val} {ws : List Val} {x : V} {xs : List V} {Q : VK} (wd : Wd K N ζ μ H) (r : RV K ξ ζ (MM N ζ μ) H x w) (rs : RVs K ξ ζ (MM N ζ μ) H xs ws) (h : PostE K ξ W N ζ μ H σr Q (gMut m w ws μ)) : rMF K m x xs H Q := by
  unfold gMut at h
  split at h
  · rename_i k ds es e1 e2
    split at h
    · rename_i ret new e3
      obtain ⟨a, vs, rfl, rfl, ha, hk, h1, h2⟩ := lstAt_ok wd r e1
      refine ⟨MM N ζ μ, a, vs, ds, es, ret, new, rfl, .inl ⟨k, _, ha, hk⟩, h1, h2, asT_rvs rs e2, e3, fun v vs' rv' rn => ?_⟩
      have ev : Ev K.tb ζ μ H ζ (μ.set k (some (.lst new))) (upd H a (.lst vs')) := ev_set hk ha
      exact h ζ _ v ev (wd.setC hk ha ⟨vs', upd_same, rvs_mutN (.inl ⟨k, _, ha, hk⟩) rn⟩) (ev.rv rv')
    · exact h.elim
  · exact h.elim
theorem mt_of {m : MF} {id : String} {r : V → List V → Hp → VK → Prop} (h : MtM X id r) (k : ∀ x xs H Q, rMF K m x xs H Q → r x xs H Q) : MtM X id (rMF K m) := fun pins s σ H x xs v us Q I rx rs q => h pins s σ H x xs v us Q I rx rs (k x xs H Q q)
theorem rvs1 {xs : List V} {d : PV} (h : rvs K M H xs [d]) : ∃ v, xs = [v] ∧ rv K M H v d := by
  cases xs with
  | nil => unfold rvs at h; exact h.elim
  | cons v xs =>
    rw [rvs_cons] at h
    cases List.eq_nil_of_length_eq_zero (rvs_len h.2)
    exact ⟨v, rfl, h.1⟩
theorem mt_appendM : MtM X "list.append" (rMF K mAppend) := mt_of mt_append fun x xs H Q q => by
  obtain ⟨M, a, vs, ds, es, ret, new, rfl, hM, h1, r1, r2, e, k⟩ := q
  unfold mAppend at e
  split at e
  · split at e
    · rename_i d hl
      cases e
      obtain ⟨v, rfl, hv⟩ := rvs1 r2
      exact ⟨a, vs, v, rfl, rfl, h1, by rw [rvs_len r1]; exact hl, k _ _ (rv_non.mpr rfl) (rvs_app r1 (rvs_cons.mpr ⟨hv, rvs_nil⟩))⟩
    · cases e
  · cases e
theorem rvs_dropLast {vs : List V} {ds : List PV} (h : rvs K M H vs ds) : rvs K M H vs.dropLast ds.dropLast := by
  rw [List.dropLast_eq_take, List.dropLast_eq_take, rvs_len h]
  exact rvs_take _ h
theorem mt_popM : MtM X "list.pop" (rMF K mPop) := mt_of mt_pop fun x xs H Q q => by
  obtain ⟨M, a, vs, ds, es, ret, new, rfl, hM, h1, r1, r2, e, k⟩ := q
  unfold mPop at e
  split at e
  · obtain ⟨y, e1, e2⟩ := Option.map_eq_some_iff.mp e
    cases e2
    cases List.eq_nil_of_length_eq_zero (rvs_len r2)
    obtain ⟨v, hv, rvv⟩ := rvs_at r1 e1
    exact ⟨a, vs, v, rfl, rfl, h1, by rw [rvs_len r1]; exact hv, k _ _ rvv (rvs_dropLast r1)⟩
  · cases e
theorem mt_popAtM : MtM X "list.pop" (rMF K mPopAt) := mt_of mt_popAt fun x xs H Q q => by
  obtain ⟨M, a, vs, ds, es, ret, new, rfl, hM, h1, r1, r2, e, k⟩ := q
  unfold mPopAt at e
  split at e
  · split at e
    · rename_i i hi
      cases e3 : seqIndex? i ds.length with
      | none => rw [e3] at e; cases e
      | some j =>
        rw [e3] at e
        obtain ⟨y, e1, e2⟩ := Option.map_eq_some_iff.mp e
        cases e2
        obtain ⟨u, rfl, hu⟩ := rvs1 r2
        cases rv_int.mp hu
        obtain ⟨v, hv, rvv⟩ := rvs_at r1 e1
        exact ⟨a, vs, i, j, v, rfl, rfl, h1, by have := bnd_ok hi; omega, by have := bnd_ok hi; omega, by rw [rvs_len r1]; exact e3, hv, k _ _ rvv (rvs_erase j r1)⟩
    · cases e
  · cases e
theorem mt_clearM : MtM X "list.clear" (rMF K mClear) := mt_of mt_clear fun x xs H Q q => by
  obtain ⟨M, a, vs, ds, es, ret, new, rfl, hM, h1, r1, r2, e, k⟩ := q
  unfold mClear at e
  split at e
  · cases e
    cases List.eq_nil_of_length_eq_zero (rvs_len r2)
    exact ⟨a, vs, rfl, rfl, h1, k _ _ (rv_non.mpr rfl) rvs_nil⟩
  · cases e
theorem mt_reverseM : MtM X "list.reverse" (rMF K mReverse) := mt_of mt_reverse fun x xs H Q q => by
  obtain ⟨M, a, vs, ds, es, ret, new, rfl, hM, h1, r1, r2, e, k⟩ := q
  unfold mReverse at e
  split at e
  · cases e
    cases List.eq_nil_of_length_eq_zero (rvs_len r2)
    exact ⟨a, vs, rfl, rfl, h1, k _ _ (rv_non.mpr rfl) (rvs_rev r1)⟩
  · cases e
/-- o.m(..) of a list that changes -/
theorem i_mut {m : MF} {name : Str} {id : String} {apos cpos : Pos} (slot : Slot "list" name id) (hty : typeOf (.builtin id) = pure (.type "method_descriptor")) (hm : MtM X id (rMF K m)) (ho : IE K ξ W X o fo) (ha : IA K ξ W X (e :: es) fs)
    (h : ∀ {r : V → List V → Hp → VK → Prop} {to : TE} {t : TA}, MtR X id r → PE X o to → PA X (e :: es) t → PE X (.Call (.Attribute o name apos) (e :: es) [] cpos) (tBM K "list" r to t)) : IE K ξ W X (.Call (.Attribute o name apos) (e :: es) [] cpos) (eMut m fo fs) := PE.of (h hm ho ha) fun σr H Q q => by
  obtain ⟨N, ζ, μ, σ, wd, so, q⟩ := q
  refine (then1 wd so q).mono fun x H1 ⟨ζ1, μ1, w1, ev1, wd1, so1, r1, q1⟩ => ?_
  split at q1
  · exact q1.elim
  · rename_i kd e
    obtain ⟨a, vs, rfl, rfl, ha, hk, h1, h2⟩ := lstAt_ok wd1 r1 (k := kd.1) (ds := kd.2) e
    refine ⟨.inl ⟨rfl, vs, SqL.of h1⟩, ?_⟩
    refine (thenN wd1 so1 q1).mono fun xs H2 ⟨ζ2, μ2, ws, ev2, wd2, so2, r2, q2⟩ => ?_
    exact read_mut wd2 (r1.ev ev2) r2 q2
theorem i_mut0 {m : MF} {name : Str} {id : String} {apos cpos : Pos} (hm : MtM X id (rMF K m)) (ho : IE K ξ W X o fo)
    (h : ∀ {r : V → List V → Hp → VK → Prop} {to : TE}, MtR X id r → PE X o to → PE X (.Call (.Attribute o name apos) [] [] cpos) (tBM0 K "list" r to)) : IE K ξ W X (.Call (.Attribute o name apos) [] [] cpos) (eMut m fo aNil) := PE.of (h hm ho) fun σr H Q q => by
  obtain ⟨N, ζ, μ, σ, wd, so, q⟩ := q
  refine (then1 wd so q).mono fun x H1 ⟨ζ1, μ1, w1, ev1, wd1, so1, r1, q1⟩ => ?_
  split at q1
  · exact q1.elim
  · rename_i kd e
    obtain ⟨a, vs, rfl, rfl, ha, hk, h1, h2⟩ := lstAt_ok wd1 r1 (k := kd.1) (ds := kd.2) e
    exact ⟨.inl ⟨rfl, vs, SqL.of h1⟩, read_mut (ws := []) wd1 r1 trivial q1⟩
/-- xs.extend(ys) -/
theorem i_ext {name : Str} {apos cpos : Pos} (ho : IE K ξ W X o fo) (ha : IA K ξ W X (e :: es) fs)
    (h : ∀ {to : TE} {t : TA}, PE X o to → PA X (e :: es) t → PE X (.Call (.Attribute o name apos) (e :: es) [] cpos) (tBM K "list" rExtend to t)) : IE K ξ W X (.Call (.Attribute o name apos) (e :: es) [] cpos) (eExt fo fs) := PE.of (h ho ha) fun σr H Q q => by
  obtain ⟨N, ζ, μ, σ, wd, so, q⟩ := q
  refine (then1 wd so q).mono fun x H1 ⟨ζ1, μ1, w1, ev1, wd1, so1, r1, q1⟩ => ?_
  split at q1
  · exact q1.elim
  · rename_i kd e
    obtain ⟨a, vs, rfl, rfl, ha, hk, h1, h2⟩ := lstAt_ok wd1 r1 (k := kd.1) (ds := kd.2) e
    refine ⟨.inl ⟨rfl, vs, SqL.of h1⟩, ?_⟩
    refine (thenN wd1 so1 q1).mono fun xs H2 ⟨ζ2, μ2, ws, ev2, wd2, so2, r2, q2⟩ => ?_
    unfold gExt at q2
    split at q2
    · rename_i k ds es e1 e2
      split at q2
      · rename_i hl
        obtain ⟨a', vs', ew, ea, ha', hk', h1', h2'⟩ := lstAt_ok wd2 (r1.ev ev2) e1
        cases ea
        obtain ⟨u, rfl, hu⟩ := vvs1 (r2.views wd2 e2)
        obtain ⟨b, zs, rfl, hb, rz⟩ := hu
        have l1 := rvs_len h2'
        have l2 := rvs_len rz
        refine ⟨a, b, vs', zs, rfl, rfl, h1', hb, by omega, ?_⟩
        have ev : Ev K.tb ζ2 μ2 H2 ζ2 (μ2.set k (some (.lst (ds ++ es)))) (upd H2 a (.lst (vs' ++ zs))) := ev_set hk' ha'
        exact q2 ζ2 _ _ ev (wd2.setC hk' ha' ⟨_, upd_same, rvs_mutN (.inl ⟨k, _, ha', hk'⟩) (rvs_app h2' rz)⟩) (ev.rv (rv_non.mpr rfl))
      · exact q2.elim
    · exact q2.elim
/-- xs[i] = e, of a list that changes -/
def gSetL (w u z : Val) (μ : Store) : Option Store := match w, lstAt μ u, z with
  | .t d, some (k, ds), .t (.int i) => (ixN ds.length i).map fun j => μ.set k (some (.lst (ds.set j d)))
  | _, _, _ => none
def sSetL (fe fo fi : ME) : MSt := fun σ μ => (fe σ μ).st σ fun w μ1 => (fo σ μ1).st σ fun u μ2 => (fi σ μ2).st σ fun z μ3 => match gSetL w u z μ3 with
  | some μ4 => .nx σ μ4
  | none => .stuck
theorem read_setL {w1 w2 w3 : Val} {x y z : V} {μ' : Store} {Q : Hp → Prop} (wd : Wd K N ζ μ H) (r1 : RV K ξ ζ (MM N ζ μ) H x w1) (r2 : RV K ξ ζ (MM N ζ μ) H y w2) (r3 : RV K ξ ζ (MM N ζ μ) H z w3) (e : gSetL w1 w2 w3 μ = some μ') (k : ∀ H', Ev K.tb ζ μ H ζ μ' H' → Wd K N ζ μ' H' → Q H') : rSetL y z x H Q := by
  unfold gSetL at e
  split at e
  · rename_i d k' ds i e1
    obtain ⟨j, hj, rfl⟩ := Option.map_eq_some_iff.mp e
    obtain ⟨a, vs, ew, rfl, ha, hk, h1, h2⟩ := lstAt_ok wd r2 e1
    cases rv_int.mp (show rv K (MM N ζ μ) H z (.int i) from r3)
    have rx : rv K (MM N ζ μ) H x d := r1
    exact ⟨a, vs, i, j, rfl, rfl, h1, by rw [rvs_len h2]; exact hj, k _ (ev_set hk ha) (wd.setC hk ha ⟨_, upd_same, rvs_mutN (.inl ⟨k', _, ha, hk⟩) (rvs_set rx j h2)⟩)⟩
  · cases e
theorem s_setL {fe fi : ME} (h : PS X st (tAsg (tE K ξ W fe) (gSub (tE K ξ W fo) (tE K ξ W fi) rSetL))) : IS K ξ W X st (sSetL fe fo fi) := PS.of h fun D σr H q => by
  obtain ⟨N, ζ, μ, σ, wd, so, q⟩ := q
  refine (stE wd so q).mono fun x H1 ⟨ζ1, μ1, w1, ev1, wd1, so1, r1, q1⟩ => ?_
  refine (stE wd1 so1 q1).mono fun y H2 ⟨ζ2, μ2, w2, ev2, wd2, so2, r2, q2⟩ => ?_
  refine (stE wd2 so2 q2).mono fun z H3 ⟨ζ3, μ3, w3, ev3, wd3, so3, r3, q3⟩ => ?_
  cases e : gSetL w1 w2 w3 μ3 with
  | none => rw [e] at q3; exact q3.elim
  | some μ4 =>
    rw [e] at q3
    exact read_setL wd3 ((r1.ev ev2).ev ev3) (r2.ev ev3) r3 e fun H' ev wd => q3 ζ3 H' σr ev wd (so3.ev ev)
/-! ### a thing that changes no more: it becomes a datum -/
def frz1 (μ : Store) : Val → Option (Val × Store)
  | .c k => match μ[k]? with
    | some (some (.lst ds)) => some (.t (.lst ds), μ.set k none)
    | some (some (.dic b ks ds)) => some (.t (.dic b ks ds), μ.set k none)
    | _ => none
  | w => some (w, μ)
/-- ghost: the name's thing becomes a datum -/
def sFrz (i : Nat) : MSt := fun σ μ => match σ[i]? with
  | some (some w) => match frz1 μ w with
    | some (w', μ') => .nx (σ.set i (some w')) μ'
    | none => .stuck
  | _ => .nx σ μ
def eFrz (f : ME) : ME := e1 (fun w μ => match frz1 μ w with
  | some (w', μ') => .ok w' μ'
  | none => .stuck) f
theorem Mof_dead {k : Nat} : ∀ x, Mof ζ (μ.set k none) x → Mof ζ μ x := by
  rintro x ⟨j, d, h1, h2⟩
  by_cases e : k = j
  · subst e
    by_cases hk : k < μ.length
    · rw [List.getElem?_set_self hk] at h2; cases h2
    · rw [List.getElem?_eq_none (by rw [List.length_set]; omega)] at h2; cases h2
  · rw [List.getElem?_set_ne e] at h2; exact ⟨j, d, h1, h2⟩
theorem dead_live {k j : Nat} {d : Cell} (h : (μ.set k none)[j]? = some (some d)) : μ[j]? = some (some d) ∧ j ≠ k := by
  by_cases e : k = j
  · subst e
    by_cases hk : k < μ.length
    · rw [List.getElem?_set_self hk] at h; cases h
    · rw [List.getElem?_eq_none (by rw [List.length_set]; omega)] at h; cases h
  · rw [List.getElem?_set_ne e] at h; exact ⟨h, fun z => e z.symm⟩
theorem ev_dead {k : Nat} : Ev K.tb ζ μ H ζ (μ.set k none) H := ⟨fun _ _ h => h, Fr.refl _, fun x h => .inl (Mof_dead x h)⟩
theorem Wd.dead {k : Nat} (wd : Wd K N ζ μ H) : Wd K N ζ (μ.set k none) H :=
  ⟨by rw [List.length_set]; exact wd.len, fun i j a c c' h1 h2 h3 h4 => wd.inj i j a c c' h1 h2 (dead_live h3).1 (dead_live h4).1,
   fun j c a h1 h2 => (wd.cell j c a (dead_live h1).1 h2).st (fun _ _ h => h) (fun x n _ z => n (z.elim (fun z => .inl (Mof_dead x z)) .inr)) (fun _ _ _ _ e => e) (fun _ _ e => e), fun a ha => ⟨fun z => (wd.nd a ha).1 (Mof_dead a z), (wd.nd a ha).2⟩, wd.tb⟩
theorem frz1_ok {w w' : Val} {μ' : Store} {v : V} (wd : Wd K N ζ μ H) (r : RV K ξ ζ (MM N ζ μ) H v w) (e : frz1 μ w = some (w', μ')) : Ev K.tb ζ μ H ζ μ' H ∧ Wd K N ζ μ' H ∧ RV K ξ ζ (MM N ζ μ') H v w' := by
  have triv : (w', μ') = (w, μ) → Ev K.tb ζ μ H ζ μ' H ∧ Wd K N ζ μ' H ∧ RV K ξ ζ (MM N ζ μ') H v w' := by
    intro h; cases h; exact ⟨Ev.refl, wd, r⟩
  cases w with
  | t d => exact triv (Option.some.inj e).symm
  | x _ _ => exact triv (Option.some.inj e).symm
  | s _ => exact triv (Option.some.inj e).symm
  | g _ _ => exact triv (Option.some.inj e).symm
  | self => exact triv (Option.some.inj e).symm
  | lam _ _ => exact triv (Option.some.inj e).symm
  | c k =>
    obtain ⟨a, ha, rfl⟩ := r
    have hn : ∀ {c : Cell}, μ[k]? = some (some c) → ¬ MM N ζ (μ.set k none) a := fun {c} hk z => by
      rcases z with ⟨j, d, h1, h2⟩ | z
      · obtain ⟨h3, h4⟩ := dead_live h2
        exact h4 (wd.inj j k a d c h1 ha h3 hk)
      · exact (wd.nd a z).1 ⟨k, c, ha, hk⟩
    have sub : ∀ x, MM N ζ (μ.set k none) x → MM N ζ μ x := fun x z => z.elim (fun z => .inl (Mof_dead x z)) .inr
    simp only [frz1] at e
    split at e
    · rename_i ds hk
      cases e
      obtain ⟨vs, h1, h2⟩ := wd.cell k _ a hk ha
      exact ⟨ev_dead, wd.dead, rv_lst.mpr ⟨a, vs, rfl, hn hk, h1, rvs_wk sub h2⟩⟩
    · rename_i b ks ds hk
      cases e
      obtain ⟨vs, h1, h2⟩ := wd.cell k _ a hk ha
      exact ⟨ev_dead, wd.dead, rv_dic.mpr ⟨a, vs, rfl, hn hk, h1, rvs_wk sub h2⟩⟩
    · cases e
theorem Sok.same {i : Nat} {w : Val} {v : V} (h : Sok K ξ ζ M H σr σ) (hv : σr[i]? = some (some v)) (r : RV K ξ ζ M H v w) : Sok K ξ ζ M H σr (σ.set i (some w)) := by
  have := h.set (i := i) r
  have e : σr.set i (some v) = σr := by
    refine List.ext_getElem? fun j => ?_
    by_cases e : i = j
    · subst e
      rw [List.getElem?_set_self (List.getElem?_eq_some_iff.mp hv).1, hv]
    · rw [List.getElem?_set_ne e]
  rw [e] at this
  exact this
theorem ss_frz {i : Nat} {ss : List Stmt} {B : MSt} (hb : ISs K ξ W X ss B) : ISs K ξ W X ss (sSeq (sFrz i) B) := ss_ghost hb fun D σr H N ζ μ σ wd so q => by
  unfold sFrz at q
  split at q
  · rename_i w hw
    split at q
    · rename_i w' μ' e
      obtain ⟨v, h1, h2⟩ := so.2 i w hw
      obtain ⟨ev, wd', r'⟩ := frz1_ok wd h2 e
      exact ⟨N, ζ, μ', σ.set i (some w'), wd', (so.ev ev).same h1 r', PostS.ev ev q⟩
    · exact q.elim
  · exact ⟨N, ζ, μ, σ, wd, so, q⟩
theorem i_frz (ha : IE K ξ W X e fa) : IE K ξ W X e (eFrz fa) := PE.of ha fun σr H Q q => by
  obtain ⟨N, ζ, μ, σ, wd, so, q⟩ := q
  refine (then1 wd so q).mono fun x H1 ⟨ζ1, μ1, w1, ev1, wd1, so1, r1, q1⟩ => ?_
  cases e : frz1 μ1 w1 with
  | none => rw [e] at q1; exact q1.elim
  | some p =>
    obtain ⟨w', μ'⟩ := p
    rw [e] at q1
    obtain ⟨ev, wd', r'⟩ := frz1_ok wd1 r1 e
    exact q1 ζ1 H1 x ev wd' r'
end
end PM
namespace PM
open PySem PySem.Spec PyProof.Rows L2
open WD (MS upd_none)
/-! ### defs -/
abbrev Fn := List Val → Store → R Val
def PostC (K : KT) (N : MS) (ζ : List Addr) (μ : Store) (H : Hp) (Q : VK) (E : XK) : R Val → Prop
  | .ok w μ' => ∀ ζ' H' v, Ev K.tb ζ μ H ζ' μ' H' → Wd K N ζ' μ' H' → RV K none ζ' (MM N ζ' μ') H' v w → Q v H'
  | .ex c f μ' => ∀ ζ' H' d, Ev K.tb ζ μ H ζ' μ' H' → Wd K N ζ' μ' H' → XR K (MM N ζ' μ') H' d f → E (.ref (He.ga K c)) d H'
  | .stuck => False
def SpF (K : KT) (n : Nat) (fn : Fn) : Sp := fun vs H Q E => ∃ N ζ μ ws, Wd K N ζ μ H ∧ RVs K none ζ (MM N ζ μ) H vs ws ∧ ws.length = n ∧ PostC K N ζ μ H Q E (fn ws μ)
def Val.plain : Val → Bool
  | .x _ _ => false
  | .self => false
  | _ => true
def noOb : Cell → Bool
  | .ob _ _ _ => false
  | _ => true
def Fl.below (n : Nat) : Fl → Bool
  | .t _ => true
  | .c k => decide (k < n)
def gCall (n : Nat) (fn : Fn) (ws : List Val) (μ : Store) : R Val := if ws.all Val.plain && decide (ws.length = n) then fn ws μ else .stuck
def fin (n : Nat) (w : Val) (μ : Store) : R Val := match w with
  | .t d => .ok (.t d) (μ.take n)
  | .c k => if k < n then .ok (.c k) (μ.take n) else match μ[k]? with
    | some (some c) => if noOb c then .ok (.c n) (μ.take n ++ [some c]) else .stuck
    | _ => .stuck
  | .g h fs => if fs.all (Fl.below n) then .ok (.g h fs) (μ.take n) else .stuck
  | _ => .stuck
def startM (n : Nat) (ws : List Val) : Sl := ws.map some ++ List.replicate (n - ws.length) none
def endM (n : Nat) : RS → R Val
  | .nx _ μ' => fin n (.t .non) μ'
  | .rt w μ' => fin n w μ'
  | .ex c f _ μ' => .ex c f (μ'.take n)
  | _ => .stuck
def fnOf (n : Nat) (b : MSt) : Fn := fun ws μ => endM μ.length (b (startM n ws) μ)
section
variable {X : Cx} {K : KT} {ξ : Xi} {W : WX} {N : MS} {ζ : List Addr} {μ : Store} {M : MS} {H : Hp} {σr : L2.St} {σ : Sl} {e : Expr} {es : List Expr} {fs : Sl → Store → R (List Val)} {pos : Pos}
theorem RV.none_to {v : V} {w : Val} (h : RV K none ζ M H v w) : RV K ξ ζ M H v w := by
  cases w with
  | x c f => obtain ⟨a, d, h1, _⟩ := h; cases h1
  | self => obtain ⟨a, cv, d, h1, _⟩ := h; cases h1
  | lam _ _ => exact h
  | t _ => exact h
  | c _ => exact h
  | s _ => exact h
  | g hd _ => cases hd <;> exact h
theorem RV.to_none {v : V} {w : Val} (h : RV K ξ ζ M H v w) (p : w.plain = true) : RV K none ζ M H v w := by
  cases w with
  | x c f => cases p
  | self => cases p
  | lam _ _ => exact h
  | t _ => exact h
  | c _ => exact h
  | s _ => exact h
  | g hd _ => cases hd <;> exact h
theorem RVs.to_none : ∀ {vs : List V} {ws : List Val}, RVs K ξ ζ M H vs ws → ws.all Val.plain = true → RVs K none ζ M H vs ws
  | [], [], _, _ => trivial
  | _ :: _, _ :: _, h, p => by
    rw [List.all_cons, Bool.and_eq_true] at p
    exact ⟨h.1.to_none p.1, RVs.to_none h.2 p.2⟩
  | [], _ :: _, h, _ => h.elim
  | _ :: _, [], h, _ => h.elim
theorem PostC.of {n : Nat} {fn : Fn} {ws : List Val} {Q : VK} (h : PostE K ξ W N ζ μ H σr Q (fn ws μ)) : PostC K N ζ μ H Q (WE W σr) (fn ws μ) := by
  cases e : fn ws μ with
  | ok w μ' => rw [e] at h; exact fun ζ' H' v a b c => h ζ' H' v a b c.none_to
  | ex c f μ' => rw [e] at h; exact h
  | stuck => rw [e] at h; exact h
theorem read_call {n : Nat} {fn : Fn} {ws : List Val} {vs : List V} {Q : VK} (wd : Wd K N ζ μ H) (r : RVs K ξ ζ (MM N ζ μ) H vs ws) (h : PostE K ξ W N ζ μ H σr Q (gCall n fn ws μ)) : SpF K n fn vs H Q (WE W σr) := by
  unfold gCall at h
  split at h
  · rename_i hc
    rw [Bool.and_eq_true] at hc
    exact ⟨N, ζ, μ, ws, wd, r.to_none hc.1, of_decide_eq_true hc.2, PostC.of (n := n) h⟩
  · exact h.elim
/-- f(e, ..) -/
theorem i_call {k n : Nat} {x : Str} {f : Addr} {fn : Fn} {p : Pos} (c : WD.Cal X.prog X.w X.K X.mg X.base (L2.CX X.prog X.w) k x f (SpF K n fn) []) (tk : Takes X W) (hr : Room k X.A) (hg : Gl X x) (ha : IA K ξ W X (e :: es) fs) (hdb : (x == ("__debug__" : Str)) = false := by decide)
    (he : starEach (e :: es) X.env = (false, eval e X.env) :: starEach es X.env := by rfl) (hpl : (backTo pos (starEach es X.env)).any (·.1) = false := by rfl) : IE K ξ W X (.Call (.Name x p) (e :: es) [] pos) (eN (gCall n fn) fs) := PE.of (WD.pe_calX c tk hr hg ha hdb he hpl) fun σr H Q q => by
  obtain ⟨N, ζ, μ, σ, wd, so, q⟩ := q
  refine (thenN wd so q).mono fun vs H1 ⟨ζ1, μ1, ws, ev1, wd1, so1, r1, q1⟩ => read_call wd1 r1 q1
theorem cellR.stN {ζ' : List Addr} {M' : MS} {H' : Hp} {a : Addr} {c : Cell} (nb : noOb c = true) (na : ∀ a, ¬ M a → ¬ nn K.tb (H a) → ¬ M' a) (f : ∀ a o, nt K.tb o → ¬ M a → H a = some o → H' a = some o) (fa : ∀ o, nt K.tb o → H a = some o → H' a = some o) (h : cellR K ζ M H a c) : cellR K ζ' M' H' a c := by
  cases c with
  | lst ds => obtain ⟨vs, e, r⟩ := h; exact ⟨vs, fa _ rfl e, rvs_st na f _ _ r⟩
  | dic b ks ds => obtain ⟨vs, e, r⟩ := h; exact ⟨vs, e.to fa, rvs_st na f _ _ r⟩
  | ob C ns ds => cases nb
/-- the store, cut down -/
theorem Wd.sub {ζ' : List Addr} {μ' : Store} (wd : Wd K N ζ μ H) (hl : ζ'.length = μ'.length) (f : Nat → Nat) (h : ∀ (i : Nat) a c, ζ'[i]? = some a → μ'[i]? = some (some c) → ζ[f i]? = some a ∧ μ[f i]? = some (some c)) (hf : ∀ i j, i < ζ'.length → j < ζ'.length → f i = f j → i = j) (hp : ∀ (i : Nat) a c, ζ'[i]? = some a → μ'[i]? = some (some c) → noOb c = true ∨ ∀ (j : Nat) b, (ζ.take (f i))[j]? = some b → (ζ'.take i)[j]? = some b) : Wd K N ζ' μ' H ∧ ∀ x, MM N ζ' μ' x → MM N ζ μ x := by
  have sub : ∀ x, Mof ζ' μ' x → Mof ζ μ x := fun x ⟨k, c, h1, h2⟩ => ⟨f k, c, h k x c h1 h2⟩
  have sub2 : ∀ x, MM N ζ' μ' x → MM N ζ μ x := fun x z => z.elim (fun z => .inl (sub x z)) .inr
  refine ⟨⟨hl, fun i j a c c' h1 h2 h3 h4 => ?_, fun k c a h1 h2 => ?_, fun a ha => ⟨fun z => (wd.nd a ha).1 (sub a z), (wd.nd a ha).2⟩, wd.tb⟩, sub2⟩
  · obtain ⟨g1, g2⟩ := h i a c h1 h3
    obtain ⟨g3, g4⟩ := h j a c' h2 h4
    exact hf i j (List.getElem?_eq_some_iff.mp h1).1 (List.getElem?_eq_some_iff.mp h2).1 (wd.inj _ _ a c c' g1 g3 g2 g4)
  · obtain ⟨g1, g2⟩ := h k a c h2 h1
    rcases hp k a c h2 h1 with h3 | h3
    · exact (wd.cell _ c a g2 g1).stN h3 (fun x n _ z => n (sub2 x z)) (fun _ _ _ _ e => e) (fun _ _ e => e)
    · exact (wd.cell _ c a g2 g1).st h3 (fun x n _ z => n (sub2 x z)) (fun _ _ _ _ e => e) (fun _ _ e => e)
theorem take_at {α : Type} {l : List α} {n i : Nat} {x : α} (h : (l.take n)[i]? = some x) : i < n ∧ l[i]? = some x := by
  rw [List.getElem?_take] at h
  split at h
  · exact ⟨by assumption, h⟩
  · cases h
/-- back from a def: what it made for itself is let go -/
theorem cut_ok {ζ1 : List Addr} {μ1 : Store} {H1 : Hp} (ev : Ev K.tb ζ μ H ζ1 μ1 H1) (wd : Wd K N ζ1 μ1 H1) (hl : ζ.length = μ.length) : Ev K.tb ζ μ H (ζ1.take μ.length) (μ1.take μ.length) H1 ∧ Wd K N (ζ1.take μ.length) (μ1.take μ.length) H1 ∧ ∀ x, MM N (ζ1.take μ.length) (μ1.take μ.length) x → MM N ζ1 μ1 x := by
  obtain ⟨w, s⟩ := wd.sub (ζ' := ζ1.take μ.length) (μ' := μ1.take μ.length) (by rw [List.length_take, List.length_take, wd.len]) id (fun i a c h1 h2 => ⟨(take_at h1).2, (take_at h2).2⟩) (fun i j _ _ e => e) (fun i a c h1 h2 => .inr fun j b hb => by rw [List.take_take, Nat.min_eq_left (Nat.le_of_lt (take_at h1).1)]; exact hb)
  refine ⟨⟨fun k a h => ?_, ev.fr, fun a h => ?_⟩, w, s⟩
  · have := ev.pre k a h
    rw [List.getElem?_take, if_pos (by have := (List.getElem?_eq_some_iff.mp h).1; omega)]
    exact this
  · obtain ⟨k, c, h1, h2⟩ := h
    exact ev.ml a ⟨k, c, (take_at h1).2, (take_at h2).2⟩
theorem FRs.cut {ζ1 : List Addr} {M' : MS} {n : Nat} (sub : ∀ x, M' x → M x) : ∀ {vs : List V} {fs : List Fl}, fs.all (Fl.below n) = true → FRs K ζ1 M H vs fs → FRs K (ζ1.take n) M' H vs fs
  | [], [], _, _ => trivial
  | v :: vs, .t d :: fs, hb, h => by
    rw [List.all_cons, Bool.and_eq_true] at hb
    exact ⟨rv_wk sub h.1, FRs.cut sub hb.2 h.2⟩
  | v :: vs, .c k :: fs, hb, h => by
    rw [List.all_cons, Bool.and_eq_true] at hb
    obtain ⟨⟨a, h1, h2⟩, h3⟩ := h
    exact ⟨⟨a, by rw [List.getElem?_take, if_pos (of_decide_eq_true hb.1)]; exact h1, h2⟩, FRs.cut sub hb.2 h3⟩
  | [], _ :: _, _, h => h.elim
  | _ :: _, [], _, h => h.elim
theorem RV.cutG {ζ1 : List Addr} {M' : MS} {n : Nat} {v : V} {hd : Gd} {fs : List Fl} (hb : fs.all (Fl.below n) = true) (sub : ∀ x, M' x → M x) (h : RV K ξ ζ1 M H v (.g hd fs)) : RV K ξ (ζ1.take n) M' H v (.g hd fs) := by
  cases hd with
  | tup => obtain ⟨a, vs, h1, h2, h3, h4⟩ := h; exact ⟨a, vs, h1, fun z => h2 (sub _ z), h3, h4.cut sub hb⟩
  | ob C ns => obtain ⟨a, dx, vs, h1, h2, h2', h3, h3', h3'', h4⟩ := h; exact ⟨a, dx, vs, h1, fun z => h2 (sub _ z), fun z => h2' (sub _ z), h3, h3', h3'', h4.cut sub hb⟩
theorem fin_ok {ζ1 : List Addr} {μ1 : Store} {H1 : Hp} {Q : VK} {E : XK} {w : Val} {v : V} (ev : Ev K.tb ζ μ H ζ1 μ1 H1) (wd : Wd K N ζ1 μ1 H1) (hl : ζ.length = μ.length) (r : RV K none ζ1 (MM N ζ1 μ1) H1 v w) (h : PostC K N ζ μ H Q E (fin μ.length w μ1)) : Q v H1 := by
  obtain ⟨ev', wd', sub⟩ := cut_ok ev wd hl
  cases w with
  | t d => exact h _ _ v ev' wd' (rv_wk sub r)
  | x _ _ => exact h.elim
  | s _ => exact h.elim
  | self => exact h.elim
  | lam _ _ => exact h.elim
  | g hd fs =>
    simp only [fin] at h
    split at h
    · rename_i hb
      exact h _ _ v ev' wd' (RV.cutG hb sub r)
    · exact h.elim
  | c k =>
    obtain ⟨a, ha, rfl⟩ := r
    simp only [fin] at h
    split at h
    · rename_i hk
      exact h _ _ _ ev' wd' ⟨a, by rw [List.getElem?_take, if_pos hk]; exact ha, rfl⟩
    · rename_i hk
      split at h
      case h_2 => exact h.elim
      rename_i c hc
      split at h
      · rename_i hnb
        have hlen : (ζ1.take μ.length).length = μ.length := by
          rw [List.length_take]
          have h1 := (List.getElem?_eq_some_iff.mp ha).1
          omega
        have hlen2 : (μ1.take μ.length).length = μ.length := by
          rw [List.length_take]
          have h1 := (List.getElem?_eq_some_iff.mp ha).1
          have := wd.len
          omega
        obtain ⟨w2, s2⟩ := wd.sub (ζ' := ζ1.take μ.length ++ [a]) (μ' := μ1.take μ.length ++ [some c]) (by rw [List.length_append, List.length_append, hlen, hlen2]; rfl) (fun i => if i < μ.length then i else k) (fun i b c' h1 h2 => by
          rcases snoc_at h1 with ⟨i1, g1⟩ | ⟨i1, g1⟩ <;> rcases snoc_at h2 with ⟨i2, g2⟩ | ⟨i2, g2⟩
          · rw [if_pos (by omega)]
            exact ⟨(take_at g1).2, (take_at g2).2⟩
          · omega
          · omega
          · rw [if_neg (by omega)]
            cases g2
            rw [g1]
            exact ⟨ha, hc⟩) (fun i j hi hj e => by
          rw [List.length_append, hlen] at hi hj
          have hi : i < μ.length + 1 := hi
          have hj : j < μ.length + 1 := hj
          split at e <;> split at e <;> omega) (fun i b c' h1 h2 => by
          rcases snoc_at h1 with ⟨i1, g1⟩ | ⟨i1, g1⟩ <;> rcases snoc_at h2 with ⟨i2, g2⟩ | ⟨i2, g2⟩
          · refine .inr fun j x hx => ?_
            have hi : i < μ.length := by omega
            rw [if_pos hi] at hx
            rw [List.take_append_of_le_length (by omega), List.take_take, Nat.min_eq_left (by omega)]
            exact hx
          · omega
          · omega
          · cases g2
            exact .inl hnb)
        refine h _ _ _ ⟨fun j b hb => ?_, ev.fr, fun b hb => ?_⟩ w2 ⟨a, by rw [List.getElem?_append_right (by omega), hlen, Nat.sub_self]; rfl, rfl⟩
        · have h1 := ev'.pre j b hb
          rw [List.getElem?_append_left (List.getElem?_eq_some_iff.mp h1).1]
          exact h1
        · obtain ⟨j, c', h1, h2⟩ := hb
          rcases snoc_at h1 with ⟨i1, g1⟩ | ⟨i1, g1⟩ <;> rcases snoc_at h2 with ⟨i2, g2⟩ | ⟨i2, g2⟩
          · exact ev.ml b ⟨j, c', (take_at g1).2, (take_at g2).2⟩
          · omega
          · omega
          · exact ev.ml b ⟨k, c, by rw [g1]; exact ha, hc⟩
      · exact h.elim
theorem RVs.get {vs : List V} {ws : List Val} {i : Nat} {w : Val} : RVs K ξ ζ M H vs ws → ws[i]? = some w → ∃ v, vs[i]? = some v ∧ RV K ξ ζ M H v w := by
  induction ws generalizing vs i with
  | nil => intro _ e; simp at e
  | cons u ws ih =>
    intro h e
    cases vs with
    | nil => exact h.elim
    | cons v vs =>
      cases i with
      | zero => cases e; exact ⟨v, rfl, h.1⟩
      | succ i => exact ih (vs := vs) (i := i) h.2 e
theorem start_ok {vs : List V} {ws : List Val} {N' : List Str} (r : RVs K ξ ζ M H vs ws) : Sok K ξ ζ M H (L2.start N' vs) (startM N'.length ws) := by
  have hl := r.len
  unfold L2.start startM
  refine ⟨by rw [List.length_append, List.length_append, List.length_map, List.length_map, List.length_replicate, List.length_replicate, hl], fun i w hw => ?_⟩
  by_cases hi : i < ws.length
  · rw [List.getElem?_append_left (by rw [List.length_map]; exact hi), List.getElem?_map, List.getElem?_eq_getElem hi] at hw
    have e : ws[i]? = some w := by rw [List.getElem?_eq_getElem hi]; exact Option.some.inj hw ▸ rfl
    obtain ⟨v, h1, h2⟩ := r.get e
    exact ⟨v, by rw [List.getElem?_append_left (by rw [List.length_map]; omega), List.getElem?_map, h1]; rfl, h2⟩
  · rw [List.getElem?_append_right (by rw [List.length_map]; omega)] at hw
    rw [List.getElem?_replicate] at hw
    split at hw <;> cases hw
end
section
variable {P : Program} {w : World} {K : KT} {mg : Str → Option Value} {base : Heap} {x qual : Str} {params : Arguments} {body : List Stmt} {scope : Scope} {f C : Addr} {fd : FuncData} {Nm ps : List Str} {k : Nat} {b : MSt}
theorem fn_read {N : MS} {ζ : List Addr} {μ : Store} {H : Hp} {vs : List V} {ws : List Val} {Q : VK} {E : XK} (wd : Wd K N ζ μ H) (r : RVs K none ζ (MM N ζ μ) H vs ws) (h : PostC K N ζ μ H Q E (fnOf Nm.length b ws μ)) :
    tS K none (fun cls d _ H => E cls d H) b { nx := fun _ H' => Q .non H', rt := Q } (L2.start Nm vs) H := by
  refine ⟨N, ζ, μ, startM Nm.length ws, wd, start_ok r, ?_⟩
  unfold fnOf at h
  cases e : b (startM Nm.length ws) μ with
  | nx σ' μ' => rw [e] at h; exact fun ζ' H' σr' ev wd' so => fin_ok (w := .t .non) ev wd' wd.len ((rv_non (K := K) (M := MM N ζ' μ') (H := H')).mpr rfl) h
  | rt u μ' => rw [e] at h; exact fun ζ' H' v ev wd' r' => fin_ok ev wd' wd.len r' h
  | ex c f σ' μ' =>
    rw [e] at h
    intro ζ' H' d σr' ev wd' xr so
    obtain ⟨ev', wd2, sub⟩ := cut_ok ev wd' wd.len
    refine h _ _ d ev' wd2 ?_
    cases f with
    | none => exact xr
    | some q =>
      obtain ⟨n, p⟩ := q
      obtain ⟨dd, v', k1, k2, k3, k4⟩ := xr
      exact ⟨dd, v', k1, fun z => k2 (sub _ z), k3, rv_wk sub k4⟩
  | bk _ _ => rw [e] at h; exact h.elim
  | ct _ _ => rw [e] at h; exact h.elim
  | stuck => rw [e] at h; exact h.elim
theorem fn_ok (F : FunD K x qual params body scope [] [] f fd) (S : FnScope Nm ps scope)
    (bind : ∀ (kV doc pm : Value) (an : Option Addr) (cdv ct : Value) (us : List Value), us.length = ps.length → bindArgs (PySem.W.fnOf x qual params body scope .none kV doc pm an cdv ct) ⟨us, []⟩ = pure (ps.zip us))
    (hb : ∀ (cdv : Value) (A : Around) (outer : List Env) (s : Shared) (H : Hp) (E : XK), Room k (A.deeper (envOfC qual scope s.heap.objs.size f cdv)) → ISs K none (fun cls d _ H => E cls d H) (cxOf (L2.CX P w) P w K mg base Nm qual scope f cdv A outer s H E) body b) :
    ∃ (fd : FuncData) (ps' : List Str) (ds : List Value), FnOk P w K mg base (L2.CX P w) (k + 1) f fd ps' (SpF K ps.length (fnOf Nm.length b)) ∧ Binds K fd ps' ds ∧ Vals [] ds :=
  WD.fnX_of F S (fun vs H Q E ⟨N, ζ, μ, ws, wd, r, hl, _⟩ => r.len.trans hl) bind fun cdv A outer s H vs Q E hr ⟨N, ζ, μ, ws, wd, r, hl, h⟩ => ⟨_, hb cdv A outer s H E hr, fn_read wd r h⟩
end
end PM
namespace PM
open PySem PySem.Spec PyProof.Rows L2
open WD (MS upd_none)
/-! ### raise -/
def sRaise (c f : Str) (as : Sl → Store → R (List Val)) : MSt := fun σ μ => (as σ μ).st σ fun ws μ1 => match ws with
  | [.t d] => .ex c (some (f, d)) σ μ1
  | _ => .stuck
def sRaise0 (c : Str) : MSt := fun σ μ => .ex c none σ μ
section
variable {X : Cx} {K : KT} {ξ : Xi} {W : WX} {N : MS} {ζ : List Addr} {μ : Store} {M : MS} {H : Hp} {σr : L2.St} {σ : Sl} {e : Expr} {es : List Expr} {fa : ME} {fs : Sl → Store → R (List Val)} {pos : Pos} {st : Stmt} {D : Ends}
theorem stN {k : List Val → Store → RS} (wd : Wd K N ζ μ H) (so : Sok K ξ ζ (MM N ζ μ) H σr σ) (h : PostS K ξ W N ζ μ H D ((fs σ μ).st σ k)) :
    tA K ξ W fs σr H fun xs H1 => ∃ ζ1 μ1 ws, Ev K.tb ζ μ H ζ1 μ1 H1 ∧ Wd K N ζ1 μ1 H1 ∧ Sok K ξ ζ1 (MM N ζ1 μ1) H1 σr σ ∧ RVs K ξ ζ1 (MM N ζ1 μ1) H1 xs ws ∧ PostS K ξ W N ζ1 μ1 H1 D (k ws μ1) := by
  refine ⟨N, ζ, μ, σ, wd, so, ?_⟩
  cases e : fs σ μ with
  | ok w1 μ1 => rw [e] at h; exact fun ζ' H' v ev w r => ⟨ζ', μ1, w1, ev, w, so.ev ev, r, PostS.ev ev h⟩
  | ex c f μ1 => rw [e] at h; exact fun ζ' H' d ev w r => h ζ' H' d σr ev w r (so.ev ev)
  | stuck => rw [e] at h; exact h
theorem xr_new {d : Addr} {f : Str} {v : V} {p : PV} (wd : Wd K N ζ μ H) (hd : H d = none) (r : rv K (MM N ζ μ) H v p) : XR K (MM N ζ μ) (upd H d (.xd [(f, v)])) (some d) (some (f, p)) :=
  ⟨d, v, rfl, wd.no hd, upd_same, (Grow.upd hd).rv r⟩
theorem s_raise {c f : Str} (h : PS X st (fun _ σ H => WD.tExc (He.ga K c) f (tA K ξ W fs) σ H fun cls d H' => W cls d σ H')) : IS K ξ W X st (sRaise c f fs) := PS.of h fun D σr H q => by
  obtain ⟨N, ζ, μ, σ, wd, so, q⟩ := q
  refine (stN wd so q).mono fun xs H1 ⟨ζ1, μ1, ws, ev1, wd1, so1, r1, q1⟩ => ?_
  split at q1
  · rename_i d
    obtain ⟨v, rfl, hv⟩ := RVs1 r1
    exact ⟨v, rfl, fun dd hd => q1 ζ1 _ (some dd) σr (Ev.new hd) (wd1.new hd) (xr_new wd1 hd hv) (so1.ev (Ev.new hd))⟩
  · exact q1.elim
theorem s_raise0 {c : Str} (h : PS X st (fun _ σ H => W (.ref (He.ga K c)) none σ H)) : IS K ξ W X st (sRaise0 c) := PS.of h fun D σr H q => by
  obtain ⟨N, ζ, μ, σ, wd, so, q⟩ := q
  exact q ζ H none σr Ev.refl wd rfl so
end
/-! ### try -/
structure Clause where
  name : Str
  yes : List Str
  no : List Str
  slot : Nat
  suite : MSt
def plainO : Option Val → Bool
  | some w => w.plain
  | none => true
def RS.unset (i : Nat) : RS → RS
  | .nx σ μ => if (σ.set i none).all plainO then .nx (σ.set i none) μ else .stuck
  | .bk σ μ => if (σ.set i none).all plainO then .bk (σ.set i none) μ else .stuck
  | .ct σ μ => if (σ.set i none).all plainO then .ct (σ.set i none) μ else .stuck
  | .rt w μ => if w.plain then .rt w μ else .stuck
  | .ex _ _ _ _ => .stuck
  | .stuck => .stuck
def handle (c : Str) (f : Option (Str × PV)) (σ : Sl) (μ : Store) : List Clause → RS
  | [] => .ex c f σ μ
  | k :: r => if c ∈ k.yes then (k.suite (σ.set k.slot (some (.x c f))) μ).unset k.slot else if c ∈ k.no then handle c f σ μ r else .stuck
def sTry (B : MSt) (cl : List Clause) : MSt := fun σ μ => match B σ μ with
  | .ex c f σ1 μ1 => handle c f σ1 μ1 cl
  | r => r
def clL (K : KT) : List Clause → List (Value × Nat × WD.Su)
  | [] => []
  | k :: r => (.ref (He.ga K k.name), k.slot, fun a cls d => tS K (some (a, cls, d)) W0 k.suite) :: clL K r
def ClFacts (K : KT) : List Clause → Prop
  | [] => True
  | k :: r => (∀ c ∈ k.yes, PySem.W.exmOne K (.ref (He.ga K c)) (.ref (He.ga K k.name)) = some true) ∧ (∀ c ∈ k.no, PySem.W.exmOne K (.ref (He.ga K c)) (.ref (He.ga K k.name)) = some false) ∧ ClFacts K r
section
variable {X : Cx} {K : KT} {ξ : Xi} {W : WX} {N : MS} {ζ : List Addr} {μ : Store} {M : MS} {H : Hp} {σr : L2.St} {σ : Sl} {e : Expr} {es : List Expr} {fa : ME} {fs : Sl → Store → R (List Val)} {pos : Pos} {st : Stmt} {D : Ends} {B : MSt}
theorem Sok.to_none (h : Sok K ξ ζ M H σr σ) (p : σ.all plainO = true) : Sok K none ζ M H σr σ := ⟨h.1, fun i w hw => by
  obtain ⟨v, h1, h2⟩ := h.2 i w hw
  have := List.all_eq_true.mp p _ (List.mem_of_getElem? hw)
  exact ⟨v, h1, h2.to_none this⟩⟩
theorem Sok.of_none (h : Sok K none ζ M H σr σ) : Sok K ξ ζ M H σr σ := ⟨h.1, fun i w hw => let ⟨v, h1, h2⟩ := h.2 i w hw; ⟨v, h1, h2.none_to⟩⟩
theorem unset_ok {ξ' : Xi} {i : Nat} {r : RS} (h : PostS K none W N ζ μ H D (r.unset i)) :
    PostS K ξ' W0 N ζ μ H { nx := fun σ' H' => D.nx (σ'.set i none) H', rt := D.rt, bk := fun σ' H' => D.bk (σ'.set i none) H', ct := fun σ' H' => D.ct (σ'.set i none) H' } r := by
  cases r with
  | nx σ' μ' =>
    simp only [RS.unset] at h
    split at h
    · exact fun ζ' H' σr' ev wd so => h ζ' H' _ ev wd (so.drop.to_none (by assumption))
    · exact h.elim
  | bk σ' μ' =>
    simp only [RS.unset] at h
    split at h
    · exact fun ζ' H' σr' ev wd so => h ζ' H' _ ev wd (so.drop.to_none (by assumption))
    · exact h.elim
  | ct σ' μ' =>
    simp only [RS.unset] at h
    split at h
    · exact fun ζ' H' σr' ev wd so => h ζ' H' _ ev wd (so.drop.to_none (by assumption))
    · exact h.elim
  | rt w μ' =>
    simp only [RS.unset] at h
    split at h
    · exact fun ζ' H' v ev wd r => h ζ' H' v ev wd (r.to_none (by assumption))
    · exact h.elim
  | ex _ _ _ _ => exact h.elim
  | stuck => exact h.elim
theorem handle_ok {c : Str} {f : Option (Str × PV)} {d : Option Addr} (wd : Wd K N ζ μ H) (so : Sok K none ζ (MM N ζ μ) H σr σ) (xr : XR K (MM N ζ μ) H d f) : ∀ {cl : List Clause}, ClFacts K cl → PostS K none W N ζ μ H D (handle c f σ μ cl) → WD.wClauses K W D (clL K cl) (.ref (He.ga K c)) d σr H
  | [], _, h => h ζ H d σr Ev.refl wd xr so
  | k :: r, hf, h => by
    unfold handle at h
    split at h
    · rename_i hy
      refine ⟨true, hf.1 c hy, fun _ a ha => ?_, fun z => nomatch z⟩
      exact ⟨N, ζ, μ, _, wd, (so.of_none (ξ := some (a, .ref (He.ga K c), d))).set (w := .x c f) ⟨a, d, rfl, rfl, xr⟩, unset_ok h⟩
    · split at h
      · rename_i hn
        exact ⟨false, hf.2.1 c hn, fun z => Bool.noConfusion z, fun _ => handle_ok wd so xr hf.2.2 h⟩
      · exact h.elim
theorem s_try {body : List Stmt} {hd0 : ExceptHandler} {hds : List ExceptHandler} {cl : List Clause} (hs : X.stack = X.env :: X.outer) (hf : X.env.frame = some X.env.locals) (hN : X.N.Nodup) (tk : Takes X W)
    (bd : ∀ (W' : WX) (pn : List (Addr × Obj)) (xe : Value → Shared → Prop), Takes (X.tr pn xe) W' → ISs K none W' (X.tr pn xe) body B) (hc : WD.Clauses X (hd0 :: hds) (clL K cl)) (hF : ClFacts K cl) (hK : X.K = K := by rfl) : IS K none W X (.Try body (hd0 :: hds) [] [] pos) (sTry B cl) := by
  obtain ⟨K, Kt⟩ := K; obtain rfl : X.K = K := hK
  refine PS.of (WD.ps_try_clauses hs hf hN tk bd hc) fun D σr H q => ?_
  obtain ⟨N, ζ, μ, σ, wd, so, q⟩ := q
  refine ⟨N, ζ, μ, σ, wd, so, ?_⟩
  unfold sTry at q
  cases e : B σ μ with
  | ex c f σ1 μ1 => rw [e] at q; exact fun ζ' H' d σr' ev wd' xr so' => handle_ok wd' so' xr hF (PostS.ev ev q)
  | nx _ _ => rw [e] at q; exact q
  | bk _ _ => rw [e] at q; exact q
  | ct _ _ => rw [e] at q; exact q
  | rt _ _ => rw [e] at q; exact q
  | stuck => rw [e] at q; exact q
/-! ### a caught exception is asked -/
def gXf (cs : List Str) (n : Str) (w : Val) (μ : Store) : R Val := match w with
  | .x c (some (m, p)) => if m = n ∧ c ∈ cs then .ok (.t p) μ else .stuck
  | _ => .stuck
theorem i_xf {a : Addr} {oe : Obj} {cls : Value} {d : Option Addr} {pn : List (Addr × Obj)} {n : Str} {cs : List Str} (hz : Zc cls d oe) (hf : ∃ vs, oe.data = .fields vs) (he : IE K (some (a, cls, d)) W (X.suite a ((a, oe) :: pn)) e fa) (hx : ∀ c ∈ cs, WD.ExD K (He.ga K c) ∧ PySem.W.findIn K (.ref (He.ga K c)) n = some none)
    (hb : attributeBase e n X.env (eval e X.env) = eval e X.env := by rfl) (hK : X.K = K := by rfl) : IE K (some (a, cls, d)) W (X.suite a ((a, oe) :: pn)) (.Attribute e n pos) (e1 (gXf cs n) fa) := by
  obtain ⟨K, Kt⟩ := K; obtain rfl : X.K = K := hK
  refine PE.of (WD.pe_xfA hz hf he hb) fun σr H Q q => ?_
  obtain ⟨N, ζ, μ, σ, wd, so, q⟩ := q
  refine (then1 wd so q).mono fun x H1 ⟨ζ1, μ1, w1, ev1, wd1, so1, r1, q1⟩ => ?_
  unfold gXf at q1
  split at q1
  · split at q1
    · rename_i c m p hc
      obtain ⟨rfl, hc⟩ := hc
      obtain ⟨a', d', h1, rfl, dd, v, rfl, h3, h4, h5⟩ := r1
      cases h1
      obtain ⟨k1, k2⟩ := hx c hc
      exact ⟨_, rfl, rfl, k1, k2, dd, [(m, v)], v, rfl, h4, by simp [List.lookup], q1 ζ1 H1 v Ev.refl wd1 h5⟩
    · exact q1.elim
  · exact q1.elim
/-- readings of classes -/
def taC (vs : List V) : TA := fun _ H Q => Q vs H
theorem pa_c0 : PA X [] (taC []) := PA.of pa_nil fun _ _ _ q => q
theorem pa_c {v : V} {vs : List V} (h : PE X e (tC v)) (hs : PA X es (taC vs)) (hst : starEach (e :: es) X.env = (false, eval e X.env) :: starEach es X.env := by rfl) : PA X (e :: es) (taC (v :: vs)) := PA.of (pa_cons h hs hst) fun _ _ _ q => q
def gIsX (tab : List (Str × Bool)) (w : Val) (μ : Store) : R Val := match w with
  | .x c _ => match tab.lookup c with
    | some b => .ok (.t (.bl b)) μ
    | none => .stuck
  | _ => .stuck
theorem xd_of {ζ : List Addr} {f : Option (Str × PV)} {d : Option Addr} (xr : XR K M H d f) : ∀ dd, d = some dd → ∃ fs, H dd = some (.xd fs) := fun dd hd => by
  cases f with
  | none => rw [show d = none from xr] at hd; cases hd
  | some q =>
    obtain ⟨n, p⟩ := q
    obtain ⟨d2, v, h1, _, h3, _⟩ := xr
    rw [h1] at hd
    cases hd
    exact ⟨_, h3⟩
theorem lookup_mem {tab : List (Str × Bool)} {c : Str} {b : Bool} (h : tab.lookup c = some b) : (c, b) ∈ tab := by
  induction tab with
  | nil => cases h
  | cons p tab ih =>
    obtain ⟨x, y⟩ := p
    rw [List.lookup_cons] at h
    split at h
    · rename_i heq
      cases h
      rw [eq_of_beq heq]
      exact List.mem_cons_self
    · exact List.mem_cons_of_mem _ (ih h)
theorem i_isX {a : Addr} {oe : Obj} {cls cv : Value} {d : Option Addr} {pn : List (Addr × Obj)} {c2 : Expr} {v2 : V} {p : Pos} {tab : List (Str × Bool)} (hz : Zc cls d oe) (hf : ∃ vs, oe.data = .fields vs) (he : IE K (some (a, cls, d)) W (X.suite a ((a, oe) :: pn)) e fa) (h2 : PE (X.suite a ((a, oe) :: pn)) c2 (tC v2)) (hv : ∀ u, RelV v2 u → u = cv)
    (hx : ∀ q ∈ tab, WD.ExD K (He.ga K q.1) ∧ PySem.W.kitOne K (.ref (He.ga K q.1)) cv = some q.2) (hg : Gl X "isinstance") (hm : X.mg "isinstance" = none)
    (hs : starEach [e, c2] X.env = (false, eval e X.env) :: starEach [c2] X.env := by rfl) (hs2 : starEach [c2] X.env = (false, eval c2 X.env) :: starEach [] X.env := by rfl) (hp : ((backTo pos (starEach [c2] X.env)).any (·.1)) = false := by rfl) (hK : X.K = K := by rfl) :
    IE K (some (a, cls, d)) W (X.suite a ((a, oe) :: pn)) (.Call (.Name "isinstance" p) [e, c2] [] pos) (e1 (gIsX tab) fa) := by
  obtain ⟨K, Kt⟩ := K; obtain rfl : X.K = K := hK
  refine PE.of (pe_callB (X := X.suite a ((a, oe) :: pn)) (WD.call_isX hz hf) hg hm WD.bt_isinstance (pa_cons he (pa_c h2 pa_c0 hs2) hs) (by decide) (by decide) hs hp) fun σr H Q q => ?_
  obtain ⟨N, ζ, μ, σ, wd, so, q⟩ := q
  refine (then1 wd so q).mono fun x H1 ⟨ζ1, μ1, w1, ev1, wd1, so1, r1, q1⟩ => ?_
  unfold gIsX at q1
  split at q1
  · split at q1
    · rename_i c f b hb
      obtain ⟨a', d', h1, rfl, xr⟩ := r1
      cases h1
      obtain ⟨k1, k2⟩ := hx _ (lookup_mem hb)
      exact ⟨_, v2, cv, b, rfl, k1, xd_of (ζ := ζ1) xr, rfl, hv, k2, q1 ζ1 H1 _ Ev.refl wd1 RV.blI⟩
    · exact q1.elim
  · exact q1.elim
theorem i_isXT {a : Addr} {oe : Obj} {cls : Value} {d : Option Addr} {pn : List (Addr × Obj)} {cs2 : List Expr} {vs2 : List V} {us2 : List Value} {kk : Nat} {p tp : Pos} {tab : List (Str × Bool)} (hz : Zc cls d oe) (hf : ∃ vs, oe.data = .fields vs) (he : IE K (some (a, cls, d)) W (X.suite a ((a, oe) :: pn)) e fa) (h2 : PA (X.suite a ((a, oe) :: pn)) cs2 (taC vs2)) (hv : Paired ClsV vs2 us2) (hlen : vs2.length ≤ sizeLine)
    (hx : ∀ q ∈ tab, WD.ExD K (He.ga K q.1) ∧ PySem.W.kitAny K (.ref (He.ga K q.1)) us2 = some q.2) (hg : Gl X "isinstance") (hm : X.mg "isinstance" = none)
    (hs : starEach [e, .Tuple cs2 kk tp] X.env = (false, eval e X.env) :: starEach [.Tuple cs2 kk tp] X.env := by rfl) (hs2 : starEach [.Tuple cs2 kk tp] X.env = (false, eval (.Tuple cs2 kk tp) X.env) :: starEach [] X.env := by rfl) (hp : ((backTo pos (starEach [.Tuple cs2 kk tp] X.env)).any (·.1)) = false := by rfl) (hK : X.K = K := by rfl) :
    IE K (some (a, cls, d)) W (X.suite a ((a, oe) :: pn)) (.Call (.Name "isinstance" p) [e, .Tuple cs2 kk tp] [] pos) (e1 (gIsX tab) fa) := by
  obtain ⟨K, Kt⟩ := K; obtain rfl : X.K = K := hK
  refine PE.of (pe_callB (X := X.suite a ((a, oe) :: pn)) (WD.call_isXT hz hf) hg hm WD.bt_isinstance (pa_cons he (pa_cons (pe_tup h2) pa_nil hs2) hs) (by decide) (by decide) hs hp) fun σr H Q q => ?_
  obtain ⟨N, ζ, μ, σ, wd, so, q⟩ := q
  refine (then1 wd so q).mono fun x H1 ⟨ζ1, μ1, w1, ev1, wd1, so1, r1, q1⟩ => ?_
  refine ⟨hlen, fun pt hpt => ?_⟩
  unfold gIsX at q1
  split at q1
  · split at q1
    · rename_i c f b hb
      have r1' := r1.ev (Ev.new (o := .tup vs2) hpt)
      obtain ⟨a', d', h1, rfl, xr⟩ := r1'
      cases h1
      obtain ⟨k1, k2⟩ := hx _ (lookup_mem hb)
      exact ⟨_, pt, vs2, us2, b, rfl, k1, xd_of (ζ := ζ1) xr, rfl, upd_same, hv, k2, q1 ζ1 _ _ (Ev.new hpt) (wd1.new hpt) RV.blI⟩
    · exact q1.elim
  · exact q1.elim
/-! ### isinstance of data -/
def tyN : PV → Option String
  | .non => some "NoneType"
  | .bl _ => some "bool"
  | .int _ => some "int"
  | .str _ => some "str"
  | .tup _ => some "tuple"
  | .lst _ => some "list"
  | .dic _ _ _ => some "dict"
  | .obj _ _ _ => none
def subT (n T : String) : Bool := n == T || (n == "bool" && T == "int")
def isTy (T : String) (d : PV) : Option PV := (tyN d).map fun n => .bl (subT n T)
theorem kit_tab : ∀ n ∈ ["NoneType", "bool", "int", "str", "tuple", "list", "dict"], ∀ T ∈ ["int", "bool", "str", "tuple", "list", "dict"], kitB n T = some (subT n T) := by decide +kernel
theorem ty_of {v : V} {d : PV} {n : String} (h : vv K M H v d) (e : tyN d = some n) : TyX K H v (.type n) ∧ n ∈ ["NoneType", "bool", "int", "str", "tuple", "list", "dict"] := by
  cases d with
  | non => cases e; rw [vv_non h]; exact ⟨.base .non, by decide⟩
  | bl b => cases e; rw [vv_bl h]; exact ⟨.base (.bl b), by decide⟩
  | int b => cases e; rw [vv_int h]; exact ⟨.base (.int b), by decide⟩
  | str b => cases e; rw [(vv_str h).1]; exact ⟨.base (.str b), by decide⟩
  | tup l => cases e; obtain ⟨a, vs, rfl, _, h1, _⟩ := vv_tup h; exact ⟨.base (.tup h1), by decide⟩
  | lst l => cases e; obtain ⟨a, vs, rfl, h1, _⟩ := h; exact ⟨.base (.lst h1), by decide⟩
  | dic b ks l =>
    cases e
    obtain ⟨a, vs, rfl, h1, _⟩ := h
    cases b <;> obtain ⟨_, _, _, _, h1⟩ := h1
    · exact ⟨.base (.dK h1), by decide⟩
    · exact ⟨.base (.dT h1), by decide⟩
  | obj _ _ _ => cases e
theorem i_isT {T : String} {c2 : Expr} {p : Pos} (he : IE K ξ W X e fa) (h2 : PE X c2 (tC (.ty T))) (hT : T ∈ ["int", "bool", "str", "tuple", "list", "dict"]) (hg : Gl X "isinstance") (hm : X.mg "isinstance" = none)
    (hs : starEach [e, c2] X.env = (false, eval e X.env) :: starEach [c2] X.env := by rfl) (hs2 : starEach [c2] X.env = (false, eval c2 X.env) :: starEach [] X.env := by rfl) (hp : ((backTo pos (starEach [c2] X.env)).any (·.1)) = false := by rfl) (hK : X.K = K := by rfl) :
    IE K ξ W X (.Call (.Name "isinstance" p) [e, c2] [] pos) (e1 (p1 (isTy T)) fa) := by
  obtain ⟨K, Kt⟩ := K; obtain rfl : X.K = K := hK
  refine PE.of (pe_callB call_isi hg hm WD.bt_isinstance (pa_cons he (pa_c h2 pa_c0 hs2) hs) (by decide) (by decide) hs hp) fun σr H Q q => ?_
  obtain ⟨N, ζ, μ, σ, wd, so, q⟩ := q
  refine (then1 wd so q).mono fun x H1 ⟨ζ1, μ1, w1, ev1, wd1, so1, r1, q1⟩ => ?_
  obtain ⟨M, d1, d, h1, fr, e, g⟩ := read_p1 wd1 r1 q1
  obtain ⟨n, e1, rfl⟩ := Option.map_eq_some_iff.mp e
  obtain ⟨k1, k2⟩ := ty_of h1 e1
  exact ⟨x, .ty T, _, _, _, rfl, .ty T, k1, kit_ty (kit_tab n k2 T hT), g.bl⟩
/-! ### the rest -/
def idxB (l : List PV) (d : PV) : Option Nat := l.findIdx? fun z => eqB z d
def gIndex (w : Val) (ws : List Val) (μ : Store) : R Val := match view μ w, views μ ws with
  | some (.lst l), some [d] => if okD (.lst l) && okD d then OR.ok μ ((idxB l d).map fun (j : Nat) => .t (.int (j : Int))) else .stuck
  | _, _ => .stuck
def isLst (μ : Store) (w : Val) : Bool := match view μ w with
  | some (.lst _) => true
  | _ => false
def eIndex (o : ME) (as : Sl → Store → R (List Val)) : ME := fun σ μ => (o σ μ).bind fun w μ1 => if isLst μ1 w then (as σ μ1).bind fun ws μ2 => gIndex w ws μ2 else .stuck
theorem datas_at : ∀ (l : List PV) (j : Nat), (datas l)[j]? = (l[j]?).map PV.data
  | [], j => by unfold datas; simp
  | a :: l, 0 => by unfold datas; rfl
  | a :: l, j + 1 => by unfold datas; exact datas_at l j
theorem i_index {o : Expr} {fo : ME} {name : Str} {apos cpos : Pos} (hu : X.A.units + 65 < cLine) (ho : IE K ξ W X o fo) (ha : IA K ξ W X (e :: es) fs)
    (h : ∀ {to : TE} {t : TA}, PE X o to → PA X (e :: es) t → PE X (.Call (.Attribute o name apos) (e :: es) [] cpos) (tBM K "list" (rIndexD K) to t)) : IE K ξ W X (.Call (.Attribute o name apos) (e :: es) [] cpos) (eIndex fo fs) := PE.of (h ho ha) fun σr H Q q => by
  obtain ⟨N, ζ, μ, σ, wd, so, q⟩ := q
  refine (then1 wd so q).mono fun x H1 ⟨ζ1, μ1, w1, ev1, wd1, so1, r1, q1⟩ => ?_
  split at q1
  · rename_i hl
    have hl' : ∃ l, view μ1 w1 = some (.lst l) := by
      unfold isLst at hl
      split at hl
      · exact ⟨_, by assumption⟩
      · cases hl
    obtain ⟨l0, hl0⟩ := hl'
    obtain ⟨a, vs, rfl, h1, h2⟩ := r1.view wd1 hl0
    refine ⟨.inl ⟨rfl, vs, SqL.of h1⟩, ?_⟩
    refine (thenN wd1 so1 q1).mono fun xs H2 ⟨ζ2, μ2, ws, ev2, wd2, so2, r2, q2⟩ => ?_
    unfold gIndex at q2
    split at q2
    · rename_i l d e1 e2
      split at q2
      · rename_i hc
        rw [Bool.and_eq_true] at hc
        cases e3 : idxB l d with
        | none => rw [e3] at q2; exact q2.elim
        | some j =>
          rw [e3] at q2
          obtain ⟨u, rfl, hu2⟩ := vvs1 (r2.views wd2 e2)
          obtain ⟨p1, p2⟩ := okD_dp hc.1 ((r1.ev ev2).view wd2 e1)
          obtain ⟨q3, q4⟩ := okD_dp hc.2 hu2
          unfold idxB at e3
          obtain ⟨hj, hj1, hj2⟩ := List.findIdx?_eq_some_iff_getElem.mp e3
          unfold PV.data at p1 p2
          refine ⟨a, u, d.data, datas l, j, (l[j]).data, rfl, rfl, p1, q3, p2, q4, by rw [datas_at, List.getElem?_eq_getElem hj]; rfl, hj1, fun m z' hm hz => ?_, q2 ζ2 H2 _ Ev.refl wd2 ((rv_int (K := K) (M := MM N ζ2 μ2) (H := H2)).mpr rfl)⟩
          rw [datas_at, List.getElem?_eq_getElem (by omega)] at hz
          cases hz
          have := hj2 m hm
          simpa [eqB] using this
      · exact q2.elim
    · exact q2.elim
  · exact q1.elim
/-- list(range(n)), list(range(a, b)) -/
def gRg (i j : Int) (μ : Store) : R (List PV) := if bnd i && (bnd j && Nat.ble (j - i).toNat 16777216) then .ok (rgI i (j - i).toNat) μ else .stuck
def gLR1 (w : Val) (μ : Store) : R (List PV) := match w with
  | .t (.int j) => gRg 0 j μ
  | _ => .stuck
def gLR2 (w u : Val) (μ : Store) : R (List PV) := match w, u with
  | .t (.int i), .t (.int j) => gRg i j μ
  | _, _ => .stuck
theorem rvs_rg {a b : Int} : rvs K M H (rgV a b) (rgI a (b - a).toNat) := by
  unfold rgV rgI
  have : ∀ l : List Nat, rvs K M H (l.map fun (i : Nat) => V.int (a + (i : Int))) (l.map fun (k : Nat) => PV.int (a + (k : Int))) := by
    intro l
    induction l with
    | nil => exact rvs_nil
    | cons x l ih => exact rvs_cons.mpr ⟨rv_int.mpr rfl, ih⟩
  exact this _
theorem read_rg {i j : Int} {Q : VK} (wd : Wd K N ζ μ H) (h : PostF K W N ζ μ H σr Q (gRg i j μ)) : RgOk i j ∧ ∀ q, H q = none → Q (.ref q) (upd H q (.lst (rgV i j))) := by
  unfold gRg at h
  split at h
  · rename_i hc
    rw [Bool.and_eq_true, Bool.and_eq_true] at hc
    have c1 := bnd_ok hc.1
    have c2 := bnd_ok hc.2.1
    have c3 := Nat.le_of_ble_eq_true hc.2.2
    exact ⟨⟨c1.1, c1.2, c2.1, c2.2, by omega⟩, fun q hq => (postF_p wd h).lst rvs_rg hq⟩
  · exact h.elim
theorem f_listRg1 {p pr posr : Pos} (hc : X.calm = true) (hg : Gl X "list") (hm : X.mg "list" = none) (hgr : Gl X "range") (hmr : X.mg "range" = none) (ha : IE K ξ W X e fa) (hs : starEach [e] X.env = (false, eval e X.env) :: starEach [] X.env := by rfl)
    (hs2 : starEach [.Call (.Name "range" pr) [e] [] posr] X.env = (false, eval (.Call (.Name "range" pr) [e] [] posr) X.env) :: starEach [] X.env := by rfl) : IF K ξ W X (.Call (.Name "list" p) [.Call (.Name "range" pr) [e] [] posr] [] pos) (e1 gLR1 fa) := PE.of (pe_listRg hc hg hm (prg_1 hgr hmr ha hs) hs2) fun σr H Q q => by
  obtain ⟨N, ζ, μ, σ, wd, so, q⟩ := q
  refine (then1F wd so q).mono fun x H1 ⟨ζ1, μ1, w1, ev1, wd1, so1, r1, q1⟩ => ?_
  unfold gLR1 at q1
  split at q1
  · rename_i j
    exact ⟨j, rv_int.mp (show rv K (MM N ζ1 μ1) H1 x (.int j) from r1), read_rg wd1 q1⟩
  · exact q1.elim
/-- the script, with a list behind it -/
def gScr (w u : Val) (μ : Store) : R (List PV) := match w, u with
  | .s ns, .t (.lst ds) => if ns.length + ds.length ≤ sizeLine then .ok (ns.map .int ++ ds) μ else .stuck
  | _, _ => .stuck
theorem f_scr {b : Expr} {fb : ME} (ha : IE K ξ W X e fa) (hb : IE K ξ W X b fb) (hK : X.K = K := by rfl) : IF K ξ W X (.BinOp e .Add b pos) (e2 gScr fa fb) := by
  obtain ⟨K, Kt⟩ := K; obtain rfl : X.K = K := hK
  refine PE.of (pe_op WD.op_catL ha hb) fun σr H Q q => ?_
  obtain ⟨N, ζ, μ, σ, wd, so, q⟩ := q
  refine (then1F wd so q).mono fun x H1 ⟨ζ1, μ1, w1, ev1, wd1, so1, r1, q1⟩ => ?_
  refine (then1F wd1 so1 q1).mono fun y H2 ⟨ζ2, μ2, w2, ev2, wd2, so2, r2, q2⟩ => ?_
  have key : ∃ ns ds, w1 = .s ns ∧ w2 = .t (.lst ds) ∧ ns.length + ds.length ≤ sizeLine ∧ PostF ⟨X.K, Kt⟩ W N ζ2 μ2 H2 σr Q (.ok (ns.map .int ++ ds) μ2) := by
    unfold gScr at q2
    split at q2
    · split at q2
      · exact ⟨_, _, rfl, rfl, by assumption, q2⟩
      · exact q2.elim
    · exact q2.elim
  obtain ⟨ns, ds, rfl, rfl, hl, q2⟩ := key
  obtain ⟨a, rfl, h1⟩ := r1.ev ev2
  have h1 : SqL X.K H2 a (ns.map V.int) := h1.elim (fun h => .inl h.2) fun h => h H2
  obtain ⟨b, vs, rfl, n2, h2, r3⟩ := rv_lst.mp (show rv ⟨X.K, Kt⟩ (MM N ζ2 μ2) H2 y (.lst ds) from r2)
  have := rvs_len r3
  exact ⟨a, b, _, vs, rfl, rfl, h1, SqL.of h2, by rw [List.length_map]; omega, fun p hp => (postF_p wd2 q2).lst (rvs_app (rvs_ints ns) r3) hp⟩
theorem fa_nil {α : Type} {p : α → Prop} : ∀ x ∈ ([] : List α), p x := fun _ h => nomatch h
theorem fa_cons {α : Type} {p : α → Prop} {a : α} {l : List α} (h : p a) (t : ∀ x ∈ l, p x) : ∀ x ∈ a :: l, p x := fun x hx => (List.mem_cons.mp hx).elim (fun e => e ▸ h) (t x)
/-- the law's own call -/
def spLaw (K : KT) : Sp := fun vs H Q _ => ∃ (a : Addr) (ns : List Int), vs = [.ref a] ∧ SqL K H a (ns.map V.int) ∧ ns.length ≤ 63 ∧ LamX.Tabs K.tb H ∧ ∀ H', Q (.bl true) H'
theorem spLaw_ask {H : Hp} {a : Addr} {ns : List Int} (hl : ns.length ≤ 63) (hS : SqL K H a (ns.map V.int)) (hT : LamX.Tabs K.tb H) : spLaw K [.ref a] H (fun v _ => v = .bl true) (fun _ _ _ => False) := ⟨a, ns, rfl, hS, hl, hT, fun _ => rfl⟩
theorem law_read {b : MSt} {Nm : List Str} (hb : ∀ ns : List Int, ns.length ≤ 63 → fnOf Nm.length b [.s ns] [] = .ok (.t (.bl true)) []) {vs : List V} {H : Hp} {Q : VK} {E : XK} (h : spLaw K vs H Q E) : tS K none W0 b { nx := fun _ H' => Q .non H', rt := Q } (L2.start Nm vs) H := by
  obtain ⟨a, ns, rfl, hS, hl, hT, k⟩ := h
  have noM : ∀ x, ¬ MM WD.M0 [] [] x := fun x z => z.elim (fun ⟨k, c, h1, _⟩ => by simp at h1) fun z => z
  refine fn_read (N := WD.M0) (ζ := []) (μ := []) (E := fun _ _ _ => False) (ws := [.s ns]) ⟨rfl, fun i j a c c' h => by simp at h, fun k c a h => by simp at h, fun a h => h.elim, hT⟩ ⟨⟨a, rfl, ?_⟩, trivial⟩ ?_
  · rcases hS with h | h
    · exact .inl ⟨noM a, h⟩
    · exact .inr fun H' => .inr h
  · rw [hb ns hl]
    exact fun ζ' H' v _ _ r => by rw [rv_bl.mp (show rv K (MM WD.M0 ζ' []) H' v (.bl true) from r)]; exact k H'
end
end PM
/-! A turn of a loop: what it made for itself is let go at its end. -/
namespace PM
open PySem PySem.Spec PyProof.Rows L2
open WD (MS upd_none)
def belowV (n : Nat) : Option Val → Bool
  | some (.c k) => decide (k < n)
  | some (.x _ _) => false
  | some (.lam _ _) => false
  | some (.g _ fs) => fs.all (Fl.below n)
  | _ => true
def sScope (B : MSt) : MSt := fun σ μ => match B σ μ with
  | .nx σ' μ' => if σ'.all (belowV μ.length) then .nx σ' (μ'.take μ.length) else .nx σ' μ'
  | .ct σ' μ' => if σ'.all (belowV μ.length) then .ct σ' (μ'.take μ.length) else .ct σ' μ'
  | r => r
section
variable {X : Cx} {K : KT} {ξ : Xi} {W : WX} {N : MS} {ζ ζ1 : List Addr} {μ μ1 : Store} {H : Hp} {σr : L2.St} {σ : Sl} {B : MSt}
theorem Sok.cut {n : Nat} (so : Sok K ξ ζ1 (MM N ζ1 μ1) H σr σ) (sub : ∀ x, MM N (ζ1.take n) (μ1.take n) x → MM N ζ1 μ1 x) (hb : σ.all (belowV n) = true) : Sok K ξ (ζ1.take n) (MM N (ζ1.take n) (μ1.take n)) H σr σ := by
  refine ⟨so.1, fun i w hw => ?_⟩
  obtain ⟨v, h1, h2⟩ := so.2 i w hw
  have hb := List.all_eq_true.mp hb _ (List.mem_of_getElem? hw)
  refine ⟨v, h1, ?_⟩
  cases w with
  | t d => exact rv_wk sub h2
  | c k =>
    obtain ⟨a, ha, rfl⟩ := h2
    exact ⟨a, by rw [List.getElem?_take, if_pos (of_decide_eq_true hb)]; exact ha, rfl⟩
  | x c f => cases hb
  | self => exact h2
  | lam _ _ => cases hb
  | g hd fs => exact RV.cutG hb sub h2
  | s ns =>
    obtain ⟨a, rfl, h2⟩ := h2
    exact ⟨a, rfl, h2.imp (fun z => ⟨fun m => z.1 (sub a m), z.2⟩) id⟩
theorem s_scope {body : List Stmt} (h : ISs K ξ W X body B) : ISs K ξ W X body (sScope B) := PSs.of h fun D σr H q => by
  obtain ⟨N, ζ, μ, σ, wd, so, q⟩ := q
  refine ⟨N, ζ, μ, σ, wd, so, ?_⟩
  unfold sScope at q
  cases e : B σ μ with
  | nx σ' μ' =>
    rw [e] at q
    dsimp only at q
    split at q
    · rename_i hb
      intro ζ' H' σr' ev wd' so'
      obtain ⟨ev', wd'', sub⟩ := cut_ok ev wd' wd.len
      exact q _ _ _ ev' wd'' (so'.cut sub hb)
    · exact q
  | ct σ' μ' =>
    rw [e] at q
    dsimp only at q
    split at q
    · rename_i hb
      intro ζ' H' σr' ev wd' so'
      obtain ⟨ev', wd'', sub⟩ := cut_ok ev wd' wd.len
      exact q _ _ _ ev' wd'' (so'.cut sub hb)
    · exact q
  | _ => rw [e] at q; exact q
end
end PM
/-! sep.join(xs) -/
namespace PM
open PySem PySem.Spec PyProof.Rows L2
open WD (MS upd_none)
def strsOf : List PV → Option (List Str)
  | [] => some []
  | .str x :: ds => (strsOf ds).map (x :: ·)
  | _ => none
def joinB (a : Str) (ys : List Str) : Bool := Nat.ble ((ys.map (·.length)).sum + ys.length * a.length) 16777216 && PyData.strOk (Txt.join a ys)
def gJoin (a : Str) (u : Val) (μ : Store) : R Val := match view μ u with
  | some (.lst ds) => match strsOf ds with
    | some ys => if joinB a ys then .ok (.t (.str (Txt.join a ys))) μ else .stuck
    | none => .stuck
  | some (.tup ds) => match strsOf ds with
    | some ys => if joinB a ys then .ok (.t (.str (Txt.join a ys))) μ else .stuck
    | none => .stuck
  | _ => .stuck
def eJoin (fo fe : ME) : ME := fun σ μ => (fo σ μ).bind fun w μ1 => match w with
  | .t (.str a) => (fe σ μ1).bind fun u μ2 => gJoin a u μ2
  | _ => .stuck
section
variable {X : Cx} {K : KT} {ξ : Xi} {W : WX} {N : MS} {ζ ζ1 : List Addr} {μ μ1 : Store} {M : MS} {H : Hp} {σr : L2.St} {σ : Sl} {o e : Expr} {fo fe : ME} {apos pos : Pos}
theorem rvs_strs : ∀ {ds : List PV} {vs : List V} {ys : List Str}, rvs K M H vs ds → strsOf ds = some ys → vs = ys.map V.str
  | [], [], _, _, e => by cases e; rfl
  | [], _ :: _, _, h, _ => h.elim
  | d :: ds, [], _, h, _ => by cases d <;> exact h.elim
  | d :: ds, v :: vs, ys, h, e => by
    cases d with
    | str x =>
      rw [rvs_cons] at h
      obtain ⟨zs, hz, rfl⟩ := Option.map_eq_some_iff.mp (show (strsOf ds).map (x :: ·) = some ys from e)
      rw [(rv_str.mp h.1).1, rvs_strs h.2 hz]
      rfl
    | _ => cases e
theorem i_join (ho : IE K ξ W X o fo) (he : IE K ξ W X e fe) (h : ∀ {to te : TE}, PE X o to → PE X e te → PE X (.Call (.Attribute o "join" apos) [e] [] pos) (tM1 (WD.rJoin K) to te)) : IE K ξ W X (.Call (.Attribute o "join" apos) [e] [] pos) (eJoin fo fe) := PE.of (h ho he) fun σr H Q q => by
  obtain ⟨N, ζ, μ, σ, wd, so, q⟩ := q
  refine (then1 wd so q).mono fun x H1 ⟨ζ1, μ1, w1, ev1, wd1, so1, r1, q1⟩ => ?_
  split at q1
  · rename_i a
    obtain ⟨rfl, ok⟩ := rv_str.mp (show rv K (MM N ζ1 μ1) H1 x (.str a) from r1)
    refine ⟨⟨a, rfl⟩, ?_⟩
    refine (then1 wd1 so1 q1).mono fun y H2 ⟨ζ2, μ2, w2, ev2, wd2, so2, r2, q2⟩ => ?_
    unfold gJoin at q2
    split at q2
    · rename_i ds e1
      split at q2
      · rename_i ys e2
        split at q2
        · rename_i hc
          unfold joinB at hc
          rw [Bool.and_eq_true] at hc
          obtain ⟨p, vs, rfl, h1, h2⟩ := r2.view wd2 e1
          refine ⟨a, p, ys, rfl, rfl, .inl (rvs_strs h2 e2 ▸ SqL.of h1), Nat.le_of_ble_eq_true hc.1, q2 ζ2 H2 _ Ev.refl wd2 ((rv_str (K := K) (M := MM N ζ2 μ2) (H := H2)).mpr ⟨rfl, hc.2⟩)⟩
        · exact q2.elim
      · exact q2.elim
    · rename_i ds e1
      split at q2
      · rename_i ys e2
        split at q2
        · rename_i hc
          unfold joinB at hc
          rw [Bool.and_eq_true] at hc
          obtain ⟨p, vs, rfl, _, h1, h2⟩ := (r2.view wd2 e1 : rv K (MM N ζ2 μ2) H2 y (.tup ds))
          refine ⟨a, p, ys, rfl, rfl, .inr (rvs_strs h2 e2 ▸ SqT.of h1), Nat.le_of_ble_eq_true hc.1, q2 ζ2 H2 _ Ev.refl wd2 ((rv_str (K := K) (M := MM N ζ2 μ2) (H := H2)).mpr ⟨rfl, hc.2⟩)⟩
        · exact q2.elim
      · exact q2.elim
    · exact q2.elim
  · exact q1.elim
end
end PM
/-! sum of ints -/
namespace PM
open PySem PySem.Spec PyProof.Rows L2
open WD (MS upd_none)
def numsOf : List PV → Option (List Int)
  | [] => some []
  | .int x :: ds => (numsOf ds).map (x :: ·)
  | _ => none
def sumV : List PV → Option PV
  | [.lst l] => (numsOf l).map fun ns => .int ns.sum
  | [.tup l] => (numsOf l).map fun ns => .int ns.sum
  | _ => none
section
variable {X : Cx} {K : KT} {M : MS} {H : Hp}
theorem rvs_nums : ∀ {ds : List PV} {vs : List V} {ys : List Int}, rvs K M H vs ds → numsOf ds = some ys → vs = ys.map V.int
  | [], [], _, _, e => by cases e; rfl
  | [], _ :: _, _, h, _ => h.elim
  | d :: ds, [], _, h, _ => by cases d <;> exact h.elim
  | d :: ds, v :: vs, ys, h, e => by
    cases d with
    | int x =>
      rw [rvs_cons] at h
      obtain ⟨zs, hz, rfl⟩ := Option.map_eq_some_iff.mp (show (numsOf ds).map (x :: ·) = some ys from e)
      rw [rv_int.mp h.1, rvs_nums h.2 hz]
      rfl
    | _ => cases e
theorem cr_sumV (hc : X.calm = true) (hK : X.K = K := by rfl) : CallR X (.builtin "sum") (rPN K sumV) := by
  obtain ⟨K, Kt⟩ := K; obtain rfl : X.K = K := hK
  intro pins s σ H xs us Q I r h
  obtain ⟨M, ds, d, hv, fr, e, g⟩ := h
  unfold sumV at e
  split at e
  · obtain ⟨bs, e1, e2⟩ := Option.map_eq_some_iff.mp e
    subst e2
    obtain ⟨v, rfl, h1⟩ := vvs1 hv
    obtain ⟨p, vs, rfl, g1, r1⟩ := h1
    have z := rvs_nums r1 e1
    subst z
    exact cr_sum hc pins s σ H _ us Q I r ⟨p, bs, rfl, SqL.of g1, g.int⟩
  · obtain ⟨bs, e1, e2⟩ := Option.map_eq_some_iff.mp e
    subst e2
    obtain ⟨v, rfl, h1⟩ := vvs1 hv
    obtain ⟨p, vs, rfl, _, g1, r1⟩ := (h1 : rv ⟨X.K, Kt⟩ M H v (.tup _))
    have z := rvs_nums r1 e1
    subst z
    exact WD.cr_sumT hc pins s σ H _ us Q I r ⟨p, bs, rfl, SqT.of g1, g.int⟩
  · cases e
end
end PM
/-! dicts that change -/
namespace PM
open PySem PySem.Spec PyProof.Rows L2
open WD (MS upd_none)
/-- {} -/
def eDNew (b : Bool) : ME := fun _ μ => .ok (.c μ.length) (μ ++ [some (.dic b [] [])])
section
variable {X : Cx} {K : KT} {ξ : Xi} {W : WX} {N : MS} {ζ : List Addr} {μ : Store} {H : Hp} {pos : Pos}
theorem dnew_ok {b : Bool} {σr : L2.St} {Q : VK} {a : Addr} {o : HO} (wd : Wd K N ζ μ H) (ha : H a = none) (hd : DicR b (upd H a o) a [] []) (q : PostE K ξ W N ζ μ H σr Q (.ok (.c μ.length) (μ ++ [some (.dic b [] [])]))) : Q (.ref a) (upd H a o) := by
  have w := wd.aside (a := a) (H' := upd H a o) (Grow.upd ha) ha hd.ob
  refine q (ζ ++ [a]) _ _ ⟨fun k b hb => ?_, Fr.new ha, fun b hb => ?_⟩ (w.push (fun z => (wd.nd a z).2.ne ha) ⟨[], hd, trivial⟩) ⟨a, by rw [← wd.len, List.getElem?_append_right (Nat.le_refl _), Nat.sub_self]; rfl, rfl⟩
  · rw [List.getElem?_append_left (List.getElem?_eq_some_iff.mp hb).1]
    exact hb
  · rcases (Mof_snoc wd.len b).mp hb with z | z
    · exact .inl z
    · exact .inr (nn_none (by rw [z]; exact ha))
theorem i_dnewK : IE K ξ W X (.Dict [] [] pos) (eDNew false) := PE.of pe_dnewK fun σr H Q q => by
  obtain ⟨N, ζ, μ, σ, wd, so, q⟩ := q
  exact fun a ha => dnew_ok (b := false) wd ha ⟨[], rfl, rfl, fun _ h => (nomatch h), upd_same⟩ q
theorem i_dnewT : IE K ξ W X (.Dict [] [] pos) (eDNew true) := PE.of pe_dnewT fun σr H Q q => by
  obtain ⟨N, ζ, μ, σ, wd, so, q⟩ := q
  exact fun a ha => dnew_ok (b := true) wd ha ⟨[], rfl, rfl, fun _ h => (nomatch h), upd_same⟩ q
/-- {} that never changes -/
theorem i_dnewE : IE K ξ W X (.Dict [] [] pos) (eC (.dic false [] [])) := PE.of pe_dnewK fun σr H Q q => by
  obtain ⟨N, ζ, μ, σ, wd, so, q⟩ := q
  exact fun a ha => q ζ _ _ (Ev.new ha) (wd.new ha) ((rv_dic (K := K) (M := MM N ζ μ)).mpr ⟨a, [], rfl, wd.no ha, ⟨[], rfl, rfl, fun _ h => (nomatch h), upd_same⟩, rvs_nil⟩)
end
end PM
/-! min, max of a list, of a tuple of ints -/
namespace PM
open PySem PySem.Spec PyProof.Rows L2
open WD (MS upd_none)
def minOf : List Int → Option PV
  | [] => none
  | n :: ns => some (.int (ns.foldl min n))
def maxOf : List Int → Option PV
  | [] => none
  | n :: ns => some (.int (ns.foldl max n))
def minV1 : List PV → Option PV
  | [.lst l] => (intsOf l).bind minOf
  | [.tup l] => (intsOf l).bind minOf
  | _ => none
def maxV1 : List PV → Option PV
  | [.lst l] => (intsOf l).bind maxOf
  | [.tup l] => (intsOf l).bind maxOf
  | _ => none
theorem foldl_min_le (n : Int) (ns : List Int) : ∀ y ∈ n :: ns, ns.foldl min n ≤ y := by
  induction ns generalizing n with
  | nil => intro y hy; rw [List.mem_singleton.mp hy]; exact Int.le_refl _
  | cons k r ih =>
    intro y hy
    show r.foldl min (min n k) ≤ y
    have h0 := ih (min n k) (min n k) List.mem_cons_self
    rcases List.mem_cons.mp hy with e | hy
    · subst e; omega
    · rcases List.mem_cons.mp hy with e | hy
      · subst e; omega
      · exact ih (min n k) y (List.mem_cons_of_mem _ hy)
theorem foldl_min_mem (n : Int) (ns : List Int) : ns.foldl min n ∈ n :: ns := by
  induction ns generalizing n with
  | nil => exact List.mem_singleton.mpr rfl
  | cons k r ih =>
    show r.foldl min (min n k) ∈ n :: k :: r
    rcases List.mem_cons.mp (ih (min n k)) with e | e
    · rw [e]
      rcases (by omega : min n k = n ∨ min n k = k) with e | e <;> rw [e] <;> simp
    · exact List.mem_cons_of_mem _ (List.mem_cons_of_mem _ e)
theorem foldl_max_le (n : Int) (ns : List Int) : ∀ y ∈ n :: ns, y ≤ ns.foldl max n := by
  induction ns generalizing n with
  | nil => intro y hy; rw [List.mem_singleton.mp hy]; exact Int.le_refl _
  | cons k r ih =>
    intro y hy
    show y ≤ r.foldl max (max n k)
    have h0 := ih (max n k) (max n k) List.mem_cons_self
    rcases List.mem_cons.mp hy with e | hy
    · subst e; omega
    · rcases List.mem_cons.mp hy with e | hy
      · subst e; omega
      · exact ih (max n k) y (List.mem_cons_of_mem _ hy)
theorem foldl_max_mem (n : Int) (ns : List Int) : ns.foldl max n ∈ n :: ns := by
  induction ns generalizing n with
  | nil => exact List.mem_singleton.mpr rfl
  | cons k r ih =>
    show r.foldl max (max n k) ∈ n :: k :: r
    rcases List.mem_cons.mp (ih (max n k)) with e | e
    · rw [e]
      rcases (by omega : max n k = n ∨ max n k = k) with e | e <;> rw [e] <;> simp
    · exact List.mem_cons_of_mem _ (List.mem_cons_of_mem _ e)
section
variable {X : Cx} {K : KT} {M : MS} {H : Hp}
theorem cr_minTE (hc : X.calm = true) (hu : X.A.units + 1 < cLine) : CallR X (.builtin "min") (fun vs H Q => ∃ (a : Addr) (n : Int) (ns : List Int), vs = [V.ref a] ∧ SqT X.K H a ((n :: ns).map V.int) ∧ Q (.int (ns.foldl min n)) H) := by
  intro pins s σ H vs us Q I r h
  obtain ⟨a, n, ns, rfl, hs, q⟩ := h
  obtain ⟨its, rv, hl, _⟩ := I.tuple hs
  rw [Vals.ref1 r]
  obtain ⟨as, hr⟩ := Dp.readsAll I _ _ its (WD.dpInts (n :: ns)) rv
  refine PySem.W.min_tuple_data (x := .int n) (xs := ns.map PyData.int) (as := as) (I.ok.hd hc) hl hr (WD.alike_ints (n :: ns)) (by rw [show PyData.depthAll (.int n :: ns.map PyData.int) = 0 from WD.depth_ints (n :: ns)]; omega) fun i v h' tk bs hv hrd hk => ?_
  rw [PySem.W.minD_ints] at hrd
  cases hrd
  exact ⟨.int _, H, I.kept hk, ⟨_, rfl⟩, q⟩
theorem cr_maxTE (hc : X.calm = true) (hu : X.A.units + 1 < cLine) : CallR X (.builtin "max") (fun vs H Q => ∃ (a : Addr) (n : Int) (ns : List Int), vs = [V.ref a] ∧ SqT X.K H a ((n :: ns).map V.int) ∧ Q (.int (ns.foldl max n)) H) := by
  intro pins s σ H vs us Q I r h
  obtain ⟨a, n, ns, rfl, hs, q⟩ := h
  obtain ⟨its, rv, hl, _⟩ := I.tuple hs
  rw [Vals.ref1 r]
  obtain ⟨as, hr⟩ := Dp.readsAll I _ _ its (WD.dpInts (n :: ns)) rv
  refine PySem.W.max_tuple_data (x := .int n) (xs := ns.map PyData.int) (as := as) (I.ok.hd hc) hl hr (WD.alike_ints (n :: ns)) (by rw [show PyData.depthAll (.int n :: ns.map PyData.int) = 0 from WD.depth_ints (n :: ns)]; omega) fun i v h' tk bs hv hrd hk => ?_
  rw [PySem.W.maxD_ints] at hrd
  cases hrd
  exact ⟨.int _, H, I.kept hk, ⟨_, rfl⟩, q⟩
theorem cr_minV1 (hc : X.calm = true) (hu : X.A.units + 1 < cLine) (hK : X.K = K := by rfl) : CallR X (.builtin "min") (rPN K minV1) := by
  obtain ⟨K, Kt⟩ := K; obtain rfl : X.K = K := hK
  intro pins s σ H xs us Q I r h
  obtain ⟨M, ds, d, hv, fr, e, g⟩ := h
  unfold minV1 at e
  split at e
  · obtain ⟨ns, e1, e2⟩ := Option.bind_eq_some_iff.mp e
    obtain ⟨v, rfl, h1⟩ := vvs1 hv
    obtain ⟨p, vs, rfl, g1, r1⟩ := h1
    have z := ints_vals r1 e1
    subst z
    cases ns with
    | nil => cases e2
    | cons n ns =>
      cases e2
      refine cr_min hc pins s σ H _ us Q I r ⟨p, n :: ns, rfl, SqL.of g1, Nat.succ_pos _, fun m hm hle => ?_⟩
      have h1 := hle _ (foldl_min_mem n ns)
      have h2 := foldl_min_le n ns m hm
      rw [show m = ns.foldl min n by omega]
      exact g.int
  · obtain ⟨ns, e1, e2⟩ := Option.bind_eq_some_iff.mp e
    obtain ⟨v, rfl, h1⟩ := vvs1 hv
    obtain ⟨p, vs, rfl, _, g1, r1⟩ := vv_tup h1
    have z := ints_vals r1 e1
    subst z
    cases ns with
    | nil => cases e2
    | cons n ns =>
      cases e2
      exact cr_minTE hc hu pins s σ H _ us Q I r ⟨p, n, ns, rfl, SqT.of g1, g.int⟩
  · cases e
theorem cr_maxV1 (hc : X.calm = true) (hu : X.A.units + 1 < cLine) (hK : X.K = K := by rfl) : CallR X (.builtin "max") (rPN K maxV1) := by
  obtain ⟨K, Kt⟩ := K; obtain rfl : X.K = K := hK
  intro pins s σ H xs us Q I r h
  obtain ⟨M, ds, d, hv, fr, e, g⟩ := h
  unfold maxV1 at e
  split at e
  · obtain ⟨ns, e1, e2⟩ := Option.bind_eq_some_iff.mp e
    obtain ⟨v, rfl, h1⟩ := vvs1 hv
    obtain ⟨p, vs, rfl, g1, r1⟩ := h1
    have z := ints_vals r1 e1
    subst z
    cases ns with
    | nil => cases e2
    | cons n ns =>
      cases e2
      refine cr_max hc pins s σ H _ us Q I r ⟨p, n :: ns, rfl, SqL.of g1, Nat.succ_pos _, fun m hm hle => ?_⟩
      have h1 := hle _ (foldl_max_mem n ns)
      have h2 := foldl_max_le n ns m hm
      rw [show m = ns.foldl max n by omega]
      exact g.int
  · obtain ⟨ns, e1, e2⟩ := Option.bind_eq_some_iff.mp e
    obtain ⟨v, rfl, h1⟩ := vvs1 hv
    obtain ⟨p, vs, rfl, _, g1, r1⟩ := vv_tup h1
    have z := ints_vals r1 e1
    subst z
    cases ns with
    | nil => cases e2
    | cons n ns =>
      cases e2
      exact cr_maxTE hc hu pins s σ H _ us Q I r ⟨p, n, ns, rfl, SqT.of g1, g.int⟩
  · cases e
end
end PM
/-! d[k] = v, list(d.values()), dict(d) -/
namespace PM
open PySem PySem.Spec PyProof.Rows L2
open WD (MS upd_none)
def dicAt (μ : Store) : Val → Option (Nat × Bool × List PV × List PV)
  | .c k => match μ[k]? with
    | some (some (.dic b ks vs)) => some (k, b, ks, vs)
    | _ => none
  | _ => none
def gDPut (w u z : Val) (μ : Store) : Option Store := match w, dicAt μ u, z with
  | .t d, some (k, b, ks, vs), .t y => if keyB b y && Nat.blt ks.length 16777216 then some (μ.set k (some (.dic b (dput ks vs y d).1 (dput ks vs y d).2))) else none
  | _, _, _ => none
def sDPut (fe fo fi : ME) : MSt := fun σ μ => (fe σ μ).st σ fun w μ1 => (fo σ μ1).st σ fun u μ2 => (fi σ μ2).st σ fun z μ3 => match gDPut w u z μ3 with
  | some μ4 => .nx σ μ4
  | none => .stuck
def gVals (w : Val) (μ : Store) : R (List PV) := match view μ w with
  | some (.dic false _ vs) => .ok vs μ
  | _ => .stuck
def gDCopy (w : Val) (μ : Store) : R Val := match view μ w with
  | some (.dic false ks vs) => .ok (.c μ.length) (μ ++ [some (.dic false ks vs)])
  | _ => .stuck
section
variable {X : Cx} {K : KT} {ξ : Xi} {W : WX} {N : MS} {ζ : List Addr} {μ : Store} {M : MS} {H : Hp} {σr : L2.St} {σ : Sl} {e o : Expr} {fa fo : ME} {st : Stmt} {p pos apos cpos : Pos}
theorem dicAt_ok {w : Val} {k : Nat} {b : Bool} {ks ds : List PV} {v : V} (wd : Wd K N ζ μ H) (r : RV K ξ ζ (MM N ζ μ) H v w) (e : dicAt μ w = some (k, b, ks, ds)) : ∃ a vs, w = .c k ∧ v = .ref a ∧ ζ[k]? = some a ∧ μ[k]? = some (some (.dic b ks ds)) ∧ DicR b H a ks vs ∧ rvs K (MM N ζ μ) H vs ds := by
  cases w with
  | c j =>
    obtain ⟨a, ha, rfl⟩ := r
    simp only [dicAt] at e
    split at e
    · rename_i b' ks' ds' hk
      cases e
      obtain ⟨vs, h1, h2⟩ := wd.cell k _ a hk ha
      exact ⟨a, vs, rfl, rfl, ha, hk, h1, h2⟩
    · cases e
  | _ => cases e
theorem sizeLine_ge : 16777216 ≤ sizeLine := by rw [sizeLine_eq]; decide
theorem read_dput {w1 w2 w3 : Val} {x y z : V} {μ' : Store} (wd : Wd K N ζ μ H) (r1 : RV K ξ ζ (MM N ζ μ) H x w1) (r2 : RV K ξ ζ (MM N ζ μ) H y w2) (r3 : RV K ξ ζ (MM N ζ μ) H z w3) (e : gDPut w1 w2 w3 μ = some μ') : ∃ a H', y = .ref a ∧ DPut H a z x H' ∧ Ev K.tb ζ μ H ζ μ' H' ∧ Wd K N ζ μ' H' := by
  unfold gDPut at e
  split at e
  · rename_i d k b ks ds yk e1
    split at e
    · rename_i hc
      cases e
      rw [Bool.and_eq_true] at hc
      obtain ⟨a, vs, ew, rfl, ha, hk, h1, h2⟩ := dicAt_ok wd r2 e1
      have hz : ks.length < sizeLine := Nat.lt_of_lt_of_le (Nat.le_of_ble_eq_true hc.2) sizeLine_ge
      obtain ⟨H', o', vs', q1, rfl, q2, q3⟩ := dput_rel h1 h2 (vv_of r3) hc.1 r1 hz
      exact ⟨a, _, rfl, q1, ev_set hk ha (by obtain ⟨o, e, n, _⟩ := q2.ob; rw [upd_same] at e; cases e; exact n), wd.setC hk ha ⟨vs', q2, rvs_mutN (.inl ⟨k, _, ha, hk⟩) q3⟩⟩
    · cases e
  · cases e
theorem s_dput {fe fi : ME} (h : PS X st (L2.sDPut (tE K ξ W fo) (tE K ξ W fi) (tE K ξ W fe))) : IS K ξ W X st (sDPut fe fo fi) := PS.of h fun D σr H q => by
  obtain ⟨N, ζ, μ, σ, wd, so, q⟩ := q
  refine (stE wd so q).mono fun x H1 ⟨ζ1, μ1, w1, ev1, wd1, so1, r1, q1⟩ => ?_
  refine (stE wd1 so1 q1).mono fun y H2 ⟨ζ2, μ2, w2, ev2, wd2, so2, r2, q2⟩ => ?_
  refine (stE wd2 so2 q2).mono fun z H3 ⟨ζ3, μ3, w3, ev3, wd3, so3, r3, q3⟩ => ?_
  cases e : gDPut w1 w2 w3 μ3 with
  | none => rw [e] at q3; exact q3.elim
  | some μ4 =>
    rw [e] at q3
    obtain ⟨a, H', rfl, h1, ev, wd'⟩ := read_dput wd3 ((r1.ev ev2).ev ev3) (r2.ev ev3) r3 e
    exact ⟨a, H', rfl, h1, q3 ζ3 H' σr ev wd' (so3.ev ev)⟩
/-- list(e.values()) -/
theorem f_listVals (hc : X.calm = true) (hg : Gl X "list") (hm : X.mg "list" = none) (he : IE K ξ W X e fa) (hbase : attributeBase e "values" X.env (eval e X.env) = eval e X.env := by rfl) (hline : (apos.endLine == cpos.line) = true := by rfl)
    (hs : starEach [.Call (.Attribute e "values" apos) [] [] cpos] X.env = (false, eval (.Call (.Attribute e "values" apos) [] [] cpos) X.env) :: starEach [] X.env := by rfl) :
    IF K ξ W X (.Call (.Name "list" p) [.Call (.Attribute e "values" apos) [] [] cpos] [] pos) (e1 gVals fa) := PE.of (WD.pe_listVals hc hg hm he hbase hline hs) fun σr H Q q => by
  obtain ⟨N, ζ, μ, σ, wd, so, q⟩ := q
  refine (then1F wd so q).mono fun x H1 ⟨ζ1, μ1, w1, ev1, wd1, so1, r1, q1⟩ => ?_
  unfold gVals at q1
  split at q1
  · rename_i ks ds e1
    obtain ⟨a, vs, rfl, ⟨kl, h1, h2, h3, h4⟩, r2⟩ := r1.view wd1 e1
    refine ⟨a, _, rfl, h4, fun q hq => ?_⟩
    rw [List.map_snd_zip (by omega)]
    exact (postF_p wd1 q1).lst r2 hq
  · exact q1.elim
/-- dict(d) -/
theorem i_dcopy (hg : Gl X "dict") (hm : X.mg "dict" = none) (he : IE K ξ W X e fa) (hs : starEach [e] X.env = (false, eval e X.env) :: starEach [] X.env := by rfl) :
    IE K ξ W X (.Call (.Name "dict" p) [e] [] pos) (e1 gDCopy fa) := PE.of (pe_callTy call_dictD hg hm WD.bt_dict (pa_cons he pa_nil hs) (by decide) (by decide) hs (by rfl)) fun σr H Q q => by
  obtain ⟨N, ζ, μ, σ, wd, so, q⟩ := q
  refine (then1 wd so q).mono fun x H1 ⟨ζ1, μ1, w1, ev1, wd1, so1, r1, q1⟩ => ?_
  unfold gDCopy at q1
  split at q1
  · rename_i ks ds e1
    obtain ⟨a, vs, rfl, ⟨kl, h1, h2, h3, h4⟩, r2⟩ := r1.view wd1 e1
    refine ⟨a, _, rfl, .inl h4, fun q hq => ?_⟩
    have hd : DicR false (upd H1 q (.dK (kl.zip vs))) q ks vs := ⟨kl, h1, h2, h3, upd_same⟩
    have w := wd1.aside (a := q) (H' := upd H1 q (.dK (kl.zip vs))) (Grow.upd hq) hq ⟨_, upd_same, rfl, rfl⟩
    have r3 : rvs K (MM (WD.plus N q) ζ1 μ1) (upd H1 q (.dK (kl.zip vs))) vs ds := rvs_st (fun b nb ne z => by
      rcases z with z | z | z
      · exact nb (.inl z)
      · exact nb (.inr z)
      · exact ne (nn_none (by rw [z]; exact hq))) (fun b o _ _ e => Grow.upd hq b o e) ds vs r2
    refine q1 (ζ1 ++ [q]) _ _ ⟨fun k b hb => ?_, Fr.new hq, fun b hb => ?_⟩ (w.push (fun z => (wd1.nd q z).2.ne hq) ⟨vs, hd, r3⟩) ⟨q, by rw [← wd1.len, List.getElem?_append_right (Nat.le_refl _), Nat.sub_self]; rfl, rfl⟩
    · rw [List.getElem?_append_left (List.getElem?_eq_some_iff.mp hb).1]
      exact hb
    · rcases (Mof_snoc wd1.len b).mp hb with z | z
      · exact .inl z
      · exact .inr (nn_none (by rw [z]; exact hq))
  · exact q1.elim
end
end PM
/-! instances of own classes: made, asked -/
namespace PM
open PySem PySem.Spec PyProof.Rows L2
open WD (MS upd_none)
/-- __init__: a block, then the fields -/
abbrev MI := Sl → Store → R (List Val)
def iNil : MI := fun _ μ => .ok [] μ
def isSelf : Option (Option Val) → Bool
  | some (some .self) => true
  | _ => false
def iFld (i : Nat) (f : ME) (r : MI) : MI := fun σ μ => if isSelf σ[i]? then (f σ μ).noex.bind fun w μ1 => (r σ μ1).noex.bind fun ws μ2 => .ok (w :: ws) μ2 else .stuck
def iPre (A : MSt) (r : MI) : MI := fun σ μ => match A σ μ with
  | .nx σ1 μ1 => r σ1 μ1
  | .ex c f _ μ1 => .ex c f μ1
  | _ => .stuck
abbrev FnI := List Val → Store → R (List Val)
def isT : Val → Bool
  | .t _ => true
  | _ => false
def finI (n : Nat) : R (List Val) → R (List Val)
  | .ok ws μ => if ws.all isT then .ok ws (μ.take n) else if ws.all Val.plain then .ok ws μ else .stuck
  | .ex c f μ => .ex c f (μ.take n)
  | .stuck => .stuck
def iniOf (n : Nat) (F : MI) : FnI := fun ws μ => finI μ.length (F (startM n (.self :: ws)) μ)
def flsOf : List Val → Option (List Fl)
  | [] => some []
  | .t d :: ws => (flsOf ws).map (.t d :: ·)
  | .c k :: ws => (flsOf ws).map (.c k :: ·)
  | _ :: _ => none
def mkOb (C : Str) (ns : List Str) (ws : List Val) (μ : Store) : R Val := if ws.length = ns.length then match asT ws with
    | some ds => .ok (.t (.obj C ns ds)) μ
    | none => match flsOf ws with
      | some fs => .ok (.g (.ob C ns) fs) μ
      | none => .stuck
  else .stuck
def eMake (C : Str) (ns : List Str) (n : Nat) (fn : FnI) (as : Sl → Store → R (List Val)) : ME := fun σ μ => (as σ μ).bind fun ws μ1 => if ws.all Val.plain && decide (ws.length = n) then (fn ws μ1).bind (mkOb C ns) else .stuck
section
variable {X : Cx} {K : KT} {ξ : Xi} {W : WX} {N : MS} {ζ : List Addr} {μ : Store} {M : MS} {H : Hp} {σr : L2.St} {σ : Sl} {e o : Expr} {es : List Expr} {fa fo : ME} {st : Stmt} {ss : List Stmt} {p pos apos cpos : Pos} {C : Str} {ns ns0 : List Str} {a dx : Addr} {F : MI}
def PostIn (K : KT) (ξ : Xi) (W : WX) (N : MS) (ζ : List Addr) (μ : Store) (H : Hp) (C : Str) (a dx : Addr) (ns0 ns : List Str) (vs0 : List V) (D : Ends) : R (List Val) → Prop
  | .ok ws μ' => ∀ ζ' H1 σr' vs, Ev K.tb ζ μ H ζ' μ' H1 → Wd K N ζ' μ' H1 → RVs K ξ ζ' (MM N ζ' μ') H1 vs ws → vs.length = ns.length → D.nx σr' (upd H1 a (.ins (He.ga K C) dx ((ns0 ++ ns).zip (vs0 ++ vs))))
  | .ex c f μ' => ∀ ζ' H' d σr', Ev K.tb ζ μ H ζ' μ' H' → Wd K N ζ' μ' H' → XR K (MM N ζ' μ') H' d f → W (.ref (He.ga K c)) d σr' H'
  | .stuck => False
def tIn (K : KT) (ξ : Xi) (W : WX) (C : Str) (ns0 ns : List Str) (F : MI) : TS := fun D σr H => ∃ N ζ μ σ a cv d dx vs0, ξ = some (a, cv, d) ∧ N a ∧ H a = some (.ins (He.ga K C) dx (ns0.zip vs0)) ∧ vs0.length = ns0.length ∧ Wd K N ζ μ H ∧ Sok K ξ ζ (MM N ζ μ) H σr σ ∧ PostIn K ξ W N ζ μ H C a dx ns0 ns vs0 D (F σ μ)
abbrev IN (K : KT) (ξ : Xi) (W : WX) (X : Cx) (C : Str) (ns0 ns : List Str) (ss : List Stmt) (F : MI) : Prop := PSs X ss (tIn K ξ W C ns0 ns F)
theorem PostIn.ev {ζ1 : List Addr} {μ1 : Store} {H1 : Hp} {vs0 : List V} {D : Ends} (e : Ev K.tb ζ μ H ζ1 μ1 H1) : ∀ {r : R (List Val)}, PostIn K ξ W N ζ μ H C a dx ns0 ns vs0 D r → PostIn K ξ W N ζ1 μ1 H1 C a dx ns0 ns vs0 D r
  | .ok _ _, h => fun ζ' H' s v a b c => h ζ' H' s v (e.trans a) b c
  | .ex _ _ _, h => fun ζ' H' d s a b c => h ζ' H' d s (e.trans a) b c
  | .stuck, h => h
theorem in_nil : IN K ξ W X C ns0 [] [] iNil := PSs.of pss_nil fun D σr H q => by
  obtain ⟨N, ζ, μ, σ, a, cv, d, dx, vs0, e1, na, ha, hl, wd, so, q⟩ := q
  have h := q ζ H σr [] Ev.refl wd trivial rfl
  rw [List.append_nil, List.append_nil] at h
  have e2 : upd H a (.ins (He.ga K C) dx (ns0.zip vs0)) = H := by
    funext b
    by_cases hb : b = a
    · rw [hb, upd_same, ha]
    · rw [upd_ne hb]
  rw [e2] at h
  exact h
theorem in_pre {A : MSt} (ha : IS K ξ W X st A) (hb : IN K ξ W X C ns0 ns ss F) : IN K ξ W X C ns0 ns (st :: ss) (iPre A F) := PSs.of (pss_cons ha hb) fun D σr H q => by
  obtain ⟨N, ζ, μ, σ, a, cv, d, dx, vs0, e1, na, ha, hl, wd, so, q⟩ := q
  refine ⟨N, ζ, μ, σ, wd, so, ?_⟩
  unfold iPre at q
  cases e : A σ μ with
  | nx σ1 μ1 =>
    rw [e] at q
    intro ζ' H' σr' ev wd' so'
    exact ⟨N, ζ', μ1, σ1, a, cv, d, dx, vs0, e1, na, ev.fr.keep a _ rfl (fun z => (wd.nd a na).1 z) ha, hl, wd', so', PostIn.ev ev q⟩
  | ex c f σ1 μ1 => rw [e] at q; exact fun ζ' H' d' σr' ev wd' xr so' => q ζ' H' d' σr' ev wd' xr
  | _ => rw [e] at q; exact q.elim
theorem putF_zip {f : Str} {v : V} : ∀ {ns : List Str} {vs : List V}, vs.length = ns.length → f ∉ ns → putF f v (ns.zip vs) = (ns ++ [f]).zip (vs ++ [v])
  | [], [], _, _ => rfl
  | n :: ns, u :: vs, hl, hn => by
    have h1 : ¬ n = f := fun e => hn (by rw [e]; exact List.mem_cons_self)
    show (if n = f then (n, v) :: ns.zip vs else (n, u) :: putF f v (ns.zip vs)) = (n, u) :: (ns ++ [f]).zip (vs ++ [v])
    rw [if_neg h1, putF_zip (Nat.succ.inj hl) fun m => hn (List.mem_cons_of_mem _ m)]
  | [], _ :: _, hl, _ => by cases hl
  | _ :: _, [], hl, _ => by cases hl
/-- self.f = e -/
theorem in_fld {f x : Str} {i : Nat} (h : ∀ {ta tv : TE}, PE X (.Name x p) ta → PE X e tv → PS X st (L2.sFld K ta tv f)) (ho : PE X (.Name x p) (tVar i)) (he : IE K ξ W X e fa) (hb : IN K ξ W X C (ns0 ++ [f]) ns ss F)
    (hc : Cls K (He.ga K C)) (hn : NoAttr K (He.ga K C) f) (hf : f ∉ ns0) (hz : ns0.length < 1000) : IN K ξ W X C ns0 (f :: ns) (st :: ss) (iFld i fa F) := PSs.of (pss_cons (h ho he) hb) fun D σr H q => by
  obtain ⟨N, ζ, μ, σ, a, cv, d, dx, vs0, e1, na, ha, hl, wd, so, q⟩ := q
  refine ⟨N, ζ, μ, σ, wd, so, ?_⟩
  unfold iFld at q
  split at q
  case isFalse => exact q.elim
  rename_i hself
  have hself : σ[i]? = some (some .self) := by
    unfold isSelf at hself
    split at hself
    · assumption
    · cases hself
  cases ea : fa σ μ with
  | stuck => rw [ea] at q; exact q.elim
  | ex c f μ1 => rw [ea] at q; exact q.elim
  | ok w μ1 =>
    rw [ea] at q
    have q0 : PostIn K ξ W N ζ μ H C a dx ns0 (f :: ns) vs0 D ((F σ μ1).noex.bind fun ws μ2 => .ok (w :: ws) μ2) := q
    intro ζ1 H1 v ev1 wd1 r1
    have ha1 : H1 a = some (.ins (He.ga K C) dx (ns0.zip vs0)) := ev1.fr.keep a _ rfl (fun z => (wd.nd a na).1 z) ha
    obtain ⟨x, hx, hx2⟩ := so.2 i _ hself
    obtain ⟨a', cv', d', e2, rfl⟩ := hx2
    rw [e1] at e2
    cases e2
    refine ⟨.ref a, hx, ?_⟩
    refine ⟨a, _, dx, _, rfl, ha1, hc, hn, by rw [List.length_zip, hl, Nat.min_self]; exact hz, ?_⟩
    rw [putF_zip hl hf]
    have wd3 : Wd K N ζ1 μ1 (upd H1 a (.ins (He.ga K C) dx ((ns0 ++ [f]).zip (vs0 ++ [v])))) := wd1.mutN na ha1
    have mv : ∀ {ζ' : List Addr} {μ' : Store} {H' : Hp} {o' : HO} {u : V} {w : Val}, RV K ξ ζ' (MM N ζ' μ') H' u w → RV K ξ ζ' (MM N ζ' μ') (upd H' a o') u w := fun r => r.st (fun _ _ h => h) (fun _ n _ => n) (fun b o _ n e => by rw [upd_ne fun z => n (by rw [z]; exact .inr na)]; exact e)
    have mvs : ∀ {ζ' : List Addr} {μ' : Store} {H' : Hp} {o' : HO} {us : List V} {ws : List Val}, RVs K ξ ζ' (MM N ζ' μ') H' us ws → RVs K ξ ζ' (MM N ζ' μ') (upd H' a o') us ws := by
      intro ζ' μ' H' o' us
      induction us with
      | nil => intro ws r; cases ws with
        | nil => trivial
        | cons _ _ => exact r.elim
      | cons u us ih => intro ws r; cases ws with
        | nil => exact r.elim
        | cons w ws => exact ⟨mv r.1, ih r.2⟩
    have so3 : Sok K ξ ζ1 (MM N ζ1 μ1) (upd H1 a (.ins (He.ga K C) dx ((ns0 ++ [f]).zip (vs0 ++ [v])))) σr σ := ⟨so.1, fun i w hw => by
      obtain ⟨u, h1, h2⟩ := (so.ev ev1).2 i w hw
      exact ⟨u, h1, mv h2⟩⟩
    refine ⟨N, ζ1, μ1, σ, a, cv, d, dx, vs0 ++ [v], e1, na, upd_same, by simp [hl], wd3, so3, ?_⟩
    cases eF : F σ μ1 with
    | stuck => rw [eF] at q0; exact q0.elim
    | ex c f μ2 => rw [eF] at q0; exact q0.elim
    | ok ws μ2 =>
      rw [eF] at q0
      intro ζ3 H3 σr' vs ev3 wd4 r4 hlen
      have q1 : PostIn K ξ W N ζ μ H C a dx ns0 (f :: ns) vs0 D (.ok (w :: ws) μ2) := q0
      have ev4 : Ev K.tb ζ1 μ1 H1 ζ3 μ2 (upd H3 a (.ins (He.ga K C) dx (ns0.zip vs0))) := by
        refine ⟨ev3.pre, ⟨fun b o t n hb => ?_, fun b hb => ?_⟩, fun b hb => ?_⟩
        · by_cases e : b = a
          · rw [e, upd_same, ← ha1, ← e]; exact hb
          · rw [upd_ne e]
            exact ev3.fr.keep b o t n (by rw [upd_ne e]; exact hb)
        · by_cases e : b = a
          · rw [e, upd_same] at hb; exact (hb _ rfl rfl).elim
          · rw [upd_ne e] at hb
            have := ev3.fr.dom b hb
            rw [upd_ne e] at this
            exact this
        · rcases ev3.ml b hb with z | z
          · exact .inl z
          · by_cases e : b = a
            · rw [e, upd_same] at z; exact (z _ rfl rfl).elim
            · rw [upd_ne e] at z; exact .inr z
      have hv : RV K ξ ζ3 (MM N ζ3 μ2) (upd H3 a (.ins (He.ga K C) dx (ns0.zip vs0))) v w := r1.ev ev4
      have h := q1 ζ3 (upd H3 a (.ins (He.ga K C) dx (ns0.zip vs0))) σr' (v :: vs) (ev1.trans ev4) (wd4.mutN na (ev3.fr.keep a _ rfl (fun z => (wd3.nd a na).1 z) upd_same)) ⟨hv, mvs r4⟩ (congrArg Nat.succ hlen)
      have e5 : upd (upd H3 a (.ins (He.ga K C) dx (ns0.zip vs0))) a (.ins (He.ga K C) dx ((ns0 ++ f :: ns).zip (vs0 ++ v :: vs))) = upd H3 a (.ins (He.ga K C) dx ((ns0 ++ [f] ++ ns).zip (vs0 ++ [v] ++ vs))) := by
        funext b
        by_cases hb : b = a
        · rw [hb, upd_same, upd_same, List.append_assoc, List.append_assoc]; rfl
        · rw [upd_ne hb, upd_ne hb, upd_ne hb]
      rw [e5] at h
      exact h
end
end PM
namespace PM
open PySem PySem.Spec PyProof.Rows L2
open WD (MS upd_none)
/-- ghost: the name's thing becomes a datum -/
theorem in_frz {X : Cx} {K : KT} {ξ : Xi} {W : WX} {C : Str} {ns ns0 : List Str} {i : Nat} {ss : List Stmt} {F : MI} (hb : IN K ξ W X C ns0 ns ss F) : IN K ξ W X C ns0 ns ss (iPre (sFrz i) F) := PSs.of hb fun D σr H q => by
  obtain ⟨N, ζ, μ, σ, a, cv, d, dx, vs0, e1, na, ha, hl, wd, so, q⟩ := q
  unfold iPre sFrz at q
  split at q
  · rename_i σ1 μ1 e
    split at e
    · rename_i w hw
      split at e
      · rename_i w' μ' e2
        cases e
        obtain ⟨v, h1, h2⟩ := so.2 i w hw
        obtain ⟨ev, wd', r'⟩ := frz1_ok wd h2 e2
        exact ⟨N, ζ, _, σ.set i (some w'), a, cv, d, dx, vs0, e1, na, ha, hl, wd', (so.ev ev).same h1 r', PostIn.ev ev q⟩
      · cases e
    · cases e
      exact ⟨N, ζ, μ, σ, a, cv, d, dx, vs0, e1, na, ha, hl, wd, so, q⟩
  · rename_i c f σ1 μ1 e
    split at e
    · split at e <;> cases e
    · cases e
  · exact q.elim
end PM
namespace PM
open PySem PySem.Spec PyProof.Rows L2
open WD (MS upd_none)
def PostCI (K : KT) (N : MS) (ζ : List Addr) (μ : Store) (H : Hp) (C : Str) (a dx : Addr) (ns : List Str) (Q : VK) (E : XK) : R (List Val) → Prop
  | .ok ws μ' => ∀ ζ' H1 vs, Ev K.tb ζ μ H ζ' μ' H1 → Wd K N ζ' μ' H1 → RVs K none ζ' (MM N ζ' μ') H1 vs ws → vs.length = ns.length → Q .non (upd H1 a (.ins (He.ga K C) dx (ns.zip vs)))
  | .ex c f μ' => ∀ ζ' H' d, Ev K.tb ζ μ H ζ' μ' H' → Wd K N ζ' μ' H' → XR K (MM N ζ' μ') H' d f → E (.ref (He.ga K c)) d H'
  | .stuck => False
def SpI (K : KT) (C : Str) (ns : List Str) (n : Nat) (fn : FnI) : Sp := fun vs H Q E => ∃ N ζ μ ws a dx rest, vs = .ref a :: rest ∧ N a ∧ H a = some (.ins (He.ga K C) dx []) ∧ Wd K N ζ μ H ∧ RVs K none ζ (MM N ζ μ) H rest ws ∧ ws.length = n ∧ PostCI K N ζ μ H C a dx ns Q E (fn ws μ)
section
variable {K : KT} {ξ : Xi} {N : MS} {ζ : List Addr} {μ : Store} {M : MS} {H : Hp}
theorem RVs.none_to : ∀ {vs : List V} {ws : List Val}, RVs K none ζ M H vs ws → RVs K ξ ζ M H vs ws
  | [], [], _ => trivial
  | _ :: _, _ :: _, h => ⟨h.1.none_to, RVs.none_to h.2⟩
  | [], _ :: _, h => h.elim
  | _ :: _, [], h => h.elim
theorem RVs.cutT {ζ' : List Addr} {M' : MS} (sub : ∀ x, M' x → M x) : ∀ {vs : List V} {ws : List Val}, ws.all isT = true → RVs K ξ ζ M H vs ws → RVs K none ζ' M' H vs ws
  | [], [], _, _ => trivial
  | v :: vs, w :: ws, hb, h => by
    rw [List.all_cons, Bool.and_eq_true] at hb
    refine ⟨?_, RVs.cutT sub hb.2 h.2⟩
    cases w with
    | t d => exact rv_wk sub h.1
    | _ => cases hb.1
  | [], _ :: _, _, h => h.elim
  | _ :: _, [], _, h => h.elim
end
section
variable {P : Program} {w : World} {K : KT} {mg : Str → Option Value} {base : Heap} {x qual : Str} {params : Arguments} {body : List Stmt} {scope : Scope} {f : Addr} {fd : FuncData} {Nm ps : List Str} {k n : Nat} {F : MI} {C : Str} {ns : List Str}
theorem ini_read {N : MS} {ζ : List Addr} {μ : Store} {H : Hp} {a dx : Addr} {vs : List V} {ws : List Val} {Q : VK} {E : XK} (na : N a) (ha : H a = some (.ins (He.ga K C) dx [])) (wd : Wd K N ζ μ H) (r : RVs K none ζ (MM N ζ μ) H vs ws) (h : PostCI K N ζ μ H C a dx ns Q E (iniOf Nm.length F ws μ)) :
    tIn K (some (a, .none, none)) (fun cls d _ H => E cls d H) C [] ns F { nx := fun _ H' => Q .non H', rt := Q } (L2.start Nm (.ref a :: vs)) H := by
  have r' : RVs K (some (a, .none, none)) ζ (MM N ζ μ) H (.ref a :: vs) (.self :: ws) := ⟨⟨a, .none, none, rfl, rfl⟩, r.none_to⟩
  refine ⟨N, ζ, μ, startM Nm.length (.self :: ws), a, .none, none, dx, [], rfl, na, ha, rfl, wd, start_ok r', ?_⟩
  unfold iniOf at h
  cases e : F (startM Nm.length (.self :: ws)) μ with
  | ok us μ' =>
    rw [e] at h
    intro ζ' H1 σr' vs' ev wd' r2 hl
    obtain ⟨ev', wd2, sub⟩ := cut_ok ev wd' wd.len
    unfold finI at h
    dsimp only at h
    split at h
    · rename_i hT
      exact h _ _ vs' ev' wd2 (RVs.cutT sub hT r2) hl
    · split at h
      · rename_i hp
        exact h _ _ vs' ev wd' (r2.to_none hp) hl
      · exact h.elim
  | ex c f μ' =>
    rw [e] at h
    intro ζ' H' d σr' ev wd' xr
    obtain ⟨ev', wd2, sub⟩ := cut_ok ev wd' wd.len
    exact h _ _ d ev' wd2 (xr.st (fun a n _ z => n (sub a z)) (fun _ _ _ _ e => e))
  | stuck => rw [e] at h; exact h.elim
theorem ini_ok (F0 : FunD K x qual params body scope [] [] f fd) (S : FnScope Nm ps scope) (hps : ps.length = n + 1)
    (bind : ∀ (kV doc pm : Value) (an : Option Addr) (cdv ct : Value) (us : List Value), us.length = ps.length → bindArgs (PySem.W.fnOf x qual params body scope .none kV doc pm an cdv ct) ⟨us, []⟩ = pure (ps.zip us))
    (hb : ∀ (cdv : Value) (A : Around) (outer : List Env) (s : Shared) (H : Hp) (E : XK) (a : Addr), Room k (A.deeper (envOfC qual scope s.heap.objs.size f cdv)) → IN K (some (a, .none, none)) (fun cls d _ H => E cls d H) (cxOf (L2.CX P w) P w K mg base Nm qual scope f cdv A outer s H E) C [] ns body F) :
    ∃ (fd : FuncData) (ps' : List Str) (ds : List Value), FnOk P w K mg base (L2.CX P w) (k + 1) f fd ps' (SpI K C ns n (iniOf Nm.length F)) ∧ Binds K fd ps' ds ∧ Vals [] ds :=
  WD.fnX_of F0 S (fun vs H Q E ⟨N, ζ, μ, ws, a, dx, rest, e, _, _, _, r, hl, _⟩ => by rw [e, hps]; exact congrArg Nat.succ (r.len.trans hl)) bind fun cdv A outer s H vs Q E hr ⟨N, ζ, μ, ws, a, dx, rest, e, na, ha, wd, r, hl, h⟩ => by
    subst e
    exact ⟨_, hb cdv A outer s H E a hr, ini_read na ha wd r h⟩
end
/-! ### C(..) that may raise -/
section
variable {X : Cx} {CX : CXT} {k : Nat} {f C : Addr} {fd : FuncData} {ps : List Str} {sp : Sp} {E : L2.St → XK} {x m : Str} {p pos apos : Pos} {e o : Expr} {es : List Expr} {ta : TE} {t : TA} {W : WX} {ds : List Value} {dvs : List V}
theorem run_makeS {pins : List (Addr × Obj)} {σ : L2.St} {H : Hp} {s : Shared} {Q : VK} {us : List Value} {vs : List V} (M : Mk X.K C f) (F : FnOk X.prog X.w X.K X.mg X.base CX k f fd ps sp) (hr : Room (k + 1) X.A) (hb : Binds X.K fd ps ds) (hd : Vals dvs ds)
    (hx : PassesAt CX X σ (E σ)) (I : Inv X pins σ H s) (r : Vals vs us)
    (h : ∀ x dx, H x = none → H dx = none → dx ≠ x → sp (.ref x :: (vs ++ dvs)) (upd (upd H dx (.own x)) x (.ins C dx [])) (fun v H2 => v = .non ∧ Q (.ref x) H2) (E σ)) :
    wpAny (model X.prog X.w) X.A (call (.ref C) us) (EP X pins σ Q) X.xe s := by
  have hq := h (s.heap.objs.size + 1) s.heap.objs.size (I.hok.fresh (Nat.le_succ _)) (I.hok.fresh (Nat.le_refl _)) (Nat.ne_of_lt (Nat.lt_succ_self _))
  have I2 := Inv.made (C := C) I
  have r2 : Vals (V.ref (s.heap.objs.size + 1) :: (vs ++ dvs)) (Value.ref (s.heap.objs.size + 1) :: (us ++ ds)) := .cons rfl (r.append hd)
  have hl : (Value.ref (s.heap.objs.size + 1) :: us ++ ds).length = ps.length := by
    have e := r2.length
    rw [F.len _ _ _ _ hq] at e
    exact e.symm
  refine wpAny_call (make_map (f := f) I.kIn M.makes M.init (beq_iff_eq.mp M.fn) (codeAny_mono (F.run _ X.stack _ _ ⟨Value.ref (s.heap.objs.size + 1) :: us, []⟩ (Value.ref (s.heap.objs.size + 1) :: (us ++ ds)) _ _ (E σ) (hr.make C us [])
    (I2.env0.make C us []) (hb _ (Value.ref (s.heap.objs.size + 1) :: us) I2.kIn hl) r2 hq) fun r s' hq' => ?_))
  cases r with
  | error e => exact hx pins _ _ e s' I2 hq'
  | ok fl =>
    cases fl with
    | ret u =>
      obtain ⟨v, H', I3, rv, ev, q3⟩ := I2.after hq'
      subst ev
      exact ⟨rv, ⟨V.ref (s.heap.objs.size + 1), H', I3, rfl, q3⟩⟩
    | next => exact False.elim hq'
    | brk => exact False.elim hq'
    | cont => exact False.elim hq'
def tMakeS (C : Addr) (sp : Sp) (E : L2.St → XK) (t : TA) : TE := fun σ H Q => t σ H fun vs H1 => ∀ x dx, H1 x = none → H1 dx = none → dx ≠ x →
  sp (.ref x :: (vs ++ [])) (upd (upd H1 dx (.own x)) x (.ins C dx [])) (fun v H2 => v = .non ∧ Q (.ref x) H2) (E σ)
theorem pe_makX (c : WD.Mak X.prog X.w X.K X.mg X.base (L2.CX X.prog X.w) k x C f sp []) (tk : Takes X W) (hr : Room (k + 1) X.A) (hg : Gl X x) (ha : PA X (e :: es) t) (hdb : (x == ("__debug__" : Str)) = false := by decide)
    (he : starEach (e :: es) X.env = (false, eval e X.env) :: starEach es X.env := by rfl) (hpl : (backTo pos (starEach es X.env)).any (·.1) = false := by rfl) : PE X (.Call (.Name x p) (e :: es) [] pos) (tMakeS C sp (WE W) t) := by
  obtain ⟨fd, ps, ds, h1, h2, h3⟩ := c.ex
  refine ⟨fun pins s σ H Q I h => ?_⟩
  refine wpAny_Call_Name_kw (ld_glob I hg c.g ?_ hdb)
  refine PySem.W.callWith_K (h₀ := X.base) I.ok.mod.kin c.made.kp (thn (ha.run pos pins s σ H _ I h) fun us s1 ⟨vs, H1, I1, r, q⟩ => ⟨I1.kIn, ?_⟩) he hpl
  exact run_makeS (E := WE W) c.made h1 hr h2 h3 (passAt tk σ) I1 r q
theorem pe_metX0 {pl : Sem Bool} (c : WD.Met X.prog X.w X.K X.mg X.base (L2.CX X.prog X.w) k C m f sp []) (tk : Takes X W) (hr : Room k X.A) (he : PE X o ta)
    (ht : eval (.Call (.Attribute o m apos) [] [] pos) X.env = (do
      let ov ← eval o X.env
      standAt apos.atName
      let (f, first) ← holding [ov] (getMethod ov m pl)
      callWith pos f first (backTo pos (starEach [] X.env)) (backToKw pos (keywordEach [] X.env))) := by rfl) : PE X (.Call (.Attribute o m apos) [] [] pos) (WD.tMethS C m sp (WE W) ta tNil) := by
  obtain ⟨fd, ps, ds, h1, h2, h3⟩ := c.ex
  have hb := WD.binds0 h2 h3
  refine ⟨fun pins s σ H Q I h => ?_⟩
  refine PySem.W.methodCall_KW (pl := pl) (thn (he.run pins s σ H _ I h) fun u s1 hh => ?_) ht
  obtain ⟨x, H1, I1, rx, a, dx, fs, ex, ea, l, q⟩ := hh
  subst ex
  cases (show u = Value.ref a from rx)
  refine getmeth_ok I1 ea c.cl c.mt l (PySem.W.callWith_K0 (first := [.ref a]) I1.kIn c.mt.kp (run_fnS (us := [.ref a]) (vs := [.ref a]) (E := WE W) h1 hr hb (passAt tk σ) I1 (.cons rfl .nil) q))
end
/-! ### in the machine -/
def isObj (C m : Str) : Val → Bool
  | .t (.obj D ns _) => decide (D = C) && !decide (m ∈ ns)
  | .g (.ob D ns) _ => decide (D = C) && !decide (m ∈ ns)
  | _ => false
def eMeth (C m : Str) (n : Nat) (fn : Fn) (o : ME) (as : Sl → Store → R (List Val)) : ME := fun σ μ => (o σ μ).bind fun w μ1 => if isObj C m w then (as σ μ1).bind fun ws μ2 => gCall n fn (w :: ws) μ2 else .stuck
def gFld (cs : List Str) (f : Str) (w : Val) (μ : Store) : R Val := match w with
  | .t (.obj C ns ds) => if C ∈ cs then OR.ok μ (((ns.zip ds).lookup f).map .t) else .stuck
  | .g (.ob C ns) fs => if C ∈ cs then OR.ok μ (((ns.zip fs).lookup f).map Fl.v) else .stuck
  | _ => .stuck
section
variable {X : Cx} {K : KT} {ξ : Xi} {W : WX} {N : MS} {ζ : List Addr} {μ : Store} {M : MS} {H : Hp} {σr : L2.St} {σ : Sl} {e o : Expr} {es : List Expr} {fa fo : ME} {fs : Sl → Store → R (List Val)} {p pos apos cpos : Pos} {C m x : Str} {ns : List Str} {a dx f : Addr} {k n : Nat}
theorem flsOf_FRs : ∀ {vs : List V} {ws : List Val} {fs : List Fl}, RVs K ξ ζ M H vs ws → flsOf ws = some fs → FRs K ζ M H vs fs
  | [], [], _, _, e => by cases e; trivial
  | v :: vs, .t d :: ws, _, h, e => by
    obtain ⟨fs', e1, rfl⟩ := Option.map_eq_some_iff.mp e
    exact ⟨h.1, flsOf_FRs h.2 e1⟩
  | v :: vs, .c d :: ws, _, h, e => by
    obtain ⟨fs', e1, rfl⟩ := Option.map_eq_some_iff.mp e
    exact ⟨h.1, flsOf_FRs h.2 e1⟩
  | _ :: _, .x _ _ :: _, _, _, e => by cases e
  | _ :: _, .s _ :: _, _, _, e => by cases e
  | _ :: _, .g _ _ :: _, _, _, e => by cases e
  | _ :: _, .self :: _, _, _, e => by cases e
  | [], _ :: _, _, h, _ => h.elim
  | _ :: _, [], _, h, _ => h.elim
/-- C(e, ..) -/
theorem i_make {fn : FnI} (c : WD.Mak X.prog X.w X.K X.mg X.base (L2.CX X.prog X.w) k C (He.ga K C) f (SpI K C ns n fn) []) (tk : Takes X W) (hr : Room (k + 1) X.A) (hg : Gl X C) (ha : IA K ξ W X (e :: es) fs) (hdb : (C == ("__debug__" : Str)) = false := by decide)
    (he : starEach (e :: es) X.env = (false, eval e X.env) :: starEach es X.env := by rfl) (hpl : (backTo pos (starEach es X.env)).any (·.1) = false := by rfl) : IE K ξ W X (.Call (.Name C p) (e :: es) [] pos) (eMake C ns n fn fs) := PE.of (pe_makX c tk hr hg ha hdb he hpl) fun σr H Q q => by
  obtain ⟨N, ζ, μ, σ, wd, so, q⟩ := q
  refine (thenN wd so q).mono fun vs H1 ⟨ζ1, μ1, ws, ev1, wd1, so1, r1, q1⟩ => ?_
  intro x dx hx hdx hne
  split at q1
  case isFalse => exact q1.elim
  rename_i hc
  rw [Bool.and_eq_true] at hc
  rw [List.append_nil]
  have hx1 : upd H1 dx (.own x) x = none := by rw [upd_ne (fun z => hne z.symm)]; exact hx
  have g1 : Grow H1 (upd H1 dx (.own x)) := Grow.upd hdx
  have g2 : Grow H1 (upd (upd H1 dx (.own x)) x (.ins (He.ga K C) dx [])) := g1.trans (Grow.upd hx1)
  have wd2 : Wd K (WD.plus N x) ζ1 μ1 (upd (upd H1 dx (.own x)) x (.ins (He.ga K C) dx [])) := wd1.aside g2 hx ⟨_, upd_same, rfl, rfl⟩
  have nx : ∀ b, ¬ MM N ζ1 μ1 b → ¬ nn K.tb (H1 b) → ¬ MM (WD.plus N x) ζ1 μ1 b := fun b nb ne z => by
    rcases z with z | z | z
    · exact nb (.inl z)
    · exact nb (.inr z)
    · exact ne (nn_none (by rw [z]; exact hx))
  have up : ∀ {us : List V} {zs : List Val}, RVs K ξ ζ1 (MM N ζ1 μ1) H1 us zs → RVs K ξ ζ1 (MM (WD.plus N x) ζ1 μ1) (upd (upd H1 dx (.own x)) x (.ins (He.ga K C) dx [])) us zs := by
    intro us
    induction us with
    | nil => intro zs r; cases zs with
      | nil => trivial
      | cons _ _ => exact r.elim
    | cons u us ih => intro zs r; cases zs with
      | nil => exact r.elim
      | cons z zs => exact ⟨r.1.st (fun _ _ h => h) nx (fun b o _ _ h => g2 b o h), ih r.2⟩
  refine ⟨WD.plus N x, ζ1, μ1, ws, x, dx, vs, rfl, .inr rfl, upd_same, wd2, (up r1).to_none hc.1, of_decide_eq_true hc.2, ?_⟩
  have nN : ¬ N x := fun z => (wd1.nd x z).2.ne hx
  have e0 : (upd (upd H1 dx (.own x)) x (.ins (He.ga K C) dx [])) dx = some (.own x) := by rw [upd_ne hne, upd_same]
  cases er : fn ws μ1 with
  | stuck => rw [er] at q1; exact q1.elim
  | ex c f μ2 =>
    rw [er] at q1
    intro ζ' H' d ev wd' xr
    have ev' : Ev K.tb ζ1 μ1 H1 ζ' μ2 H' := g2.ev.trans ev
    exact q1 ζ' H' d ev' wd'.unside (xr.st (fun b nb _ z => nb (z.elim .inl fun z => .inr (.inl z))) (fun _ _ _ _ e => e))
  | ok us μ2 =>
    rw [er] at q1
    intro ζ' H3 vs' ev wd' r2 hl
    refine ⟨rfl, ?_⟩
    have q2 : PostE K ξ W N ζ1 μ1 H1 σr Q (mkOb C ns us μ2) := q1
    unfold mkOb at q2
    split at q2
    case isFalse => exact q2.elim
    have evx : Ev K.tb ζ1 μ1 H1 ζ' μ2 (upd H3 x (.ins (He.ga K C) dx (ns.zip vs'))) := (g2.ev.trans ev).mutNew (nn_none hx)
    have wdx : Wd K N ζ' μ2 (upd H3 x (.ins (He.ga K C) dx (ns.zip vs'))) := (wd'.mutN (.inr rfl) (ev.fr.keep x _ rfl (fun z => (wd2.nd x (.inr rfl)).1 z) upd_same)).unside
    have n1 : ¬ MM N ζ' μ2 x := fun z => z.elim (fun z => (wd'.nd x (.inr rfl)).1 z) nN
    have nd1 : ¬ MM N ζ1 μ1 dx := wd1.no hdx
    have n2 : ¬ MM N ζ' μ2 dx := fun z => by
      rcases z with z | z
      · rcases ev.ml dx z with z | z
        · exact nd1 (.inl z)
        · exact (z _ e0 rfl).elim
      · exact nd1 (.inr z)
    have hdx3 : H3 dx = some (.own x) := ev.fr.keep dx _ rfl (fun z => nd1 (.inl z)) e0
    have h1 : (upd H3 x (.ins (He.ga K C) dx (ns.zip vs'))) dx = some (.own x) := by rw [upd_ne hne]; exact hdx3
    have mv : ∀ b o, nt K.tb o → ¬ MM (WD.plus N x) ζ' μ2 b → H3 b = some o → (upd H3 x (.ins (He.ga K C) dx (ns.zip vs'))) b = some o := fun b o _ nb hb => by
      rw [upd_ne fun z => nb (.inr (.inr z))]; exact hb
    have mn : ∀ b, ¬ MM (WD.plus N x) ζ' μ2 b → ¬ nn K.tb (H3 b) → ¬ MM N ζ' μ2 b := fun b nb _ z => nb (z.elim .inl fun z => .inr (.inl z))
    split at q2
    · rename_i ds e1
      exact q2 ζ' _ _ evx wdx (rv_obj.mpr ⟨x, dx, vs', rfl, n1, n2, upd_same, h1, hl, rvs_st mn mv ds vs' (asT_rvs r2 e1)⟩)
    · split at q2
      · rename_i fs' e1
        exact q2 ζ' _ _ evx wdx ⟨x, dx, vs', rfl, n1, n2, upd_same, h1, hl, FRs.st (fun _ _ h => h) mn mv (flsOf_FRs r2 e1)⟩
      · exact q2.elim
theorem isObj_ok {w : Val} {v : V} (r : RV K ξ ζ M H v w) (h : isObj C m w = true) : ∃ a dx fs, v = .ref a ∧ H a = some (.ins (He.ga K C) dx fs) ∧ fs.lookup m = none := by
  have lk : ∀ {ns : List Str} {vs : List V}, m ∉ ns → (ns.zip vs).lookup m = none := by
    intro ns
    induction ns with
    | nil => intro vs _; rfl
    | cons n ns ih =>
      intro vs hn
      cases vs with
      | nil => rfl
      | cons v vs =>
        show ((n, v) :: ns.zip vs).lookup m = none
        have h1 : (m == n) = false := by
          rw [beq_eq_false_iff_ne]; exact fun e => hn (by rw [e]; exact List.mem_cons_self)
        rw [List.lookup_cons, h1]
        exact ih fun z => hn (List.mem_cons_of_mem _ z)
  unfold isObj at h
  split at h
  · rename_i D ns ds
    rw [Bool.and_eq_true, Bool.not_eq_true', decide_eq_true_eq, decide_eq_false_iff_not] at h
    obtain ⟨a, dx, vs, h1, _, _, h4, _⟩ := rv_obj.mp (show rv K M H v (.obj D ns ds) from r)
    rw [h.1] at h4
    exact ⟨a, dx, _, h1, h4, lk h.2⟩
  · rename_i D ns fs
    rw [Bool.and_eq_true, Bool.not_eq_true', decide_eq_true_eq, decide_eq_false_iff_not] at h
    obtain ⟨a, dx, vs, h1, _, _, h4, _⟩ := r
    rw [h.1] at h4
    exact ⟨a, dx, _, h1, h4, lk h.2⟩
  · cases h
theorem isObj_plain {w : Val} (h : isObj C m w = true) : w.plain = true := by
  unfold isObj at h
  split at h
  · rfl
  · rfl
  · cases h
theorem i_meth {fn : Fn} {mf : Addr} {pl : Sem Bool} (c : WD.Met X.prog X.w X.K X.mg X.base (L2.CX X.prog X.w) k (He.ga K C) m mf (SpF K n fn) []) (tk : Takes X W) (hr : Room k X.A) (ho : IE K ξ W X o fo) (ha : IA K ξ W X (e :: es) fs)
    (hst : starEach (e :: es) X.env = (false, eval e X.env) :: starEach es X.env := by rfl) (hpl : (backTo pos (starEach es X.env)).any (·.1) = false := by rfl)
    (ht : eval (.Call (.Attribute o m apos) (e :: es) [] pos) X.env = (do
      let ov ← eval o X.env
      standAt apos.atName
      let (f, first) ← holding [ov] (getMethod ov m pl)
      callWith pos f first (backTo pos (starEach (e :: es) X.env)) (backToKw pos (keywordEach [] X.env))) := by rfl) : IE K ξ W X (.Call (.Attribute o m apos) (e :: es) [] pos) (eMeth C m n fn fo fs) := PE.of (WD.pe_metX c tk hr ho ha hst hpl ht) fun σr H Q q => by
  obtain ⟨N, ζ, μ, σ, wd, so, q⟩ := q
  refine (then1 wd so q).mono fun x H1 ⟨ζ1, μ1, w1, ev1, wd1, so1, r1, q1⟩ => ?_
  split at q1
  case isFalse => exact q1.elim
  rename_i hc
  obtain ⟨a, dx, fl, rfl, h1, h2⟩ := isObj_ok r1 hc
  refine ⟨a, dx, fl, rfl, h1, h2, ?_⟩
  refine (thenN wd1 so1 q1).mono fun vs H2 ⟨ζ2, μ2, ws, ev2, wd2, so2, r2, q2⟩ => ?_
  exact read_call (ws := w1 :: ws) wd2 ⟨r1.ev ev2, r2⟩ q2
theorem i_meth0 {fn : Fn} {mf : Addr} {pl : Sem Bool} (c : WD.Met X.prog X.w X.K X.mg X.base (L2.CX X.prog X.w) k (He.ga K C) m mf (SpF K n fn) []) (tk : Takes X W) (hr : Room k X.A) (ho : IE K ξ W X o fo)
    (ht : eval (.Call (.Attribute o m apos) [] [] pos) X.env = (do
      let ov ← eval o X.env
      standAt apos.atName
      let (f, first) ← holding [ov] (getMethod ov m pl)
      callWith pos f first (backTo pos (starEach [] X.env)) (backToKw pos (keywordEach [] X.env))) := by rfl) : IE K ξ W X (.Call (.Attribute o m apos) [] [] pos) (eMeth C m n fn fo aNil) := PE.of (pe_metX0 c tk hr ho ht) fun σr H Q q => by
  obtain ⟨N, ζ, μ, σ, wd, so, q⟩ := q
  refine (then1 wd so q).mono fun x H1 ⟨ζ1, μ1, w1, ev1, wd1, so1, r1, q1⟩ => ?_
  split at q1
  case isFalse => exact q1.elim
  rename_i hc
  obtain ⟨a, dx, fl, rfl, h1, h2⟩ := isObj_ok r1 hc
  refine ⟨a, dx, fl, rfl, h1, h2, ?_⟩
  exact read_call (ws := [w1]) wd1 ⟨r1, trivial⟩ q1
theorem lookup_rvs {f : Str} {d : PV} : ∀ {ns : List Str} {vs : List V} {ds : List PV}, rvs K M H vs ds → (ns.zip ds).lookup f = some d → ∃ v, (ns.zip vs).lookup f = some v ∧ rv K M H v d
  | [], _, _, _, e => by cases e
  | n :: ns, [], [], _, e => by cases e
  | n :: ns, v :: vs, z :: ds, r, e => by
    rw [rvs_cons] at r
    have e : ((n, z) :: ns.zip ds).lookup f = some d := e
    show ∃ v', ((n, v) :: ns.zip vs).lookup f = some v' ∧ rv K M H v' d
    rw [List.lookup_cons] at e ⊢
    split at e
    · cases e; exact ⟨v, rfl, r.1⟩
    · exact lookup_rvs r.2 e
  | _ :: _, [], _ :: _, r, _ => by unfold rvs at r; exact r.elim
  | _ :: _, _ :: _, [], r, _ => by unfold rvs at r; exact r.elim
theorem lookup_FRs {f : Str} {d : Fl} : ∀ {ns : List Str} {vs : List V} {ds : List Fl}, FRs K ζ M H vs ds → (ns.zip ds).lookup f = some d → ∃ v, (ns.zip vs).lookup f = some v ∧ FR K ζ M H v d
  | [], _, _, _, e => by cases e
  | n :: ns, [], [], _, e => by cases e
  | n :: ns, v :: vs, z :: ds, r, e => by
    have e : ((n, z) :: ns.zip ds).lookup f = some d := e
    show ∃ v', ((n, v) :: ns.zip vs).lookup f = some v' ∧ FR K ζ M H v' d
    rw [List.lookup_cons] at e ⊢
    split at e
    · cases e; exact ⟨v, rfl, r.1⟩
    · exact lookup_FRs r.2 e
  | _ :: _, [], _ :: _, r, _ => r.elim
  | _ :: _, _ :: _, [], r, _ => r.elim
/-- e.f -/
theorem i_fld {f : Str} {cs : List Str} (he : IE K ξ W X e fa) (hx : ∀ c ∈ cs, Cls K (He.ga K c) ∧ NoAttr K (He.ga K c) f) (hb : attributeBase e f X.env (eval e X.env) = eval e X.env := by rfl) (hK : X.K = K := by rfl) : IE K ξ W X (.Attribute e f pos) (e1 (gFld cs f) fa) := PE.of (WD.k_pe_fld K he hb hK) fun σr H Q q => by
  obtain ⟨N, ζ, μ, σ, wd, so, q⟩ := q
  refine (then1 wd so q).mono fun x H1 ⟨ζ1, μ1, w1, ev1, wd1, so1, r1, q1⟩ => ?_
  unfold gFld at q1
  split at q1
  · rename_i C ns ds
    split at q1
    case isFalse => exact q1.elim
    rename_i hc
    obtain ⟨a, dx, vs, h1, _, _, h4, _, _, h5⟩ := rv_obj.mp (show rv K (MM N ζ1 μ1) H1 x (.obj C ns ds) from r1)
    cases el : (ns.zip ds).lookup f with
    | none => rw [el] at q1; exact q1.elim
    | some d =>
      rw [el] at q1
      obtain ⟨v, g1, g2⟩ := lookup_rvs h5 el
      exact ⟨a, _, dx, _, v, h1, h4, (hx C hc).1, (hx C hc).2, g1, q1 ζ1 H1 v Ev.refl wd1 g2⟩
  · rename_i C ns fs
    split at q1
    case isFalse => exact q1.elim
    rename_i hc
    obtain ⟨a, dx, vs, h1, _, _, h4, _, _, h5⟩ := r1
    cases el : (ns.zip fs).lookup f with
    | none => rw [el] at q1; exact q1.elim
    | some d =>
      rw [el] at q1
      obtain ⟨v, g1, g2⟩ := lookup_FRs h5 el
      exact ⟨a, _, dx, _, v, h1, h4, (hx C hc).1, (hx C hc).2, g1, q1 ζ1 H1 v Ev.refl wd1 g2.RV⟩
  · exact q1.elim
end
end PM
/-! own ==, isinstance of own classes, str(int), {} != {} -/
namespace PM
open PySem PySem.Spec PyProof.Rows L2
open WD (MS upd_none)
def retTrue : R Val → Bool
  | .ok (.t (.bl true)) [] => true
  | _ => false
def gEqO (C : Str) (fn : Fn) (w u : Val) (μ : Store) : R Val := match w, u with
  | .t (.obj D ns ds), .t (.obj D' ns' ds') => if D = C ∧ D' = C ∧ retTrue (fn [.t (.obj D ns ds), .t (.obj D' ns' ds')] []) = true then .ok (.t (.bl true)) μ else .stuck
  | _, _ => .stuck
def gIsC (C : Str) (w : Val) (μ : Store) : R Val := match w with
  | .t (.obj D _ _) => if D = C then .ok (.t (.bl true)) μ else .stuck
  | .g (.ob D _) _ => if D = C then .ok (.t (.bl true)) μ else .stuck
  | _ => .stuck
def strV : List PV → Option PV
  | [.int i] => if Nat.ble i.natAbs 18446744073709551615 && PyData.strOk (toString i) then some (.str (toString i)) else none
  | _ => none
def neD0 : PV → PV → Option PV
  | .dic false [] [], .dic false [] [] => some (.bl false)
  | x, y => neV x y
section
variable {X : Cx} {K : KT} {ξ : Xi} {W : WX} {N : MS} {ζ : List Addr} {μ : Store} {M : MS} {H : Hp} {σr : L2.St} {σ : Sl} {e o a b : Expr} {es : List Expr} {fa fb : ME} {p pos : Pos} {C : Str} {k : Nat} {f : Addr}
/-- the fragment, no table -/
abbrev k0 (K : KT) : KT := ⟨K.fr, []⟩
mutual
theorem rv_k0 : ∀ (d : PV) (v : V), rv K M H v d → rv (k0 K) M H v d
  | .non, v, h => by rw [rv_non] at h ⊢; exact h
  | .bl b, v, h => by rw [rv_bl] at h ⊢; exact h
  | .int i, v, h => by rw [rv_int] at h ⊢; exact h
  | .str x, v, h => by rw [rv_str] at h ⊢; exact h
  | .tup l, v, h => by
    rw [rv_tup] at h ⊢
    obtain ⟨a, vs, h1, h2, h3, h4⟩ := h
    exact ⟨a, vs, h1, h2, h3, rvs_k0 l vs h4⟩
  | .lst l, v, h => by
    rw [rv_lst] at h ⊢
    obtain ⟨a, vs, h1, h2, h3, h4⟩ := h
    exact ⟨a, vs, h1, h2, h3, rvs_k0 l vs h4⟩
  | .dic b ks l, v, h => by
    rw [rv_dic] at h ⊢
    obtain ⟨a, vs, h1, h2, h3, h4⟩ := h
    exact ⟨a, vs, h1, h2, h3, rvs_k0 l vs h4⟩
  | .obj C ns l, v, h => by
    rw [rv_obj] at h ⊢
    obtain ⟨a, dx, vs, h1, h2, h3, h4, h5, h6, h7⟩ := h
    exact ⟨a, dx, vs, h1, h2, h3, h4, h5, h6, rvs_k0 l vs h7⟩
theorem rvs_k0 : ∀ (ds : List PV) (vs : List V), rvs K M H vs ds → rvs (k0 K) M H vs ds
  | [], [], _ => rvs_nil
  | d :: ds, v :: vs, h => by
    rw [rvs_cons] at h ⊢
    exact ⟨rv_k0 d v h.1, rvs_k0 ds vs h.2⟩
  | [], _ :: _, h => by unfold rvs at h; exact h.elim
  | _ :: _, [], h => by unfold rvs at h; exact h.elim
end
theorem wd0 : Wd (k0 K) WD.M0 [] [] H := ⟨rfl, fun i j a c c' h => by simp at h, fun k c a h => by simp at h, fun a h => h.elim, fun _ h => nomatch h⟩
theorem no0 : ∀ x, ¬ MM WD.M0 [] [] x := fun x z => z.elim (fun ⟨k, c, h1, _⟩ => by simp at h1) fun z => z
theorem ev0 {ζ' : List Addr} {μ' : Store} {H' : Hp} (ev : Ev [] [] [] H ζ' μ' H') : Grow H H' := fun a o h => ev.fr.keep a o nt_nil (fun ⟨k, c, h1, _⟩ => by simp at h1) h
def ROb (K : KT) (fn : Fn) (a b : Addr) (H : Hp) : Prop := ∃ d d', rv (k0 K) WD.M0 H (.ref a) d ∧ rv (k0 K) WD.M0 H (.ref b) d' ∧ retTrue (fn [.t d, .t d'] []) = true
theorem sp_eq {fn : Fn} {vs : List V} {Q : VK} {E : XK} (h : spEq (ROb K fn) vs H Q E) : SpF (k0 K) 2 fn vs H Q E := by
  obtain ⟨a, b, rfl, ⟨d, d', r1, r2, h3⟩, q⟩ := h
  refine ⟨WD.M0, [], [], [.t d, .t d'], wd0, ⟨rv_wk (fun x z => (no0 x z).elim) r1, rv_wk (fun x z => (no0 x z).elim) r2, trivial⟩, rfl, ?_⟩
  have e : fn [.t d, .t d'] [] = .ok (.t (.bl true)) [] := by
    unfold retTrue at h3
    split at h3
    · assumption
    · cases h3
  rw [e]
  intro ζ' H' v ev wd r
  rw [rv_bl.mp (show rv (k0 K) (MM WD.M0 ζ' []) H' v (.bl true) from r)]
  exact q H' (ev0 ev)
theorem op_eqOb {fn : Fn} (c : WD.Met X.prog X.w X.K X.mg X.base (L2.CX X.prog X.w) k (He.ga K C) "__eq__" f (SpF (k0 K) 2 fn) []) (t0 : Takes X W0) (hr : Room k X.A) : OpR X (compareOp .Eq) (rEqG (DIns (He.ga K C) (ROb K fn))) := by
  obtain ⟨fd, ps, ds, h1, h2, h3⟩ := c.ex
  exact op_eqG (rcG_ins (E := fun _ _ _ => False) (h1.imp fun vs H Q E h => sp_eq h) c.mt.at_ c.mt.fn (WD.binds0 h2 h3) (fun pins σ H s e s' I z => passAt t0 σ pins H s e s' I z)) hr
theorem read_eqOb {fn : Fn} {x y : V} {w u : Val} {Q : VK} (wd : Wd K N ζ μ H) (r : RV K ξ ζ (MM N ζ μ) H x w) (r' : RV K ξ ζ (MM N ζ μ) H y u) (h : PostE K ξ W N ζ μ H σr Q (gEqO C fn w u μ)) : rEqG (DIns (He.ga K C) (ROb K fn)) x y H Q := by
  unfold gEqO at h
  split at h
  · rename_i D ns ds D' ns' ds'
    split at h
    · rename_i hc
      obtain ⟨rfl, rfl, hc⟩ := hc
      have r1 : rv K WD.M0 H x (.obj D' ns ds) := rv_wk (fun x z => z.elim) (show rv K (MM N ζ μ) H x (.obj D' ns ds) from r)
      have r2 : rv K WD.M0 H y (.obj D' ns' ds') := rv_wk (fun x z => z.elim) (show rv K (MM N ζ μ) H y (.obj D' ns' ds') from r')
      obtain ⟨a, dx, vs, rfl, _, _, h4, _⟩ := rv_obj.mp r1
      obtain ⟨b, dy, us, rfl, _, _, h5, _⟩ := rv_obj.mp r2
      exact ⟨⟨a, b, dx, dy, _, _, rfl, rfl, h4, h5, _, _, rv_k0 _ _ r1, rv_k0 _ _ r2, hc⟩, fun H' g => h ζ H' _ (Grow.ev g) (wd.fr0 g) RV.blI⟩
    · exact h.elim
  · exact h.elim
/-- a == b of instances, equal -/
theorem i_eqOb {fn : Fn} (c : WD.Met X.prog X.w X.K X.mg X.base (L2.CX X.prog X.w) k (He.ga K C) "__eq__" f (SpF (k0 K) 2 fn) []) (t0 : Takes X W0) (hr : Room k X.A) (ha : IE K ξ W X a fa) (hb : IE K ξ W X b fb) (hm : behindInMarks .Eq b = false) : IE K ξ W X (.Compare a [.Eq] [b] pos) (e2 (gEqO C fn) fa fb) := PE.of (pe_cmpR (op_eqOb c t0 hr) ha hb hm) fun σr H Q q => by
  obtain ⟨N, ζ, μ, σ, wd, so, q⟩ := q
  refine (then1 wd so q).mono fun x H1 ⟨ζ1, μ1, w1, ev1, wd1, so1, r1, q1⟩ => ?_
  refine (then1 wd1 so1 q1).mono fun y H2 ⟨ζ2, μ2, w2, ev2, wd2, so2, r2, q2⟩ => ?_
  exact read_eqOb wd2 (r1.ev ev2) r2 q2
theorem t_eqOb {fn : Fn} (c : WD.Met X.prog X.w X.K X.mg X.base (L2.CX X.prog X.w) k (He.ga K C) "__eq__" f (SpF (k0 K) 2 fn) []) (t0 : Takes X W0) (hr : Room k X.A) (ha : IE K ξ W X a fa) (hb : IE K ξ W X b fb) (hm : behindInMarks .Eq b = false) : IT K ξ W X (.Compare a [.Eq] [b] pos) (tVal (e2 (gEqO C fn) fa fb)) := PT.of (pt_cmpR (op_eqOb c t0 hr) ha hb hm) fun σr H Q q => by
  obtain ⟨N, ζ, μ, σ, wd, so, q⟩ := q
  have q' := then1T (a := e2 (gEqO C fn) fa fb) wd so q
  obtain ⟨N, ζ', μ', σ', wd', so', q'⟩ := q'
  refine (then1 wd' so' q').mono fun x H1 ⟨ζ1, μ1, w1, ev1, wd1, so1, r1, q1⟩ => ?_
  refine (then1 wd1 so1 q1).mono fun y H2 ⟨ζ2, μ2, w2, ev2, wd2, so2, r2, q2⟩ => ?_
  obtain ⟨h1, h2⟩ := read_eqOb wd2 (r1.ev ev2) r2 q2
  refine ⟨h1, fun H' g => ?_⟩
  obtain ⟨ζ3, μ3, w3, ev3, wd3, so3, r3, q3⟩ := h2 H' g
  obtain ⟨c, hc, q3⟩ := PostT.bl wd3 r3 q3
  exact ⟨c, hc, q3 ζ3 H' Ev.refl wd3⟩
/-- isinstance(e, C), an instance of C -/
theorem i_isC {c2 : Expr} (he : IE K ξ W X e fa) (h2 : PE X c2 (tC (.ref (He.ga K C)))) (hc : C8.InsC K (He.ga K C)) (hg : Gl X "isinstance") (hm : X.mg "isinstance" = none)
    (hs : starEach [e, c2] X.env = (false, eval e X.env) :: starEach [c2] X.env := by rfl) (hs2 : starEach [c2] X.env = (false, eval c2 X.env) :: starEach [] X.env := by rfl) (hp : ((backTo pos (starEach [c2] X.env)).any (·.1)) = false := by rfl) (hK : X.K = K := by rfl) :
    IE K ξ W X (.Call (.Name "isinstance" p) [e, c2] [] pos) (e1 (gIsC C) fa) := by
  obtain ⟨K, Kt⟩ := K; obtain rfl : X.K = K := hK
  refine PE.of (pe_callB (C8.call_isC hc) hg hm WD.bt_isinstance (pa_cons he (pa_c h2 pa_c0 hs2) hs) (by decide) (by decide) hs hp) fun σr H Q q => ?_
  obtain ⟨N, ζ, μ, σ, wd, so, q⟩ := q
  refine (then1 wd so q).mono fun x H1 ⟨ζ1, μ1, w1, ev1, wd1, so1, r1, q1⟩ => ?_
  unfold gIsC at q1
  split at q1
  · split at q1
    · rename_i D ns ds hD
      subst hD
      obtain ⟨a, dx, vs, rfl, _, _, h4, _⟩ := rv_obj.mp (show rv ⟨X.K, Kt⟩ (MM N ζ1 μ1) H1 x (.obj D ns ds) from r1)
      exact ⟨a, dx, _, rfl, h4, q1 ζ1 H1 _ Ev.refl wd1 RV.blI⟩
    · exact q1.elim
  · split at q1
    · rename_i D ns ds hD
      subst hD
      obtain ⟨a, dx, vs, rfl, _, _, h4, _⟩ := r1
      exact ⟨a, dx, _, rfl, h4, q1 ζ1 H1 _ Ev.refl wd1 RV.blI⟩
    · exact q1.elim
  · exact q1.elim
theorem cr_strV : CallR X (.type "str") (rPN K strV) := by
  intro pins s σ H xs us Q I r h
  obtain ⟨M, ds, d, hv, fr, e, g⟩ := h
  unfold strV at e
  split at e
  · split at e
    · rename_i i hc
      cases e
      rw [Bool.and_eq_true] at hc
      obtain ⟨v, rfl, h1⟩ := vvs1 hv
      cases vv_int h1
      have c1 := Nat.le_of_ble_eq_true hc.1
      have h2 : i.natAbs.log2 < 1920 := by
        by_cases h0 : i.natAbs = 0
        · rw [h0]; decide
        · have := (Nat.log2_lt h0 (k := 64)).mpr (by omega)
          omega
      exact call_str_int pins s σ H _ us Q I r ⟨i, rfl, h2, g.str hc.2⟩
    · cases e
  · cases e
theorem op_neDic0 (hu : X.A.units < cLine) : OpR X (compareOp .NotEq) (fun x y H Q => ∃ a b, x = .ref a ∧ y = .ref b ∧ H a = some (.dK []) ∧ H b = some (.dK []) ∧ Q (.bl false) H) := by
  intro pins s σ H x y v u Q I rx ry h
  obtain ⟨a, b, rfl, rfl, ha, hb, q⟩ := h
  cases rx
  cases ry
  obtain ⟨z, hd, vs, rel, da⟩ := dk_rd I.hok (.inl ha)
  obtain ⟨z', hd', vs', rel', db⟩ := dk_rd I.hok (.inl hb)
  cases rel
  cases rel'
  show wpAny (model X.prog X.w) X.A (richCompare .NotEq (.ref a) (.ref b)) _ _ s
  refine wpAny_richCompare_same_room (op := .NotEq) da.typeIs db.typeIs PySem.F.slot_dict_ne (wpAny_call_entry PySem.F.slot_dict_ne da.typeIs PySem.F.entry_dict_ne ?_ (PySem.F.args_dict_ne_2 _ _)) hu
  show wpAny _ _ (Builtin.Dict.dictSlotArgs "__ne__" ⟨[.ref a, .ref b], []⟩ >>= _) _ _ s
  refine wpAny_bind ?_
  unfold Builtin.Dict.dictSlotArgs
  refine wpAny_bind (wpAny_notOrdered_dict da.typeIs ?_)
  show wpAny _ _ (pure (Value.ref a, Value.ref b)) _ _ s
  refine wpAny_pure ?_
  refine wpAny_bind (wpAny_isInstance (T := "dict") db.typeIs PySem.F.sub_dict_dict ?_)
  simp only [Bool.not_true, Bool.false_eq_true, if_false]
  refine wpAny_bind (wpAny_pure (wpAny_bind (wpAny_pure ?_)))
  refine wpAny_bind (PySem.W.samePairsP hd hd' da db (r := true) (fun _ => .nil) ?_)
  refine wpAny_pure ⟨_, rfl, ?_, ?_⟩
  · exact fun x => nomatch x
  · exact ⟨.bl false, H, I, rfl, q⟩
theorem op_neD0 (hu : X.A.units + 64 < cLine) (hK : X.K = K := by rfl) : OpR X (compareOp .NotEq) (rP2 K neD0) := by
  intro pins s σ H x y v u Q I rx ry h
  obtain ⟨M, d1, d2, d, h1, h2, fr, e, g⟩ := h
  unfold neD0 at e
  split at e
  · cases e
    obtain ⟨a, vs, rfl, ⟨kl, k1, k2, _, k4⟩, _⟩ := h1
    obtain ⟨b, us, rfl, ⟨kl', k1', k2', _, k4'⟩, _⟩ := h2
    have e1 : kl = [] := List.map_eq_nil_iff.mp k1.symm
    have e2 : kl' = [] := List.map_eq_nil_iff.mp k1'.symm
    subst e1 e2
    exact op_neDic0 (by omega) pins s σ H _ _ v u Q I rx ry ⟨a, b, rfl, rfl, k4, k4', g.bl⟩
  · exact op_neV hu hK pins s σ H x y v u Q I rx ry ⟨M, d1, d2, d, h1, h2, fr, e, g⟩
end
end PM
/-! PM22: a lambda without parameters, handed to a def that calls it in a try suite -/
namespace PM
open PySem PySem.Spec PyProof.Rows L2
open WD (MS upd_none)
abbrev Lm := Addr × Addr × Str × L2.St
/-- an exception out of a suite: no slot is known then -/
def wipeX (n : Nat) (F : MSt) : MSt := fun σ μ => match F σ μ with
  | .ex c f _ μ' => .ex c f (List.replicate n none) μ'
  | r => r
/-- what a lambda may hold -/
def capV : Option Val → Option Fl
  | some (.t d) => some (.t d)
  | some (.c k) => some (.c k)
  | _ => none
def capS (σ : Sl) : List (Option Fl) := σ.map capV
def capM (fs : List (Option Fl)) : Sl := fs.map (Option.map Fl.v)
def noX : R Val → R Val
  | .ex _ _ _ => .stuck
  | r => r
open Classical in
/-- a(), a the lambda that was handed in -/
noncomputable def eAct (L : Lm) (th : ME) : ME := fun σ μ => match σ with
  | some (.lam L' fs) :: _ => if L' = L then th (capM fs) μ else .stuck
  | _ => .stuck
open Classical in
/-- x(lambda: ..) -/
noncomputable def eLam (fnL : Lm → ME → Fn) (th : ME) : ME := fun σ μ => if h : ∃ r, ∀ L, fnL L th [.lam L (capS σ)] μ = r then noX (choose h) else .stuck
theorem eLam_eq {fnL : Lm → ME → Fn} {th : ME} {σ : Sl} {μ μ' : Store} {w : Val} (h : ∀ L, fnL L th [.lam L (capS σ)] μ = .ok w μ') : eLam fnL th σ μ = .ok w μ' := by
  have e : ∃ r, ∀ L, fnL L th [.lam L (capS σ)] μ = r := ⟨_, h⟩
  unfold eLam
  rw [dif_pos e, ← Classical.choose_spec e (0, 0, "", []), h]
  rfl
theorem eAct_eq {L : Lm} {th : ME} {fs : List (Option Fl)} {σ : Sl} {μ : Store} : eAct L th (some (.lam L fs) :: σ) μ = th (capM fs) μ := by
  unfold eAct
  exact if_pos rfl
abbrev XW (E : XK) : WX := fun cls d _ H => E cls d H
section
variable {X : Cx} {K : KT} {ξ : Xi} {W : WX} {N : MS} {ζ : List Addr} {μ : Store} {M : MS} {H H1 : Hp} {σr : L2.St} {σ : Sl} {ss : List Stmt} {F : MSt} {n : Nat}
theorem ss_open (tk : Takes X W) (h : ∀ E : XK, Takes X (XW E) → ISs K ξ (XW E) X ss F) (hn : X.N.length = n := by rfl) : ISs K ξ W X ss (wipeX n F) := by
  have hk : Takes X (XW fun cls d H => ∀ σ' : L2.St, σ'.length = X.N.length → W cls d σ' H) := fun u s' ⟨a, B, sI, pins, σ, H, cls, d, e, I, nb, up, sky, na, os, ag, w⟩ =>
    tk u s' ⟨a, B, sI, pins, σ, H, cls, d, e, I, nb, up, sky, na, os, ag, w σ I.len⟩
  refine PSs.of (h _ hk) fun D σr H q => ?_
  obtain ⟨N, ζ, μ, σ, wd, so, q⟩ := q
  refine ⟨N, ζ, μ, σ, wd, so, ?_⟩
  unfold wipeX at q
  cases e : F σ μ with
  | ex c f σ1 μ1 =>
    rw [e] at q
    intro ζ' H' d σr' ev wd' xr so' σ2 hl
    refine q ζ' H' d σ2 ev wd' xr ⟨by rw [List.length_replicate, hl, hn], fun i w hw => ?_⟩
    rw [List.getElem?_replicate] at hw
    split at hw <;> cases hw
  | nx _ _ => rw [e] at q; exact q
  | bk _ _ => rw [e] at q; exact q
  | ct _ _ => rw [e] at q; exact q
  | rt _ _ => rw [e] at q; exact q
  | stuck => rw [e] at q; exact q
theorem fr_val {v : V} {w : Fl} (h : FR K ζ M H v w) : RV K ξ ζ M H v w.v := FR.RV h
/-- what is known where the lambda is called -/
abbrev Act (K : KT) (Z : Cx) (a : Str) (L : Lm) (th : ME) : Prop := ∀ (W : WX) (E : XK) (p1 p2 : Pos), Takes Z W → (∀ cls d σ' H', E cls d H' → W cls d σ' H') →
  PE Z (.Call (.Name a p1) [] [] p2) (fun σZ HZ Q => σZ[0]? = some (some (.ref L.1)) ∧ HZ L.2.1 = some (LamX.CodeO L.2.1 L.2.2.1) ∧ tE K none (XW E) th L.2.2.2 HZ Q)
theorem i_act {a : Str} {L : Lm} {th : ME} {E : XK} {p1 p2 : Pos} (act : Act K X a L th) (tk : Takes X (XW E)) : IE K ξ (XW E) X (.Call (.Name a p1) [] [] p2) (eAct L th) := PE.of (act _ E p1 p2 tk fun _ _ _ _ h => h) fun σr H Q q => by
  obtain ⟨N, ζ, μ, σ, wd, so, q⟩ := q
  unfold eAct at q
  split at q
  case h_2 => exact q.elim
  rename_i L' fs σ1
  split at q
  case isFalse => exact q.elim
  rename_i hL
  subst hL
  obtain ⟨v, h1, h2, h3, h4, h5, h6⟩ := so.2 0 _ rfl
  subst h2
  refine ⟨h1, h4, N, ζ, μ, capM fs, wd, ⟨by unfold capM; rw [List.length_map]; exact h5, fun i w hw => ?_⟩, ?_⟩
  · unfold capM at hw
    rw [List.getElem?_map] at hw
    cases e : fs[i]? with
    | none => rw [e] at hw; cases hw
    | some o =>
      rw [e] at hw
      cases o with
      | none => cases hw
      | some fl =>
        cases hw
        obtain ⟨u, e1, e2⟩ := h6 i fl e
        exact ⟨u, e1, fr_val e2⟩
  · cases e : th (capM fs) μ with
    | ok w μ' => rw [e] at q; exact fun ζ' H' v a b c => q ζ' H' v a b c.none_to
    | ex c f μ' => rw [e] at q; exact q
    | stuck => rw [e] at q; exact q
/-- what the def makes of the lambda's reading -/
def TTm (K : KT) (fnL : Lm → ME → Fn) (th : ME) : (XK → Hp → VK → Prop) → Hp → VK → Prop := fun tl H Q => ∃ σr0, tl = (fun E H' Q' => tE K none (XW E) th σr0 H' Q') ∧ ∃ N ζ μ fs, Wd K N ζ μ H ∧ σr0.length = fs.length ∧
  (∀ (i : Nat) (w : Fl), fs[i]? = some (some w) → ∃ u, σr0[i]? = some (some u) ∧ FR K ζ (MM N ζ μ) H u w) ∧ ∀ L, PostC K N ζ μ H Q (fun _ _ _ => False) (fnL L th [.lam L fs] μ)
theorem gives_of {Ng : List Str} {x a q : Str} {sg : Scope} {g : Addr} {cdg : Value} {bg : List Stmt} {bL : Lm → ME → MSt} {th : ME}
    (bd : ∀ (L : Lm) (s : Shared) (H : Hp), (∀ (pn : List (Addr × Obj)) (xe : Value → Shared → Prop), Act K ((cxOf C8.CX0 X.prog X.w X.K X.mg X.base Ng x sg g cdg X.A X.stack s H C8.E0).tr pn xe) a L th) → ISs K none W0 (cxOf C8.CX0 X.prog X.w X.K X.mg X.base Ng x sg g cdg X.A X.stack s H C8.E0).nox bg (bL L th)) :
    LamX.GivesTo X Ng x sg g cdg bg a q (TTm K (fun L th => fnOf Ng.length (bL L th)) th) := by
  intro f c' s H Q tl act hc ht
  obtain ⟨σr0, rfl, N, ζ, μ, fs, wd, hl, cap, post⟩ := ht
  refine ⟨_, bd (f, c', q, σr0) s H (fun pn xe W E p1 p2 tk hW => act W pn xe E p1 p2 tk hW), ?_⟩
  have nM : ¬ MM N ζ μ c' := fun z => by
    obtain ⟨o, e, _, x⟩ := wd.min c' z
    rw [hc] at e
    cases e
    cases x
  exact fn_read (N := N) (ζ := ζ) (μ := μ) (E := fun _ _ _ => False) (ws := [.lam (f, c', q, σr0) fs]) wd ⟨⟨rfl, nM, hc, hl, cap⟩, trivial⟩ (post (f, c', q, σr0))
theorem capS_ok (so : Sok K ξ ζ M H σr σ) : σr.length = (capS σ).length ∧ ∀ (i : Nat) (w : Fl), (capS σ)[i]? = some (some w) → ∃ u, σr[i]? = some (some u) ∧ FR K ζ M H u w := by
  refine ⟨by unfold capS; rw [List.length_map]; exact so.1, fun i w hw => ?_⟩
  unfold capS at hw
  rw [List.getElem?_map] at hw
  cases e : σ[i]? with
  | none => rw [e] at hw; cases hw
  | some o =>
    rw [e] at hw
    cases o with
    | none => cases hw
    | some v =>
      obtain ⟨u, h1, h2⟩ := so.2 i v e
      refine ⟨u, h1, ?_⟩
      cases v with
      | t d => cases hw; exact h2
      | c k => cases hw; exact h2
      | _ => cases hw
theorem Wd.lam (wd : Wd K N ζ μ H) (en : LamX.ExtN H H1) (hT : LamX.Tabs K.tb H1) (ne : K.tb.isEmpty = false) : Ev K.tb ζ μ H ζ μ H1 ∧ Wd K N ζ μ H1 := by
  have kp : ∀ a o, nt K.tb o → H a = some o → H1 a = some o := fun a o t h => en a o h (nt_ne (by
    have t' : (isTb o && !K.tb.isEmpty) = false := t
    rw [ne] at t'
    simpa using t'))
  refine ⟨⟨fun _ _ h => h, ⟨fun a o t _ h => kp a o t h, fun a z o e n => z o (kp a o n e) n⟩, fun _ h => .inl h⟩, wd.len, wd.inj, fun k c a h1 h2 => (wd.cell k c a h1 h2).st (fun _ _ h => h) (fun _ n _ => n) (fun a o t _ h => kp a o t h) (fun o t h => kp a o t h), fun a h => ⟨(wd.nd a h).1, ?_⟩, hT⟩
  obtain ⟨o, e, r⟩ := (wd.nd a h).2
  exact ⟨o, kp a o (nt_of r.1) e, r⟩
/-- x(lambda: body) -/
theorem i_lam {bL : Lm → ME → MSt} {th : ME} {x a : Str} {g c P : Addr} {k : Nat} {pg : Arguments} {bg : List Stmt} {sg : Scope} {Ng : List Str} {params : Arguments} {body : Expr} {scope : Scope} {p lpos pos : Pos}
    (hg : Gl X x) (hm : X.mg x = some (.ref g)) (Fx : ∃ fd, FunD X.K x x pg bg sg [] [] g fd) (Sg : FnScope Ng [a] sg) (bind : ∀ (kV doc pm : Value) (an : Option Addr) (cdv ct : Value) (us : List Value), us.length = 1 → bindArgs (PySem.W.fnOf x x pg bg sg .none kV doc pm an cdv ct) ⟨us, []⟩ = pure ([a].zip us))
    (hNg : Ng[0]? = some a) (hva : Vis sg a)
    (bd : ∀ (cdg : Value) (L : Lm) (s : Shared) (H : Hp), Room (k + 1) (X.A.deeper (envOfC x sg s.heap.objs.size g cdg)) → (∀ (pn : List (Addr × Obj)) (xe : Value → Shared → Prop), Act K ((cxOf C8.CX0 X.prog X.w X.K X.mg X.base Ng x sg g cdg X.A X.stack s H C8.E0).tr pn xe) a L th) → ISs K none W0 (cxOf C8.CX0 X.prog X.w X.K X.mg X.base Ng x sg g cdg X.A X.stack s H C8.E0).nox bg (bL L th))
    (TB : LamX.TabB X.base X.mg c P) (hcode : X.env.code = .ref c) (hmT : (P, X.env.qual ++ "<lambda>") ∈ K.tb) (hu : ∀ p ∈ K.tb, p.1 = P → p.2 = X.env.qual ++ "<lambda>") (hr : Room (k + 2) X.A) (L : LamX.LamS X.env.scope scope) (hdef : defaultsOf params X.env = ([], []))
    (hbind : ∀ (q : Str) (cl : List (Str × Addr)) (pm cv ctv : Value), bindArgs (PySem.W.kla_fn "<lambda>" q params body scope cl pm cv ctv) ⟨[], []⟩ = pure [])
    (hbody : ∀ (A : Around) (outer : List Env) (s : Shared) (H : Hp) (E : XK) (f c' : Addr), Room k (A.deeper (LamX.lamEnv X scope s.heap.objs.size f c')) → IE K none (XW E) (LamX.lamCx X A outer s H E scope f c') body th)
    (hdb : (x == ("__debug__" : Str)) = false := by decide) (hd : (a == ("__debug__" : Str)) = false := by decide) (hcd : (a == ("__classdict__" : Str)) = false := by decide) :
    IE K ξ W X (.Call (.Name x p) [.Lambda params body scope lpos] [] pos) (eLam (fun L th => fnOf Ng.length (bL L th)) th) := by
  obtain ⟨fd, F⟩ := Fx
  have hB := F.bindsN (ps := [a]) bind
  obtain ⟨oc, od, dV, kV, doc, pm, an, cdv, ct, osl, rfl, lk, hcg, _, _⟩ := F.ex
  refine PE.of (LamX.pe_lamcall (T := K.tb) (TT := TTm K (fun L th => fnOf Ng.length (bL L th)) th) (t := fun E => tE K none (XW E) th) hg hm F.kp lk hcg hB Sg hNg hva (gives_of fun L s H act => bd cdv L s H (hr.deeper _) act) TB hcode hmT hu hr L hdef hbind hbody hdb hd hcd) fun σr H Q q => ?_
  obtain ⟨N, ζ, μ, σ, wd, so, q⟩ := q
  refine ⟨wd.tb, fun H1 en t1 => ?_⟩
  obtain ⟨ev, wd1⟩ := wd.lam en t1 (by
    cases e : K.tb with
    | nil => rw [e] at hmT; cases hmT
    | cons _ _ => rfl)
  have so1 := so.ev ev
  obtain ⟨c1, c2⟩ := capS_ok so1
  refine ⟨σr, rfl, N, ζ, μ, capS σ, wd1, c1, c2, fun L => ?_⟩
  unfold eLam at q
  split at q
  case isFalse => exact q.elim
  rename_i h
  have e := Classical.choose_spec h L
  rw [e]
  cases er : Classical.choose h with
  | ok w μ' => rw [er] at q; exact fun ζ' H' v a b c => q ζ' H' v (ev.trans a) b c.none_to
  | ex c f μ' => rw [er] at q; exact q.elim
  | stuck => rw [er] at q; exact q
end
end PM
/-! PM23: those that make lambdas: their code objects and tables; the Hook that tells them -/
namespace PM
open PySem PySem.Spec PyProof.Rows L2
open WD (MS upd_none)
def codeOf (K : PySem.W.Frag) (f : Addr) : Value := match K.lookup f with
  | some ⟨_, _, .func fd, _⟩ => fd.code
  | _ => .none
def codeA (K : PySem.W.Frag) (f : Addr) : Addr := match codeOf K f with
  | .ref c => c
  | _ => 0
def tabA (K : PySem.W.Frag) (c : Addr) : Addr := match K.lookup c with
  | some ⟨_, _, .fields vs, _⟩ => (match (vs[11]? : Option Value) with
    | some (.ref P) => P
    | _ => 0)
  | _ => 0
abbrev cdA (K : PySem.W.Frag) (x : Str) : Addr := codeA K (He.ga K x)
abbrev tbA (K : PySem.W.Frag) (x : Str) : Addr := tabA K (cdA K x)
def tabsOf (K : PySem.W.Frag) (mk : List Str) : List (Addr × Str) := mk.map fun x => (tbA K x, (x ++ ".<locals>.") ++ "<lambda>")
def codB (K : PySem.W.Frag) (c P : Addr) : Bool := match K.lookup c with
  | some ⟨.type t, _, .fields vs, _⟩ => decide (t = "code") && ((match (vs[11]? : Option Value) with
    | some (.ref p) => decide (p = P)
    | _ => false) && ((match vs.getD 18 .none with
    | .str _ _ => true
    | _ => false) && ((match vs.getD 7 .none with
    | .int _ _ => true
    | _ => false) && ((match vs.getD 9 .none with
    | .bool _ => true
    | _ => false) && ((match vs.getD 10 .none with
    | .int _ _ => true
    | _ => false) && !decide (c = P))))))
  | _ => false
theorem codB_ok {K : PySem.W.Frag} {h : Heap} {c P : Addr} (X : K.In h) (e : codB K c P = true) : PySem.W.CodeHd h c P := by
  unfold codB at e
  split at e
  case h_2 => cases e
  rename_i t od vs sl lk
  obtain ⟨e1, e⟩ := He.ba e
  obtain ⟨e2, e⟩ := He.ba e
  obtain ⟨e3, e⟩ := He.ba e
  obtain ⟨e4, e⟩ := He.ba e
  obtain ⟨e5, e⟩ := He.ba e
  obtain ⟨e6, e7⟩ := He.ba e
  have h1 := X _ _ lk
  split at e2
  case h_2 => cases e2
  rename_i p hp
  split at e3
  case h_2 => cases e3
  rename_i f1 f2 hf
  split at e4
  case h_2 => cases e4
  rename_i g1 g2 hg
  split at e5
  case h_2 => cases e5
  rename_i b1 hb
  split at e6
  case h_2 => cases e6
  rename_i i1 i2 hi
  have ep : p = P := of_decide_eq_true e2
  subst ep
  refine ⟨_, vs, f1, f2, g1, g2, b1, i1, i2, h1, by rw [of_decide_eq_true e1], rfl, hp, ?_, hf, hg, hb, hi, fun z => by rw [z] at e7; simp at e7⟩
  rw [Array.getD_eq_getD_getElem?, hp]
  rfl
def eTab : Option Obj → Bool
  | some ⟨.none, none, .fields vs, sl⟩ => decide (vs.size = 0) && decide (sl.size = 0)
  | _ => false
/-- one that makes lambdas: its code object, its table, which is empty -/
structure TabK (K : PySem.W.Frag) (h : Heap) (x : Str) : Prop where
  code : codeOf K (He.ga K x) = .ref (cdA K x)
  hd : PySem.W.CodeHd h (cdA K x) (tbA K x)
  tab : h.get? (tbA K x) = some { cls := .none, data := .fields #[] }
  no : K.lookup (tbA K x) = none
def isRef : Value → Bool
  | .ref _ => true
  | _ => false
theorem eTab_ok {x : Option Obj} (h : eTab x = true) : x = some { cls := .none, data := .fields #[] } := by
  unfold eTab at h
  split at h
  case h_2 => cases h
  rename_i vs sl
  obtain ⟨h1, h2⟩ := He.ba h
  rw [Array.eq_empty_of_size_eq_zero (of_decide_eq_true h1), Array.eq_empty_of_size_eq_zero (of_decide_eq_true h2)]
def tabB (g : Addr → Option Obj) (K : PySem.W.Frag) (x : Str) : Bool := isRef (codeOf K (He.ga K x)) && (codB K (cdA K x) (tbA K x) && (eTab (g (tbA K x)) && (K.lookup (tbA K x)).isNone))
theorem tabB_ok {K : PySem.W.Frag} {h : Heap} {x : Str} (X : K.In h) (e : tabB h.get? K x = true) : TabK K h x := by
  obtain ⟨e1, e⟩ := He.ba e
  obtain ⟨e2, e⟩ := He.ba e
  obtain ⟨e3, e4⟩ := He.ba e
  refine ⟨?_, codB_ok X e2, eTab_ok e3, Option.isNone_iff_eq_none.mp e4⟩
  unfold cdA codeA
  cases q : codeOf K (He.ga K x) with
  | ref c => rfl
  | _ => rw [q] at e1; cases e1
theorem TabK.keeps {K : PySem.W.Frag} {h h' : Heap} {x : Str} (t : TabK K h x) (k : ∀ b o, h.get? b = some o → h'.get? b = some o) : TabK K h' x := ⟨t.code, t.hd.keeps k, k _ _ t.tab, t.no⟩
/-- the fragment without the tables -/
def asL (g : Addr → Option Obj) (n : Nat) : List Addr := (WD.asE g n).filter fun a => !eTab (g a)
def ndB (l : List Addr) : Bool := decide l.Nodup
structure SaysL (fa : List He.Fa) (fn : List He.DefD) (fx : List WD.Fx) (mk : List Str) (K : PySem.W.Frag) (h : Heap) : Prop where
  says : WD.SaysE fa fn fx K
  tabs : ∀ x ∈ mk, TabK K h x
  nd : ((tabsOf K mk).map Prod.fst).Nodup
def obsL (g : Addr → Option Obj) (fa : List He.Fa) (fn : List He.DefD) (fx : List WD.Fx) (mk : List Str) (K : PySem.W.Frag) : He.AlD := ((WD.obsE fa fn fx K).1 && ((mk.all fun x => tabB g K x) && ndB ((tabsOf K mk).map Prod.fst)), (WD.obsE fa fn fx K).2)
def obsLG (n : Nat) (fa : List He.Fa) (fn : List He.DefD) (fx : List WD.Fx) (mk : List Str) (g : Addr → Option Obj) : He.AlD := obsL g fa fn fx mk (He.frG g (asL g n))
def hookL (n : Nat) (fa : List He.Fa) (fn : List He.DefD) (fx : List WD.Fx) (mk : List Str) : PySem.W.Hook where
  α := He.AlD
  obs := fun s => obsLG n fa fn fx mk s.heap.get?
  val := fun _ => He.valD fn
  says := fun _ h => ∃ K : PySem.W.Frag, K.In h ∧ SaysL fa fn fx mk K h
  of := fun _ s e => by
    refine ⟨_, He.frG_in (as := asL s.heap.get? n), ?_⟩
    have e1 : ((WD.obsE fa fn fx (He.frG s.heap.get? (asL s.heap.get? n))).1 && ((mk.all fun x => tabB s.heap.get? (He.frG s.heap.get? (asL s.heap.get? n)) x) && ndB ((tabsOf (He.frG s.heap.get? (asL s.heap.get? n)) mk).map Prod.fst))) = true := congrArg (fun z : He.AlD => z.1) e
    have e2 : (WD.obsE fa fn fx (He.frG s.heap.get? (asL s.heap.get? n))).2 = (He.valD fn).2 := by
      have e3 := congrArg (fun z : He.AlD => z.2) e
      exact e3
    obtain ⟨a1, a2⟩ := He.ba e1
    obtain ⟨a3, a4⟩ := He.ba a2
    exact ⟨Prod.ext a1 e2, fun x hx => tabB_ok He.frG_in (List.all_eq_true.mp a3 x hx), of_decide_eq_true a4⟩
  keeps := fun _ _ _ ⟨K, hK, c⟩ k => ⟨K, PySem.W.Frag.In.keeps hK k, ⟨c.says, fun x hx => (c.tabs x hx).keeps k, c.nd⟩⟩
theorem obsLG_eq {n : Nat} {fa : List He.Fa} {fn : List He.DefD} {fx : List WD.Fx} {mk : List Str} {g : Addr → Option Obj} {s : Shared} (h : ∀ a, g a = s.heap.get? a) : obsLG n fa fn fx mk g = (hookL n fa fn fx mk).obs s := by
  rw [show g = s.heap.get? from funext h]; rfl
/-- what those that make lambdas ask for -/
structure LamF (K : PySem.W.Frag) (mk : List Str) (mg : Str → Option Value) (base : Heap) : Prop where
  code : ∀ x ∈ mk, codeOf K (He.ga K x) = .ref (cdA K x)
  tab : ∀ x ∈ mk, LamX.TabB base mg (cdA K x) (tbA K x)
  nd : ((tabsOf K mk).map Prod.fst).Nodup
theorem tabs_mem {K : PySem.W.Frag} {mk : List Str} {x : Str} (h : x ∈ mk) : (tbA K x, (x ++ ".<locals>.") ++ "<lambda>") ∈ tabsOf K mk := List.mem_map.mpr ⟨x, h, rfl⟩
theorem nodup_uni {α β : Type} : ∀ {l : List (α × β)}, (l.map Prod.fst).Nodup → ∀ {p q : α × β}, p ∈ l → q ∈ l → p.1 = q.1 → p = q
  | [], _, _, _, h, _, _ => nomatch h
  | a :: l, hn, p, q, hp, hq, e => by
    rw [List.map_cons, List.nodup_cons] at hn
    rcases List.mem_cons.mp hp with hp1 | hp1 <;> rcases List.mem_cons.mp hq with hq1 | hq1
    · rw [hp1, hq1]
    · exact (hn.1 (List.mem_map.mpr ⟨q, hq1, by rw [← e, hp1]⟩)).elim
    · exact (hn.1 (List.mem_map.mpr ⟨p, hp1, by rw [e, hq1]⟩)).elim
    · exact nodup_uni hn.2 hp1 hq1 e
theorem tabs_uni {K : PySem.W.Frag} {mk : List Str} {x : Str} (nd : ((tabsOf K mk).map Prod.fst).Nodup) (h : x ∈ mk) : ∀ p ∈ tabsOf K mk, p.1 = tbA K x → p.2 = (x ++ ".<locals>.") ++ "<lambda>" := fun p hp e =>
  congrArg Prod.snd (nodup_uni nd hp (tabs_mem h) e)
theorem tabs_nil {K : PySem.W.Frag} {mk : List Str} {H : Hp} (h : ∀ x ∈ mk, H (tbA K x) = some (.tbl #[])) : LamX.Tabs (tabsOf K mk) H := fun p hp => by
  obtain ⟨x, hx, rfl⟩ := List.mem_map.mp hp
  exact LamX.TabS.nil (h x hx)
section
variable {P : Program} {w : World} {K : KT} {mg : Str → Option Value} {base : Heap} {x qual : Str} {params : Arguments} {body : List Stmt} {scope : Scope} {f C : Addr} {fd : FuncData} {Nm ps : List Str} {k : Nat} {b : MSt}
/-- a def whose code object is asked for -/
theorem fn_okC (F : FunD K x qual params body scope [] [] f fd) (S : FnScope Nm ps scope)
    (bind : ∀ (kV doc pm : Value) (an : Option Addr) (cdv ct : Value) (us : List Value), us.length = ps.length → bindArgs (PySem.W.fnOf x qual params body scope .none kV doc pm an cdv ct) ⟨us, []⟩ = pure (ps.zip us))
    (hb : ∀ (A : Around) (outer : List Env) (s : Shared) (H : Hp) (E : XK), Room k (A.deeper (envOfC qual scope s.heap.objs.size f (codeOf K f))) → ISs K none (XW E) (cxOf (L2.CX P w) P w K mg base Nm qual scope f (codeOf K f) A outer s H E) body b) :
    ∃ (fd : FuncData) (ps' : List Str) (ds : List Value), FnOk P w K mg base (L2.CX P w) (k + 1) f fd ps' (SpF K ps.length (fnOf Nm.length b)) ∧ Binds K fd ps' ds ∧ Vals [] ds := by
  have hB := F.bindsN (ps := ps) bind
  have len : ∀ vs H Q E, SpF K ps.length (fnOf Nm.length b) vs H Q E → vs.length = ps.length := fun vs H Q E ⟨N, ζ, μ, ws, wd, r, hl, _⟩ => r.len.trans hl
  obtain ⟨oc, od, dV, kV, doc, pm, an, cdv, ct, osl, rfl, lk, hcg, _, _⟩ := F.ex
  have e : codeOf K f = cdv := by unfold codeOf; rw [lk]
  subst e
  refine ⟨_, ps, [], ⟨len, fun A outer s H args us vs Q E hr e0 hbd r hsp => LamX.run_ofS lk hcg S hr e0 hbd r (len _ _ _ _ hsp) fun hr' => ?_⟩, hB, .nil⟩
  obtain ⟨N, ζ, μ, ws, wd, r', hl, h⟩ := hsp
  exact ⟨_, hb A outer s H E hr', fn_read wd r' h⟩
end
end PM
namespace PM
open PySem PySem.Spec PyProof.Rows L2
/-- the law's promise, at the head's heap -/
theorem law_at {l : PySem.W.OpenLaw} {w : World} {K : PySem.W.Frag} {CX : CXT} {k : Nat} {x : Str} {mg : Str → Option Value} {f : Addr} {h : Heap} {fa : List He.Fa} {fn : List He.DefD} {fx : List WD.Fx} {mk : List Str} {fd : FuncData}
    (c : SaysL fa fn fx mk K h) (hb : ∀ (s : Shared) (u : Value), BindsTo s fd ⟨[u], []⟩ [(x, u)])
    (hF : ∀ base : Heap, K.In base → base.Ns mainGlobals mg → LamF K mk mg base → FnOk l.prog w K mg base CX k f fd [x] (spLaw ⟨K, tabsOf K mk⟩)) : LamX.LawAtS l w K CX k 63 x mg f h := by
  have tx : ∀ p ∈ mk.map (fun x => (cdA K x, tbA K x)), ∃ x ∈ mk, p = (cdA K x, tbA K x) := fun p hp => let ⟨x, h1, h2⟩ := List.mem_map.mp hp; ⟨x, h1, h2.symm⟩
  refine ⟨fd, mk.map fun x => (cdA K x, tbA K x), spLaw ⟨K, tabsOf K mk⟩, fun p hp => ?_, fun p hp => ?_, fun p hp => ?_, hb, fun H a ns hl _ hH hS => spLaw_ask hl hS (tabs_nil fun x hx => hH _ (List.mem_map.mpr ⟨x, hx, rfl⟩)), fun base h1 h2 h3 => hF base h1 h2 ⟨fun x hx => (c.tabs x hx).code, fun x hx => h3 _ (List.mem_map.mpr ⟨x, hx, rfl⟩), c.nd⟩⟩
  · obtain ⟨x, hx, rfl⟩ := tx p hp
    exact (c.tabs x hx).tab
  · obtain ⟨x, hx, rfl⟩ := tx p hp
    exact (c.tabs x hx).no
  · obtain ⟨x, hx, rfl⟩ := tx p hp
    exact (c.tabs x hx).hd
end PM
/-! PM24: for .. in a list that may change (by index, as the list stands at each turn) -/
namespace PM
open PySem PySem.Spec PyProof.Rows L2
open WD (MS upd_none)
def forI (T : Tgt) (B : MSt) (k : Nat) : Nat → Nat → MSt
  | 0, _, _, _ => .stuck
  | n + 1, i, σ, μ => match μ[k]? with
    | some (some (.lst ds)) => (match ds[i]? with
      | none => .nx σ μ
      | some d => match asg T (.t d) σ with
        | none => .stuck
        | some σ1 => match B σ1 μ with
          | .nx σ2 μ2 => forI T B k n (i + 1) σ2 μ2
          | .ct σ2 μ2 => forI T B k n (i + 1) σ2 μ2
          | .bk σ2 μ2 => .nx σ2 μ2
          | r => r)
    | _ => .stuck
def gForC (T : Tgt) (B : MSt) (n : Nat) (σ : Sl) (w : Val) (μ : Store) : RS := match w with
  | .c k => forI T B k n 0 σ μ
  | _ => .stuck
def sForC (n : Nat) (fa : ME) (T : Tgt) (B : MSt) : MSt := fun σ μ => (fa σ μ).st σ fun w μ1 => gForC T B n σ w μ1
section
variable {X : Cx} {K : KT} {ξ : Xi} {W : WX} {tg : Expr} {T : Tgt} {B : MSt} {fa : ME} {pos : Pos}
theorem s_forC {n : Nat} {it : Expr} {body : List Stmt} (hp : PassesOwn (model X.prog X.w) X.A X.env X.xe) (hc : X.calm = true) (h : IE K ξ W X it fa) (hg : IG K ξ X tg T) (hb : ISs K ξ W X body B)
    (hf : ∀ x : Value, foldedSetIterable it X.env x = pure x := by intro _; rfl) (hK : X.K = K := by rfl) : IS K ξ W X (.For tg it body [] pos) (sForC n fa T B) := by
  obtain ⟨K, Kt⟩ := K; obtain rfl : X.K = K := hK
  refine PS.of (ps_for hp hc (pi_list h) hg hb hf) fun D σr H q => ?_
  obtain ⟨N, ζ, μ, σ, wd, so, q⟩ := q
  refine ⟨N, ζ, μ, σ, wd, so, ?_⟩
  unfold sForC at q
  cases e : fa σ μ with
  | stuck => rw [e] at q; exact q
  | ex c f μ1 => rw [e] at q; exact fun ζ' H' d ev w r => q ζ' H' d σr ev w r (so.ev ev)
  | ok w μ1 =>
    rw [e] at q
    intro ζ1 H1 v ev1 wd1 r1
    have q0 : PostS ⟨X.K, Kt⟩ ξ W N ζ1 μ1 H1 D (gForC T B n σ w μ1) := PostS.ev ev1 q
    cases w with
    | c k =>
      obtain ⟨a, ha, rfl⟩ := r1
      have q1 : PostS ⟨X.K, Kt⟩ ξ W N ζ1 μ1 H1 D (forI T B k n 0 σ μ1) := q0
      have at_ : ∀ {m i : Nat} {σ' : Sl} {ζ' : List Addr} {μ' : Store} {H' : Hp}, ζ'[k]? = some a → Wd ⟨X.K, Kt⟩ N ζ' μ' H' → PostS ⟨X.K, Kt⟩ ξ W N ζ' μ' H' D (forI T B k m i σ' μ') → ∃ m' ds vs, m = m' + 1 ∧ μ'[k]? = some (some (.lst ds)) ∧ H' a = some (.lst vs) ∧ rvs ⟨X.K, Kt⟩ (MM N ζ' μ') H' vs ds := by
        intro m i σ' ζ' μ' H' hz wd' q'
        cases m with
        | zero => exact q'.elim
        | succ m =>
          unfold forI at q'
          split at q'
          · rename_i ds hk
            obtain ⟨vs, h1, h2⟩ := wd'.cell k _ a hk hz
            exact ⟨m, ds, vs, rfl, hk, h1, h2⟩
          · exact q'.elim
      obtain ⟨_, _, vs0, _, _, hv0, _⟩ := at_ ha wd1 q1
      refine ⟨a, rfl, ⟨vs0, SqL.of hv0⟩, ?_⟩
      refine ⟨fun i m σr' H' => ∃ ζ' μ' σ', ζ'[k]? = some a ∧ Wd ⟨X.K, Kt⟩ N ζ' μ' H' ∧ Sok ⟨X.K, Kt⟩ ξ ζ' (MM N ζ' μ') H' σr' σ' ∧ PostS ⟨X.K, Kt⟩ ξ W N ζ' μ' H' D (forI T B k m i σ' μ'),
        ⟨n, ζ1, μ1, σ, ha, wd1, so.ev ev1, q1⟩, ?_⟩
      rintro i m σr' H' ⟨ζ', μ', σ', hz, wd', so', q'⟩
      obtain ⟨m', ds, vs, rfl, hk, hv, rv⟩ := at_ hz wd' q'
      have hlen := rvs_len rv
      unfold forI at q'
      rw [hk] at q'
      dsimp only at q'
      cases hi : ds[i]? with
      | none =>
        rw [hi] at q'
        refine .inl ⟨⟨vs, SqL.of hv, by rw [hlen]; exact List.getElem?_eq_none_iff.mp hi⟩, q' ζ' H' σr' Ev.refl wd' so'⟩
      | some d =>
        rw [hi] at q'
        dsimp only at q'
        obtain ⟨x, hx, rx⟩ := rvs_at rv hi
        refine .inr ⟨⟨vs, x, SqL.of hv, hx⟩, fun σ2 H2 => ∃ ζ2 μ2 σm, ζ2[k]? = some a ∧ Wd ⟨X.K, Kt⟩ N ζ2 μ2 H2 ∧ Sok ⟨X.K, Kt⟩ ξ ζ2 (MM N ζ2 μ2) H2 σ2 σm ∧ PostS ⟨X.K, Kt⟩ ξ W N ζ2 μ2 H2 D (forI T B k m' (i + 1) σm μ2), fun σ2 H2 ⟨ζ2, μ2, σm, a1, a2, a3, a4⟩ => ⟨m', by omega, ζ2, μ2, σm, a1, a2, a3, a4⟩, fun y Hy hy => ?_⟩
        obtain ⟨rfl, hy2⟩ := hy
        have hyx := hy2 vs (SqL.of hv)
        rw [hx] at hyx
        cases hyx
        cases ea : asg T (.t d) σ' with
        | none => rw [ea] at q'; exact q'.elim
        | some σ1 =>
          rw [ea] at q'
          dsimp only at q'
          refine ⟨N, ζ', μ', σ', .t d, σ1, wd', so', rx, ea, fun σr1 so1 _ => ⟨N, ζ', μ', σ1, wd', so1, ?_⟩⟩
          cases eb : B σ1 μ' with
          | nx σ2 μ2 => rw [eb] at q'; exact fun ζ2 H2 σr2 ev2 wd2 so2 => ⟨ζ2, μ2, σ2, ev2.pre k a hz, wd2, so2, PostS.ev ev2 q'⟩
          | ct σ2 μ2 => rw [eb] at q'; exact fun ζ2 H2 σr2 ev2 wd2 so2 => ⟨ζ2, μ2, σ2, ev2.pre k a hz, wd2, so2, PostS.ev ev2 q'⟩
          | bk σ2 μ2 => rw [eb] at q'; exact q'
          | rt w μ2 => rw [eb] at q'; exact q'
          | ex c f σ2 μ2 => rw [eb] at q'; exact q'
          | stuck => rw [eb] at q'; exact q'
    | t _ => exact q0.elim
    | x _ _ => exact q0.elim
    | s _ => exact q0.elim
    | g _ _ => exact q0.elim
    | self => exact q0.elim
    | lam _ _ => exact q0.elim
end
end PM
/-! PM25: zip of three tuples of one length, the items kept by a name -/
namespace PM
open PySem PySem.Spec PyProof.Rows L2
open WD (MS upd_none)
def zip3P (l m n : List PV) : List PV := (l.zip (m.zip n)).map fun p => .tup [p.1, p.2.1, p.2.2]
def gZip3 : List Val → Store → R (List PV)
  | [.t (.tup l), .t (.tup m), .t (.tup n)], μ => if l.length = m.length ∧ m.length = n.length then .ok (zip3P l m n) μ else .stuck
  | _, _ => .stuck
section
variable {X : Cx} {K : KT} {ξ : Xi} {W : WX} {N : MS} {ζ : List Addr} {μ : Store} {M : MS} {H : Hp} {σr : L2.St} {σ : Sl} {tg it e : Expr} {es : List Expr} {fa : ME} {fs : Sl → Store → R (List Val)} {pos : Pos}
theorem zip3_at {l m n : List PV} {i : Nat} {d : PV} (h : (zip3P l m n)[i]? = some d) : ∃ x y z, l[i]? = some x ∧ m[i]? = some y ∧ n[i]? = some z ∧ d = .tup [x, y, z] := by
  unfold zip3P at h
  rw [List.getElem?_map] at h
  obtain ⟨p, hp, rfl⟩ := Option.map_eq_some_iff.mp h
  rw [List.getElem?_zip_eq_some] at hp
  have h2 := hp.2
  rw [List.getElem?_zip_eq_some] at h2
  exact ⟨p.1, p.2.1, p.2.2, hp.1, h2.1, h2.2, rfl⟩
theorem it_zip3 {a b c : Addr} {vs ws us : List V} {ds es fs' : List PV} (n1 : ¬ M a) (n2 : ¬ M b) (n3 : ¬ M c) (h1 : H a = some (.tup vs)) (h2 : H b = some (.tup ws)) (h3 : H c = some (.tup us)) (r1 : rvs K M H vs ds) (r2 : rvs K M H ws es) (r3 : rvs K M H us fs') (hl : ds.length = es.length ∧ es.length = fs'.length) : ItOk K M H (WD.It3 K a b c) (zip3P ds es fs') := fun M1 H1 na kp fr => by
  have q1 : SqT K H1 a vs := SqT.of (kp a _ rfl n1 h1)
  have q2 : SqT K H1 b ws := SqT.of (kp b _ rfl n2 h2)
  have q3 : SqT K H1 c us := SqT.of (kp c _ rfl n3 h3)
  have s1 := rvs_st na kp ds vs r1
  have s2 := rvs_st na kp es ws r2
  have s3 := rvs_st na kp fs' us r3
  have l1 := rvs_len r1
  refine ⟨fun i d hd => ?_, vs, q1, ?_⟩
  · obtain ⟨x, y, z, hx, hy, hz, rfl⟩ := zip3_at hd
    obtain ⟨v1, hv1, p1⟩ := rvs_at s1 hx
    obtain ⟨v2, hv2, p2⟩ := rvs_at s2 hy
    obtain ⟨v3, hv3, p3⟩ := rvs_at s3 hz
    refine ⟨⟨vs, ws, us, v1, v2, v3, q1, q2, q3, hv1, hv2, hv3⟩, fun x' H2 hyl => ?_⟩
    obtain ⟨T, x1, x2, x3, rfl, hT, rfl, k1, k2, k3⟩ := hyl
    have e1 := k1 vs q1
    have e2 := k2 ws q2
    have e3 := k3 us q3
    rw [hv1] at e1
    rw [hv2] at e2
    rw [hv3] at e3
    cases e1
    cases e2
    cases e3
    exact ⟨Grow.upd hT, rv_tup.mpr ⟨T, _, rfl, fr T hT, upd_same, rvs_cons.mpr ⟨(Grow.upd hT).rv p1, rvs_cons.mpr ⟨(Grow.upd hT).rv p2, rvs_cons.mpr ⟨(Grow.upd hT).rv p3, rvs_nil⟩⟩⟩⟩⟩
  · unfold zip3P
    rw [List.length_map, List.length_zip, List.length_zip]
    omega
theorem RVs3 {xs : List V} {w u t : Val} (h : RVs K ξ ζ M H xs [w, u, t]) : ∃ v z y, xs = [v, z, y] ∧ RV K ξ ζ M H v w ∧ RV K ξ ζ M H z u ∧ RV K ξ ζ M H y t := by
  match xs, h with
  | [v, u, y], h => exact ⟨v, u, y, rfl, h.1, h.2.1, h.2.2.1⟩
  | [], h => exact h.elim
  | [_], h => exact h.2.elim
  | [_, _], h => exact h.2.2.elim
  | _ :: _ :: _ :: _ :: _, h => exact h.2.2.2.elim
theorem ii_zip3 {e2 e3 : Expr} {p np : Pos} {n : Str} (hg : Gl X "zip") (hm : X.mg "zip" = none) (ha : IA K ξ W X [e, e2, e3] fs) (hs : starEach [e, e2, e3] X.env = (false, eval e X.env) :: starEach [e2, e3] X.env := by rfl) (hpl : (backTo pos (starEach [e2, e3] X.env)).any (·.1) = false := by rfl) (hK : X.K = K := by rfl) :
    II K ξ W X (.Name n np) (.Call (.Name "zip" p) [e, e2, e3] [] pos) (eN gZip3 fs) := by
  obtain ⟨K, Kt⟩ := K; obtain rfl : X.K = K := hK
  refine PI.of (WD.pi_zip3 hg hm ha hs hpl) fun σr H Q q => ?_
  obtain ⟨N, ζ, μ, σ, wd, so, q⟩ := q
  refine (thenNI wd so q).mono fun xs H1 ⟨ζ1, μ1, ws, ev1, wd1, so1, r1, q1⟩ => ?_
  unfold gZip3 at q1
  split at q1
  · rename_i l m n'
    split at q1
    · rename_i hl
      obtain ⟨v, u, y, rfl, hv, hu, hy⟩ := RVs3 r1
      obtain ⟨p, vs, rfl, n1, g1, r2⟩ := rv_tup.mp (show rv _ (MM N ζ1 μ1) H1 v (.tup l) from hv)
      obtain ⟨p', vs', rfl, n1', g1', r2'⟩ := rv_tup.mp (show rv _ (MM N ζ1 μ1) H1 u (.tup m) from hu)
      obtain ⟨p'', vs'', rfl, n1'', g1'', r2''⟩ := rv_tup.mp (show rv _ (MM N ζ1 μ1) H1 y (.tup n') from hy)
      exact ⟨p, p', p'', vs, vs', vs'', rfl, SqT.of g1, SqT.of g1', SqT.of g1'', q1 ζ1 H1 _ Ev.refl wd1 (it_zip3 n1 n1' n1'' g1 g1' g1'' r2 r2' r2'' hl)⟩
    · exact q1.elim
  · exact q1.elim
end
end PM
/-! PM26: a comprehension over a list that may change, but does not while it is walked: the list is lent -/
namespace PM
open PySem PySem.Spec PyProof.Rows L2
open WD (MS upd_none)
def gLent (T : Tgt) (test : Sl → Store → R Bool) (elt : ME) (σ : Sl) (w : Val) (μ : Store) : R (List PV) := match w with
  | .c k => (match μ[k]? with
    | some (some (.lst items)) => (lcL T test elt items (wipeM σ T.sl) (μ.set k none)).bind fun ys μ2 => szF ys (μ2.set k (some (.lst items)))
    | _ => .stuck)
  | _ => .stuck
def lcC (fi : ME) (T : Tgt) (test : Sl → Store → R Bool) (elt : ME) : Sl → Store → R (List PV) := fun σ μ => (fi σ μ).bind fun w μ1 => gLent T test elt σ w μ1
section
variable {X : Cx} {K : KT} {ξ : Xi} {W : WX} {N : MS} {ζ ζ1 : List Addr} {μ μ1 : Store} {M : MS} {H H1 : Hp} {σr : L2.St} {σ : Sl} {tg it e : Expr} {T : Tgt} {fi : ME} {test : Sl → Store → R Bool} {elt : ME}
theorem lent_sub {k : Nat} {a : Addr} {c : Cell} (hk : μ[k]? = some (some c)) (ha : ζ[k]? = some a) : ∀ x, MM (WD.plus N a) ζ (μ.set k none) x → MM N ζ μ x := fun x z => by
  rcases z with z | z | z
  · exact .inl (Mof_dead x z)
  · exact .inr z
  · exact .inl ⟨k, c, by rw [z]; exact ha, hk⟩
theorem lent_sup {k : Nat} {a : Addr} {c : Cell} (wd : Wd K N ζ μ H) (hk : μ[k]? = some (some c)) (ha : ζ[k]? = some a) : ∀ x, MM N ζ μ x → MM (WD.plus N a) ζ (μ.set k none) x := fun x z => by
  rcases z with ⟨j, d, h1, h2⟩ | z
  · by_cases e : j = k
    · subst e
      rw [ha] at h1
      exact .inr (.inr (Option.some.inj h1).symm)
    · exact .inl ⟨j, d, h1, by rw [List.getElem?_set_ne (fun z => e z.symm)]; exact h2⟩
  · exact .inr (.inl z)
/-- a list is lent: it is set aside -/
theorem Wd.lend {k : Nat} {a : Addr} {c : Cell} (wd : Wd K N ζ μ H) (hk : μ[k]? = some (some c)) (ha : ζ[k]? = some a) : Wd K (WD.plus N a) ζ (μ.set k none) H :=
  ⟨by rw [List.length_set]; exact wd.len, fun i j b c c' h1 h2 h3 h4 => wd.inj i j b c c' h1 h2 (dead_live h3).1 (dead_live h4).1,
   fun j c' b h1 h2 => (wd.cell j c' b (dead_live h1).1 h2).st (fun _ _ h => h) (fun x n _ z => n (lent_sub hk ha x z)) (fun _ _ _ _ e => e) (fun _ _ e => e),
   fun b hb => by
    rcases hb with hb | hb
    · exact ⟨fun z => (wd.nd b hb).1 (Mof_dead b z), (wd.nd b hb).2⟩
    · rw [hb]
      refine ⟨fun ⟨j, d, h1, h2⟩ => ?_, (wd.cell k c a hk ha).obj⟩
      obtain ⟨h3, h4⟩ := dead_live h2
      exact h4 (wd.inj j k a d c h1 ha h3 hk), wd.tb⟩
theorem back_sub {k : Nat} {a : Addr} {c : Cell} (ha : ζ[k]? = some a) : ∀ x, MM N ζ (μ.set k (some c)) x → MM (WD.plus N a) ζ μ x := fun x z => by
  rcases z with ⟨j, d, h1, h2⟩ | z
  · by_cases e : k = j
    · subst e
      rw [ha] at h1
      exact .inr (.inr (Option.some.inj h1).symm)
    · exact .inl ⟨j, d, h1, by rw [List.getElem?_set_ne e] at h2; exact h2⟩
  · exact .inr (.inl z)
/-- what was lent comes back -/
theorem Wd.back {k : Nat} {a : Addr} {c : Cell} (wd : Wd K (WD.plus N a) ζ μ H) (ha : ζ[k]? = some a) (nN : ¬ N a) (hc : cellR K (ζ.take k) (MM (WD.plus N a) ζ μ) H a c) : Wd K N ζ (μ.set k (some c)) H := by
  have na : ¬ Mof ζ μ a := (wd.nd a (.inr rfl)).1
  have live : ∀ {j : Nat} {d : Cell} {b : Addr}, ζ[j]? = some b → (μ.set k (some c))[j]? = some (some d) → (j = k ∧ b = a ∧ d = c) ∨ (j ≠ k ∧ μ[j]? = some (some d)) := fun {j d b} h1 h2 => by
    by_cases e : k = j
    · subst e
      refine .inl ⟨rfl, by rw [ha] at h1; exact (Option.some.inj h1).symm, ?_⟩
      have hk : k < μ.length := by rw [← wd.len]; exact (List.getElem?_eq_some_iff.mp ha).1
      rw [List.getElem?_set_self hk] at h2
      exact (Option.some.inj (Option.some.inj h2)).symm
    · exact .inr ⟨fun z => e z.symm, by rw [List.getElem?_set_ne e] at h2; exact h2⟩
  refine ⟨by rw [List.length_set]; exact wd.len, fun i j b c1 c2 h1 h2 h3 h4 => ?_, fun j c' b h1 h2 => ?_, fun b hb => ⟨fun ⟨j, d, h1, h2⟩ => ?_, (wd.nd b (.inl hb)).2⟩, wd.tb⟩
  · rcases live h1 h3 with ⟨i1, b1, _⟩ | ⟨i1, g1⟩ <;> rcases live h2 h4 with ⟨j1, b2, _⟩ | ⟨j1, g2⟩
    · omega
    · exact absurd ⟨j, c2, by rw [← b1]; exact h2, g2⟩ na
    · exact absurd ⟨i, c1, by rw [← b2]; exact h1, g1⟩ na
    · exact wd.inj i j b c1 c2 h1 h2 g1 g2
  · rcases live h2 h1 with ⟨rfl, rfl, rfl⟩ | ⟨_, g⟩
    · exact hc.st (fun _ _ h => h) (fun x n _ z => n (back_sub ha x z)) (fun _ _ _ _ e => e) (fun _ _ e => e)
    · exact (wd.cell j c' b g h2).st (fun _ _ h => h) (fun x n _ z => n (back_sub ha x z)) (fun _ _ _ _ e => e) (fun _ _ e => e)
  · rcases live h1 h2 with ⟨_, e, _⟩ | ⟨_, g⟩
    · exact nN (e ▸ hb)
    · exact (wd.nd b (.inl hb)).1 ⟨j, d, h1, g⟩
/-- a comprehension's turns -/
theorem lc_run {D : Addr} {Q : VK} {J : It} {items ys : List PV} {μ4 : Store} (wd1 : Wd K N ζ1 μ1 H1) (so1 : Sok K ξ ζ1 (MM N ζ1 μ1) H1 σr σ) (hD : H1 D = none)
    (ok : ∀ ζ' μ' H', Ev K.tb ζ1 μ1 H1 ζ' μ' H' → Wd K (WD.plus N D) ζ' μ' H' → (∀ (i : Nat) d, items[i]? = some d → J.go i H' ∧ ∀ x H2, J.yld i H' x H2 → Grow H' H2 ∧ rv K (MM (WD.plus N D) ζ' μ') H2 x d) ∧ J.stop items.length H')
    (hl : lcL T test elt items (wipeM σ T.sl) μ1 = .ok ys μ4) (hz : ys.length ≤ sizeLine)
    (post : ∀ ζ' H' vs, Ev K.tb ζ1 μ1 H1 ζ' μ4 H' → Wd K (WD.plus N D) ζ' μ4 H' → H' D = some (.lst vs) → rvs K (MM (WD.plus N D) ζ' μ4) H' vs ys → Q (.ref D) H') :
    ∃ Wi : Nat → Nat → Hp → Prop, (∃ m, Wi 0 m (upd H1 D (.lst []))) ∧ ∀ i m H, Wi i m H →
      (J.stop i H ∧ Q (.ref D) H) ∨ (J.go i H ∧ ∃ Nx : Hp → Prop, (∀ H', Nx H' → ∃ m', m' < m ∧ Wi (i + 1) m' H') ∧ ∀ x H', J.yld i H x H' → tG K ξ T x (L2.wipe σr T.sl) H' fun σ2 H2 => L2.wipe σ2 T.sl = L2.wipe σr T.sl ∧ tT K ξ W0 test σ2 H2 fun b H3 =>
        if b = true then tE K ξ W0 elt σ2 H3 fun y H4 => ∃ acc, H4 D = some (.lst acc) ∧ acc.length < sizeLine ∧ Nx (upd H4 D (.lst (acc ++ [y]))) else Nx H3) := by
  refine ⟨fun i m H' => ∃ ζ' μ' acc vs zs, i ≤ items.length ∧ m = items.length - i ∧ Ev K.tb ζ1 μ1 H1 ζ' μ' H' ∧ Wd K (WD.plus N D) ζ' μ' H' ∧ H' D = some (.lst vs) ∧ rvs K (MM (WD.plus N D) ζ' μ') H' vs acc ∧ lcL T test elt (items.drop i) (wipeM σ T.sl) μ' = .ok zs μ4 ∧ acc ++ zs = ys,
    ⟨_, ζ1, μ1, [], [], ys, Nat.zero_le _, rfl, Ev.new hD, wd1.aside (Grow.upd hD) hD ⟨_, upd_same, rfl, rfl⟩, upd_same, rvs_nil, hl, rfl⟩, ?_⟩
  rintro i m H' ⟨ζ', μ', acc, vs, zs, hi, hm, ev', wd', hD', ra, q', hys⟩
  have na : ∀ a, ¬ MM N ζ1 μ1 a → ¬ nn K.tb (H1 a) → ¬ MM (WD.plus N D) ζ' μ' a := fun a n ne z => by
    rcases z with z | z | z
    · exact (ev'.ml a z).elim (fun z => n (.inl z)) ne
    · exact n (.inr z)
    · exact ne (nn_none (by rw [z]; exact hD))
  obtain ⟨k1, k2⟩ := ok ζ' μ' H' ev' wd'
  have hDM : MM (WD.plus N D) ζ' μ' D := .inr (.inr rfl)
  have hlen := rvs_len ra
  by_cases hlt : i < items.length
  · refine .inr ?_
    have hd : items.drop i = items[i] :: items.drop (i + 1) := List.drop_eq_getElem_cons hlt
    obtain ⟨kgo, ky⟩ := k1 i _ (List.getElem?_eq_getElem hlt)
    refine ⟨kgo, fun H2 => ∃ ζ2 μ2 acc2 vs2 zs2, i + 1 ≤ items.length ∧ Ev K.tb ζ1 μ1 H1 ζ2 μ2 H2 ∧ Wd K (WD.plus N D) ζ2 μ2 H2 ∧ H2 D = some (.lst vs2) ∧ rvs K (MM (WD.plus N D) ζ2 μ2) H2 vs2 acc2 ∧ lcL T test elt (items.drop (i + 1)) (wipeM σ T.sl) μ2 = .ok zs2 μ4 ∧ acc2 ++ zs2 = ys,
      fun H2 ⟨ζ2, μ2, acc2, vs2, zs2, a1, a2, a3, a4, a5, a6, a7⟩ => ⟨items.length - (i + 1), by omega, ζ2, μ2, acc2, vs2, zs2, a1, rfl, a2, a3, a4, a5, a6, a7⟩, fun x Hy hy => ?_⟩
    obtain ⟨gr, rx⟩ := ky x Hy hy
    rw [hd] at q'
    unfold lcL at q'
    cases ea : asg T (.t items[i]) (wipeM σ T.sl) with
    | none => rw [ea] at q'; cases q'
    | some σ1 =>
      rw [ea] at q'
      dsimp only at q'
      have wdy := wd'.fr0 gr
      have evy : Ev K.tb ζ1 μ1 H1 ζ' μ' Hy := ev'.trans gr.ev
      have soy : Sok K ξ ζ' (MM (WD.plus N D) ζ' μ') Hy (L2.wipe σr T.sl) (wipeM σ T.sl) := (so1.wipe T.sl).aside ev'.pre na (fun a o t n h => gr a o (ev'.keep a o t n h))
      refine ⟨WD.plus N D, ζ', μ', wipeM σ T.sl, .t items[i], σ1, wdy, soy, rx, ea, fun σr1 so1 ag => ⟨?_, WD.plus N D, ζ', μ', σ1, wdy, so1, ?_⟩⟩
      · have h1 := ag.wipe
        rw [h1]
        refine List.ext_getElem? fun j => ?_
        rw [wipe_get, wipe_get]
        by_cases hj : j ∈ T.sl
        · rw [if_pos hj, if_pos hj, wipe_length]
        · rw [if_neg hj, if_neg hj]
      · cases et : test σ1 μ' with
        | stuck => rw [et] at q'; cases q'
        | ex c f μ2 => rw [et] at q'; cases q'
        | ok b μ2 =>
          rw [et] at q'
          intro ζ2 H2 ev2 wd2
          cases b with
          | false =>
            refine iteF ⟨ζ2, μ2, acc, vs, zs, hlt, evy.trans ev2, wd2, ?_, ?_, q', hys⟩
            · exact ev2.fr.keep _ _ rfl (fun z => (wdy.nd D (.inr rfl)).1 z) (gr _ _ hD')
            · exact ev2.rvs (gr.rvs ra)
          | true =>
            refine iteT ⟨WD.plus N D, ζ2, μ2, σ1, wd2, so1.ev ev2, ?_⟩
            have q2 : ((elt σ1 μ2).noex.bind fun w μ2 => (gT w μ2).bind fun y μ3 => (lcL T test elt (items.drop (i + 1)) (wipeM σ T.sl) μ3).bind fun ys μ4 => R.ok (y :: ys) μ4) = .ok zs μ4 := q'
            cases ee : elt σ1 μ2 with
            | stuck => rw [ee] at q2; cases q2
            | ex c f μ3 => rw [ee] at q2; cases q2
            | ok w μ3 =>
              rw [ee] at q2
              intro ζ3 H3 y ev3 wd3 r3
              cases w with
              | c _ => cases q2
              | x _ _ => cases q2
              | s _ => cases q2
              | g _ _ => cases q2
              | self => cases q2
              | lam _ _ => cases q2
              | t y' =>
                have q3 : ((lcL T test elt (items.drop (i + 1)) (wipeM σ T.sl) μ3).bind fun ys μ4 => R.ok (y' :: ys) μ4) = .ok zs μ4 := q2
                have hD3 : H3 D = some (.lst vs) := ev3.fr.keep _ _ rfl (fun z => (wd2.nd D (.inr rfl)).1 z) (ev2.fr.keep _ _ rfl (fun z => (wdy.nd D (.inr rfl)).1 z) (gr _ _ hD'))
                have hDM3 : MM (WD.plus N D) ζ3 μ3 D := .inr (.inr rfl)
                cases el : lcL T test elt (items.drop (i + 1)) (wipeM σ T.sl) μ3 with
                | stuck => rw [el] at q3; cases q3
                | ex c f μ4 => exact (lcL_noex el).elim
                | ok ws μ5 =>
                  rw [el] at q3
                  have q4 : R.ok (y' :: ws) μ5 = .ok zs μ4 := q3
                  obtain ⟨rfl, rfl⟩ : y' :: ws = zs ∧ μ5 = μ4 := by cases q4; exact ⟨rfl, rfl⟩
                  have hsz : vs.length < sizeLine := by
                    rw [← hys, List.length_append, List.length_cons] at hz
                    omega
                  exact ⟨vs, hD3, hsz, ζ3, μ3, acc ++ [y'], vs ++ [y], ws, hlt, ((evy.trans ev2).trans ev3).mutNew (nn_none hD), wd3.mutN (.inr rfl) hD3, upd_same, rvs_app (rvs_mutN hDM3 (ev3.rvs (ev2.rvs (gr.rvs ra)))) (rvs_cons.mpr ⟨rv_mutN hDM3 r3, rvs_nil⟩), el, by rw [List.append_assoc]; exact hys⟩
  · refine .inl ?_
    have hi2 : i = items.length := by omega
    subst hi2
    rw [List.drop_length] at q'
    have q2 : R.ok ([] : List PV) μ' = .ok zs μ4 := q'
    obtain ⟨rfl, rfl⟩ : [] = zs ∧ μ' = μ4 := by cases q2; exact ⟨rfl, rfl⟩
    rw [List.append_nil] at hys
    subst hys
    exact ⟨k2, post ζ' H' vs ev' wd' hD' ra⟩
theorem rd_lcC {Q : VK} (q : tF K ξ W (lcC fi T test elt) σr H Q) : tLc (iList K.fr (tE K ξ W fi)) (tG K ξ T) (tT K ξ W0 test) (tE K ξ W0 elt) T.sl σr H Q := by
  obtain ⟨N, ζ, μ, σ, wd, so, q⟩ := q
  refine ⟨N, ζ, μ, σ, wd, so, ?_⟩
  unfold lcC at q
  cases e : fi σ μ with
  | stuck => rw [e] at q; exact q
  | ex c f μ1 => rw [e] at q; exact q
  | ok w μ1 =>
    rw [e] at q
    intro ζ1 H1 v ev1 wd1 r1
    have q1 : PostF K W N ζ1 μ1 H1 σr Q (gLent T test elt σ w μ1) := PostF.ev ev1 q
    have so1 := so.ev ev1
    cases w with
    | c k =>
      obtain ⟨a, ha, rfl⟩ := r1
      simp only [gLent] at q1
      split at q1
      · rename_i items hk
        obtain ⟨vs0, hv0, rv0⟩ := wd1.cell k _ a hk ha
        refine ⟨a, rfl, ⟨vs0, SqL.of hv0⟩, fun D hD => ?_⟩
        have nN : ¬ N a := fun z => (wd1.nd a z).1 ⟨k, _, ha, hk⟩
        have wdL := wd1.lend hk ha
        have soL : Sok K ξ ζ1 (MM (WD.plus N a) ζ1 (μ1.set k none)) H1 σr σ := so1.aside (fun _ _ h => h) (fun x n _ z => n (lent_sub hk ha x z)) (fun _ _ _ _ h => h)
        cases el : lcL T test elt items (wipeM σ T.sl) (μ1.set k none) with
        | stuck => rw [el] at q1; exact q1.elim
        | ex c f μ4 => exact (lcL_noex el).elim
        | ok ys μ4 =>
          rw [el] at q1
          have q2 : PostF K W N ζ1 μ1 H1 σr Q (szF ys (μ4.set k (some (.lst items)))) := q1
          unfold szF at q2
          split at q2
          · rename_i hz
            have keepA : ∀ {ζ' : List Addr} {μ' : Store} {H' : Hp}, Ev K.tb ζ1 (μ1.set k none) H1 ζ' μ' H' → H' a = some (.lst vs0) := fun {ζ' μ' H'} ev => ev.fr.keep a _ rfl (wdL.nd a (.inr rfl)).1 hv0
            have keepI : ∀ {ζ' : List Addr} {μ' : Store} {H' : Hp}, Ev K.tb ζ1 (μ1.set k none) H1 ζ' μ' H' → rvs K (MM (WD.plus N a) ζ' μ') H' vs0 items := fun {ζ' μ' H'} ev => ev.rvs (rvs_wk (lent_sub hk ha) rv0)
            refine lc_run (N := WD.plus N a) (ys := ys) (μ4 := μ4) wdL soL hD (fun ζ' μ' H' ev' wd' => ?_) el hz fun ζ' H' vs ev' wd' hD' rD => ?_
            · have rI : rvs K (MM (WD.plus (WD.plus N a) D) ζ' μ') H' vs0 items := rvs_st (fun x n ne z => by
                rcases z with z | z | z
                · exact (ev'.ml x z).elim (fun z => n (.inl (Mof_dead x z))) ne
                · rcases z with z | z
                  · exact n (.inr z)
                  · exact n (.inl ⟨k, _, by rw [z]; exact ha, hk⟩)
                · exact ne (nn_none (by rw [z]; exact hD))) (fun x o t n h => ev'.fr.keep x o t (fun z => n (.inl (Mof_dead x z))) h) items vs0 rv0
              have hA := keepA ev'
              have hlen := rvs_len rI
              refine ⟨fun i d hi => ?_, ⟨vs0, SqL.of hA, by rw [hlen]; exact Nat.le_refl _⟩⟩
              obtain ⟨x, hx, rx⟩ := rvs_at rI hi
              refine ⟨⟨vs0, x, SqL.of hA, hx⟩, fun y H2 hy => ?_⟩
              obtain ⟨rfl, hy2⟩ := hy
              have hyx := hy2 vs0 (SqL.of hA)
              rw [hx] at hyx
              cases hyx
              exact ⟨fun _ _ h => h, rx⟩
            · have haz : ζ'[k]? = some a := ev'.pre k a ha
              have hA := keepA ev'
              have nNa : ¬ WD.plus N D a := fun z => z.elim nN fun z => by rw [z, hD] at hv0; cases hv0
              have wdS : Wd K (WD.plus (WD.plus N D) a) ζ' μ4 H' :=
                ⟨wd'.len, wd'.inj, fun j c b h1 h2 => (wd'.cell j c b h1 h2).st (fun _ _ h => h) (fun x n _ z => n (by
                  rcases z with z | (z | z) | z
                  · exact .inl z
                  · exact .inr (.inl (.inl z))
                  · exact .inr (.inr z)
                  · exact .inr (.inl (.inr z)))) (fun _ _ _ _ e => e) (fun _ _ e => e), fun b hb => wd'.nd b (by
                  rcases hb with (z | z) | z
                  · exact .inl (.inl z)
                  · exact .inr z
                  · exact .inl (.inr z)), wd'.tb⟩
              have rI : rvs K (MM (WD.plus (WD.plus N D) a) ζ' μ4) H' vs0 items := rvs_st (fun x n ne z => by
                rcases z with z | (z | z) | z
                · exact (ev'.ml x z).elim (fun z => n (.inl (Mof_dead x z))) ne
                · exact n (.inr z)
                · exact ne (nn_none (by rw [z]; exact hD))
                · exact n (.inl ⟨k, _, by rw [z]; exact ha, hk⟩)) (fun x o t n h => ev'.fr.keep x o t (fun z => n (.inl (Mof_dead x z))) h) items vs0 rv0
              have wdB : Wd K (WD.plus N D) ζ' (μ4.set k (some (.lst items))) H' := wdS.back haz nNa ⟨vs0, hA, rI⟩
              refine q2 ζ' H' D vs ⟨ev'.pre, ⟨fun x o t n h => ev'.fr.keep x o t (fun z => n (Mof_dead x z)) h, ev'.fr.dom⟩, fun x hx => ?_⟩ wdB (nn_none hD) hD' (rvs_st (fun x n ne z => n (by
                rcases back_sub haz x z with z | (z | z) | z
                · exact .inl z
                · exact .inr (.inl (.inl z))
                · exact .inr (.inr z)
                · exact .inr (.inl (.inr z)))) (fun _ _ _ _ h => h) ys vs rD)
              obtain ⟨j, d, h1, h2⟩ := hx
              by_cases e : k = j
              · subst e
                rw [haz] at h1
                exact .inl ⟨k, _, by rw [← Option.some.inj h1]; exact ha, hk⟩
              · rw [List.getElem?_set_ne e] at h2
                exact (ev'.ml x ⟨j, d, h1, h2⟩).elim (fun z => .inl (Mof_dead x z)) .inr
          · exact q2.elim
      · exact q1.elim
    | t _ => exact q1.elim
    | x _ _ => exact q1.elim
    | s _ => exact q1.elim
    | g _ _ => exact q1.elim
    | self => exact q1.elim
    | lam _ _ => exact q1.elim
theorem f_lcC (h : PE X e (tLc (iList K.fr (tE K ξ W fi)) (tG K ξ T) (tT K ξ W0 test) (tE K ξ W0 elt) T.sl)) : IF K ξ W X e (lcC fi T test elt) := PE.of h fun _ _ _ q => rd_lcC q
theorem s_lcTC {st : Stmt} {i : Nat} (h : PS X st (tAsg (tLc (iList K.fr (tE K ξ W fi)) (tG K ξ T) (tT K ξ W0 test) (tE K ξ W0 elt) T.sl) (gName i))) : IS K ξ W X st (sAsg (.nm i) (eOfF (lcC fi T test elt))) := s_asgR h fun _ _ _ q => rd_lcC (r_ofF q)
theorem s_lcCC {st : Stmt} {i : Nat} (h : PS X st (tAsg (tLc (iList K.fr (tE K ξ W fi)) (tG K ξ T) (tT K ξ W0 test) (tE K ξ W0 elt) T.sl) (gName i))) : IS K ξ W X st (sAsg (.nm i) (eCellF (lcC fi T test elt))) := s_asgR h fun _ _ _ q => rd_lcC (r_cellF q)
end
end PM
/-! PM27: what a law never reaches; a law that makes lambdas itself -/
namespace PM
open PySem PySem.Spec PyProof.Rows L2
open WD (MS upd_none)
def eDead : ME := fun _ _ => .stuck
def fDead : Sl → Store → R (List PV) := fun _ _ => .stuck
def sDead : MSt := fun _ _ => .stuck
section
variable {X : Cx} {K : KT} {ξ : Xi} {W : WX} {e : Expr} {st : Stmt} {ss : List Stmt}
theorem i_dead : IE K ξ W X e eDead := ⟨fun pins s σ H Q I h => by
  obtain ⟨N, ζ, μ, σm, wd, so, q⟩ := h
  exact q.elim⟩
theorem f_dead : IF K ξ W X e fDead := ⟨fun pins s σ H Q I h => by
  obtain ⟨N, ζ, μ, σm, wd, so, q⟩ := h
  exact q.elim⟩
theorem s_dead : IS K ξ W X st sDead := ⟨fun pins s σ H D I h => by
  obtain ⟨N, ζ, μ, σm, wd, so, q⟩ := h
  exact q.elim⟩
theorem ss_dead : ISs K ξ W X ss sDead := ⟨fun pins s σ H D I h => by
  obtain ⟨N, ζ, μ, σm, wd, so, q⟩ := h
  exact q.elim⟩
end
section
variable {P : Program} {w : World} {K : KT} {mg : Str → Option Value} {base : Heap} {x qual : Str} {params : Arguments} {body : List Stmt} {scope : Scope} {f : Addr} {fd : FuncData} {Nm : List Str} {k : Nat} {b : MSt}
/-- a law whose code object is asked for -/
theorem law_okC (F : FunD K x qual params body scope [] [] f fd) (S : FnScope Nm ["_law_script"] scope) (hb : ∀ ns : List Int, ns.length ≤ 63 → fnOf Nm.length b [.s ns] [] = .ok (.t (.bl true)) [])
    (D : ∀ (A : Around) (outer : List Env) (s : Shared) (H : Hp) (E : XK), Room k (A.deeper (envOfC qual scope s.heap.objs.size f (codeOf K f))) → ISs K none W0 (cxOf CX0 P w K mg base Nm qual scope f (codeOf K f) A outer s H E).nox body b) :
    FnOk P w K mg base CX0 (k + 1) f fd ["_law_script"] (spLaw K) := by
  have len : ∀ vs H Q E, spLaw K vs H Q E → vs.length = ["_law_script"].length := fun vs H Q E h => by
    obtain ⟨a, ns, rfl, _⟩ := h
    rfl
  obtain ⟨oc, od, dV, kV, doc, pm, an, cdv, ct, osl, rfl, lk, hcg, _, _⟩ := F.ex
  have e : codeOf K f = cdv := by unfold codeOf; rw [lk]
  subst e
  refine ⟨len, fun A outer s H args us vs Q E hr e0 hbd r hsp => LamX.run_ofS lk hcg S hr e0 hbd r (len _ _ _ _ hsp) fun hr' => ?_⟩
  exact ⟨_, PSs.nox (D A outer s H E hr'), law_read (b := b) (Nm := Nm) hb hsp⟩
end
end PM
/-! PM28: calls with keywords, with defaults -/
namespace WD
open PySem PySem.Spec PyProof.Rows L2
/-- where a parameter's value comes from: a place, a keyword, a default -/
inductive Pk where
  | pos (i : Nat)
  | kw (i : Nat)
  | df (i : Nat)
def Pk.get {α : Type} (us its ws : List α) : Pk → Option α
  | .pos i => us[i]?
  | .kw i => ws[i]?
  | .df i => its[i]?
def pickG {α : Type} (l : List Pk) (us its ws : List α) : List α := match l with
  | [] => []
  | p :: l => (p.get us its ws).toList ++ pickG l us its ws
theorem vals_at : ∀ {vs : List V} {us : List Value} (i : Nat), Vals vs us → (vs[i]? = none ∧ us[i]? = none) ∨ ∃ v u, vs[i]? = some v ∧ us[i]? = some u ∧ RelV v u
  | [], _, i, .nil => .inl ⟨rfl, rfl⟩
  | v :: vs, u :: us, 0, .cons r _ => .inr ⟨v, u, rfl, rfl, r⟩
  | v :: vs, u :: us, i + 1, .cons _ t => by simpa using vals_at i t
theorem pick_vals {vs ds zs : List V} {us its ws : List Value} (r1 : Vals vs us) (r2 : Vals ds its) (r3 : Vals zs ws) : ∀ l : List Pk, Vals (pickG l vs ds zs) (pickG l us its ws)
  | [] => .nil
  | p :: l => by
    have ih := pick_vals r1 r2 r3 l
    have key : ∀ (o : Option V) (o' : Option Value), ((o = none ∧ o' = none) ∨ ∃ v u, o = some v ∧ o' = some u ∧ RelV v u) → Vals (o.toList ++ pickG l vs ds zs) (o'.toList ++ pickG l us its ws) := fun o o' h => by
      rcases h with ⟨rfl, rfl⟩ | ⟨v, u, rfl, rfl, r⟩
      · exact ih
      · exact .cons r ih
    cases p with
    | pos i => exact key _ _ (vals_at i r1)
    | kw i => exact key _ _ (vals_at i r3)
    | df i => exact key _ _ (vals_at i r2)
structure CalN (P : Program) (w : World) (K : PySem.W.Frag) (mg : Str → Option Value) (base : Heap) (CX : CXT) (k : Nat) (x : Str) (f : Addr) (sp : Sp) (n : Nat) (ks : List Str) (gV : List V → List V → List V) : Prop where
  ex : ∃ (fd : FuncData) (ps : List Str) (g : List Value → List Value → List Value), FnOk P w K mg base CX k f fd ps sp ∧ KBn K fd ps n ks g gV
  kp : PySem.W.keepIn K (.ref f) = true
  g : mg x = some (.ref f)
section
variable {K : PySem.W.Frag} {x qual : Str} {params : Arguments} {body : List Stmt} {scope : Scope} {dvs : List V} {kws : List (Str × V)} {f : Addr} {fd : FuncData} {ps : List Str}
/-- defaults, or a keyword, at a def that has defaults -/
theorem kbnD (F : FunD K x qual params body scope dvs kws f fd) (n : Nat) (ks : List Str) (l : List Pk) (hd : dvs ≠ [])
    (h : ∀ (T : Addr) (kV doc pm : Value) (an : Option Addr) (cdv ct : Value) (us its ws : List Value), us.length = n → its.length = dvs.length → ws.length = ks.length →
      ∃ k, bindArgs (PySem.W.fnOf x qual params body scope (.ref T) kV doc pm an cdv ct) ⟨us, ks.zip ws⟩ = seqItems? (.ref T) >>= k ∧ k (some its.toArray) = pure (ps.zip (pickG l us its ws))) :
    ∃ g, KBn K fd ps n ks g (fun vs zs => pickG l vs dvs zs) := by
  obtain ⟨its, hk⟩ := F.kbindsD (ps := ps) n ks (fun us its ws => pickG l us its ws) hd (fun r1 r2 r3 => pick_vals r1 r2 r3 l) h
  exact ⟨_, hk⟩
/-- a keyword at a def without defaults -/
theorem kbn0 (F : FunD K x qual params body scope [] kws f fd) (n : Nat) (ks : List Str) (l : List Pk)
    (h : ∀ (kV doc pm : Value) (an : Option Addr) (cdv ct : Value) (us ws : List Value), us.length = n → ws.length = ks.length →
      bindArgs (PySem.W.fnOf x qual params body scope .none kV doc pm an cdv ct) ⟨us, ks.zip ws⟩ = pure (ps.zip (pickG l us [] ws))) :
    ∃ g, KBn K fd ps n ks g (fun vs zs => pickG l vs [] zs) := by
  obtain ⟨oc, od, dV, kV, doc, pm, an, cdv, ct, osl, rfl, lk, hcd, hD, hK⟩ := F.ex
  rcases hD with ⟨_, rfl⟩ | ⟨e, _⟩
  · refine ⟨fun us ws => pickG l us [] ws, ⟨fun s us ws X l1 l2 => ?_, fun r1 r2 => pick_vals r1 .nil r2 l⟩⟩
    refine BindsTo.of_looks fun M => ?_
    exact .of_pure (h kV doc pm an cdv ct us ws l1 l2)
  · exact absurd rfl e
end
def tCallNS (n m : Nat) (sp : Sp) (gV : List V → List V → List V) (E : L2.St → XK) (t tk : TA) : TE := fun σ H Q => t σ H fun vs H1 => tk σ H1 fun zs H2 => vs.length = n ∧ zs.length = m ∧ sp (gV vs zs) H2 Q (E σ)
section
variable {X : Cx} {CX : CXT} {k n : Nat} {f : Addr} {fd : FuncData} {ps ks : List Str} {sp : Sp} {E : L2.St → XK} {x : Str} {p pos : Pos} {e : Expr} {es : List Expr} {kws : List Keyword} {t tk : TA} {g : List Value → List Value → List Value} {gV : List V → List V → List V} {W : WX}
theorem run_fnNS {pins : List (Addr × Obj)} {σ : L2.St} {H : Hp} {s : Shared} {Q : VK} {us ws : List Value} {vs zs : List V} (F : FnOk X.prog X.w X.K X.mg X.base CX k f fd ps sp) (hr : Room k X.A) (hb : KBn X.K fd ps n ks g gV) (hx : PassesAt CX X σ (E σ))
    (I : Inv X pins σ H s) (r : Vals vs us) (rz : Vals zs ws) (l1 : vs.length = n) (l2 : zs.length = ks.length) (h : sp (gV vs zs) H Q (E σ)) : wpAny (model X.prog X.w) X.A (call (.ref f) us (ks.zip ws)) (EP X pins σ Q) X.xe s := by
  have r2 := hb.rel r rz
  refine wpAny_call (codeAny_mono (F.run X.A X.stack s H ⟨us, ks.zip ws⟩ (g us ws) (gV vs zs) Q (E σ) hr I.env0 (hb.to s us ws I.kIn (r.length.symm.trans l1) (rz.length.symm.trans l2)) r2 h) fun r s' hq => ?_)
  cases r with
  | error e => exact hx pins H s e s' I hq
  | ok fl =>
    cases fl with
    | ret u => exact I.after hq
    | next => exact False.elim hq
    | brk => exact False.elim hq
    | cont => exact False.elim hq
theorem pe_calN (c : CalN X.prog X.w X.K X.mg X.base (L2.CX X.prog X.w) k x f sp n ks gV) (tk' : Takes X W) (hr : Room k X.A) (hg : Gl X x)
    (ha : PA X (e :: es) t) (hkw : PK X kws tk) (hall : (backToKw pos (keywordEach kws X.env)).all (·.1.isSome) = true := by rfl) (hks : (backToKw pos (keywordEach kws X.env)).filterMap (·.1) = ks := by rfl)
    (hdb : (x == ("__debug__" : Str)) = false := by decide) (he : starEach (e :: es) X.env = (false, eval e X.env) :: starEach es X.env := by rfl)
    (hpl : ((backTo pos (starEach (e :: es) X.env)).any (·.1) || (backToKw pos (keywordEach kws X.env)).any (·.1.isNone)) = false := by rfl) :
    PE X (.Call (.Name x p) (e :: es) kws pos) (tCallNS n ks.length sp gV (WE W) t tk) := by
  obtain ⟨fd, ps, g, F, hb⟩ := c.ex
  refine ⟨fun pins s σ H Q I h => ?_⟩
  refine wpAny_Call_Name_kw (ld_glob I hg c.g ?_ hdb)
  refine PySem.W.callWith_KW (h₀ := X.base) I.ok.mod.kin c.kp hall (thn (ha.run pos pins s σ H _ I h) fun us s1 ⟨vs, H1, I1, r, q⟩ => ?_) hpl he
  refine thn (hkw.run pos pins s1 σ H1 _ I1 q) fun ws s2 ⟨zs, H2, I2, rz, l1, l2, q2⟩ => ⟨I2.kIn, ?_⟩
  rw [hks]
  exact run_fnNS F hr hb (passAt tk' σ) I2 r rz l1 l2 q2
end
end WD
namespace PM
open PySem PySem.Spec PyProof.Rows L2
open WD (MS upd_none Pk pickG)
def dfV : PV → V
  | .int i => .int i
  | .bl b => .bl b
  | _ => .non
def dfOk : PV → Bool
  | .int _ => true
  | .bl _ => true
  | .non => true
  | _ => false
/-- a call whose parameters come from places, keywords and defaults -/
def gPick (n m : Nat) (l : List Pk) (dfs : List PV) (N : Nat) (fn : Fn) (ws zs : List Val) (μ : Store) : R Val := if ws.length = n ∧ zs.length = m ∧ dfs.all dfOk = true then gCall N fn (pickG l ws (dfs.map .t) zs) μ else .stuck
def eKw (g : List Val → List Val → Store → R Val) (fs fk : Sl → Store → R (List Val)) : ME := fun σ μ => (fs σ μ).bind fun ws μ1 => (fk σ μ1).bind fun zs μ2 => g ws zs μ2
section
variable {X : Cx} {K : KT} {ξ : Xi} {W : WX} {N : MS} {ζ : List Addr} {μ : Store} {M : MS} {H : Hp} {σr : L2.St} {σ : Sl} {e a : Expr} {es : List Expr} {kws : List Keyword} {fa : ME} {fs fk : Sl → Store → R (List Val)} {pos kpos : Pos} {nm : Option Str}
abbrev IK (K : KT) (ξ : Xi) (W : WX) (X : Cx) (kws : List Keyword) (f : Sl → Store → R (List Val)) : Prop := PK X kws (tA K ξ W f)
theorem PK.of {t t' : TA} (h : PK X kws t) (k : ∀ σ H Q, t' σ H Q → t σ H Q) : PK X kws t' := ⟨fun pos pins s σ H Q I q => h.run pos pins s σ H Q I (k σ H Q q)⟩
theorem k_nil : IK K ξ W X [] aNil := PK.of pk_nil fun σr H Q q => by
  obtain ⟨N, ζ, μ, σ, wd, so, q⟩ := q
  exact q ζ H [] Ev.refl wd trivial
theorem k_cons (ha : IE K ξ W X a fa) (hs : IK K ξ W X kws fs) : IK K ξ W X (⟨nm, a, kpos⟩ :: kws) (aCons fa fs) := PK.of (pk_cons ha hs) fun σr H Q q => by
  obtain ⟨N, ζ, μ, σ, wd, so, q⟩ := q
  refine (then1A wd so q).mono fun x H1 ⟨ζ1, μ1, w1, ev1, wd1, so1, r1, q1⟩ => ?_
  refine (thenNA wd1 so1 q1).mono fun xs H2 ⟨ζ2, μ2, ws, ev2, wd2, r2, q2⟩ => ?_
  exact q2 ζ2 H2 (x :: xs) Ev.refl wd2 ⟨r1.ev ev2, r2⟩
theorem RVs.at : ∀ {vs : List V} {ws : List Val} (i : Nat), RVs K ξ ζ M H vs ws → (vs[i]? = none ∧ ws[i]? = none) ∨ ∃ v w, vs[i]? = some v ∧ ws[i]? = some w ∧ RV K ξ ζ M H v w
  | [], [], i, _ => .inl ⟨rfl, rfl⟩
  | v :: vs, w :: ws, 0, h => .inr ⟨v, w, rfl, rfl, h.1⟩
  | v :: vs, w :: ws, i + 1, h => by simpa using RVs.at i h.2
  | [], _ :: _, _, h => h.elim
  | _ :: _, [], _, h => h.elim
theorem pick_RVs {vs ds zs : List V} {us its ws : List Val} (r1 : RVs K ξ ζ M H vs us) (r2 : RVs K ξ ζ M H ds its) (r3 : RVs K ξ ζ M H zs ws) : ∀ l : List Pk, RVs K ξ ζ M H (pickG l vs ds zs) (pickG l us its ws)
  | [] => trivial
  | p :: l => by
    have ih := pick_RVs r1 r2 r3 l
    have key : ∀ (o : Option V) (o' : Option Val), ((o = none ∧ o' = none) ∨ ∃ v u, o = some v ∧ o' = some u ∧ RV K ξ ζ M H v u) → RVs K ξ ζ M H (o.toList ++ pickG l vs ds zs) (o'.toList ++ pickG l us its ws) := fun o o' h => by
      rcases h with ⟨rfl, rfl⟩ | ⟨v, u, rfl, rfl, r⟩
      · exact ih
      · exact ⟨r, ih⟩
    cases p with
    | pos i => exact key _ _ (r1.at i)
    | kw i => exact key _ _ (r3.at i)
    | df i => exact key _ _ (r2.at i)
theorem dfs_RVs : ∀ {dfs : List PV}, dfs.all dfOk = true → RVs K ξ ζ M H (dfs.map dfV) (dfs.map .t)
  | [], _ => trivial
  | d :: dfs, h => by
    rw [List.all_cons, Bool.and_eq_true] at h
    refine ⟨?_, dfs_RVs h.2⟩
    show rv K M H (dfV d) d
    cases d with
    | int i => exact rv_int.mpr rfl
    | bl b => exact rv_bl.mpr rfl
    | non => exact rv_non.mpr rfl
    | _ => exact absurd h.1 (by simp [dfOk])
theorem thenKw {g : List Val → List Val → Store → R Val} {Q : VK} (wd : Wd K N ζ μ H) (so : Sok K ξ ζ (MM N ζ μ) H σr σ) (h : PostE K ξ W N ζ μ H σr Q (eKw g fs fk σ μ)) :
    tA K ξ W fs σr H fun vs H1 => tA K ξ W fk σr H1 fun zs H2 => ∃ ζ2 μ2 ws us, Wd K N ζ2 μ2 H2 ∧ RVs K ξ ζ2 (MM N ζ2 μ2) H2 vs ws ∧ RVs K ξ ζ2 (MM N ζ2 μ2) H2 zs us ∧ PostE K ξ W N ζ2 μ2 H2 σr Q (g ws us μ2) := by
  refine (thenN (g := fun ws μ1 => (fk σ μ1).bind fun zs μ2 => g ws zs μ2) wd so h).mono fun vs H1 ⟨ζ1, μ1, ws, ev1, wd1, so1, r1, q1⟩ => ?_
  refine (thenN (g := fun zs μ2 => g ws zs μ2) wd1 so1 q1).mono fun zs H2 ⟨ζ2, μ2, us, ev2, wd2, so2, r2, q2⟩ => ?_
  exact ⟨ζ2, μ2, ws, us, wd2, r1.ev ev2, r2, q2⟩
/-- f(e, .., k = v, ..), with defaults -/
theorem i_callK {k n N' : Nat} {ks : List Str} {l : List Pk} {dfs : List PV} {x : Str} {f : Addr} {fn : Fn} {p : Pos} (c : WD.CalN X.prog X.w X.K X.mg X.base (L2.CX X.prog X.w) k x f (SpF K N' fn) n ks (fun vs zs => pickG l vs (dfs.map dfV) zs)) (tk : Takes X W) (hr : Room k X.A) (hg : Gl X x) (ha : IA K ξ W X (e :: es) fs) (hkw : IK K ξ W X kws fk)
    (hall : (backToKw pos (keywordEach kws X.env)).all (·.1.isSome) = true := by rfl) (hks : (backToKw pos (keywordEach kws X.env)).filterMap (·.1) = ks := by rfl) (hdb : (x == ("__debug__" : Str)) = false := by decide)
    (he : starEach (e :: es) X.env = (false, eval e X.env) :: starEach es X.env := by rfl) (hpl : ((backTo pos (starEach (e :: es) X.env)).any (·.1) || (backToKw pos (keywordEach kws X.env)).any (·.1.isNone)) = false := by rfl) :
    IE K ξ W X (.Call (.Name x p) (e :: es) kws pos) (eKw (gPick n ks.length l dfs N' fn) fs fk) := PE.of (WD.pe_calN c tk hr hg ha hkw hall hks hdb he hpl) fun σr H Q q => by
  obtain ⟨N, ζ, μ, σ, wd, so, q⟩ := q
  refine (thenKw wd so q).mono fun vs H1 hh => hh.mono fun zs H2 ⟨ζ2, μ2, ws, us, wd2, r1, r2, q2⟩ => ?_
  unfold gPick at q2
  split at q2
  · rename_i hc
    exact ⟨r1.len.trans hc.1, r2.len.trans hc.2.1, read_call wd2 (pick_RVs r1 (dfs_RVs hc.2.2) r2 l) q2⟩
  · exact q2.elim
end
section
variable {P : Program} {w : World} {K : KT} {mg : Str → Option Value} {base : Heap} {x qual : Str} {params : Arguments} {body : List Stmt} {scope : Scope} {f : Addr} {fd : FuncData} {Nm ps : List Str} {k : Nat} {b : MSt} {dvs : List V} {kws : List (Str × V)}
/-- a def, whatever its defaults -/
theorem fn_okF (F : FunD K x qual params body scope dvs kws f fd) (S : FnScope Nm ps scope)
    (hb : ∀ (cdv : Value) (A : Around) (outer : List Env) (s : Shared) (H : Hp) (E : XK), Room k (A.deeper (envOfC qual scope s.heap.objs.size f cdv)) → ISs K none (fun cls d _ H => E cls d H) (cxOf (L2.CX P w) P w K mg base Nm qual scope f cdv A outer s H E) body b) :
    FnOk P w K mg base (L2.CX P w) (k + 1) f fd ps (SpF K ps.length (fnOf Nm.length b)) :=
  F.ok S (fun vs H Q E ⟨N, ζ, μ, ws, wd, r, hl, _⟩ => r.len.trans hl) fun cdv A outer s H vs Q E hr ⟨N, ζ, μ, ws, wd, r, hl, h⟩ => ⟨_, hb cdv A outer s H E hr, fn_read wd r h⟩
end
end PM
namespace PM
open PySem PySem.Spec PyProof.Rows L2
section
variable {α β : Type} {μ : Store} {σ : Sl} {fa fb fc : ME} {ta tb : Sl → Store → R Bool} {fs : Sl → Store → R (List Val)} {A B : MSt}
@[simp] theorem bind_ok {a : α} {k : α → Store → R β} : (R.ok a μ).bind k = k a μ := (rfl)
@[simp] theorem bind_ex {c f} {k : α → Store → R β} : (R.ex c f μ).bind k = .ex c f μ := (rfl)
@[simp] theorem bind_stuck {k : α → Store → R β} : (R.stuck).bind k = .stuck := (rfl)
@[simp] theorem st_ok {a : α} {k : α → Store → RS} : (R.ok a μ).st σ k = k a μ := (rfl)
@[simp] theorem st_ex {c f} {k : α → Store → RS} : (R.ex c f μ).st σ k = .ex c f σ μ := (rfl)
@[simp] theorem seq_nx {k : Sl → Store → RS} : (RS.nx σ μ).seq k = k σ μ := (rfl)
@[simp] theorem seq_rt {w : Val} {k : Sl → Store → RS} : (RS.rt w μ).seq k = .rt w μ := (rfl)
@[simp] theorem seq_ct {k : Sl → Store → RS} : (RS.ct σ μ).seq k = .ct σ μ := (rfl)
@[simp] theorem seq_bk {k : Sl → Store → RS} : (RS.bk σ μ).seq k = .bk σ μ := (rfl)
@[simp] theorem seq_ex {c f} {k : Sl → Store → RS} : (RS.ex c f σ μ).seq k = .ex c f σ μ := (rfl)
@[simp] theorem noex_ok {a : α} : (R.ok a μ).noex = .ok a μ := (rfl)
@[simp] theorem sSeq_eq : sSeq A B σ μ = (A σ μ).seq B := (rfl)
@[simp] theorem sIf_eq : sIf ta A B σ μ = (ta σ μ).st σ fun k μ1 => if k then A σ μ1 else B σ μ1 := (rfl)
@[simp] theorem sRet_eq : sRet fa σ μ = (fa σ μ).st σ fun w μ1 => .rt w μ1 := (rfl)
@[simp] theorem sExp_eq : sExp fa σ μ = (fa σ μ).st σ fun _ μ1 => .nx σ μ1 := (rfl)
@[simp] theorem sPass_eq : sPass σ μ = .nx σ μ := (rfl)
@[simp] theorem sCont_eq : sCont σ μ = .ct σ μ := (rfl)
@[simp] theorem sRetN_eq : sRetN σ μ = .rt (.t .non) μ := (rfl)
@[simp] theorem sAsg_nm {i : Nat} : sAsg (.nm i) fa σ μ = (fa σ μ).st σ fun w μ1 => .nx (σ.set i (some w)) μ1 := by
  unfold sAsg
  cases fa σ μ <;> first | rfl | (show RS.seq _ _ = _; rfl) | simp [asg]
theorem sAsg_tp {ts : List Tgt} : sAsg (.tp ts) fa σ μ = (fa σ μ).st σ fun w μ1 => match asg (.tp ts) w σ with
  | some σ1 => .nx σ1 μ1
  | none => .stuck := (rfl)
@[simp] theorem sFor_eq {it : Sl → Store → R (List PV)} {T : Tgt} : sFor it T B σ μ = (it σ μ).st σ fun items μ1 => forL T B items σ μ1 := (rfl)
@[simp] theorem eV_eq {i : Nat} : eV i σ μ = match σ[i]? with
  | some (some w) => .ok w μ
  | _ => .stuck := (rfl)
@[simp] theorem eC_eq {d : PV} : eC d σ μ = .ok (.t d) μ := (rfl)
@[simp] theorem e1_eq {g : Val → Store → R α} : e1 g fa σ μ = (fa σ μ).bind g := (rfl)
@[simp] theorem e2_eq {g : Val → Val → Store → R α} : e2 g fa fb σ μ = (fa σ μ).bind fun w μ1 => (fb σ μ1).bind fun u μ2 => g w u μ2 := (rfl)
@[simp] theorem eN_eq {g : List Val → Store → R α} : eN g fs σ μ = (fs σ μ).bind g := (rfl)
@[simp] theorem aNil_eq : aNil σ μ = .ok [] μ := (rfl)
@[simp] theorem aCons_eq : aCons fa fs σ μ = (fa σ μ).bind fun w μ1 => (fs σ μ1).bind fun ws μ2 => .ok (w :: ws) μ2 := (rfl)
@[simp] theorem eAnd_eq : eAnd fa fb σ μ = (fa σ μ).bind (gBl fun c μ1 => if c then fb σ μ1 else .ok (.t (.bl false)) μ1) := (rfl)
@[simp] theorem eOr_eq : eOr fa fb σ μ = (fa σ μ).bind (gBl fun c μ1 => if c then .ok (.t (.bl true)) μ1 else fb σ μ1) := (rfl)
@[simp] theorem eNot_eq : eNot fa σ μ = (fa σ μ).bind (gBl fun c μ1 => .ok (.t (.bl (!c))) μ1) := (rfl)
@[simp] theorem eIf_eq : eIf ta fa fb σ μ = (ta σ μ).bind fun k μ1 => if k then fa σ μ1 else fb σ μ1 := (rfl)
@[simp] theorem tVal_eq : tVal fa σ μ = (fa σ μ).bind (gBl fun c μ1 => .ok c μ1) := (rfl)
@[simp] theorem tAnd_eq : tAnd' ta tb σ μ = (ta σ μ).bind fun k μ1 => if k then tb σ μ1 else .ok false μ1 := (rfl)
@[simp] theorem tOr_eq : tOr' ta tb σ μ = (ta σ μ).bind fun k μ1 => if k then .ok true μ1 else tb σ μ1 := (rfl)
@[simp] theorem tNot_eq : tNot' ta σ μ = (ta σ μ).bind fun k μ1 => .ok (!k) μ1 := (rfl)
@[simp] theorem tYes_eq : tYes' σ μ = .ok true μ := (rfl)
@[simp] theorem gBl_bl {b : Bool} {k : Bool → Store → R α} : gBl k (.t (.bl b)) μ = k b μ := (rfl)
@[simp] theorem eOfF_eq {f : Sl → Store → R (List PV)} : eOfF f σ μ = (f σ μ).bind fun ds μ1 => .ok (.t (.lst ds)) μ1 := (rfl)
@[simp] theorem eCellF_eq {f : Sl → Store → R (List PV)} : eCellF f σ μ = (f σ μ).bind fun ds μ1 => .ok (.c μ1.length) (μ1 ++ [some (.lst ds)]) := (rfl)
@[simp] theorem lcF_eq {it : Sl → Store → R (List PV)} {T : Tgt} : lcF it T ta fa σ μ = (it σ μ).bind fun items μ1 => (lcL T ta fa items (wipeM σ T.sl) μ1).bind szF := (rfl)
@[simp] theorem view_t {d : PV} : view μ (.t d) = some d := (rfl)
@[simp] theorem p1_t {g : PV → Option PV} {d : PV} : p1 g (.t d) μ = OR.ok μ ((g d).map .t) := (rfl)
@[simp] theorem p2_t {g : PV → PV → Option PV} {d e : PV} : p2 g (.t d) (.t e) μ = OR.ok μ ((g d e).map .t) := (rfl)
@[simp] theorem pf1_t {g : PV → Option (List PV)} {d : PV} : pf1 g (.t d) μ = OR.ok μ (g d) := (rfl)
@[simp] theorem pf2_t {g : PV → PV → Option (List PV)} {d e : PV} : pf2 g (.t d) (.t e) μ = OR.ok μ (g d e) := (rfl)
@[simp] theorem pN_1 {g : List PV → Option PV} {d : PV} : pN g [.t d] μ = OR.ok μ ((g [d]).map .t) := (rfl)
@[simp] theorem pN_2 {g : List PV → Option PV} {d e : PV} : pN g [.t d, .t e] μ = OR.ok μ ((g [d, e]).map .t) := (rfl)
@[simp] theorem pfN_1 {g : List PV → Option (List PV)} {d : PV} : pfN g [.t d] μ = OR.ok μ (g [d]) := (rfl)
@[simp] theorem orok_some {a : α} : OR.ok μ (some a) = .ok a μ := (rfl)
@[simp] theorem orok_none : OR.ok μ (none : Option α) = .stuck := (rfl)
@[simp] theorem gIt_lst {l : List PV} : gIt (.t (.lst l)) μ = .ok l μ := (rfl)
@[simp] theorem gIt_tup {l : List PV} : gIt (.t (.tup l)) μ = .ok l μ := (rfl)
@[simp] theorem gEnum_lst {l : List PV} : gEnum [.t (.lst l)] μ = .ok (enumP l) μ := (rfl)
@[simp] theorem gEnum_tup {l : List PV} : gEnum [.t (.tup l)] μ = .ok (enumP l) μ := (rfl)
@[simp] theorem lenV_lst {l : List PV} : lenV [.lst l] = some (.int l.length) := (rfl)
@[simp] theorem lenV_tup {l : List PV} : lenV [.tup l] = some (.int l.length) := (rfl)
@[simp] theorem tupleV_lst {l : List PV} : tupleV [.lst l] = some (.tup l) := (rfl)
@[simp] theorem tupleV_tup {l : List PV} : tupleV [.tup l] = some (.tup l) := (rfl)
@[simp] theorem listF_lst {l : List PV} : listF [.lst l] = some l := (rfl)
@[simp] theorem listF_tup {l : List PV} : listF [.tup l] = some l := (rfl)
@[simp] theorem addV_int {i j : Int} : addV (.int i) (.int j) = some (.int (i + j)) := (rfl)
@[simp] theorem subV_int {i j : Int} : subV (.int i) (.int j) = some (.int (i - j)) := (rfl)
@[simp] theorem negV_int {i : Int} : negV (.int i) = some (.int (-i)) := (rfl)
@[simp] theorem ltV_int {i j : Int} : ltV (.int i) (.int j) = some (.bl (decide (i < j))) := (rfl)
@[simp] theorem leV_int {i j : Int} : leV (.int i) (.int j) = some (.bl (decide (i ≤ j))) := (rfl)
@[simp] theorem gtV_int {i j : Int} : gtV (.int i) (.int j) = some (.bl (decide (j < i))) := (rfl)
@[simp] theorem geV_int {i j : Int} : geV (.int i) (.int j) = some (.bl (decide (j ≤ i))) := (rfl)
@[simp] theorem intV_bl {b : Bool} : intV [.bl b] = some (.int (if b then 1 else 0)) := (rfl)
@[simp] theorem intV_int {i : Int} : intV [.int i] = some (.int i) := (rfl)
@[simp] theorem isV_non {d : PV} : isV d .non = some (.bl (isNon d)) := by cases d <;> rfl
@[simp] theorem isntV_non {d : PV} : isntV d .non = some (.bl (!isNon d)) := by cases d <;> rfl
@[simp] theorem atV_lst {l : List PV} {i : Int} : atV (.lst l) (.int i) = atI l i := (rfl)
@[simp] theorem atV_tup {l : List PV} {i : Int} : atV (.tup l) (.int i) = atI l i := (rfl)
@[simp] theorem slV_lst {l : List PV} {lo hi : Option Int} : slV lo hi (.lst l) = some (.lst (cutG l lo hi)) := (rfl)
@[simp] theorem slV_tup {l : List PV} {lo hi : Option Int} : slV lo hi (.tup l) = some (.tup (cutG l lo hi)) := (rfl)
@[simp] theorem slF_lst {l : List PV} {lo hi : Option Int} : slF lo hi (.lst l) = some (cutG l lo hi) := (rfl)
@[simp] theorem revV_lst {l : List PV} : revV (.lst l) = some (.lst l.reverse) := (rfl)
@[simp] theorem revV_tup {l : List PV} : revV (.tup l) = some (.tup l.reverse) := (rfl)
@[simp] theorem eSl_eq {g : Option Int → Option Int → Val → Store → R α} {lo hi : MO} : eSl g fa lo hi σ μ = (fa σ μ).bind fun w μ1 => (lo σ μ1).bind fun l μ2 => (hi σ μ2).bind fun h μ3 => g l h w μ3 := (rfl)
@[simp] theorem oNone_eq : oNone σ μ = .ok none μ := (rfl)
@[simp] theorem gOpt_int {i : Int} : gOpt (.t (.int i)) μ = .ok (some i) μ := (rfl)
@[simp] theorem oSome_eq : oSome fa σ μ = (fa σ μ).bind gOpt := (rfl)
theorem mod_ok {i j : Int} (h : 0 < j) : modV (.int i) (.int j) = some (.int (i % j)) := if_pos h
theorem fdiv_ok {i j : Int} (h : 0 < j) (h2 : j < 1073741824) : fdivV (.int i) (.int j) = some (.int (i / j)) := if_pos (by rw [Bool.and_eq_true]; exact ⟨Nat.ble_eq_true_of_le (by omega), Nat.ble_eq_true_of_le (by omega)⟩)
theorem gTup_ok {ws : List Val} {ds : List PV} (h : asT ws = some ds) (hl : ws.length ≤ sizeLine) : gTup ws μ = .ok (.t (.tup ds)) μ := by unfold gTup; rw [if_pos hl, h]; rfl
theorem gLst_ok {ws : List Val} {ds : List PV} (h : asT ws = some ds) (hl : ws.length ≤ sizeLine) : gLst ws μ = .ok ds μ := by unfold gLst; rw [if_pos hl, h]; rfl
end
end PM
namespace PM
open PySem PySem.Spec PyProof.Rows L2
/-! ### walking in the machine -/
section
variable {T : Tgt} {test : Sl → Store → R Bool} {elt : ME} {B : MSt}
theorem lcL_map {items : List PV} {σ : Sl} {μ : Store} (f : PV → PV) (h : ∀ d ∈ items, ∃ σ1, asg T (.t d) σ = some σ1 ∧ test σ1 μ = .ok true μ ∧ elt σ1 μ = .ok (.t (f d)) μ) : lcL T test elt items σ μ = .ok (items.map f) μ := by
  induction items with
  | nil => rfl
  | cons d ds ih =>
    obtain ⟨σ1, h1, h2, h3⟩ := h d List.mem_cons_self
    unfold lcL
    rw [h1]
    simp only [h2, h3, noex_ok, bind_ok, if_true, gT]
    rw [ih fun d hd => h d (List.mem_cons_of_mem _ hd)]
    rfl
theorem lcL_filter {items : List PV} {σ : Sl} {μ : Store} (p : PV → Bool) (f : PV → PV) (h : ∀ d ∈ items, ∃ σ1, asg T (.t d) σ = some σ1 ∧ test σ1 μ = .ok (p d) μ ∧ (p d = true → elt σ1 μ = .ok (.t (f d)) μ)) : lcL T test elt items σ μ = .ok ((items.filter p).map f) μ := by
  induction items with
  | nil => rfl
  | cons d ds ih =>
    obtain ⟨σ1, h1, h2, h3⟩ := h d List.mem_cons_self
    have ih := ih fun d hd => h d (List.mem_cons_of_mem _ hd)
    unfold lcL
    rw [h1]
    cases hp : p d with
    | true =>
      simp only [h2, h3 hp, hp, noex_ok, bind_ok, if_true, gT, ih]
      rw [List.filter_cons_of_pos hp]
      rfl
    | false =>
      simp only [h2, hp, noex_ok, bind_ok, Bool.false_eq_true, if_false, ih]
      rw [List.filter_cons_of_neg (by rw [hp]; exact Bool.false_ne_true)]
/-- .. while the store changes: what is kept of it, what is true of what comes -/
theorem lcL_inv {items : List PV} {σ : Sl} {μ : Store} (I : Nat → Store → Prop) (Q : PV → Prop) (h0 : I 0 μ) (h : ∀ (i : Nat) d μ, items[i]? = some d → I i μ → ∃ σ1 y μ2, asg T (.t d) σ = some σ1 ∧ test σ1 μ = .ok true μ ∧ elt σ1 μ = .ok (.t y) μ2 ∧ I (i + 1) μ2 ∧ Q y) : ∃ ys μ', lcL T test elt items σ μ = .ok ys μ' ∧ I items.length μ' ∧ ys.length = items.length ∧ ∀ y ∈ ys, Q y := by
  induction items generalizing μ I with
  | nil => exact ⟨[], μ, rfl, h0, rfl, fun y hy => nomatch hy⟩
  | cons d ds ih =>
    obtain ⟨σ1, y, μ2, h1, h2, h3, h4, h5⟩ := h 0 d μ rfl h0
    obtain ⟨ys, μ', k1, k2, k3, k4⟩ := ih (fun i => I (i + 1)) h4 fun i d μ hd hi => h (i + 1) d μ hd hi
    refine ⟨y :: ys, μ', ?_, k2, congrArg Nat.succ k3, fun z hz => (List.mem_cons.mp hz).elim (fun e => e ▸ h5) (k4 z)⟩
    unfold lcL
    rw [h1]
    simp only [h2, h3, noex_ok, bind_ok, if_true, gT, k1]
/-- a loop, by what is kept -/
theorem forL_inv {items : List PV} {σ : Sl} {μ : Store} (I : Nat → Sl → Store → Prop) (Post : RS → Prop) (h0 : I 0 σ μ)
    (step : ∀ (i : Nat) d σ μ, items[i]? = some d → I i σ μ → ∃ σ1, asg T (.t d) σ = some σ1 ∧ ((∃ σ2 μ2, (B σ1 μ = .nx σ2 μ2 ∨ B σ1 μ = .ct σ2 μ2) ∧ I (i + 1) σ2 μ2) ∨ (∃ w μ2, B σ1 μ = .rt w μ2 ∧ Post (.rt w μ2)) ∨ (∃ c f σ2 μ2, B σ1 μ = .ex c f σ2 μ2 ∧ Post (.ex c f σ2 μ2))))
    (last : ∀ σ μ, I items.length σ μ → Post (.nx σ μ)) : Post (forL T B items σ μ) := by
  induction items generalizing σ μ I with
  | nil => exact last σ μ h0
  | cons d ds ih =>
    obtain ⟨σ1, h1, h2⟩ := step 0 d σ μ rfl h0
    unfold forL
    rw [h1]
    rcases h2 with ⟨σ2, μ2, h2, h3⟩ | ⟨w, μ2, h2, h3⟩ | ⟨c, f, σ2, μ2, h2, h3⟩
    · have k := ih (fun i => I (i + 1)) h3 (fun i d σ μ hd hi => step (i + 1) d σ μ hd hi) last
      rcases h2 with h2 | h2 <;> simp only [h2] <;> exact k
    · simp only [h2]; exact h3
    · simp only [h2]; exact h3
end
/-! ### what is flat and not deep -/
def SD : Nat → PV → Prop
  | _, .non => True
  | _, .bl _ => True
  | _, .int _ => True
  | _, .str _ => True
  | n + 1, .tup l => l.length ≤ 100000 ∧ ∀ x ∈ l, SD n x
  | n + 1, .lst l => l.length ≤ 100000 ∧ ∀ x ∈ l, SD n x
  | _, _ => False
theorem flats_iff {l : List PV} : flats l = true ↔ ∀ x ∈ l, x.flat = true := by
  induction l with
  | nil => simp [flats]
  | cons a l ih => simp [flats, ih]
theorem datas_map (l : List PV) : datas l = l.map PV.data := by
  induction l with
  | nil => simp [datas]
  | cons a l ih => simp [datas, ih]
theorem depthAll_le {l : List PyData} {n : Nat} : PyData.depthAll l ≤ n ↔ ∀ x ∈ l, x.depth ≤ n := by
  induction l with
  | nil => simp [PyData.depthAll]
  | cons a l ih =>
    show max a.depth (PyData.depthAll l) ≤ n ↔ _
    rw [Nat.max_le, ih]
    simp
theorem SD_tup {n : Nat} {l : List PV} : SD (n + 1) (.tup l) ↔ l.length ≤ 100000 ∧ ∀ x ∈ l, SD n x := by rw [SD]
theorem SD_lst {n : Nat} {l : List PV} : SD (n + 1) (.lst l) ↔ l.length ≤ 100000 ∧ ∀ x ∈ l, SD n x := by rw [SD]
@[simp] theorem SD_int {n : Nat} {i : Int} : SD n (.int i) := by rw [SD]; trivial
@[simp] theorem SD_bl {n : Nat} {i : Bool} : SD n (.bl i) := by rw [SD]; trivial
@[simp] theorem SD_str {n : Nat} {i : Str} : SD n (.str i) := by rw [SD]; trivial
@[simp] theorem SD_non {n : Nat} : SD n .non := by rw [SD]; trivial
theorem SD_0t {l : List PV} : ¬ SD 0 (.tup l) := by rw [SD] <;> simp
theorem SD_0l {l : List PV} : ¬ SD 0 (.lst l) := by rw [SD] <;> simp
theorem SD_dic {n : Nat} {b : Bool} {k l : List PV} : ¬ SD n (.dic b k l) := by cases n <;> (rw [SD] <;> simp)
theorem SD_obj {n : Nat} {C : Str} {k : List Str} {l : List PV} : ¬ SD n (.obj C k l) := by cases n <;> (rw [SD] <;> simp)
theorem SD.tupE {n : Nat} {l : List PV} (h : SD n (.tup l)) : ∃ m, n = m + 1 ∧ l.length ≤ 100000 ∧ ∀ x ∈ l, SD m x := by
  cases n with
  | zero => exact absurd h SD_0t
  | succ m => exact ⟨m, rfl, SD_tup.mp h⟩
theorem SD.lstE {n : Nat} {l : List PV} (h : SD n (.lst l)) : ∃ m, n = m + 1 ∧ l.length ≤ 100000 ∧ ∀ x ∈ l, SD m x := by
  cases n with
  | zero => exact absurd h SD_0l
  | succ m => exact ⟨m, rfl, SD_lst.mp h⟩
theorem SD.fd {n : Nat} : ∀ {d : PV}, SD n d → d.flat = true ∧ d.data.depth ≤ n := by
  induction n with
  | zero =>
    intro d h
    cases d with
    | tup l => exact absurd h SD_0t
    | lst l => exact absurd h SD_0l
    | dic k l => exact absurd h SD_dic
    | obj C k l => exact absurd h SD_obj
    | _ => exact ⟨rfl, by simp only [PV.data]; exact Nat.zero_le _⟩
  | succ n ih =>
    intro d h
    cases d with
    | tup l =>
      have hl := (SD_tup.mp h).2
      refine ⟨by simp only [PV.flat]; exact flats_iff.mpr fun x hx => (ih (hl x hx)).1, ?_⟩
      have e : (PV.tup l).data.depth = PyData.depthAll (datas l) + 1 := by simp only [PV.data]; rfl
      rw [e, Nat.add_le_add_iff_right, depthAll_le, datas_map]
      intro x hx
      obtain ⟨y, hy, rfl⟩ := List.mem_map.mp hx
      exact (ih (hl y hy)).2
    | lst l =>
      have hl := (SD_lst.mp h).2
      refine ⟨by simp only [PV.flat]; exact flats_iff.mpr fun x hx => (ih (hl x hx)).1, ?_⟩
      have e : (PV.lst l).data.depth = PyData.depthAll (datas l) + 1 := by simp only [PV.data]; rfl
      rw [e, Nat.add_le_add_iff_right, depthAll_le, datas_map]
      intro x hx
      obtain ⟨y, hy, rfl⟩ := List.mem_map.mp hx
      exact (ih (hl y hy)).2
    | dic k l => exact absurd h SD_dic
    | obj C k l => exact absurd h SD_obj
    | _ => exact ⟨rfl, by simp only [PV.data]; exact Nat.zero_le _⟩
theorem SD.up {n m : Nat} {d : PV} (h : SD n d) (k : n ≤ m) : SD m d := by
  induction n generalizing m d with
  | zero => cases d <;> first | simp | exact absurd h SD_0t | exact absurd h SD_0l | exact absurd h SD_dic | exact absurd h SD_obj
  | succ n ih =>
    cases m with
    | zero => omega
    | succ m =>
      cases d with
      | tup l => rw [SD_tup] at h ⊢; exact ⟨h.1, fun x hx => ih (h.2 x hx) (by omega)⟩
      | lst l => rw [SD_lst] at h ⊢; exact ⟨h.1, fun x hx => ih (h.2 x hx) (by omega)⟩
      | dic k l => exact absurd h SD_dic
      | obj C k l => exact absurd h SD_obj
      | _ => simp
theorem SD.ok {n : Nat} {d : PV} (h : SD n d) (k : n ≤ 64 := by decide) : okD d = true := by
  unfold okD
  rw [h.fd.1, decide_eq_true (Nat.le_trans h.fd.2 k)]; rfl
theorem SD.ty {n : Nat} {d : PV} (h : SD n d) : tyN d ≠ none := by
  cases d <;> first | (intro z; cases z; done) | exact absurd h SD_obj
theorem SD_ints {n : Nat} {l : List Int} : ∀ x ∈ l.map PV.int, SD n x := fun x hx => by
  obtain ⟨i, _, rfl⟩ := List.mem_map.mp hx
  exact SD_int
theorem eq_ok {x y : PV} (hx : okD x = true) (hy : okD y = true) : eqV x y = some (.bl (eqB x y)) := by unfold eqV; rw [hx, hy]; rfl
theorem ne_ok {x y : PV} (hx : okD x = true) (hy : okD y = true) : neV x y = some (.bl (!eqB x y)) := by unfold neV; rw [hx, hy]; rfl
@[simp] theorem eqV_int {i j : Int} : eqV (.int i) (.int j) = some (.bl (decide (i = j))) := by
  rw [eq_ok (SD_int (n := 0)).ok (SD_int (n := 0)).ok]
  simp only [eqB, PV.data, PyData.eqv, Bool.beq_eq_decide_eq]
@[simp] theorem neV_int {i j : Int} : neV (.int i) (.int j) = some (.bl (!decide (i = j))) := by
  rw [ne_ok (SD_int (n := 0)).ok (SD_int (n := 0)).ok]
  simp only [eqB, PV.data, PyData.eqv, Bool.beq_eq_decide_eq]
/-! ### lists of ints -/
abbrev tupI (l : List Int) : PV := .tup (l.map .int)
abbrev lstI (l : List Int) : PV := .lst (l.map .int)
theorem atI_nat' {α : Type} {l : List α} {i : Nat} (h : i < l.length) : atI l (i : Int) = some l[i] := by
  have := WD.atI_ok (xs := l) (i := (i : Int)) (by omega) (by simpa using h)
  simpa using this
theorem at_int {l : List Int} {i : Nat} (h : i < l.length) : atI (l.map PV.int) (i : Int) = some (.int (l.getD i 0)) := by
  rw [atI_nat' (by rw [List.length_map]; exact h), List.getElem_map, List.getD_eq_getElem?_getD, List.getElem?_eq_getElem h]; rfl
/-! ### the well -/
abbrev wl (a b c : Int) : Option Cell := some (.lst [.int a, .int b, .int c])
def isThingB (n : Int) : PV → Bool
  | .int i => decide (0 ≤ i) && decide (i < n)
  | _ => false
end PM
namespace PM
open PySem PySem.Spec PyProof.Rows L2
@[simp] theorem plain_t {d : PV} : (Val.t d).plain = true := (rfl)
@[simp] theorem plain_c {k : Nat} : (Val.c k).plain = true := (rfl)
@[simp] theorem gCall_1 {fn : Fn} {d : PV} {μ : Store} : gCall 1 fn [.t d] μ = fn [.t d] μ := (rfl)
@[simp] theorem gCall_1c {fn : Fn} {k : Nat} {μ : Store} : gCall 1 fn [.c k] μ = fn [.c k] μ := (rfl)
@[simp] theorem gCall_2 {fn : Fn} {d e : PV} {μ : Store} : gCall 2 fn [.t d, .t e] μ = fn [.t d, .t e] μ := (rfl)
@[simp] theorem gCall_2c {fn : Fn} {k : Nat} {e : PV} {μ : Store} : gCall 2 fn [.c k, .t e] μ = fn [.c k, .t e] μ := (rfl)
@[simp] theorem gCall_3 {fn : Fn} {d e f : PV} {μ : Store} : gCall 3 fn [.t d, .t e, .t f] μ = fn [.t d, .t e, .t f] μ := (rfl)
@[simp] theorem gCall_3c {fn : Fn} {k : Nat} {e f : PV} {μ : Store} : gCall 3 fn [.c k, .t e, .t f] μ = fn [.c k, .t e, .t f] μ := (rfl)
@[simp] theorem gCall_4 {fn : Fn} {d e f g : PV} {μ : Store} : gCall 4 fn [.t d, .t e, .t f, .t g] μ = fn [.t d, .t e, .t f, .t g] μ := (rfl)
@[simp] theorem gCall_4c {fn : Fn} {k : Nat} {e f g : PV} {μ : Store} : gCall 4 fn [.c k, .t e, .t f, .t g] μ = fn [.c k, .t e, .t f, .t g] μ := (rfl)
/-- a def's run -/
theorem fn_rt {n : Nat} {b : MSt} {ws : List Val} {μ μ' : Store} {d : PV} (h : b (startM n ws) μ = .rt (.t d) μ') (hl : μ'.take μ.length = μ) : fnOf n b ws μ = .ok (.t d) μ := by
  unfold fnOf
  rw [h]
  show R.ok _ _ = _
  rw [hl]
@[simp] theorem endM_rt {n : Nat} {d : PV} {μ : Store} : endM n (.rt (.t d) μ) = .ok (.t d) (μ.take n) := (rfl)
@[simp] theorem endM_nx {n : Nat} {σ : Sl} {μ : Store} : endM n (.nx σ μ) = .ok (.t .non) (μ.take n) := (rfl)
@[simp] theorem endM_ex {n : Nat} {c : Str} {f} {σ : Sl} {μ : Store} : endM n (.ex c f σ μ) = .ex c f (μ.take n) := (rfl)
@[simp] theorem endM_rc {n k : Nat} {μ : Store} : endM n (.rt (.c k) μ) = fin n (.c k) μ := (rfl)
@[simp] theorem isTy_non {T : String} : isTy T .non = some (.bl (subT "NoneType" T)) := (rfl)
@[simp] theorem isTy_bl {T : String} {b : Bool} : isTy T (.bl b) = some (.bl (subT "bool" T)) := (rfl)
@[simp] theorem isTy_int {T : String} {b : Int} : isTy T (.int b) = some (.bl (subT "int" T)) := (rfl)
@[simp] theorem isTy_str {T : String} {b : Str} : isTy T (.str b) = some (.bl (subT "str" T)) := (rfl)
@[simp] theorem isTy_tup {T : String} {b : List PV} : isTy T (.tup b) = some (.bl (subT "tuple" T)) := (rfl)
@[simp] theorem isTy_lst {T : String} {b : List PV} : isTy T (.lst b) = some (.bl (subT "list" T)) := (rfl)
@[simp] theorem isTy_dic {T : String} {k : Bool} {b c : List PV} : isTy T (.dic k b c) = some (.bl (subT "dict" T)) := (rfl)
@[simp] theorem asg_nm {i : Nat} {w : Val} {σ : Sl} : asg (.nm i) w σ = some (σ.set i (some w)) := by unfold asg; rfl
@[simp] theorem asg_tp {ts : List Tgt} {ds : List PV} {σ : Sl} : asg (.tp ts) (.t (.tup ds)) σ = asgs ts (ds.map .t) σ := by
  rw [asg]
@[simp] theorem asgs_nil {σ : Sl} : asgs [] [] σ = some σ := by unfold asgs; rfl
@[simp] theorem asgs_cons {t : Tgt} {ts : List Tgt} {d : Val} {ds : List Val} {σ : Sl} : asgs (t :: ts) (d :: ds) σ = match asg t d σ with
    | some σ1 => asgs ts ds σ1
    | none => none := by first | (rw [asgs]; rfl) | rw [asgs]
@[simp] theorem sl_nm {i : Nat} : (Tgt.nm i).sl = [i] := by unfold Tgt.sl; rfl
@[simp] theorem sl_tp {ts : List Tgt} : (Tgt.tp ts).sl = sls ts := by unfold Tgt.sl; rfl
@[simp] theorem sls_nil : sls [] = [] := by unfold sls; rfl
@[simp] theorem sls_cons {t : Tgt} {ts : List Tgt} : sls (t :: ts) = t.sl ++ sls ts := by rw [sls]
@[simp] theorem asT_nil : asT [] = some [] := (rfl)
@[simp] theorem asT_cons {d : PV} {ws : List Val} : asT (.t d :: ws) = (asT ws).map (d :: ·) := (rfl)
theorem szL (n : Nat) (h : n ≤ 1000000 := by decide) : n ≤ sizeLine := by
  have := sizeLine_eq
  omega
@[simp] theorem gTup_0 {μ : Store} : gTup [] μ = .ok (.t (.tup [])) μ := (rfl)
@[simp] theorem gTup_1 {a : PV} {μ : Store} : gTup [.t a] μ = .ok (.t (.tup [a])) μ := gTup_ok rfl (szL 1)
@[simp] theorem gTup_2 {a b : PV} {μ : Store} : gTup [.t a, .t b] μ = .ok (.t (.tup [a, b])) μ := gTup_ok rfl (szL 2)
@[simp] theorem gTup_3 {a b c : PV} {μ : Store} : gTup [.t a, .t b, .t c] μ = .ok (.t (.tup [a, b, c])) μ := gTup_ok rfl (szL 3)
@[simp] theorem gTup_4 {a b c d : PV} {μ : Store} : gTup [.t a, .t b, .t c, .t d] μ = .ok (.t (.tup [a, b, c, d])) μ := gTup_ok rfl (szL 4)
@[simp] theorem gLst_0 {μ : Store} : gLst [] μ = .ok [] μ := (rfl)
@[simp] theorem gLst_1 {a : PV} {μ : Store} : gLst [.t a] μ = .ok [a] μ := gLst_ok rfl (szL 1)
@[simp] theorem gLst_2 {a b : PV} {μ : Store} : gLst [.t a, .t b] μ = .ok [a, b] μ := gLst_ok rfl (szL 2)
@[simp] theorem gLst_3 {a b c : PV} {μ : Store} : gLst [.t a, .t b, .t c] μ = .ok [a, b, c] μ := gLst_ok rfl (szL 3)
@[simp] theorem gLst_4 {a b c d : PV} {μ : Store} : gLst [.t a, .t b, .t c, .t d] μ = .ok [a, b, c, d] μ := gLst_ok rfl (szL 4)
@[simp] theorem gLst_5 {a b c d e : PV} {μ : Store} : gLst [.t a, .t b, .t c, .t d, .t e] μ = .ok [a, b, c, d, e] μ := gLst_ok rfl (szL 5)
@[simp] theorem gLst_6 {a b c d e f : PV} {μ : Store} : gLst [.t a, .t b, .t c, .t d, .t e, .t f] μ = .ok [a, b, c, d, e, f] μ := gLst_ok rfl (szL 6)
@[simp] theorem gLst_7 {a b c d e f g : PV} {μ : Store} : gLst [.t a, .t b, .t c, .t d, .t e, .t f, .t g] μ = .ok [a, b, c, d, e, f, g] μ := gLst_ok rfl (szL 7)
@[simp] theorem gLst_8 {a b c d e f g h : PV} {μ : Store} : gLst [.t a, .t b, .t c, .t d, .t e, .t f, .t g, .t h] μ = .ok [a, b, c, d, e, f, g, h] μ := gLst_ok rfl (szL 8)
theorem szF_ok {ds : List PV} {μ : Store} (h : ds.length ≤ sizeLine) : szF ds μ = .ok ds μ := if_pos h
theorem allV_map {α : Type} (l : List α) (f : α → Bool) : allV [.lst (l.map fun d => .bl (f d))] = some (.bl (l.all f)) := by
  have e : (l.map fun d => PV.bl (f d)) = (l.map f).map .bl := by rw [List.map_map]; rfl
  show (blsOf _).map _ = _
  rw [e, blsOf_map]
  simp [List.all_map]
theorem anyV_map {α : Type} (l : List α) (f : α → Bool) : anyV [.lst (l.map fun d => .bl (f d))] = some (.bl (l.any f)) := by
  have e : (l.map fun d => PV.bl (f d)) = (l.map f).map .bl := by rw [List.map_map]; rfl
  show (blsOf _).map _ = _
  rw [e, blsOf_map]
  simp [List.any_map]
def isIntB : PV → Bool
  | .int _ => true
  | _ => false
def isRowB (d : PV) (w n : Int) : Bool := match d with
  | .tup l => decide ((l.length : Int) = w) && l.all (isThingB n)
  | _ => false
theorem range1_ok {n : Nat} {μ : Store} (h : n ≤ 1000000) : gRange1 [.t (.int (n : Int))] μ = .ok (rgI 0 n) μ := by
  simp only [gRange1]
  rw [if_pos (bnd_of (by omega) (by omega)), Int.toNat_natCast]
theorem rgI_nat (n : Nat) : rgI 0 n = (List.range n).map fun (k : Nat) => .int (k : Int) := by
  unfold rgI
  simp only [Int.zero_add]
end PM
namespace PM
open PySem PySem.Spec PyProof.Rows L2
/-! ### lists of numbers: plain facts -/
theorem getD_mem {l : List Int} {i : Nat} (h : i < l.length) : l.getD i 0 ∈ l := by
  rw [List.getD_eq_getElem?_getD, List.getElem?_eq_getElem h]; exact List.getElem_mem h
def partB (l : List Int) : Bool := (List.range l.length).all fun i => decide (l.getD i 0 ≤ (i : Int)) && decide (l.getD (l.getD i 0).toNat 0 = l.getD i 0)
/-- a row of things -/
structure RowI (l : List Int) (n : Nat) : Prop where
  len : l.length = n
  inr : ∀ x ∈ l, 0 ≤ x ∧ x < n
theorem row_all {l : List Int} {n : Nat} (h : ∀ x ∈ l, 0 ≤ x ∧ x < (n : Int)) : (l.map PV.int).all (isThingB n) = true := by
  rw [List.all_map, List.all_eq_true]
  intro x hx
  have := h x hx
  simp [isThingB, this.1, this.2]
theorem isRow_tupI {l : List Int} {n : Nat} (h : RowI l n) : isRowB (tupI l) n n = true := by
  unfold isRowB
  simp only [List.length_map, h.len, decide_true, Bool.true_and]
  exact row_all h.inr
theorem SD_tupI {l : List Int} {k : Nat} (h : l.length ≤ 100000) : SD (k + 1) (tupI l) := SD_tup.mpr ⟨by rw [List.length_map]; exact h, SD_ints⟩
theorem enum_map (l : List Int) : enumP (l.map .int) = (List.range l.length).map fun (i : Nat) => PV.tup [.int (i : Int), .int (l.getD i 0)] := by
  refine List.ext_getElem? fun j => ?_
  unfold enumP
  rw [List.getElem?_zipWith, List.length_map, List.getElem?_map, List.getElem?_map]
  by_cases hj : j < l.length
  · rw [List.getElem?_range hj, List.getElem?_eq_getElem hj]
    simp [List.getD_eq_getElem?_getD, hj]
  · rw [List.getElem?_eq_none (l := l) (by omega)]
    simp [hj]
def natsPV (l : List Nat) : List PV := l.map fun (t : Nat) => .int (t : Int)
theorem nats_SD {k : Nat} {ts : List Nat} (h : ts.length ≤ 100000) : SD (k + 1) (.lst (natsPV ts)) := SD_lst.mpr ⟨by unfold natsPV; rw [List.length_map]; exact h, fun x hx => by
  obtain ⟨t, _, rfl⟩ := List.mem_map.mp hx
  exact SD_int⟩
theorem eqB_nil {ts : List PV} : eqB (.lst ts) (.lst []) = ts.isEmpty := by
  cases ts <;> simp [eqB, PV.data, datas, PyData.eqv, PyData.eqvAll]
theorem addF_ok {a b : List PV} (h : a.length + b.length ≤ 1000000) : addF (.lst a) (.lst b) = some (a ++ b) := if_pos (szL _ h)
theorem addV_lst {a b : List PV} (h : a.length + b.length ≤ 1000000) : addV (.lst a) (.lst b) = some (.lst (a ++ b)) := if_pos (szL _ h)
theorem addV_tup {a b : List PV} (h : a.length + b.length ≤ 1000000) : addV (.tup a) (.tup b) = some (.tup (a ++ b)) := if_pos (szL _ h)
theorem extF_ok {μ : Store} {k : Nat} {ds es : List PV} (h : μ[k]? = some (some (.lst ds))) (hl : ds.length + es.length ≤ 1000000) : gExt (.c k) [.t (.lst es)] μ = .ok (.t .non) (μ.set k (some (.lst (ds ++ es)))) := by
  simp only [gExt, lstAt, h, views, view]
  rw [if_pos (szL _ hl)]
theorem range_at {n i : Nat} {d : PV} (h : (rgI 0 n)[i]? = some d) : i < n ∧ d = .int (i : Int) := by
  rw [rgI_nat, List.getElem?_map] at h
  obtain ⟨b, hb, rfl⟩ := Option.map_eq_some_iff.mp h
  have hi : i < n := by
    have := (List.getElem?_eq_some_iff.mp hb).1
    simpa using this
  rw [List.getElem?_range hi] at hb
  cases hb
  exact ⟨hi, rfl⟩
theorem rgI_len (n : Nat) : (rgI 0 n).length = n := by unfold rgI; simp
theorem enumP_at {l : List PV} {i : Nat} {d : PV} (h : (enumP l)[i]? = some d) : ∃ z, l[i]? = some z ∧ d = .tup [.int (i : Int), z] := enum_at h
theorem inW_mod (x : Int) : inW (x % 2147483647) = true := by
  have h1 := Int.emod_nonneg x (b := 2147483647) (by decide)
  have h2 := Int.emod_lt_of_pos x (b := 2147483647) (by decide)
  exact Nat.ble_eq_true_of_le (by omega)
section
variable {T : Tgt} {B : MSt} {d : PV} {ds : List PV} {σ σ1 σ2 : Sl} {μ μ2 : Store}
theorem forL_nx (h1 : asg T (.t d) σ = some σ1) (h2 : B σ1 μ = .nx σ2 μ2) : forL T B (d :: ds) σ μ = forL T B ds σ2 μ2 := by rw [forL, h1]; simp only [h2]
theorem forL_ct (h1 : asg T (.t d) σ = some σ1) (h2 : B σ1 μ = .ct σ2 μ2) : forL T B (d :: ds) σ μ = forL T B ds σ2 μ2 := by rw [forL, h1]; simp only [h2]
theorem forL_rt {w : Val} (h1 : asg T (.t d) σ = some σ1) (h2 : B σ1 μ = .rt w μ2) : forL T B (d :: ds) σ μ = .rt w μ2 := by rw [forL, h1]; simp only [h2]
theorem forL_ex {c : Str} {f : Option (Str × PV)} (h1 : asg T (.t d) σ = some σ1) (h2 : B σ1 μ = .ex c f σ2 μ2) : forL T B (d :: ds) σ μ = .ex c f σ2 μ2 := by rw [forL, h1]; simp only [h2]
end
end PM
namespace PM
open PySem PySem.Spec PyProof.Rows L2
section
variable {μ : Store} {σ : Sl} {fa fb fc : ME} {fs : Sl → Store → R (List Val)}
@[simp] theorem eMeth_eq {C m : Str} {n : Nat} {fn : Fn} : eMeth C m n fn fa fs σ μ = (fa σ μ).bind fun w μ1 => if isObj C m w then (fs σ μ1).bind fun ws μ2 => gCall n fn (w :: ws) μ2 else .stuck := (rfl)
@[simp] theorem eMake_eq {C : Str} {ns : List Str} {n : Nat} {fn : FnI} : eMake C ns n fn fs σ μ = (fs σ μ).bind fun ws μ1 => if ws.all Val.plain && decide (ws.length = n) then (fn ws μ1).bind (mkOb C ns) else .stuck := (rfl)
@[simp] theorem eDNew_eq {b : Bool} : eDNew b σ μ = .ok (.c μ.length) (μ ++ [some (.dic b [] [])]) := (rfl)
@[simp] theorem eFrz_eq : eFrz fa σ μ = (fa σ μ).bind fun w μ => match frz1 μ w with
  | some (w', μ') => .ok w' μ'
  | none => .stuck := (rfl)
theorem frz_lst {k : Nat} {ds : List PV} (h : μ[k]? = some (some (.lst ds))) : frz1 μ (.c k) = some (.t (.lst ds), μ.set k none) := by simp [frz1, h]
theorem frz_dic {k : Nat} {b : Bool} {ks ds : List PV} (h : μ[k]? = some (some (.dic b ks ds))) : frz1 μ (.c k) = some (.t (.dic b ks ds), μ.set k none) := by simp [frz1, h]
@[simp] theorem frz_t {d : PV} : frz1 μ (.t d) = some (.t d, μ) := (rfl)
@[simp] theorem gVals_t {ks vs : List PV} : gVals (.t (.dic false ks vs)) μ = .ok vs μ := (rfl)
@[simp] theorem listF_dic {ks vs : List PV} : listF [.dic false ks vs] = some ks := (rfl)
@[simp] theorem lenV_dic {b : Bool} {ks vs : List PV} : lenV [.dic b ks vs] = some (.int ks.length) := (rfl)
@[simp] theorem at_snoc {α : Type} {l : List α} {x : α} : (l ++ [x])[l.length]? = some x := by simp
@[simp] theorem set_snoc {α : Type} {l : List α} {x y : α} : (l ++ [x]).set l.length y = l ++ [y] := by
  rw [List.set_append_right _ _ (Nat.le_refl _), Nat.sub_self]; rfl
@[simp] theorem take_snoc {α : Type} {l : List α} {x : α} : (l ++ [x]).take l.length = l := by simp
theorem getE_of {α : Type} {l : List α} {i : Nat} {x : α} (h : l[i]? = some x) : ∃ hi : i < l.length, l[i] = x := List.getElem?_eq_some_iff.mp h
end
/-! ### enumerate, from a place on -/
def enumF : Nat → List PV → List PV
  | _, [] => []
  | k, d :: ds => .tup [.int (k : Int), d] :: enumF (k + 1) ds
theorem enumP_F (l : List PV) : enumP l = enumF 0 l := by
  have key : ∀ (l : List PV) (k : Nat), ((List.range l.length).map (· + k)).zipWith (fun (k : Nat) d => PV.tup [.int (k : Int), d]) l = enumF k l := by
    intro l
    induction l with
    | nil => intro k; rfl
    | cons d ds ih =>
      intro k
      rw [List.length_cons, List.range_succ_eq_map, List.map_cons, List.zipWith_cons_cons, enumF, List.map_map, ← ih (k + 1)]
      congr 1
      · simp
      · congr 1
        exact List.map_congr_left fun a _ => by simp; omega
  have := key l 0
  simpa [enumP] using this
/-! ### small flat data, the texts too -/
def SB : Nat → PV → Prop
  | _, .non => True
  | _, .bl _ => True
  | _, .int _ => True
  | _, .str x => x.length ≤ 1000
  | n + 1, .tup l => l.length ≤ 100000 ∧ ∀ x ∈ l, SB n x
  | n + 1, .lst l => l.length ≤ 100000 ∧ ∀ x ∈ l, SB n x
  | _, _ => False
theorem SB_tup {n : Nat} {l : List PV} : SB (n + 1) (.tup l) ↔ l.length ≤ 100000 ∧ ∀ x ∈ l, SB n x := by rw [SB]
theorem SB_lst {n : Nat} {l : List PV} : SB (n + 1) (.lst l) ↔ l.length ≤ 100000 ∧ ∀ x ∈ l, SB n x := by rw [SB]
@[simp] theorem SB_int {n : Nat} {i : Int} : SB n (.int i) := by rw [SB]; trivial
@[simp] theorem SB_bl {n : Nat} {i : Bool} : SB n (.bl i) := by rw [SB]; trivial
theorem SB_str {n : Nat} {i : Str} : SB n (.str i) ↔ i.length ≤ 1000 := by rw [SB]
@[simp] theorem SB_non {n : Nat} : SB n .non := by rw [SB]; trivial
theorem SB_0t {l : List PV} : ¬ SB 0 (.tup l) := by rw [SB] <;> simp
theorem SB_0l {l : List PV} : ¬ SB 0 (.lst l) := by rw [SB] <;> simp
theorem SB_nodic {n : Nat} {b : Bool} {k l : List PV} : ¬ SB n (.dic b k l) := by cases n <;> (rw [SB] <;> simp)
theorem SB_noobj {n : Nat} {C : Str} {k : List Str} {l : List PV} : ¬ SB n (.obj C k l) := by cases n <;> (rw [SB] <;> simp)
theorem SB.sd {n : Nat} : ∀ {d : PV}, SB n d → SD n d := by
  induction n with
  | zero =>
    intro d h
    cases d <;> first | simp | exact absurd h SB_0t | exact absurd h SB_0l | exact absurd h SB_nodic | exact absurd h SB_noobj
  | succ n ih =>
    intro d h
    cases d with
    | tup l => rw [SB_tup] at h; exact SD_tup.mpr ⟨h.1, fun x hx => ih (h.2 x hx)⟩
    | lst l => rw [SB_lst] at h; exact SD_lst.mpr ⟨h.1, fun x hx => ih (h.2 x hx)⟩
    | dic b k l => exact absurd h SB_nodic
    | obj C k l => exact absurd h SB_noobj
    | _ => simp
theorem SB.up {n m : Nat} {d : PV} (h : SB n d) (k : n ≤ m) : SB m d := by
  induction n generalizing m d with
  | zero => cases d <;> first | simp | (rw [SB_str] at h ⊢; exact h) | exact absurd h SB_0t | exact absurd h SB_0l | exact absurd h SB_nodic | exact absurd h SB_noobj
  | succ n ih =>
    cases m with
    | zero => omega
    | succ m =>
      cases d with
      | tup l => rw [SB_tup] at h ⊢; exact ⟨h.1, fun x hx => ih (h.2 x hx) (by omega)⟩
      | lst l => rw [SB_lst] at h ⊢; exact ⟨h.1, fun x hx => ih (h.2 x hx) (by omega)⟩
      | dic b k l => exact absurd h SB_nodic
      | obj C k l => exact absurd h SB_noobj
      | str x => rw [SB_str] at h ⊢; exact h
      | _ => simp
theorem SB.tupE {n : Nat} {l : List PV} (h : SB n (.tup l)) : ∃ m, n = m + 1 ∧ l.length ≤ 100000 ∧ ∀ x ∈ l, SB m x := by
  cases n with
  | zero => exact absurd h SB_0t
  | succ m => exact ⟨m, rfl, SB_tup.mp h⟩
theorem SB.lstE {n : Nat} {l : List PV} (h : SB n (.lst l)) : ∃ m, n = m + 1 ∧ l.length ≤ 100000 ∧ ∀ x ∈ l, SB m x := by
  cases n with
  | zero => exact absurd h SB_0l
  | succ m => exact ⟨m, rfl, SB_lst.mp h⟩
theorem SB.ty {n : Nat} {d : PV} (h : SB n d) : tyN d ≠ none := h.sd.ty
theorem SB.ok {n : Nat} {d : PV} (h : SB n d) (k : n ≤ 64 := by decide) : okD d = true := h.sd.ok k
theorem SB_ints {n : Nat} {l : List Int} : ∀ x ∈ l.map PV.int, SB n x := fun x hx => by
  obtain ⟨i, _, rfl⟩ := List.mem_map.mp hx
  exact SB_int
theorem SB_tupI {l : List Int} {k : Nat} (h : l.length ≤ 100000) : SB (k + 1) (tupI l) := SB_tup.mpr ⟨by rw [List.length_map]; exact h, SB_ints⟩
/-! ### texts -/
@[simp] theorem gIt_str {z : Str} {μ : Store} : gIt (.t (.str z)) μ = .ok (z.cps.toList.map fun c => .str ⟨#[c]⟩) μ := (rfl)
theorem inPV_sign {c : Nat} {z : Str} : inPV (.str ⟨#[c]⟩) (.str z) = some (.bl (decide (c ∈ z.cps.toList))) := (rfl)
theorem notInPV_sign {c : Nat} {z : Str} : notInPV (.str ⟨#[c]⟩) (.str z) = some (.bl (!decide (c ∈ z.cps.toList))) := (rfl)
theorem lenV_str {z : Str} (h : z.length ≤ 1000) : lenV [.str z] = some (.int z.length) := if_pos (szL _ (by omega))
theorem str_len (z : Str) : z.length = z.cps.toList.length := by rw [Array.length_toList]; rfl
theorem eqV_str {x y : Str} : eqV (.str x) (.str y) = some (.bl (decide (x = y))) := by
  rw [eq_ok (SD_str (n := 0)).ok (SD_str (n := 0)).ok]
  simp only [eqB, PV.data, PyData.eqv, Bool.beq_eq_decide_eq]
theorem neV_str {x y : Str} : neV (.str x) (.str y) = some (.bl (!decide (x = y))) := by
  rw [ne_ok (SD_str (n := 0)).ok (SD_str (n := 0)).ok]
  simp only [eqB, PV.data, PyData.eqv, Bool.beq_eq_decide_eq]
theorem inW_small {i : Int} (h1 : -1000000 ≤ i) (h2 : i ≤ 1000000) : inW i = true := Nat.ble_eq_true_of_le (by omega)
theorem mulV_ok {i j : Int} (h1 : -1000000 ≤ j) (h2 : j ≤ 1000000) : mulV (.int i) (.int j) = some (.int (i * j)) := by
  simp [mulV, inW_small h1 h2]
theorem mulV_ok' {i j : Int} (h1 : -1000000 ≤ i) (h2 : i ≤ 1000000) : mulV (.int i) (.int j) = some (.int (i * j)) := by
  simp [mulV, inW_small h1 h2]
/-! ### dicts -/
theorem dfind_some {k : PV} : ∀ {ks vs : List PV}, ks.length = vs.length → (dfind ks vs k).isSome = ks.any (keyEq · k)
  | [], [], _ => rfl
  | x :: ks, v :: vs, h => by
    show (if keyEq x k then some v else dfind ks vs k).isSome = (keyEq x k || ks.any (keyEq · k))
    cases keyEq x k
    · simpa using dfind_some (Nat.succ.inj h)
    · rfl
  | [], _ :: _, h => by cases h
  | _ :: _, [], h => by cases h
theorem dput_new {ks vs : List PV} {k d : PV} (h : ks.any (keyEq · k) = false) : dput ks vs k d = (ks ++ [k], vs ++ [d]) := by
  unfold dput; rw [h]; rfl
@[simp] theorem keyEq_str {x y : Str} : keyEq (.str x) (.str y) = decide (x = y) := (rfl)
theorem eqB_str {x y : Str} : eqB (.str x) (.str y) = decide (x = y) := by simp only [eqB, PV.data, PyData.eqv, Bool.beq_eq_decide_eq]
@[simp] theorem keyB_str {x : Str} : keyB false (.str x) = true := (rfl)
theorem inPV_dic {b : Bool} {ks vs : List PV} {k : PV} (h : keyB b k = true) : inPV k (.dic b ks vs) = some (.bl (dfind ks vs k).isSome) := by
  unfold inPV inV'
  split <;> first | (cases h; done) | skip
  all_goals first
    | (rename_i h1 h2; cases h2; done)
    | skip
  · rename_i heq; cases heq; simp [h]
  all_goals simp_all
end PM
/-! texts as lists of signs -/
namespace PM
open PySem PySem.Spec PyProof.Rows L2
def sg (l : List Nat) : Str := ⟨l.toArray⟩
@[simp] theorem sg_list (l : List Nat) : (sg l).cps.toList = l := (rfl)
@[simp] theorem sg_len (l : List Nat) : (sg l).length = l.length := by rw [str_len, sg_list]
@[simp] theorem sg_inj {l m : List Nat} : sg l = sg m ↔ l = m := by
  refine ⟨fun h => ?_, fun h => by rw [h]⟩
  have := congrArg (fun z : Str => z.cps.toList) h
  simpa using this
theorem sg_app (l m : List Nat) : sg l ++ sg m = sg (l ++ m) := by
  show (⟨l.toArray ++ m.toArray⟩ : Str) = _
  unfold sg
  congr 1
  simp
theorem sg_of (z : Str) : z = sg z.cps.toList := by
  unfold sg
  cases z
  simp
theorem sg_cut (l : List Nat) (lo hi : Option Int) : cutS (sg l) lo hi = sg (cutG l lo hi) := by
  unfold cutS cutG
  rw [sg_len, sg_list]
  rfl
theorem sg_ok {l : List Nat} : PyData.strOk (sg l) = true ↔ ∀ c ∈ l, c < 0x110000 := by
  unfold PyData.strOk sg
  simp
theorem addV_sg {l m : List Nat} (h : l.length + m.length ≤ 1000000) : addV (.str (sg l)) (.str (sg m)) = some (.str (sg (l ++ m))) := by
  show (if (sg l).length + (sg m).length ≤ sizeLine then _ else _) = _
  rw [if_pos (by rw [sg_len, sg_len]; exact szL _ h), sg_app]
theorem slV_sg {l : List Nat} {lo hi : Option Int} (h : l.length ≤ 1000000) : slV lo hi (.str (sg l)) = some (.str (sg (cutG l lo hi))) := by
  show (if (sg l).length ≤ sizeLine then _ else _) = _
  rw [if_pos (by rw [sg_len]; exact szL _ h), sg_cut]
theorem atV_sg {l : List Nat} {i : Nat} (h : l.length ≤ 1000000) (hi : i < l.length) : atV (.str (sg l)) (.int (i : Int)) = some (.str (sg [l[i]])) := by
  show (if (sg l).length ≤ sizeLine then _ else _) = _
  rw [if_pos (by rw [sg_len]; exact szL _ h), sg_list, atI_nat' hi]
  rfl
theorem lenV_sg {l : List Nat} (h : l.length ≤ 1000000) : lenV [.str (sg l)] = some (.int l.length) := by
  show (if (sg l).length ≤ sizeLine then _ else _) = _
  rw [if_pos (by rw [sg_len]; exact szL _ h), sg_len]
theorem joinL_nil : ∀ ls : List (List Nat), TL.joinL [] ls = ls.flatten
  | [] => rfl
  | [l] => by simp [TL.joinL]
  | l :: m :: r => by
    show l ++ ([] ++ TL.joinL [] (m :: r)) = _
    rw [joinL_nil (m :: r)]
    simp
theorem join_sg (s : List Nat) (ls : List (List Nat)) : Txt.join (sg s) (ls.map sg) = sg (TL.joinL s ls) := by
  have h := TL.tl_join (sg s) (ls.map sg)
  rw [TL.join_eq, sg_of (Str.join (sg s) (ls.map sg))]
  congr 1
  have e : (ls.map sg).map TL.tl = ls := by
    rw [List.map_map]
    have : TL.tl ∘ sg = id := by funext l; rfl
    rw [this, List.map_id]
  rw [e] at h
  exact h
theorem strsOf_map (ls : List (List Nat)) : strsOf (ls.map fun l => .str (sg l)) = some (ls.map sg) := by
  induction ls with
  | nil => rfl
  | cons l ls ih => show (strsOf (ls.map fun l => .str (sg l))).map _ = _; rw [ih]; rfl
theorem joinL_mem {s : List Nat} : ∀ {ls : List (List Nat)} {c : Nat}, c ∈ TL.joinL s ls → c ∈ s ∨ ∃ l ∈ ls, c ∈ l
  | [], c, h => by cases h
  | [l], c, h => .inr ⟨l, List.mem_singleton.mpr rfl, h⟩
  | l :: m :: r, c, h => by
    have h : c ∈ l ++ (s ++ TL.joinL s (m :: r)) := h
    rcases List.mem_append.mp h with h | h
    · exact .inr ⟨l, List.mem_cons_self, h⟩
    · rcases List.mem_append.mp h with h | h
      · exact .inl h
      · rcases joinL_mem h with h | ⟨l', h1, h2⟩
        · exact .inl h
        · exact .inr ⟨l', List.mem_cons_of_mem _ h1, h2⟩
theorem gJoin_sg {s : List Nat} {ls : List (List Nat)} {μ : Store} (hl : (ls.map List.length).sum + ls.length * s.length ≤ 1000000) (ho : ∀ c ∈ s, c < 0x110000) (hm : ∀ l ∈ ls, ∀ c ∈ l, c < 0x110000) : gJoin (sg s) (.t (.lst (ls.map fun l => .str (sg l)))) μ = .ok (.t (.str (sg (TL.joinL s ls)))) μ := by
  have hb : joinB (sg s) (ls.map sg) = true := by
    unfold joinB
    rw [Bool.and_eq_true]
    refine ⟨Nat.ble_eq_true_of_le ?_, ?_⟩
    · have e : ((ls.map sg).map (·.length)) = ls.map List.length := by rw [List.map_map]; exact List.map_congr_left fun l _ => sg_len l
      rw [e, List.length_map, sg_len]
      omega
    · rw [join_sg, sg_ok]
      intro c hc
      rcases joinL_mem hc with h | ⟨l, h1, h2⟩
      · exact ho c h
      · exact hm l h1 c h2
  simp only [gJoin, view_t, strsOf_map, hb, if_true, join_sg]
theorem cut_to {α : Type} {l : List α} {k : Nat} (h : k ≤ l.length) : cutG l none (some (k : Int)) = l.take k := by
  unfold cutG
  rw [HT.sIx_none, HT.sIx_nat, List.drop_zero, Nat.sub_zero, Nat.min_eq_left h]
theorem cut_from {α : Type} {l : List α} {k : Nat} (h : k ≤ l.length) : cutG l (some (k : Int)) none = l.drop k := by
  unfold cutG
  rw [HT.sIx_none, HT.sIx_nat, Nat.min_eq_left h]
  exact List.take_of_length_le (by rw [List.length_drop]; exact Nat.le_refl _)
theorem cut_len {α : Type} (l : List α) (lo hi : Option Int) : (cutG l lo hi).length ≤ l.length := by
  unfold cutG
  rw [List.length_take, List.length_drop]
  omega
theorem cut_mem {α : Type} {l : List α} {lo hi : Option Int} {x : α} (h : x ∈ cutG l lo hi) : x ∈ l := List.mem_of_mem_drop (List.mem_of_mem_take h)
theorem any_cg {α : Type} {p q : α → Bool} : ∀ {l : List α}, (∀ x ∈ l, p x = q x) → l.any p = l.any q
  | [], _ => rfl
  | a :: l, h => by rw [List.any_cons, List.any_cons, h a List.mem_cons_self, any_cg fun x hx => h x (List.mem_cons_of_mem _ hx)]
theorem all_cg {α : Type} {p q : α → Bool} : ∀ {l : List α}, (∀ x ∈ l, p x = q x) → l.all p = l.all q
  | [], _ => rfl
  | a :: l, h => by rw [List.all_cons, List.all_cons, h a List.mem_cons_self, all_cg fun x hx => h x (List.mem_cons_of_mem _ hx)]
mutual
theorem data_refl : ∀ x : PV, PyData.eqv x.data x.data = true
  | .non => by simp [PV.data, PyData.eqv]
  | .bl _ => by simp [PV.data, PyData.eqv]
  | .int _ => by simp [PV.data, PyData.eqv]
  | .str _ => by simp [PV.data, PyData.eqv]
  | .tup l => by simp only [PV.data, PyData.eqv]; exact datas_refl l
  | .lst l => by simp only [PV.data, PyData.eqv]; exact datas_refl l
  | .dic _ _ _ => by simp [PV.data, PyData.eqv]
  | .obj _ _ _ => by simp [PV.data, PyData.eqv]
theorem datas_refl : ∀ l : List PV, PyData.eqvAll (datas l) (datas l) = true
  | [] => by simp [datas, PyData.eqvAll]
  | x :: l => by simp only [datas, PyData.eqvAll]; rw [data_refl x, datas_refl l]; rfl
end
theorem eqB_refl (x : PV) : eqB x x = true := data_refl x
theorem gEqO_ok {C : Str} {fn : Fn} {ns ns' : List Str} {ds ds' : List PV} {μ : Store} (h : retTrue (fn [.t (.obj C ns ds), .t (.obj C ns' ds')] []) = true) : gEqO C fn (.t (.obj C ns ds)) (.t (.obj C ns' ds')) μ = .ok (.t (.bl true)) μ := if_pos ⟨rfl, rfl, h⟩
/-! ### sums, least, greatest -/
theorem numsOf_map (l : List Int) : numsOf (l.map .int) = some l := by
  induction l with
  | nil => rfl
  | cons a l ih => show (numsOf (l.map .int)).map _ = _; rw [ih]; rfl
theorem sumV_tupI (l : List Int) : sumV [tupI l] = some (.int l.sum) := by
  show (numsOf (l.map .int)).map _ = _
  rw [numsOf_map]; rfl
theorem minV1_tupI {l : List Int} (h : l ≠ []) : ∃ m ∈ l, minV1 [tupI l] = some (.int m) := by
  show ∃ m ∈ l, (intsOf (l.map .int)).bind minOf = _
  rw [intsOf_map]
  cases l with
  | nil => exact absurd rfl h
  | cons n ns => exact ⟨_, foldl_min_mem n ns, rfl⟩
theorem maxV1_tupI {l : List Int} (h : l ≠ []) : ∃ m ∈ l, maxV1 [tupI l] = some (.int m) := by
  show ∃ m ∈ l, (intsOf (l.map .int)).bind maxOf = _
  rw [intsOf_map]
  cases l with
  | nil => exact absurd rfl h
  | cons n ns => exact ⟨_, foldl_max_mem n ns, rfl⟩
theorem mulF_ok {l : List PV} {k : Nat} (h : l.length * k ≤ 1000000) (hk : k ≤ 1000000) : mulF (.lst l) (.int (k : Int)) = some (rep (k : Int) l) := by
  have h1 : bnd (k : Int) = true := bnd_of (by omega) (by omega)
  have h2 : Nat.ble (l.length * (k : Int).toNat) sizeLine = true := Nat.ble_eq_true_of_le (by rw [Int.toNat_natCast]; exact szL _ h)
  show (if (bnd (k : Int) && Nat.ble (l.length * (k : Int).toNat) sizeLine) = true then some (rep (k : Int) l) else none) = _
  rw [h1, h2]
  rfl
theorem rep_one {α : Type} (x : α) (k : Nat) : rep (k : Int) [x] = List.replicate k x := by
  unfold rep
  rw [Int.toNat_natCast]
  induction k with
  | zero => rfl
  | succ k ih => rw [List.replicate_succ, List.flatten_cons, ih]; rfl
end PM
/-! the well as a state: draws as plain functions -/
namespace PM
open PySem PySem.Spec PyProof.Rows L2
abbrev W3 := Int × Int × Int
def wlw (w : W3) : Option Cell := wl w.1 w.2.1 w.2.2
theorem wlw_eq {a b c : Int} : wl a b c = wlw (a, b, c) := (rfl)
def drX (w : W3) : Int :=
  let x := (w.2.1 + 104729 * (w.2.2 + 1) + 1) * 48271 % 2147483647
  let y := x * (x / 1009 + 69621) % 2147483647
  y * (y / 2003 + 40692) % 2147483399
def dr (m : Nat) (w : W3) : Nat × W3 := if 0 < w.1 then ((w.1 % (m : Int)).toNat, (w.1 / (m : Int), w.2.1, w.2.2)) else ((drX w % (m : Int)).toNat, (w.1, w.2.1, w.2.2 + 1))
theorem dr_lt {m : Nat} {w : W3} (h : 0 < m) : (dr m w).1 < m := by
  unfold dr
  split
  · have h1 := Int.emod_nonneg w.1 (b := (m : Int)) (by omega)
    have h2 := Int.emod_lt_of_pos w.1 (b := (m : Int)) (by omega)
    simp only; omega
  · have h1 := Int.emod_nonneg (drX w) (b := (m : Int)) (by omega)
    have h2 := Int.emod_lt_of_pos (drX w) (b := (m : Int)) (by omega)
    simp only; omega
/-- one after another, with the well -/
def mapW {α β : Type} (f : α → W3 → β × W3) : List α → W3 → List β × W3
  | [], w => ([], w)
  | a :: l, w => ((f a w).1 :: (mapW f l (f a w).2).1, (mapW f l (f a w).2).2)
@[simp] theorem mapW_len {α β : Type} (f : α → W3 → β × W3) : ∀ (l : List α) (w : W3), (mapW f l w).1.length = l.length
  | [], _ => rfl
  | a :: l, w => by show Nat.succ _ = Nat.succ _; rw [mapW_len f l]
theorem mapW_mem {α β : Type} {f : α → W3 → β × W3} {P : β → Prop} : ∀ {l : List α} {w : W3}, (∀ a ∈ l, ∀ w, P (f a w).1) → ∀ y ∈ (mapW f l w).1, P y
  | [], _, _, y, h => nomatch h
  | a :: l, w, hp, y, h => by
    rcases List.mem_cons.mp h with rfl | h
    · exact hp a List.mem_cons_self w
    · exact mapW_mem (fun b hb => hp b (List.mem_cons_of_mem _ hb)) y h
theorem lcL_W {T : Tgt} {test : Sl → Store → R Bool} {elt : ME} {t : Store} (f : PV → W3 → PV × W3) {σ : Sl} : ∀ {items : List PV} {w : W3}, (∀ d ∈ items, ∀ w, ∃ σ1, asg T (.t d) σ = some σ1 ∧ test σ1 (wlw w :: t) = .ok true (wlw w :: t) ∧ elt σ1 (wlw w :: t) = .ok (.t (f d w).1) (wlw (f d w).2 :: t)) → lcL T test elt items σ (wlw w :: t) = .ok (mapW f items w).1 (wlw (mapW f items w).2 :: t)
  | [], w, _ => rfl
  | d :: ds, w, h => by
    obtain ⟨σ1, h1, h2, h3⟩ := h d List.mem_cons_self w
    unfold lcL
    rw [h1]
    simp only [h2, h3, noex_ok, bind_ok, if_true, gT]
    rw [lcL_W f fun d hd => h d (List.mem_cons_of_mem _ hd)]
    rfl
/-- so many draws below m -/
def drL (m k : Nat) (w : W3) : List Int × W3 := mapW (fun (_ : Nat) w => (((dr m w).1 : Int), (dr m w).2)) (List.range k) w
@[simp] theorem drL_len {m k : Nat} {w : W3} : (drL m k w).1.length = k := by unfold drL; simp
theorem drL_mem {m k : Nat} {w : W3} (h : 0 < m) : ∀ x ∈ (drL m k w).1, 0 ≤ x ∧ x < (m : Int) := mapW_mem (P := fun x => 0 ≤ x ∧ x < (m : Int)) fun a _ w => by
  have := dr_lt (w := w) h
  simp only; omega
theorem mapW_map {α β γ : Type} (f : α → W3 → β × W3) (g : γ → α) : ∀ (l : List γ) (w : W3), mapW f (l.map g) w = mapW (fun c w => f (g c) w) l w
  | [], _ => rfl
  | a :: l, w => by
    show ((f (g a) w).1 :: (mapW f (l.map g) _).1, (mapW f (l.map g) _).2) = _
    rw [mapW_map f g l]
    rfl
theorem mapW_post {α β γ : Type} (f : α → W3 → β × W3) (g : β → γ) : ∀ (l : List α) (w : W3), mapW (fun a w => (g (f a w).1, (f a w).2)) l w = ((mapW f l w).1.map g, (mapW f l w).2)
  | [], _ => rfl
  | a :: l, w => by
    show (g (f a w).1 :: (mapW (fun a w => (g (f a w).1, (f a w).2)) l _).1, (mapW (fun a w => (g (f a w).1, (f a w).2)) l _).2) = _
    rw [mapW_post f g l]
    rfl
theorem lc_draws {T : Tgt} {test : Sl → Store → R Bool} {elt : ME} {t : Store} {m k : Nat} {σ : Sl} {w : W3} (h : ∀ d ∈ rgI 0 k, ∀ w, ∃ σ1, asg T (.t d) σ = some σ1 ∧ test σ1 (wlw w :: t) = .ok true (wlw w :: t) ∧ elt σ1 (wlw w :: t) = .ok (.t (.int ((dr m w).1 : Int))) (wlw (dr m w).2 :: t)) : lcL T test elt (rgI 0 k) σ (wlw w :: t) = .ok ((drL m k w).1.map .int) (wlw (drL m k w).2 :: t) := by
  rw [lcL_W (fun _ w => (.int ((dr m w).1 : Int), (dr m w).2)) h]
  have e : mapW (fun (_ : PV) w => (PV.int ((dr m w).1 : Int), (dr m w).2)) (rgI 0 k) w = ((drL m k w).1.map .int, (drL m k w).2) := by
    rw [rgI_nat, mapW_map, mapW_post (fun (_ : Nat) w => (((dr m w).1 : Int), (dr m w).2)) PV.int]
    rfl
  rw [e]
end PM
/-! cells read and changed -/
namespace PM
open PySem PySem.Spec PyProof.Rows L2
section
variable {μ : Store} {k : Nat} {ds : List PV} {d e : PV}
theorem view_cell (h : μ[k]? = some (some (.lst ds))) : view μ (.c k) = some (.lst ds) := by simp [view, h]
theorem pN_cell {g : List PV → Option PV} (h : μ[k]? = some (some (.lst ds))) : pN g [.c k] μ = OR.ok μ ((g [.lst ds]).map .t) := by simp [pN, views, view_cell h]
theorem pfN_cell {g : List PV → Option (List PV)} (h : μ[k]? = some (some (.lst ds))) : pfN g [.c k] μ = OR.ok μ (g [.lst ds]) := by simp [pfN, views, view_cell h]
theorem p2_cell {g : PV → PV → Option PV} (h : μ[k]? = some (some (.lst ds))) : p2 g (.c k) (.t e) μ = OR.ok μ ((g (.lst ds) e).map .t) := by simp [p2, view_cell h]
theorem p2_cell' {g : PV → PV → Option PV} (h : μ[k]? = some (some (.lst ds))) : p2 g (.t e) (.c k) μ = OR.ok μ ((g e (.lst ds)).map .t) := by simp [p2, view_cell h]
theorem lstAt_cell (h : μ[k]? = some (some (.lst ds))) : lstAt μ (.c k) = some (k, ds) := by simp [lstAt, h]
theorem app_cell (h : μ[k]? = some (some (.lst ds))) (hl : ds.length < 1000000) : gMut mAppend (.c k) [.t d] μ = .ok (.t .non) (μ.set k (some (.lst (ds ++ [d])))) := by
  have := szL (ds.length + 1) (by omega)
  simp [gMut, lstAt_cell h, mAppend, show ds.length < sizeLine by omega]
end
theorem eMutG_eq {g : Val → List Val → Store → R Val} {o : ME} {as : Sl → Store → R (List Val)} {σ : Sl} {μ : Store} : eMutG g o as σ μ = (o σ μ).bind fun w μ1 => match lstAt μ1 w with
  | none => .stuck
  | some _ => (as σ μ1).bind fun ws μ2 => g w ws μ2 := (rfl)
/-- a walk by index over a cell that the turns leave as it is -/
theorem forI_keep {T : Tgt} {B : MSt} {k : Nat} (I : Sl → Store → Prop) {ds : List PV} {σ : Sl} {μ : Store} (hk : ∀ σ μ, I σ μ → μ[k]? = some (some (.lst ds))) (step : ∀ d ∈ ds, ∀ σ μ, I σ μ → ∃ σ1 σ2 μ2, asg T (.t d) σ = some σ1 ∧ B σ1 μ = .nx σ2 μ2 ∧ I σ2 μ2) :
    ∀ (n i : Nat) (σ : Sl) (μ : Store), ds.length < n + i → I σ μ → i ≤ ds.length → ∃ σ' μ', forI T B k n i σ μ = .nx σ' μ' ∧ I σ' μ'
  | 0, i, σ, μ, hn, h, hi => by omega
  | n + 1, i, σ, μ, hn, h, hi => by
    unfold forI
    rw [hk σ μ h]
    by_cases hl : i < ds.length
    · obtain ⟨σ1, σ2, μ2, e1, e2, e3⟩ := step ds[i] (List.getElem_mem hl) σ μ h
      obtain ⟨σ', μ', e, e'⟩ := forI_keep I (σ := σ) (μ := μ) hk step n (i + 1) σ2 μ2 (by omega) e3 (by omega)
      refine ⟨σ', μ', ?_, e'⟩
      simp only [List.getElem?_eq_getElem hl, e1, e2, e]
    · refine ⟨σ, μ, ?_, h⟩
      simp only [List.getElem?_eq_none (show ds.length ≤ i by omega)]
end PM
namespace PM
open PySem PySem.Spec PyProof.Rows L2
@[simp] theorem gCall_4cc {fn : Fn} {k j : Nat} {e f : PV} {μ : Store} : gCall 4 fn [.c k, .c j, .t e, .t f] μ = fn [.c k, .c j, .t e, .t f] μ := (rfl)
@[simp] theorem gCall_2cc {fn : Fn} {k j : Nat} {μ : Store} : gCall 2 fn [.c k, .c j] μ = fn [.c k, .c j] μ := (rfl)
@[simp] theorem gCall_3cc {fn : Fn} {k j : Nat} {e : PV} {μ : Store} : gCall 3 fn [.c k, .c j, .t e] μ = fn [.c k, .c j, .t e] μ := (rfl)
@[simp] theorem gCall_5 {fn : Fn} {d e f g h : PV} {μ : Store} : gCall 5 fn [.t d, .t e, .t f, .t g, .t h] μ = fn [.t d, .t e, .t f, .t g, .t h] μ := (rfl)
@[simp] theorem gCall_5c {fn : Fn} {k : Nat} {e f g h : PV} {μ : Store} : gCall 5 fn [.c k, .t e, .t f, .t g, .t h] μ = fn [.c k, .t e, .t f, .t g, .t h] μ := (rfl)
end PM
namespace PM
open PySem PySem.Spec PyProof.Rows L2
theorem lcL_cons {T : Tgt} {test : Sl → Store → R Bool} {elt : ME} {d y : PV} {ds ys : List PV} {σ σ1 : Sl} {μ μ2 μ3 : Store} (h1 : asg T (.t d) σ = some σ1) (h2 : test σ1 μ = .ok true μ) (h3 : elt σ1 μ = .ok (.t y) μ2) (h4 : lcL T test elt ds σ μ2 = .ok ys μ3) : lcL T test elt (d :: ds) σ μ = .ok (y :: ys) μ3 := by
  unfold lcL
  rw [h1]
  simp only [h2, h3, noex_ok, bind_ok, if_true, gT, h4]
theorem lcL_skip {T : Tgt} {test : Sl → Store → R Bool} {elt : ME} {d : PV} {ds ys : List PV} {σ σ1 : Sl} {μ μ3 : Store} (h1 : asg T (.t d) σ = some σ1) (h2 : test σ1 μ = .ok false μ) (h4 : lcL T test elt ds σ μ = .ok ys μ3) : lcL T test elt (d :: ds) σ μ = .ok ys μ3 := by
  unfold lcL
  rw [h1]
  simp only [h2, noex_ok, bind_ok, Bool.false_eq_true, if_false, h4]
theorem at_behind {x c : Option Cell} {t : Store} : (x :: (t ++ [c]))[t.length + 1]? = some c := by simp
theorem set_behind {x c c' : Option Cell} {t : Store} : (x :: (t ++ [c])).set (t.length + 1) c' = x :: (t ++ [c']) := by
  rw [List.set_cons_succ, set_snoc]
end PM
namespace PM
open PySem PySem.Spec PyProof.Rows L2
theorem setL_cell {μ : Store} {k i : Nat} {ds : List PV} {d : PV} (h : μ[k]? = some (some (.lst ds))) (hi : i < ds.length) : gSetL (.t d) (.c k) (.t (.int (i : Int))) μ = some (μ.set k (some (.lst (ds.set i d)))) := by
  have e : ixN ds.length (i : Int) = some i := by
    unfold ixN
    simp [hi]
  simp [gSetL, lstAt_cell h, e]
end PM
namespace PM
open PySem PySem.Spec PyProof.Rows L2
@[simp] theorem lcC_eq {fi : ME} {T : Tgt} {test : Sl → Store → R Bool} {elt : ME} {σ : Sl} {μ : Store} : lcC fi T test elt σ μ = (fi σ μ).bind fun w μ1 => gLent T test elt σ w μ1 := (rfl)
theorem gLent_ok {T : Tgt} {test : Sl → Store → R Bool} {elt : ME} {σ : Sl} {μ μ2 : Store} {k : Nat} {items ys : List PV} (h : μ[k]? = some (some (.lst items))) (hl : lcL T test elt items (wipeM σ T.sl) (μ.set k none) = .ok ys μ2) (hz : ys.length ≤ sizeLine) : gLent T test elt σ (.c k) μ = .ok ys (μ2.set k (some (.lst items))) := by
  unfold gLent
  simp only [h]
  rw [hl, bind_ok]
  exact szF_ok hz
theorem SB_t1 {n : Nat} {a : PV} (h : SB n a) : SB (n + 1) (.tup [a]) := SB_tup.mpr ⟨by simp, by simpa using h⟩
theorem SB_t2 {n : Nat} {a b : PV} (h : SB n a) (h2 : SB n b) : SB (n + 1) (.tup [a, b]) := SB_tup.mpr ⟨by simp, by simp [h, h2]⟩
theorem SB_t3 {n : Nat} {a b c : PV} (h : SB n a) (h2 : SB n b) (h3 : SB n c) : SB (n + 1) (.tup [a, b, c]) := SB_tup.mpr ⟨by simp, by simp [h, h2, h3]⟩
@[simp] theorem gCall_6c {fn : Fn} {k : Nat} {e f g h i : PV} {μ : Store} : gCall 6 fn [.c k, .t e, .t f, .t g, .t h, .t i] μ = fn [.c k, .t e, .t f, .t g, .t h, .t i] μ := (rfl)
@[simp] theorem gCall_6 {fn : Fn} {d e f g h i : PV} {μ : Store} : gCall 6 fn [.t d, .t e, .t f, .t g, .t h, .t i] μ = fn [.t d, .t e, .t f, .t g, .t h, .t i] μ := (rfl)
theorem cut_from' {α : Type} {l : List α} {k : Nat} : cutG l (some (k : Int)) none = l.drop k := by
  by_cases h : k ≤ l.length
  · exact cut_from h
  · unfold cutG
    rw [HT.sIx_none, HT.sIx_nat, Nat.min_eq_right (by omega), List.drop_length, List.take_nil, List.drop_of_length_le (by omega)]
theorem cut_from1 {α : Type} {l : List α} {k : Nat} : cutG l (some ((k : Int) + 1)) none = l.drop (k + 1) := cut_from' (k := k + 1)
theorem cut_to' {α : Type} {l : List α} {k : Nat} : cutG l none (some (k : Int)) = l.take k := by
  by_cases h : k ≤ l.length
  · exact cut_to h
  · unfold cutG
    rw [HT.sIx_none, HT.sIx_nat, List.drop_zero, Nat.sub_zero, Nat.min_eq_right (by omega), List.take_length, List.take_of_length_le (by omega)]
/-- an item of a list all of whose items are right -/
theorem at_all {P : PV → Prop} {l : List PV} {i : Nat} (h : ∀ x ∈ l, P x) (hi : i < l.length) : ∃ d, atI l (i : Int) = some d ∧ P d := ⟨l[i], atI_nat' hi, h _ (List.getElem_mem hi)⟩
@[simp] theorem eKw_eq {g : List Val → List Val → Store → R Val} {fs fk : Sl → Store → R (List Val)} {σ : Sl} {μ : Store} : eKw g fs fk σ μ = (fs σ μ).bind fun ws μ1 => (fk σ μ1).bind fun zs μ2 => g ws zs μ2 := (rfl)
end PM
namespace K29
open PySem PySem.Spec PyProof.Rows L2 PM
noncomputable section
def b__law_draw : MSt :=
  (sSeq (sIf (tVal (e2 (p2 gtV) (e2 (p2 atV) (eV 0) (eC (.int 0))) (eC (.int 0))))
      (sSeq (sAsg (.nm 2) (e2 (p2 modV) (e2 (p2 atV) (eV 0) (eC (.int 0))) (eV 1)))
    (sSeq (sSetL (e2 (p2 fdivV) (e2 (p2 atV) (eV 0) (eC (.int 0))) (eV 1)) (eV 0) (eC (.int 0)))
    (sRet (eV 2))))
      sPass)
    (sSeq (sSetL (e2 (p2 addV) (e2 (p2 atV) (eV 0) (eC (.int 2))) (eC (.int 1))) (eV 0) (eC (.int 2)))
    (sSeq (sAsg (.nm 3) (e2 (p2 modV) (e2 (p2 mulV) (e2 (p2 addV) (e2 (p2 addV) (e2 (p2 atV) (eV 0) (eC (.int 1))) (e2 (p2 mulV) (eC (.int 104729)) (e2 (p2 atV) (eV 0) (eC (.int 2))))) (eC (.int 1))) (eC (.int 48271))) (eC (.int 2147483647))))
    (sSeq (sAsg (.nm 3) (e2 (p2 modV) (e2 (p2 mulV) (eV 3) (e2 (p2 addV) (e2 (p2 fdivV) (eV 3) (eC (.int 1009))) (eC (.int 69621)))) (eC (.int 2147483647))))
    (sRet (e2 (p2 modV) (e2 (p2 modV) (e2 (p2 mulV) (eV 3) (e2 (p2 addV) (e2 (p2 fdivV) (eV 3) (eC (.int 2003))) (eC (.int 40692)))) (eC (.int 2147483399))) (eV 1)))))))
def fn__law_draw : Fn := fnOf 4 b__law_draw
def e1__law_names : ME :=
  (e2 (p2 atV) (eV 2) (eN (gCall 2 fn__law_draw) (aCons (eV 0) (aCons (eC (.int 26)) aNil))))
def e2__law_names : ME :=
  (e2 (p2 addV) (e2 (p2 addV) (eSl (fun l h => p1 (slV l h)) (eV 3) oNone (oSome (eV 4))) (e2 (p2 atV) (eV 2) (e2 (p2 modV) (e2 (p2 addV) (eV 5) (e2 (p2 mulV) (eC (.int 5)) (eV 6))) (eC (.int 26))))) (eSl (fun l h => p1 (slV l h)) (eV 3) (oSome (eV 4)) oNone))
def b__law_names : MSt :=
  (sSeq (sAsg (.nm 2) (eC (.str "abcdefghijklmnopqrstuvwxyz")))
    (sSeq (sAsg (.nm 3) (eJoin (eC (.str "")) (eOfF (lcF (eN gRange1 (aCons (e2 (p2 addV) (eC (.int 1)) (eN (gCall 2 fn__law_draw) (aCons (eV 0) (aCons (eC (.int 7)) aNil)))) aNil)) (.nm 6) tYes' e1__law_names))))
    (sSeq (sAsg (.nm 4) (eN (gCall 2 fn__law_draw) (aCons (eV 0) (aCons (e2 (p2 addV) (eN (pN lenV) (aCons (eV 3) aNil)) (eC (.int 1))) aNil))))
    (sSeq (sAsg (.nm 5) (eN (gCall 2 fn__law_draw) (aCons (eV 0) (aCons (eC (.int 26)) aNil))))
    (sRet (eOfF (lcF (eN gRange1 (aCons (eV 1) aNil)) (.nm 6) tYes' e2__law_names)))))))
def fn__law_names : Fn := fnOf 7 b__law_names
def b_is_whole : MSt :=
  (sRet (eAnd (e1 (p1 (isTy "int")) (eV 0)) (eNot (e1 (p1 (isTy "bool")) (eV 0)))))
def fn_is_whole : Fn := fnOf 1 b_is_whole
def e1_is_name : ME :=
  (e2 (p2 inPV) (eV 1) (eC (.str "abcdefghijklmnopqrstuvwxyz")))
def b_is_name : MSt :=
  (sRet (eAnd (e1 (p1 (isTy "str")) (eV 0)) (eAnd (eChain leV leV (eC (.int 2)) (eN (pN lenV) (aCons (eV 0) aNil)) (eC (.int 8))) (eN (pN allV) (aCons (eOfF (lcF (e1 gIt (eV 0)) (.nm 1) tYes' e1_is_name)) aNil)))))
def fn_is_name : Fn := fnOf 2 b_is_name
def b_is_thing : MSt :=
  (sRet (eAnd (eN (gCall 1 fn_is_whole) (aCons (eV 0) aNil)) (eChain leV ltV (eC (.int 0)) (eV 0) (eV 1))))
def fn_is_thing : Fn := fnOf 2 b_is_thing
def e1_is_row : ME :=
  (eN (gCall 2 fn_is_thing) (aCons (eV 3) (aCons (eV 2) aNil)))
def b_is_row : MSt :=
  (sRet (eAnd (e1 (p1 (isTy "tuple")) (eV 0)) (eAnd (e2 (p2 eqV) (eN (pN lenV) (aCons (eV 0) aNil)) (eV 1)) (eN (pN allV) (aCons (eOfF (lcF (e1 gIt (eV 0)) (.nm 3) tYes' e1_is_row)) aNil)))))
def fn_is_row : Fn := fnOf 4 b_is_row
def f1_cells : MSt :=
  (sAsg (.nm 2) (e2 (p2 mulV) (eV 2) (eV 0)))
def b_cells : MSt :=
  (sSeq (sAsg (.nm 2) (eC (.int 1)))
    (sSeq (sFor (eN gRange1 (aCons (eV 1) aNil)) (.nm 3) f1_cells)
    (sRet (eV 2))))
def fn_cells : Fn := fnOf 4 b_cells
def b_is_deed : MSt :=
  (sSeq (sIf (tOr' (tNot' (tVal (e1 (p1 (isTy "tuple")) (eV 0)))) (tOr' (tVal (e2 (p2 neV) (eN (pN lenV) (aCons (eV 0) aNil)) (eC (.int 3)))) (tNot' (tVal (eN (gCall 1 fn_is_name) (aCons (e2 (p2 atV) (eV 0) (eC (.int 0))) aNil))))))
      (sRet (eC (.bl false)))
      sPass)
    (sSeq (sAsg (.tp [(.nm 2), (.nm 3), (.nm 4)]) (eV 0))
    (sSeq (sIf (tOr' (tNot' (tVal (eN (gCall 1 fn_is_whole) (aCons (eV 3) aNil)))) (tNot' (tVal (eChain leV leV (eC (.int 0)) (eV 3) (eC (.int 3))))))
      (sRet (eC (.bl false)))
      sPass)
    (sRet (eN (gCall 3 fn_is_row) (aCons (eV 4) (aCons (eN (gCall 2 fn_cells) (aCons (eV 1) (aCons (eV 3) aNil))) (aCons (eV 1) aNil))))))))
def fn_is_deed : Fn := fnOf 5 b_is_deed
def p1_House_init : MSt :=
  (sIf (tOr' (tNot' (tVal (eN (gCall 1 fn_is_whole) (aCons (eV 1) aNil)))) (tNot' (tVal (eChain leV leV (eC (.int 1)) (eV 1) (eC (.int 9))))))
      (sRaise "NoHouse" "at" (aCons (e1 (p1 negV) (eC (.int 1))) aNil))
      sPass)
def p2_House_init : MSt :=
  (sIf (tOr' (tNot' (tVal (e1 (p1 (isTy "list")) (eV 2)))) (tVal (e2 (p2 gtV) (eN (pN lenV) (aCons (eV 2) aNil)) (eC (.int 6)))))
      (sRaise "NoHouse" "at" (aCons (e1 (p1 negV) (eC (.int 1))) aNil))
      sPass)
def p3_House_init : MSt :=
  (sAsg (.nm 3) (eDNew false))
def f1_House_init : MSt :=
  (sSeq (sIf (tOr' (tNot' (tVal (eN (gCall 2 fn_is_deed) (aCons (eV 5) (aCons (eV 1) aNil))))) (tVal (e2 (p2 inPV) (e2 (p2 atV) (eV 5) (eC (.int 0))) (eV 3))))
      (sRaise "NoHouse" "at" (aCons (eV 4) aNil))
      sPass)
    (sDPut (eV 5) (eV 3) (e2 (p2 atV) (eV 5) (eC (.int 0)))))
def p4_House_init : MSt :=
  (sFor (eN gEnum (aCons (eV 2) aNil)) (.tp [(.nm 4), (.nm 5)]) f1_House_init)
def bi_House : MI :=
  (iPre p1_House_init
    (iPre p2_House_init
    (iPre p3_House_init
    (iPre p4_House_init
    (iFld 0 (eV 1) (iPre (sFrz 3) (iFld 0 (eV 3) iNil)))))))
def fi_House : FnI := iniOf 6 bi_House
def e1__law_all : ME :=
  (e2 (p2 addV) (eV 5) (eN gTup (aCons (eV 6) aNil)))
def f1__law_all : MSt :=
  (sExp (eExt (eV 4) (aCons (eOfF (lcF (eN gRange1 (aCons (eV 0) aNil)) (.nm 6) tYes' e1__law_all)) aNil)))
def f2__law_all : MSt :=
  (sSeq (sAsg (.nm 4) (eCellF (eN gLst aNil)))
    (sSeq (sFor (e1 gIt (eV 2)) (.nm 5) f1__law_all)
    (sSeq (sFrz 4) (sAsg (.nm 2) (eV 4)))))
def b__law_all : MSt :=
  (sSeq (sAsg (.nm 2) (eOfF (eN gLst (aCons (eN gTup aNil) aNil))))
    (sSeq (sFor (eN gRange1 (aCons (eV 1) aNil)) (.nm 3) f2__law_all)
    (sRet (eV 2))))
def fn__law_all : Fn := fnOf 7 b__law_all
def f1__law_table : MSt :=
  (sSeq (sAsg (.nm 7) (eOfF (eN gLst (aCons (eV 4) (aCons (e2 (p2 modV) (e2 (p2 addV) (eN (pN sumV) (aCons (eV 6) aNil)) (eV 4)) (eV 1)) (aCons (eN (pN minV1) (aCons (e2 (p2 addV) (eV 6) (eN gTup (aCons (eV 4) aNil))) aNil)) (aCons (eN (pN maxV1) (aCons (e2 (p2 addV) (eV 6) (eN gTup (aCons (eV 4) aNil))) aNil)) aNil)))))))
    (sSeq (sIf (tVal (e2 (p2 gtV) (eV 2) (eC (.int 0))))
      (sAsg (.nm 7) (eOfF (e2 (pf2 addF) (eSl (fun l h => p1 (slV l h)) (eV 7) oNone (oSome (eC (.int 2)))) (eOfF (eN gLst (aCons (eN (pN minV1) (aCons (eV 6) aNil)) (aCons (eN (pN maxV1) (aCons (eV 6) aNil)) (aCons (e2 (p2 atV) (eV 6) (e2 (p2 modV) (eV 4) (eV 2))) aNil))))))))
      sPass)
    (sSeq (sAsg (.nm 8) (eN (gCall 2 fn__law_draw) (aCons (eV 0) (aCons (eV 1) aNil))))
    (sExp (eMut mAppend (eV 5) (aCons (e2 (p2 atV) (eOfF (e2 (pf2 addF) (eV 7) (eOfF (e2 (pf2 mulF) (eOfF (eN gLst (aCons (eV 8) aNil))) (eC (.int 8)))))) (eV 3)) aNil))))))
def b__law_table : MSt :=
  (sSeq (sAsg (.nm 3) (eN (gCall 2 fn__law_draw) (aCons (eV 0) (aCons (eC (.int 8)) aNil))))
    (sSeq (sAsg (.nm 4) (eN (gCall 2 fn__law_draw) (aCons (eV 0) (aCons (eV 1) aNil))))
    (sSeq (sAsg (.nm 5) (eCellF (eN gLst aNil)))
    (sSeq (sFor (e1 gIt (eN (gCall 2 fn__law_all) (aCons (eV 1) (aCons (eV 2) aNil)))) (.nm 6) f1__law_table)
    (sRet (eN (pN tupleV) (aCons (eV 5) aNil)))))))
def fn__law_table : Fn := fnOf 9 b__law_table
def e1__law_house : ME :=
  (eN gTup (aCons (eV 4) (aCons (eV 5) (aCons (eN (gCall 3 fn__law_table) (aCons (eV 0) (aCons (eV 1) (aCons (eV 5) aNil)))) aNil))))
def b__law_house : MSt :=
  (sSeq (sAsg (.nm 3) (eN (gCall 2 fn__law_names) (aCons (eV 0) (aCons (eN (pN lenV) (aCons (eV 2) aNil)) aNil))))
    (sRet (eMake "House" ["size", "by_name"] 2 fi_House (aCons (eV 1) (aCons (eOfF (lcF (eN gZip (aCons (eV 3) (aCons (eV 2) aNil))) (.tp [(.nm 4), (.nm 5)]) tYes' e1__law_house)) aNil)))))
def fn__law_house : Fn := fnOf 6 b__law_house
def f1__law_cells : MSt :=
  (sAsg (.nm 2) (e2 (p2 mulV) (eV 2) (eV 0)))
def b__law_cells : MSt :=
  (sSeq (sAsg (.nm 2) (eC (.int 1)))
    (sSeq (sFor (eN gRange1 (aCons (eV 1) aNil)) (.nm 3) f1__law_cells)
    (sRet (eV 2))))
def fn__law_cells : Fn := fnOf 4 b__law_cells
def b__law_places_due : MSt :=
  (sSeq (sIf (tOr' (tNot' (tVal (e1 (p1 (isTy "int")) (eV 1)))) (tOr' (tVal (e1 (p1 (isTy "bool")) (eV 1))) (tNot' (tVal (eChain leV leV (eC (.int 0)) (eV 1) (eC (.int 3)))))))
      (sRet (eN gTup (aCons (eC (.str "row")) (aCons (eC (.int 0)) aNil))))
      sPass)
    (sSeq (sIf (tVal (e2 (p2 gtV) (eN (gCall 2 fn__law_cells) (aCons (eV 0) (aCons (eV 1) aNil))) (eC (.int 81))))
      (sRet (eN gTup (aCons (eC (.str "many")) (aCons (eN (gCall 2 fn__law_cells) (aCons (eV 0) (aCons (eV 1) aNil))) aNil))))
      sPass)
    (sRet (eC .non))))
def fn__law_places_due : Fn := fnOf 2 b__law_places_due
def b__law_asked (L : Lm) (th : ME) : MSt :=
  (sSeq (sAsg (.nm 1) (eN gTup (aCons (eC (.str "told")) (aCons (eC .non) aNil))))
    (sSeq (sTry (wipeX 3 (sExp (eAct L th))) [⟨"NoRow", ["NoRow"], ["NoHouse", "NoName", "NoPaper", "NoSteps", "TooMany"], 2, (sAsg (.nm 1) (eN gTup (aCons (eC (.str "row")) (aCons (e1 (gXf ["NoRow"] "at") (eV 2)) aNil))))⟩, ⟨"TooMany", ["TooMany"], ["NoHouse", "NoName", "NoPaper", "NoRow", "NoSteps"], 2, (sAsg (.nm 1) (eN gTup (aCons (eC (.str "many")) (aCons (e1 (gXf ["TooMany"] "many") (eV 2)) aNil))))⟩, ⟨"NoPaper", ["NoPaper"], ["NoHouse", "NoName", "NoRow", "NoSteps", "TooMany"], 3, (sAsg (.nm 1) (eN gTup (aCons (eC (.str "paper")) (aCons (eC .non) aNil))))⟩, ⟨"NoSteps", ["NoSteps"], ["NoHouse", "NoName", "NoPaper", "NoRow", "TooMany"], 3, (sAsg (.nm 1) (eN gTup (aCons (eC (.str "steps")) (aCons (eC .non) aNil))))⟩])
    (sRet (eV 1))))
def fl__law_asked (L : Lm) (th : ME) : Fn := fnOf 3 (b__law_asked L th)
def b_House_things : MSt :=
  (sRet (e1 (gFld ["House"] "size") (eV 0)))
def fn_House_things : Fn := fnOf 1 b_House_things
def b_check_places : MSt :=
  (sSeq (sIf (tOr' (tNot' (tVal (eN (gCall 1 fn_is_whole) (aCons (eV 1) aNil)))) (tNot' (tVal (eChain leV leV (eC (.int 0)) (eV 1) (eC (.int 3))))))
      (sRaise "NoRow" "at" (aCons (eC (.int 0)) aNil))
      sPass)
    (sSeq (sAsg (.nm 2) (eN (gCall 2 fn_cells) (aCons (eMeth "House" "things" 1 fn_House_things (eV 0) aNil) (aCons (eV 1) aNil))))
    (sIf (tVal (e2 (p2 gtV) (eV 2) (eC (.int 81))))
      (sRaise "TooMany" "many" (aCons (eV 2) aNil))
      sPass)))
def fn_check_places : Fn := fnOf 3 b_check_places
def b_check_table : MSt :=
  (sSeq (sExp (eN (gCall 2 fn_check_places) (aCons (eV 0) (aCons (eV 1) aNil))))
    (sIf (tNot' (tVal (eN (gCall 3 fn_is_row) (aCons (eV 2) (aCons (eN (gCall 2 fn_cells) (aCons (eMeth "House" "things" 1 fn_House_things (eV 0) aNil) (aCons (eV 1) aNil))) (aCons (eMeth "House" "things" 1 fn_House_things (eV 0) aNil) aNil))))))
      (sRaise "NoRow" "at" (aCons (eC (.int 1)) aNil))
      sPass))
def fn_check_table : Fn := fnOf 3 b_check_table
def f1_check_rows : MSt :=
  (sIf (tNot' (tVal (eN (gCall 3 fn_is_row) (aCons (eV 4) (aCons (eV 1) (aCons (eV 2) aNil))))))
      (sRaise "NoRow" "at" (aCons (eV 3) aNil))
      sPass)
def b_check_rows : MSt :=
  (sSeq (sIf (tNot' (tVal (e1 (p1 (isTy "list")) (eV 0))))
      (sRaise "NoRow" "at" (aCons (eC (.int 0)) aNil))
      sPass)
    (sFor (eN gEnum (aCons (eV 0) aNil)) (.tp [(.nm 3), (.nm 4)]) f1_check_rows))
def fn_check_rows : Fn := fnOf 5 b_check_rows
def bi_Growing : MI :=
  (iFld 0 (eV 1) (iFld 0 (eV 2) (iFld 0 (eV 3) (iFld 0 (eDNew true) (iFld 0 (eCellF (eN gLst aNil)) (iFld 0 (eCellF (eN gLst aNil)) iNil))))))
def fi_Growing : FnI := iniOf 4 bi_Growing
def b_Growing_put : MSt :=
  (sIf (tVal (e2 (p2 notInPV) (eV 1) (e1 (gFld ["Growing"] "numbers") (eV 0))))
      (sSeq (sIf (tVal (e2 (p2 eqV) (eN (pN lenV) (aCons (e1 (gFld ["Growing"] "rows") (eV 0)) aNil)) (e1 (gFld ["Growing"] "most") (eV 0))))
      (sRaise "TooMany" "many" (aCons (e1 (gFld ["Growing"] "most") (eV 0)) aNil))
      sPass)
    (sSeq (sDPut (eN (pN lenV) (aCons (e1 (gFld ["Growing"] "rows") (eV 0)) aNil)) (e1 (gFld ["Growing"] "numbers") (eV 0)) (eV 1))
    (sSeq (sExp (eMut mAppend (e1 (gFld ["Growing"] "rows") (eV 0)) (aCons (eV 1) aNil)))
    (sExp (eMut mAppend (e1 (gFld ["Growing"] "steps") (eV 0)) (aCons (eV 2) aNil))))))
      sPass)
def fn_Growing_put : Fn := fnOf 3 b_Growing_put
def b_House_deeds : MSt :=
  (sRet (eOfF (e1 gVals (e1 (gFld ["House"] "by_name") (eV 0)))))
def fn_House_deeds : Fn := fnOf 1 b_House_deeds
def f1_grown : MSt :=
  (sExp (eMeth "Growing" "put" 3 fn_Growing_put (eV 4) (aCons (eV 6) (aCons (eN gTup (aCons (eV 5) aNil)) aNil))))
def f2_grown : MSt :=
  (sIf (tVal (e2 (p2 eqV) (eV 8) (eC (.int 0))))
      (sExp (eMeth "Growing" "put" 3 fn_Growing_put (eV 4) (aCons (e2 (p2 mulV) (eN gTup (aCons (e2 (p2 atV) (eV 9) (eC (.int 0))) aNil)) (eV 2)) (aCons (eN gTup (aCons (eV 7) aNil)) aNil))))
      sPass)
def b_grown : MSt :=
  (sSeq (sAsg (.nm 4) (eMake "Growing" ["house", "wide", "most", "numbers", "rows", "steps"] 3 fi_Growing (aCons (eV 0) (aCons (eV 2) (aCons (eV 3) aNil)))))
    (sSeq (sFor (eN gEnum (aCons (eV 1) aNil)) (.tp [(.nm 5), (.nm 6)]) f1_grown)
    (sSeq (sFor (e1 gIt (eMeth "House" "deeds" 1 fn_House_deeds (eV 0) aNil)) (.tp [(.nm 7), (.nm 8), (.nm 9)]) f2_grown)
    (sSeq sDead
    (sRet (eV 4))))))
def fn_grown : Fn := fnOf 10 b_grown
def b_made : MSt :=
  (sSeq (sIf (tNot' (tVal (e1 (p1 (isTy "tuple")) (eV 2))))
      (sRaise "NoRow" "at" (aCons (eC (.int 0)) aNil))
      sPass)
    (sSeq (sExp (eN (gCall 3 fn_check_rows) (aCons (eV 1) (aCons (eN (pN lenV) (aCons (eV 2) aNil)) (aCons (eMeth "House" "things" 1 fn_House_things (eV 0) aNil) aNil)))))
    (sSeq (sIf (tNot' (tVal (eN (gCall 3 fn_is_row) (aCons (eV 2) (aCons (eN (pN lenV) (aCons (eV 2) aNil)) (aCons (eMeth "House" "things" 1 fn_House_things (eV 0) aNil) aNil))))))
      (sRaise "NoRow" "at" (aCons (eN (pN lenV) (aCons (eV 1) aNil)) aNil))
      sPass)
    (sSeq (sAsg (.nm 4) (eN (gCall 4 fn_grown) (aCons (eV 0) (aCons (eV 1) (aCons (eN (pN lenV) (aCons (eV 2) aNil)) (aCons (eV 3) aNil))))))
    (sSeq (sIf (tVal (e2 (p2 inPV) (eV 2) (e1 (gFld ["Growing"] "numbers") (eV 4))))
      (sRet (eN gTup (aCons (eC (.str "made")) (aCons eDead aNil))))
      sPass)
    (sRet (eN gTup (aCons (eC (.str "barred")) (aCons eDead aNil)))))))))
def fn_made : Fn := fnOf 5 b_made
def f1_things_at : MSt :=
  (sSeq (sAsg (.nm 3) (e2 (p2 addV) (eN gTup (aCons (e2 (p2 modV) (eV 0) (eV 2)) aNil)) (eV 3)))
    (sAsg (.nm 0) (e2 (p2 fdivV) (eV 0) (eV 2))))
def b_things_at : MSt :=
  (sSeq (sAsg (.nm 3) (eN gTup aNil))
    (sSeq (sFor (eN gRange1 (aCons (eV 1) aNil)) (.nm 4) f1_things_at)
    (sRet (eV 3))))
def fn_things_at : Fn := fnOf 5 b_things_at
def e1_argument_rows : ME :=
  (eN (gCall 3 fn_things_at) (aCons (eV 3) (aCons (eV 1) (aCons (eV 0) aNil))))
def e2_argument_rows : ME :=
  (e2 (p2 atV) (eV 5) (eV 4))
def e3_argument_rows : ME :=
  (eN (pN tupleV) (aCons (eOfF (lcF (e1 gIt (eV 2)) (.nm 5) tYes' e2_argument_rows)) aNil))
def b_argument_rows : MSt :=
  (sSeq (sAsg (.nm 2) (eOfF (lcF (eN gRange1 (aCons (eN (gCall 2 fn_cells) (aCons (eV 0) (aCons (eV 1) aNil))) aNil)) (.nm 3) tYes' e1_argument_rows)))
    (sRet (eOfF (lcF (eN gRange1 (aCons (eV 1) aNil)) (.nm 4) tYes' e3_argument_rows))))
def fn_argument_rows : Fn := fnOf 6 b_argument_rows
def b_term_deed : MSt :=
  (sSeq (sExp (eN (gCall 3 fn_check_table) (aCons (eV 0) (aCons (eV 1) (aCons (eV 2) aNil)))))
    (sSeq (sAsg (.nm 4) (eKw (gPick 3 1 [.pos 0, .pos 1, .pos 2, .kw 0] [.int 200] 4 fn_made) (aCons (eV 0) (aCons (eN (gCall 2 fn_argument_rows) (aCons (eMeth "House" "things" 1 fn_House_things (eV 0) aNil) (aCons (eV 1) aNil))) (aCons (eV 2) aNil))) (aCons (eV 3) aNil)))
    (sRet eDead)))
def fn_term_deed : Fn := fnOf 5 b_term_deed
def b_check_made : MSt :=
  (sSeq (sIf (tNot' (tVal (e1 (p1 (isTy "tuple")) (eV 2))))
      (sRaise "NoRow" "at" (aCons (eC (.int 0)) aNil))
      sPass)
    (sSeq (sExp (eN (gCall 3 fn_check_rows) (aCons (eV 1) (aCons (eN (pN lenV) (aCons (eV 2) aNil)) (aCons (eMeth "House" "things" 1 fn_House_things (eV 0) aNil) aNil)))))
    (sSeq (sIf (tNot' (tVal (eN (gCall 3 fn_is_row) (aCons (eV 2) (aCons (eN (pN lenV) (aCons (eV 2) aNil)) (aCons (eMeth "House" "things" 1 fn_House_things (eV 0) aNil) aNil))))))
      (sRaise "NoRow" "at" (aCons (eN (pN lenV) (aCons (eV 1) aNil)) aNil))
      sPass)
    (sSeq (sIf (tOr' (tNot' (tVal (e1 (p1 (isTy "tuple")) (eV 3)))) (tOr' (tVal (e2 (p2 neV) (eN (pN lenV) (aCons (eV 3) aNil)) (eC (.int 2)))) (tNot' (tVal (e1 (p1 (isTy "list")) (e2 (p2 atV) (eV 3) (eC (.int 1))))))))
      (sRaise "NoPaper" "at" (aCons (e1 (p1 negV) (eC (.int 1))) aNil))
      sPass)
    (sIf (tVal (e2 (p2 eqV) (e2 (p2 atV) (eV 3) (eC (.int 0))) (eC (.str "made"))))
      (sExp eDead)
      (sIf (tVal (e2 (p2 eqV) (e2 (p2 atV) (eV 3) (eC (.int 0))) (eC (.str "barred"))))
      (sExp eDead)
      (sRaise "NoPaper" "at" (aCons (e1 (p1 negV) (eC (.int 1))) aNil))))))))
def fn_check_made : Fn := fnOf 4 b_check_made
def b_check_term : MSt :=
  (sSeq (sExp (eN (gCall 3 fn_check_table) (aCons (eV 0) (aCons (eV 1) (aCons (eV 2) aNil)))))
    (sSeq (sIf (tOr' (tNot' (tVal (e1 (p1 (isTy "tuple")) (eV 3)))) (tOr' (tVal (e2 (p2 neV) (eN (pN lenV) (aCons (eV 3) aNil)) (eC (.int 2)))) (tVal (e2 (p2 notInPV) (e2 (p2 atV) (eV 3) (eC (.int 0))) (eN gTup (aCons (eC (.str "term")) (aCons (eC (.str "kept")) aNil)))))))
      (sRaise "NoPaper" "at" (aCons (e1 (p1 negV) (eC (.int 1))) aNil))
      sPass)
    (sSeq (sAsg (.nm 4) (eN (gCall 2 fn_argument_rows) (aCons (eMeth "House" "things" 1 fn_House_things (eV 0) aNil) (aCons (eV 1) aNil))))
    (sExp (eN (gCall 4 fn_check_made) (aCons (eV 0) (aCons (eV 4) (aCons (eV 2) (aCons eDead aNil)))))))))
def fn_check_term : Fn := fnOf 5 b_check_term
def b_spread : MSt :=
  (sSeq (sExp (eN (gCall 3 fn_check_rows) (aCons (eV 1) (aCons (eV 2) (aCons (eMeth "House" "things" 1 fn_House_things (eV 0) aNil) aNil)))))
    (sRet (eOfF (eN (pfN sortedF) (aCons (e1 (gFld ["Growing"] "rows") (eN (gCall 4 fn_grown) (aCons (eV 0) (aCons (eV 1) (aCons (eV 2) (aCons (eV 3) aNil)))))) aNil)))))
def fn_spread : Fn := fnOf 4 b_spread
def b_deeds_made : MSt :=
  (sSeq (sExp (eN (gCall 2 fn_check_places) (aCons (eV 0) (aCons (eV 1) aNil))))
    (sSeq (sAsg (.nm 3) (eN (gCall 2 fn_argument_rows) (aCons (eMeth "House" "things" 1 fn_House_things (eV 0) aNil) (aCons (eV 1) aNil))))
    (sRet (eKw (gPick 3 1 [.pos 0, .pos 1, .pos 2, .kw 0] [.int 200] 4 fn_spread) (aCons (eV 0) (aCons (eV 3) (aCons (eN (gCall 2 fn_cells) (aCons (eMeth "House" "things" 1 fn_House_things (eV 0) aNil) (aCons (eV 1) aNil))) aNil))) (aCons (eV 2) aNil)))))
def fn_deeds_made : Fn := fnOf 4 b_deeds_made
def b_is_given : MSt :=
  (sRet (eAnd (e1 (p1 (isTy "tuple")) (eV 0)) (eAnd (e2 (p2 eqV) (eN (pN lenV) (aCons (eV 0) aNil)) (eC (.int 1))) (eAnd (eN (gCall 1 fn_is_whole) (aCons (e2 (p2 atV) (eV 0) (eC (.int 0))) aNil)) (eChain leV ltV (eC (.int 0)) (e2 (p2 atV) (eV 0) (eC (.int 0))) (eV 1))))))
def fn_is_given : Fn := fnOf 2 b_is_given
def b_House_names : MSt :=
  (sRet (eOfF (eN (pfN listF) (aCons (e1 (gFld ["House"] "by_name") (eV 0)) aNil))))
def fn_House_names : Fn := fnOf 1 b_House_names
def b_House_deed : MSt :=
  (sSeq (sIf (tVal (e2 (p2 notInPV) (eV 1) (e1 (gFld ["House"] "by_name") (eV 0))))
      (sRaise "NoName" "name" (aCons (eV 1) aNil))
      sPass)
    (sRet (e2 (p2 atV) (e1 (gFld ["House"] "by_name") (eV 0)) (eV 1))))
def fn_House_deed : Fn := fnOf 2 b_House_deed
def b_House_places : MSt :=
  (sRet (e2 (p2 atV) (eMeth "House" "deed" 2 fn_House_deed (eV 0) (aCons (eV 1) aNil)) (eC (.int 1))))
def fn_House_places : Fn := fnOf 2 b_House_places
def e1_is_step : ME :=
  (eAnd (eN (gCall 1 fn_is_whole) (aCons (eV 4) aNil)) (eChain leV ltV (eC (.int 0)) (eV 4) (eV 2)))
def b_is_step : MSt :=
  (sSeq (sIf (tVal (eN (gCall 2 fn_is_given) (aCons (eV 1) (aCons (eV 3) aNil))))
      (sRet (eC (.bl true)))
      sPass)
    (sSeq (sIf (tOr' (tNot' (tVal (e1 (p1 (isTy "tuple")) (eV 1)))) (tOr' (tVal (e2 (p2 eqV) (eV 1) (eN gTup aNil))) (tOr' (tNot' (tVal (e1 (p1 (isTy "str")) (e2 (p2 atV) (eV 1) (eC (.int 0)))))) (tVal (e2 (p2 notInPV) (e2 (p2 atV) (eV 1) (eC (.int 0))) (eMeth "House" "names" 1 fn_House_names (eV 0) aNil))))))
      (sRet (eC (.bl false)))
      sPass)
    (sSeq (sIf (tVal (e2 (p2 neV) (eN (pN lenV) (aCons (eV 1) aNil)) (e2 (p2 addV) (eMeth "House" "places" 2 fn_House_places (eV 0) (aCons (e2 (p2 atV) (eV 1) (eC (.int 0))) aNil)) (eC (.int 1)))))
      (sRet (eC (.bl false)))
      sPass)
    (sRet (eN (pN allV) (aCons (eOfF (lcF (e1 gIt (eSl (fun l h => p1 (slV l h)) (eV 1) (oSome (eC (.int 1))) oNone)) (.nm 4) tYes' e1_is_step)) aNil))))))
def fn_is_step : Fn := fnOf 5 b_is_step
def f1_check_steps : MSt :=
  (sIf (tNot' (tVal (eN (gCall 4 fn_is_step) (aCons (eV 0) (aCons (eV 4) (aCons (eV 3) (aCons (eV 2) aNil)))))))
      (sRaise "NoSteps" "at" (aCons (eV 3) aNil))
      sPass)
def b_check_steps : MSt :=
  (sSeq (sIf (tNot' (tVal (e1 (p1 (isTy "list")) (eV 1))))
      (sRaise "NoSteps" "at" (aCons (eC (.int 0)) aNil))
      sPass)
    (sFor (eN gEnum (aCons (eV 1) aNil)) (.tp [(.nm 3), (.nm 4)]) f1_check_steps))
def fn_check_steps : Fn := fnOf 5 b_check_steps
def f1_spot_of : MSt :=
  (sAsg (.nm 2) (e2 (p2 addV) (e2 (p2 mulV) (eV 2) (eV 1)) (eV 3)))
def b_spot_of : MSt :=
  (sSeq (sAsg (.nm 2) (eC (.int 0)))
    (sSeq (sFor (e1 gIt (eV 0)) (.nm 3) f1_spot_of)
    (sRet (eV 2))))
def fn_spot_of : Fn := fnOf 4 b_spot_of
def e1_put_together : ME :=
  (e2 (p2 atV) (eV 0) (eV 5))
def e2_put_together : ME :=
  (e2 (p2 atV) (eV 0) (e2 (p2 addV) (e2 (p2 mulV) (eV 5) (eV 1)) (eV 6)))
def e3_put_together : ME :=
  (e2 (p2 atV) (eV 0) (eN (gCall 2 fn_spot_of) (aCons (eV 4) (aCons (eV 1) aNil))))
def b_put_together : MSt :=
  (sSeq (sIf (tVal (e2 (p2 eqV) (eV 2) (eOfF (eN gLst aNil))))
      (sRet (e2 (p2 mulV) (eN gTup (aCons (e2 (p2 atV) (eV 0) (eC (.int 0))) aNil)) (eV 3)))
      sPass)
    (sSeq (sIf (tVal (e2 (p2 eqV) (eN (pN lenV) (aCons (eV 2) aNil)) (eC (.int 1))))
      (sRet (eN (pN tupleV) (aCons (eOfF (lcF (e1 gIt (e2 (p2 atV) (eV 2) (eC (.int 0)))) (.nm 5) tYes' e1_put_together)) aNil)))
      sPass)
    (sSeq (sIf (tVal (e2 (p2 eqV) (eN (pN lenV) (aCons (eV 2) aNil)) (eC (.int 2))))
      (sRet (eN (pN tupleV) (aCons (eOfF (lcF (eN gZip (aCons (e2 (p2 atV) (eV 2) (eC (.int 0))) (aCons (e2 (p2 atV) (eV 2) (eC (.int 1))) aNil))) (.tp [(.nm 5), (.nm 6)]) tYes' e2_put_together)) aNil)))
      sPass)
    (sRet (eN (pN tupleV) (aCons (eOfF (lcF (eN gZip3 (aCons (e2 (p2 atV) (eV 2) (eC (.int 0))) (aCons (e2 (p2 atV) (eV 2) (eC (.int 1))) (aCons (e2 (p2 atV) (eV 2) (eC (.int 2))) aNil)))) (.nm 4) tYes' e3_put_together)) aNil))))))
def fn_put_together : Fn := fnOf 7 b_put_together
def e1_run : ME :=
  (e2 (p2 atV) (eV 4) (eV 9))
def f1_run : MSt :=
  (sIf (tNot' (tVal (e1 (p1 (isTy "str")) (e2 (p2 atV) (eV 5) (eC (.int 0))))))
      (sExp (eMut mAppend (eV 4) (aCons (e2 (p2 atV) (eV 2) (e2 (p2 atV) (eV 5) (eC (.int 0)))) aNil)))
      (sSeq (sAsg (.tp [(.nm 6), (.nm 7), (.nm 8)]) (eMeth "House" "deed" 2 fn_House_deed (eV 0) (aCons (e2 (p2 atV) (eV 5) (eC (.int 0))) aNil)))
    (sExp (eMut mAppend (eV 4) (aCons (eN (gCall 4 fn_put_together) (aCons (eV 8) (aCons (eMeth "House" "things" 1 fn_House_things (eV 0) aNil) (aCons (eOfF (lcF (e1 gIt (eSl (fun l h => p1 (slV l h)) (eV 5) (oSome (eC (.int 1))) oNone)) (.nm 9) tYes' e1_run)) (aCons (eV 3) aNil))))) aNil)))))
def b_run : MSt :=
  (sSeq (sAsg (.nm 4) (eCellF (eN gLst aNil)))
    (sSeq (sFor (e1 gIt (eV 1)) (.nm 5) f1_run)
    (sSeq (sFrz 4) (sRet (eV 4)))))
def fn_run : Fn := fnOf 10 b_run
def b_table_of : MSt :=
  (sSeq (sExp (eN (gCall 2 fn_check_places) (aCons (eV 0) (aCons (eV 2) aNil))))
    (sSeq (sExp (eN (gCall 3 fn_check_steps) (aCons (eV 0) (aCons (eV 1) (aCons (eV 2) aNil)))))
    (sSeq (sIf (tVal (e2 (p2 eqV) (eV 1) (eOfF (eN gLst aNil))))
      (sRaise "NoSteps" "at" (aCons (eC (.int 0)) aNil))
      sPass)
    (sSeq (sAsg (.nm 3) (eN (gCall 2 fn_cells) (aCons (eMeth "House" "things" 1 fn_House_things (eV 0) aNil) (aCons (eV 2) aNil))))
    (sRet (e2 (p2 atV) (eN (gCall 4 fn_run) (aCons (eV 0) (aCons (eV 1) (aCons (eN (gCall 2 fn_argument_rows) (aCons (eMeth "House" "things" 1 fn_House_things (eV 0) aNil) (aCons (eV 2) aNil))) (aCons (eV 3) aNil))))) (e1 (p1 negV) (eC (.int 1)))))))))
def fn_table_of : Fn := fnOf 4 b_table_of
def e1__law_right : ME :=
  (eN (gCall 2 fn__law_draw) (aCons (eV 0) (aCons (eC (.int 3)) aNil)))
def l1__law_right : ME :=
  (eN (gCall 4 fn_term_deed) (aCons (eV 2) (aCons (eV 3) (aCons (eV 5) (aCons (eC (.int 0)) aNil)))))
def l2__law_right : ME :=
  (eN (gCall 4 fn_check_term) (aCons (eV 2) (aCons (eV 3) (aCons (eV 5) (aCons (eC .non) aNil)))))
def l3__law_right : ME :=
  (eN (gCall 3 fn_deeds_made) (aCons (eV 2) (aCons (eV 3) (aCons (eC (.int 0)) aNil))))
def l4__law_right : ME :=
  (eN (gCall 3 fn_table_of) (aCons (eV 2) (aCons (eOfF (eN gLst (aCons (eC .non) aNil))) (aCons (eV 3) aNil))))
def i1__law_right : MSt :=
  (sSeq (sAsg (.nm 6) (eCellF (eN gLst (aCons (eLam fl__law_asked l1__law_right) aNil))))
    (sSeq (sExp (eMut mAppend (eV 6) (aCons (eLam fl__law_asked l2__law_right) aNil)))
    (sSeq (sExp (eMut mAppend (eV 6) (aCons (eLam fl__law_asked l3__law_right) aNil)))
    (sSeq (sExp (eMut mAppend (eV 6) (aCons (eLam fl__law_asked l4__law_right) aNil)))
    (sRet (e2 (p2 eqV) (eV 6) (eOfF (e2 (pf2 mulF) (eOfF (eN gLst (aCons (eV 4) aNil))) (eC (.int 4))))))))))
def e2__law_right : ME :=
  (eN (gCall 2 fn__law_draw) (aCons (eV 0) (aCons (eV 1) aNil)))
def e3__law_right : ME :=
  (e2 (p2 addV) (e2 (p2 addV) (eSl (fun l h => p1 (slV l h)) (eV 8) oNone (oSome (eV 9))) (eN gTup (aCons (eV 12) aNil))) (eSl (fun l h => p1 (slV l h)) (eV 8) (oSome (e2 (p2 addV) (eV 9) (eC (.int 1)))) oNone))
def l5__law_right : ME :=
  (eN (gCall 4 fn_term_deed) (aCons (eV 2) (aCons (eV 3) (aCons (eV 10) (aCons (eC (.int 0)) aNil)))))
def l6__law_right : ME :=
  (eN (gCall 4 fn_check_term) (aCons (eV 2) (aCons (eV 3) (aCons (eV 10) (aCons (eC .non) aNil)))))
def l7__law_right : ME :=
  (eN (gCall 4 fn_term_deed) (aCons (eV 2) (aCons (eV 3) (aCons (eV 8) (aCons (eC (.int 0)) aNil)))))
def l8__law_right : ME :=
  (eN (gCall 3 fn_deeds_made) (aCons (eV 2) (aCons (eV 3) (aCons (eC (.int 0)) aNil))))
def l9__law_right : ME :=
  (eN (gCall 4 fn_check_term) (aCons (eV 2) (aCons (eV 3) (aCons (eV 8) (aCons (eC .non) aNil)))))
def k1__law_right : MSt :=
  (sSeq (sIf (tVal (e2 (p2 neV) (eLam fl__law_asked l5__law_right) (eN gTup (aCons (eC (.str "row")) (aCons (eC (.int 1)) aNil)))))
      (sRet (eC (.bl false)))
      sPass)
    (sSeq (sIf (tVal (e2 (p2 neV) (eLam fl__law_asked l6__law_right) (eN gTup (aCons (eC (.str "row")) (aCons (eC (.int 1)) aNil)))))
      (sRet (eC (.bl false)))
      sPass)
    (sSeq (sIf (tAnd' (tVal (e2 (p2 gtV) (eV 3) (eC (.int 0)))) (tVal (e2 (p2 neV) (eLam fl__law_asked l7__law_right) (eN gTup (aCons (eC (.str "many")) (aCons (eC (.int 0)) aNil))))))
      (sRet (eC (.bl false)))
      sPass)
    (sSeq (sIf (tAnd' (tVal (e2 (p2 gtV) (eV 3) (eC (.int 0)))) (tVal (e2 (p2 neV) (eLam fl__law_asked l8__law_right) (eN gTup (aCons (eC (.str "many")) (aCons (eC (.int 0)) aNil))))))
      (sRet (eC (.bl false)))
      sPass)
    (sRet (e2 (p2 eqV) (eLam fl__law_asked l9__law_right) (eN gTup (aCons (eC (.str "paper")) (aCons (eC .non) aNil)))))))))
def k2__law_right : MSt :=
  (sSeq (sAsg (.nm 7) (eN (gCall 2 fn__law_cells) (aCons (eV 1) (aCons (eV 3) aNil))))
    (sSeq (sAsg (.nm 8) (eN (pN tupleV) (aCons (eOfF (lcF (eN gRange1 (aCons (eV 7) aNil)) (.nm 11) tYes' e2__law_right)) aNil)))
    (sSeq (sAsg (.nm 9) (eN (gCall 2 fn__law_draw) (aCons (eV 0) (aCons (eV 7) aNil))))
    (sSeq (sAsg (.nm 10) (eOfF (eN gLst (aCons (e2 (p2 addV) (eV 8) (eN gTup (aCons (eC (.int 0)) aNil))) (aCons (eSl (fun l h => p1 (slV l h)) (eV 8) (oSome (eC (.int 1))) oNone) (aCons (eOfF (eN (pfN listF) (aCons (eV 8) aNil))) (aCons (eC .non) aNil)))))))
    (sSeq (sAsg (.nm 10) (eOfF (e2 (pf2 addF) (eV 10) (eOfF (lcF (e1 gIt (eOfF (eN gLst (aCons (eV 1) (aCons (e1 (p1 negV) (eC (.int 1))) (aCons (eC (.bl true)) (aCons (eC (.str "0")) aNil))))))) (.nm 12) tYes' e3__law_right)))))
    (sSeq (sAsg (.nm 10) (e2 (p2 atV) (eV 10) (eN (gCall 2 fn__law_draw) (aCons (eV 0) (aCons (eC (.int 8)) aNil)))))
    k1__law_right))))))
def k3__law_right : MSt :=
  (sSeq (sIf (tVal (e2 (p2 isntV) (eV 4) (eC .non)))
      i1__law_right
      sPass)
    k2__law_right)
def b__law_right : MSt :=
  (sSeq (sAsg (.nm 1) (e2 (p2 addV) (eC (.int 1)) (eN (gCall 2 fn__law_draw) (aCons (eV 0) (aCons (eC (.int 9)) aNil)))))
    (sSeq (sAsg (.nm 2) (eN (gCall 3 fn__law_house) (aCons (eV 0) (aCons (eV 1) (aCons (eOfF (lcF (eN gRange1 (aCons (eN (gCall 2 fn__law_draw) (aCons (eV 0) (aCons (eC (.int 3)) aNil))) aNil)) (.nm 11) tYes' e1__law_right)) aNil)))))
    (sSeq (sAsg (.nm 3) (e2 (p2 atV) (eOfF (eN gLst (aCons (eC (.int 0)) (aCons (eC (.int 1)) (aCons (eC (.int 2)) (aCons (eC (.int 3)) (aCons (eC (.int 3)) (aCons (eC (.int 3)) (aCons (eC (.bl true)) (aCons (eC .non) (aCons (e1 (p1 negV) (eC (.int 1))) (aCons (eC (.int 4)) (aCons (eC (.str "2")) (aCons (eN gTup (aCons (eC (.int 1)) aNil)) aNil)))))))))))))) (eN (gCall 2 fn__law_draw) (aCons (eV 0) (aCons (eC (.int 12)) aNil)))))
    (sSeq (sAsg (.nm 4) (eN (gCall 2 fn__law_places_due) (aCons (eV 1) (aCons (eV 3) aNil))))
    (sSeq (sAsg (.nm 5) (e2 (p2 atV) (eOfF (eN gLst (aCons (eC .non) (aCons (eN gTup aNil) (aCons (eOfF (eN gLst (aCons (eC (.int 0)) aNil))) (aCons (eN gTup (aCons (eV 1) aNil)) (aCons (eC (.str "table")) aNil))))))) (eN (gCall 2 fn__law_draw) (aCons (eV 0) (aCons (eC (.int 5)) aNil)))))
    k3__law_right)))))
def fn__law_right : Fn := fnOf 13 b__law_right
def f1_law : MSt :=
  (sIf (tNot' (tVal (eN (gCall 1 fn__law_right) (aCons (eCellF (eN gLst (aCons (e2 (p2 mulV) (eV 2) (eN (pN intV) (aCons (e2 (p2 geV) (eV 2) (e2 (p2 powV) (eC (.int 10)) (eC (.int 18)))) aNil))) (aCons (e2 (p2 addV) (e2 (p2 modV) (eV 2) (eC (.int 2147483647))) (e2 (p2 mulV) (eC (.int 7919)) (eV 1))) (aCons (eC (.int 0)) aNil))))) aNil))))
      (sRet (eC (.bl false)))
      sPass)
def l1_law : ME :=
  (eN (gCall 3 fn_table_of) (aCons (eMake "House" ["size", "by_name"] 2 fi_House (aCons (eC (.int 9)) (aCons (eOfF (eN gLst aNil)) aNil))) (aCons (eOfF (eN gLst (aCons (eN gTup (aCons (eC (.int 0)) aNil)) aNil))) (aCons (eC (.int 2)) aNil))))
def b_law : MSt :=
  (sSeq (sFor (eN gEnum (aCons (eOfF (eSl (fun l h => pf1 (slF l h)) (eOfF (e2 gScr (eV 0) (eOfF (eN gLst (aCons (eC (.int 0)) aNil))))) oNone (oSome (eC (.int 8))))) aNil)) (.tp [(.nm 1), (.nm 2)]) (sScope f1_law))
    (sRet (e2 (p2 eqV) (eLam fl__law_asked l1_law) (eN gTup (aCons (eC (.str "told")) (aCons (eC .non) aNil))))))
def fn_law : Fn := fnOf 3 b_law
end
end K29
namespace K29
open PySem PySem.Spec PyProof.Rows L2 PM
theorem is_whole_ok {d : PV} {μ : Store} (h : tyN d ≠ none) : fn_is_whole [.t d] μ = .ok (.t (.bl (isIntB d))) μ := by
  cases d <;> simp_all [fn_is_whole, b_is_whole, fnOf, startM, subT, isIntB, tyN]
theorem is_thing_ok {d : PV} {n : Int} {μ : Store} (h : tyN d ≠ none) : fn_is_thing [.t d, .t (.int n)] μ = .ok (.t (.bl (isThingB n d))) μ := by
  simp [fn_is_thing, b_is_thing, fnOf, startM, is_whole_ok h, eChain]
  cases d <;> simp [isIntB, isThingB]
  split <;> simp_all <;> omega
theorem is_row_ok {d : PV} {w n : Int} {k : Nat} {μ : Store} (h : SD k d) : fn_is_row [.t d, .t (.int w), .t (.int n)] μ = .ok (.t (.bl (isRowB d w n))) μ := by
  cases d with
  | tup l =>
    obtain ⟨m, rfl, hl, hm⟩ := h.tupE
    have e : lcL (.nm 3) tYes' e1_is_row l [some (.t (.tup l)), some (.t (.int w)), some (.t (.int n)), none] μ = .ok (l.map fun d => .bl (isThingB n d)) μ := lcL_map _ fun d hd => ⟨_, asg_nm, rfl, by simp [e1_is_row, is_thing_ok (hm d hd).ty]⟩
    have z : szF (l.map fun d => PV.bl (isThingB n d)) μ = .ok _ μ := szF_ok (by rw [List.length_map]; exact szL _ (by omega))
    by_cases hw : (l.length : Int) = w
    · simp [fn_is_row, b_is_row, fnOf, startM, subT, isRowB, hw, wipeM, e, z, allV_map]
    · simp [fn_is_row, b_is_row, fnOf, startM, subT, isRowB, hw]
  | obj C a b => exact absurd h SD_obj
  | _ => simp [fn_is_row, b_is_row, fnOf, startM, subT, isRowB]

/-! names, deeds, houses -/
def smallB (c : Nat) : Bool := decide (c ∈ ("abcdefghijklmnopqrstuvwxyz" : Str).cps.toList)
def isNameB : PV → Bool
  | .str z => decide ((2 : Int) ≤ z.length) && (decide ((z.length : Int) ≤ 8) && z.cps.toList.all smallB)
  | _ => false
def isDeedB (n : Int) : PV → Bool
  | .tup [a, .int p, c] => isNameB a && (decide (0 ≤ p) && (decide (p ≤ 3) && isRowB c (n ^ p.toNat) n))
  | _ => false
def nameD : PV → PV
  | .tup (a :: _) => a
  | _ => .non
theorem is_name_ok {d : PV} {k : Nat} {μ : Store} (h : SB k d) : fn_is_name [.t d] μ = .ok (.t (.bl (isNameB d))) μ := by
  cases d with
  | str z =>
    have hz := SB_str.mp h
    have e : lcL (.nm 1) tYes' e1_is_name (z.cps.toList.map fun c => .str ⟨#[c]⟩) [some (.t (.str z)), none] μ = .ok (z.cps.toList.map fun c => .bl (smallB c)) μ := by
      rw [lcL_map (fun d => match d with | .str x => (match x.cps.toList with | [c] => .bl (smallB c) | _ => .non) | _ => .non) ?_, List.map_map]
      · rfl
      · intro d hd
        obtain ⟨c, _, rfl⟩ := List.mem_map.mp hd
        exact ⟨_, asg_nm, rfl, by simp [e1_is_name, inPV_sign, smallB]⟩
    have z1 : szF (z.cps.toList.map fun c => PV.bl (smallB c)) μ = .ok _ μ := szF_ok (by rw [List.length_map, ← str_len]; exact szL _ (by omega))
    have al := allV_map z.cps.toList smallB
    by_cases h1 : (2 : Int) ≤ z.length
    · by_cases h2 : (z.length : Int) ≤ 8
      · simp [fn_is_name, b_is_name, fnOf, startM, subT, isNameB, eChain, lenV_str hz, h1, h2, wipeM, e, z1, al]
      · simp [fn_is_name, b_is_name, fnOf, startM, subT, isNameB, eChain, lenV_str hz, h1, h2]
    · simp [fn_is_name, b_is_name, fnOf, startM, subT, isNameB, eChain, lenV_str hz, h1]
  | obj C a b => exact absurd h SB_noobj
  | _ => simp [fn_is_name, b_is_name, fnOf, startM, subT, isNameB]
theorem cells_ok {n p : Int} {μ : Store} (hn1 : 0 ≤ n) (hn9 : n ≤ 1000) (h0 : 0 ≤ p) (h3 : p ≤ 3) : fn_cells [.t (.int n), .t (.int p)] μ = .ok (.t (.int (n ^ p.toNat))) μ := by
  have hm : ∀ i, mulV (.int i) (.int n) = some (.int (i * n)) := fun i => mulV_ok (by omega) (by omega)
  have hp : p = ((p.toNat : Nat) : Int) := by omega
  have hq : p.toNat = 0 ∨ p.toNat = 1 ∨ p.toNat = 2 ∨ p.toNat = 3 := by omega
  rw [hp, Int.toNat_natCast]
  rcases hq with e | e | e | e <;> rw [e] <;>
    simp [fn_cells, b_cells, fnOf, startM, range1_ok, rgI, List.range, List.range.loop, forL, f1_cells, hm, Int.pow_succ, gRange1, bnd]
theorem is_deed_ok {d : PV} {n : Int} {k : Nat} {μ : Store} (h : SB k d) (hn1 : 0 ≤ n) (hn9 : n ≤ 1000) : fn_is_deed [.t d, .t (.int n)] μ = .ok (.t (.bl (isDeedB n d))) μ := by
  cases d with
  | tup l =>
    obtain ⟨m, rfl, hl, hm⟩ := h.tupE
    match l, hl, hm with
    | [a, b, c], _, hm =>
      have ha := hm a (by simp)
      have hb := hm b (by simp)
      have hc := hm c (by simp)
      have k1 := is_name_ok (μ := μ) ha
      have k2 := is_whole_ok (μ := μ) hb.ty
      have at0 : atI [a, b, c] 0 = some a := rfl
      cases hna : isNameB a with
      | false =>
        rw [hna] at k1
        have e : isDeedB n (.tup [a, b, c]) = false := by
          unfold isDeedB
          split
          · rename_i heq; cases heq; rw [hna]; rfl
          · rfl
        simp [fn_is_deed, b_is_deed, fnOf, startM, subT, at0, k1, e]
      | true =>
        rw [hna] at k1
        cases b with
        | int p =>
          by_cases h0 : 0 ≤ p
          · by_cases h3 : p ≤ 3
            · have k3 := cells_ok (μ := μ) hn1 hn9 h0 h3
              have k4 := is_row_ok (w := n ^ p.toNat) (n := n) (μ := μ) hc.sd
              simp [fn_is_deed, b_is_deed, fnOf, startM, subT, at0, k1, k2, isIntB, sAsg_tp, eChain, h0, h3, k3, k4, isDeedB, hna]
            · simp [fn_is_deed, b_is_deed, fnOf, startM, subT, at0, k1, k2, isIntB, sAsg_tp, eChain, h0, h3, isDeedB, hna]
          · simp [fn_is_deed, b_is_deed, fnOf, startM, subT, at0, k1, k2, isIntB, sAsg_tp, eChain, h0, isDeedB, hna]
        | _ => simp [fn_is_deed, b_is_deed, fnOf, startM, subT, at0, k1, k2, isIntB, sAsg_tp, isDeedB]
    | [], _, _ => simp [fn_is_deed, b_is_deed, fnOf, startM, subT, isDeedB]
    | [_], _, _ => simp [fn_is_deed, b_is_deed, fnOf, startM, subT, isDeedB]
    | [_, _], _, _ => simp [fn_is_deed, b_is_deed, fnOf, startM, subT, isDeedB]
    | a :: b :: c :: d :: r, _, _ =>
      have e : ¬ ((r.length : Int) + 1 + 1 + 1 + 1 = 3) := by omega
      simp [fn_is_deed, b_is_deed, fnOf, startM, subT, isDeedB, e]
  | obj C a b => exact absurd h SB_noobj
  | _ => simp [fn_is_deed, b_is_deed, fnOf, startM, subT, isDeedB]
theorem isDeed_name {n : Int} {d : PV} (h : isDeedB n d = true) : ∃ z p c, d = .tup [.str z, .int p, c] ∧ nameD d = .str z := by
  unfold isDeedB at h
  split at h
  · rename_i a p c
    rw [Bool.and_eq_true] at h
    cases a with
    | str z => exact ⟨z, p, c, rfl, rfl⟩
    | _ => cases h.1
  · cases h
/-- the first deed that is none, or that has a name told ahead -/
def hDue (n : Int) : Nat → List PV → List PV → Option Nat
  | _, _, [] => none
  | k, seen, d :: ds => if isDeedB n d && !(seen.any (keyEq · (nameD d))) then hDue n (k + 1) (seen ++ [nameD d]) ds else some k
/-- what House says of a size and a list -/
def houseDue (s l : PV) : Option Int := match s with
  | .int n => if decide (1 ≤ n) && decide (n ≤ 9) then (match l with
    | .lst ds => if ds.length ≤ 6 then (hDue n 0 [] ds).map fun (k : Nat) => (k : Int) else some (-1)
    | _ => some (-1)) else some (-1)
  | _ => some (-1)
def houseV (n : Int) (ds : List PV) : PV := .obj "House" ["size", "by_name"] [.int n, .dic false (ds.map nameD) ds]
theorem hDue_le {n : Int} {k j : Nat} {seen ds : List PV} (h : hDue n k seen ds = some j) : k ≤ j := by
  induction ds generalizing k seen with
  | nil => unfold hDue at h; cases h
  | cons d ds ih =>
    unfold hDue at h
    split at h
    · have := ih h
      omega
    · cases h; exact Nat.le_refl _
theorem house_loop {n : Int} {s0 : Val} {dl : PV} {m : Nat} {μ : Store} (hn1 : 0 ≤ n) (hn9 : n ≤ 1000) : ∀ (ds : List PV) (k : Nat) (done : List PV) (x y : Option Val), (∀ d ∈ ds, SB m d) → done.length + ds.length ≤ 1000 →
    (∀ j, hDue n k (done.map nameD) ds = some j → ∃ σ, forL (.tp [.nm 4, .nm 5]) f1_House_init (enumF k ds) [some s0, some (.t (.int n)), some (.t dl), some (.c μ.length), x, y] (μ ++ [some (.dic false (done.map nameD) done)]) = .ex "NoHouse" (some ("at", .int (j : Int))) σ (μ ++ [some (.dic false ((done ++ ds.take (j - k)).map nameD) (done ++ ds.take (j - k)))])) ∧
    (hDue n k (done.map nameD) ds = none → ∃ x' y', forL (.tp [.nm 4, .nm 5]) f1_House_init (enumF k ds) [some s0, some (.t (.int n)), some (.t dl), some (.c μ.length), x, y] (μ ++ [some (.dic false (done.map nameD) done)]) = .nx [some s0, some (.t (.int n)), some (.t dl), some (.c μ.length), x', y'] (μ ++ [some (.dic false ((done ++ ds).map nameD) (done ++ ds))]))
  | [], k, done, x, y, _, _ => by
    refine ⟨fun j h => by (unfold hDue at h; cases h), fun _ => ⟨x, y, ?_⟩⟩
    rw [List.append_nil]
    rfl
  | d :: ds, k, done, x, y, hm, hl => by
    have hd := hm d List.mem_cons_self
    have k1 := is_deed_ok (n := n) (μ := μ ++ [some (.dic false (done.map nameD) done)]) hd hn1 hn9
    have hl' : done.length + (ds.length + 1) ≤ 1000 := hl
    unfold hDue
    cases hb : isDeedB n d with
    | false =>
      rw [hb] at k1
      refine ⟨fun j h => ?_, fun h => by simp at h⟩
      have ej : k = j := by simpa using h
      subst ej
      rw [Nat.sub_self, List.take_zero, List.append_nil, enumF]
      exact ⟨_, forL_ex (σ1 := [some s0, some (.t (.int n)), some (.t dl), some (.c μ.length), some (.t (.int k)), some (.t d)]) (σ2 := [some s0, some (.t (.int n)), some (.t dl), some (.c μ.length), some (.t (.int k)), some (.t d)]) (by simp) (by simp [f1_House_init, k1, sRaise])⟩
    | true =>
      rw [hb] at k1
      obtain ⟨z, p, c, rfl, hz⟩ := isDeed_name hb
      have at0 : atI [.str z, .int p, c] 0 = some (.str z) := rfl
      have hin : inPV (.str z) (.dic false (done.map nameD) done) = some (.bl ((done.map nameD).any (keyEq · (.str z)))) := by
        rw [inPV_dic rfl, dfind_some (by rw [List.length_map])]
      have hv : view (μ ++ [some (.dic false (done.map nameD) done)]) (.c μ.length) = some (.dic false (done.map nameD) done) := by simp [view]
      have hp : ∀ w : PV, p2 inPV (.t (.str z)) (.c μ.length) (μ ++ [some (.dic false (done.map nameD) done)]) = .ok (.t (.bl ((done.map nameD).any (keyEq · (.str z))))) (μ ++ [some (.dic false (done.map nameD) done)]) := by
        intro _
        unfold p2
        rw [hv]
        simp only [view_t, hin, Option.map_some, orok_some]
      rw [hz]
      cases hs : (done.map nameD).any (keyEq · (.str z)) with
      | true =>
        rw [hs] at hp
        refine ⟨fun j h => ?_, fun h => by simp at h⟩
        have ej : k = j := by simpa using h
        subst ej
        rw [Nat.sub_self, List.take_zero, List.append_nil, enumF]
        exact ⟨_, forL_ex (σ1 := [some s0, some (.t (.int n)), some (.t dl), some (.c μ.length), some (.t (.int k)), some (.t (.tup [.str z, .int p, c]))]) (σ2 := [some s0, some (.t (.int n)), some (.t dl), some (.c μ.length), some (.t (.int k)), some (.t (.tup [.str z, .int p, c]))]) (by simp) (by simp [f1_House_init, k1, sRaise, at0, hp .non])⟩
      | false =>
        rw [hs] at hp
        have hput : gDPut (.t (.tup [.str z, .int p, c])) (.c μ.length) (.t (.str z)) (μ ++ [some (.dic false (done.map nameD) done)]) = some (μ ++ [some (.dic false ((done ++ [PV.tup [.str z, .int p, c]]).map nameD) (done ++ [PV.tup [.str z, .int p, c]]))]) := by
          have hb2 : Nat.blt (done.map nameD).length 16777216 = true := Nat.ble_eq_true_of_le (by rw [List.length_map]; omega)
          simp [gDPut, dicAt, dput_new hs, hb2, nameD, -List.length_map]
        have hb : f1_House_init [some s0, some (.t (.int n)), some (.t dl), some (.c μ.length), some (.t (.int k)), some (.t (.tup [.str z, .int p, c]))] (μ ++ [some (.dic false (done.map nameD) done)]) = .nx [some s0, some (.t (.int n)), some (.t dl), some (.c μ.length), some (.t (.int k)), some (.t (.tup [.str z, .int p, c]))] (μ ++ [some (.dic false ((done ++ [PV.tup [.str z, .int p, c]]).map nameD) (done ++ [PV.tup [.str z, .int p, c]]))]) := by
          simp only [f1_House_init, sSeq_eq, sIf_eq, tOr_eq, tNot_eq, tVal_eq, eN_eq, aCons_eq, eV_eq, List.getElem?_cons_succ, List.getElem?_cons_zero, bind_ok, aNil_eq, gCall_2, k1, gBl_bl, Bool.not_true, Bool.false_eq_true, if_false, e2_eq, eC_eq, p2_t, atV_tup, at0, Option.map_some, orok_some, hp .non, st_ok, sPass_eq, seq_nx, PM.sDPut, hput]
        have ih' := house_loop (n := n) (s0 := s0) (dl := dl) (m := m) (μ := μ) hn1 hn9 ds (k + 1) (done ++ [PV.tup [.str z, .int p, c]]) (some (.t (.int k))) (some (.t (.tup [.str z, .int p, c]))) (fun d hd => hm d (List.mem_cons_of_mem _ hd)) (by simp; omega)
        have st : forL (.tp [.nm 4, .nm 5]) f1_House_init (enumF k (.tup [.str z, .int p, c] :: ds)) [some s0, some (.t (.int n)), some (.t dl), some (.c μ.length), x, y] (μ ++ [some (.dic false (done.map nameD) done)]) = forL (.tp [.nm 4, .nm 5]) f1_House_init (enumF (k + 1) ds) [some s0, some (.t (.int n)), some (.t dl), some (.c μ.length), some (.t (.int k)), some (.t (.tup [.str z, .int p, c]))] (μ ++ [some (.dic false ((done ++ [PV.tup [.str z, .int p, c]]).map nameD) (done ++ [PV.tup [.str z, .int p, c]]))]) := by
          rw [enumF]
          exact forL_nx (by simp) hb
        have en : (done ++ [PV.tup [.str z, .int p, c]]).map nameD = done.map nameD ++ [.str z] := by rw [List.map_append]; rfl
        rw [st]
        refine ⟨fun j h => ?_, fun h => ?_⟩
        · have hj : hDue n (k + 1) ((done ++ [PV.tup [.str z, .int p, c]]).map nameD) ds = some j := by rw [en]; simpa using h
          obtain ⟨σ, e⟩ := ih'.1 j hj
          have hjk : k + 1 ≤ j := hDue_le hj
          refine ⟨σ, ?_⟩
          rw [e]
          have e2 : j - k = (j - (k + 1)) + 1 := by omega
          rw [e2, List.take_succ_cons, List.append_assoc]
          rfl
        · have hj : hDue n (k + 1) ((done ++ [PV.tup [.str z, .int p, c]]).map nameD) ds = none := by rw [en]; simpa using h
          obtain ⟨x', y', e⟩ := ih'.2 hj
          refine ⟨x', y', ?_⟩
          rw [e, List.append_assoc]
          rfl

theorem iPre_nx {A : MSt} {r : MI} {σ σ1 : Sl} {μ μ1 : Store} (h : A σ μ = .nx σ1 μ1) : iPre A r σ μ = r σ1 μ1 := by unfold iPre; rw [h]
theorem iPre_ex {A : MSt} {r : MI} {σ σ1 : Sl} {μ μ1 : Store} {c : Str} {f} (h : A σ μ = .ex c f σ1 μ1) : iPre A r σ μ = .ex c f μ1 := by unfold iPre; rw [h]
def isLstB : PV → Bool
  | .lst _ => true
  | _ => false
def noInit (s l : PV) : Sl := [some .self, some (.t s), some (.t l), none, none, none]
theorem house_p1 {s l : PV} {μ : Store} (hs : tyN s ≠ none) : p1_House_init (noInit s l) μ = (match s with
    | .int n => if decide (1 ≤ n) && decide (n ≤ 9) then .nx (noInit s l) μ else .ex "NoHouse" (some ("at", .int (-1))) (noInit s l) μ
    | _ => .ex "NoHouse" (some ("at", .int (-1))) (noInit s l) μ) := by
  have kw := is_whole_ok (μ := μ) hs
  cases s with
  | int n =>
    by_cases h1 : 1 ≤ n
    · by_cases h9 : n ≤ 9
      · simp [p1_House_init, noInit, kw, isIntB, eChain, h1, h9]
      · simp [p1_House_init, noInit, kw, isIntB, eChain, h1, h9, sRaise]
    · simp [p1_House_init, noInit, kw, isIntB, eChain, h1, sRaise]
  | _ => simp [p1_House_init, noInit, kw, isIntB, sRaise]
theorem isTy_lstB {l : PV} (h : tyN l ≠ none) : isTy "list" l = some (.bl (isLstB l)) := by
  cases l <;> first | rfl | exact absurd rfl h
theorem house_p2 {s l : PV} {μ : Store} (hl : tyN l ≠ none) : p2_House_init (noInit s l) μ = (match l with
    | .lst ds => if ds.length ≤ 6 then .nx (noInit s l) μ else .ex "NoHouse" (some ("at", .int (-1))) (noInit s l) μ
    | _ => .ex "NoHouse" (some ("at", .int (-1))) (noInit s l) μ) := by
  have kl := isTy_lstB hl
  cases l with
  | lst ds =>
    by_cases h6 : ds.length ≤ 6
    · have c6 : ¬ ((6 : Int) < ds.length) := by omega
      simp [p2_House_init, noInit, kl, isLstB, c6, h6]
    · have c6 : (6 : Int) < ds.length := by omega
      simp [p2_House_init, noInit, kl, isLstB, c6, h6, sRaise]
  | _ => simp [p2_House_init, noInit, kl, isLstB, sRaise]
theorem house_init {s l : PV} {m : Nat} {μ : Store} (hs : SB m s) (hl : SB m l ∨ ∃ ks vs, l = .dic false ks vs) :
    (∀ j, houseDue s l = some j → fi_House [.t s, .t l] μ = .ex "NoHouse" (some ("at", .int j)) μ) ∧
    (houseDue s l = none → ∃ n ds, s = .int n ∧ l = .lst ds ∧ fi_House [.t s, .t l] μ = .ok [.t (.int n), .t (.dic false (ds.map nameD) ds)] μ) := by
  have tl : tyN l ≠ none := by
    rcases hl with hl | ⟨ks, vs, rfl⟩
    · exact hl.ty
    · exact fun z => nomatch z
  have q1 := house_p1 (l := l) (μ := μ) hs.ty
  have q2 := house_p2 (s := s) (μ := μ) tl
  have st : startM 6 [.self, .t s, .t l] = noInit s l := rfl
  unfold fi_House iniOf bi_House houseDue
  rw [st]
  cases s with
  | int n =>
    cases hr : (decide (1 ≤ n) && decide (n ≤ 9)) with
    | false =>
      simp only [hr, Bool.false_eq_true, if_false] at q1 ⊢
      exact ⟨fun j h => by cases h; rw [iPre_ex q1]; simp [finI], fun h => by cases h⟩
    | true =>
      have h1 : 1 ≤ n := by simp at hr; exact hr.1
      have h9 : n ≤ 9 := by simp at hr; exact hr.2
      simp only [hr, if_true] at q1 ⊢
      rw [iPre_nx q1]
      cases l with
      | lst ds =>
        have hm : ∀ d ∈ ds, SB m d := by
          rcases hl with hl | ⟨ks, vs, h⟩
          · obtain ⟨m', rfl, _, hm⟩ := hl.lstE
            exact fun d hd => (hm d hd).up (by omega)
          · cases h
        by_cases h6 : ds.length ≤ 6
        · simp only [h6, if_true] at q2 ⊢
          have q3 : p3_House_init (noInit (.int n) (.lst ds)) μ = .nx [some .self, some (.t (.int n)), some (.t (.lst ds)), some (.c μ.length), none, none] (μ ++ [some (.dic false [] [])]) := by simp [p3_House_init, noInit]
          have q4 : p4_House_init [some .self, some (.t (.int n)), some (.t (.lst ds)), some (.c μ.length), none, none] (μ ++ [some (.dic false [] [])]) = forL (.tp [.nm 4, .nm 5]) f1_House_init (enumF 0 ds) [some .self, some (.t (.int n)), some (.t (.lst ds)), some (.c μ.length), none, none] (μ ++ [some (.dic false [] [])]) := by simp [p4_House_init, enumP_F]
          have L := house_loop (n := n) (s0 := .self) (dl := .lst ds) (m := m) (μ := μ) (by omega) (by omega) ds 0 [] none none hm (by simp; omega)
          rw [iPre_nx q2, iPre_nx q3]
          refine ⟨fun j h => ?_, fun h => ?_⟩
          · obtain ⟨k, hk, rfl⟩ := Option.map_eq_some_iff.mp h
            obtain ⟨σ, e⟩ := L.1 k hk
            rw [iPre_ex (q4.trans e)]
            simp [finI]
          · have hk : hDue n 0 [] ds = none := by simpa using h
            obtain ⟨x', y', e⟩ := L.2 hk
            refine ⟨n, ds, rfl, rfl, ?_⟩
            rw [iPre_nx (q4.trans e)]
            simp [iFld, isSelf, iPre, sFrz, frz1, iNil, finI, isT]
        · simp only [h6, if_false] at q2 ⊢
          exact ⟨fun j h => by cases h; rw [iPre_ex q2]; simp [finI], fun h => by cases h⟩
      | _ => exact ⟨fun j h => by cases h; rw [iPre_ex q2]; simp [finI], fun h => by cases h⟩
  | _ => exact ⟨fun j h => by cases h; rw [iPre_ex q1]; simp [finI], fun h => by cases h⟩
/-- House(s, l) -/
theorem house_make {s l : PV} {m : Nat} {μ : Store} (hs : SB m s) (hl : SB m l ∨ ∃ ks vs, l = .dic false ks vs) :
    (∀ j, houseDue s l = some j → (fi_House [.t s, .t l] μ).bind (mkOb "House" ["size", "by_name"]) = .ex "NoHouse" (some ("at", .int j)) μ) ∧
    (houseDue s l = none → ∃ n ds, s = .int n ∧ l = .lst ds ∧ (fi_House [.t s, .t l] μ).bind (mkOb "House" ["size", "by_name"]) = .ok (.t (houseV n ds)) μ) := by
  obtain ⟨h1, h2⟩ := house_init (μ := μ) hs hl
  refine ⟨fun j h => by rw [h1 j h]; rfl, fun h => ?_⟩
  obtain ⟨n, ds, rfl, rfl, e⟩ := h2 h
  exact ⟨n, ds, rfl, rfl, by rw [e]; rfl⟩

theorem draw_ok {a b c m : Int} {t : Store} (h0 : 0 < m) (h1 : m < 1073741824) : ∃ r a' b' c', fn__law_draw [.c 0, .t (.int m)] (wl a b c :: t) = .ok (.t (.int r)) (wl a' b' c' :: t) ∧ 0 ≤ r ∧ r < m := by
  by_cases ha : 0 < a
  · refine ⟨a % m, a / m, b, c, ?_, Int.emod_nonneg _ (by omega), Int.emod_lt_of_pos _ h0⟩
    simp [fn__law_draw, b__law_draw, fnOf, startM, p2, view, atI, ixN, ha, modV, fdiv_ok h0 h1, h0, sSetL, gSetL, lstAt, endM, fin]
  · have e : ∃ x, fn__law_draw [.c 0, .t (.int m)] (wl a b c :: t) = .ok (.t (.int (x % m))) (wl a b (c + 1) :: t) := by
      simp [fn__law_draw, b__law_draw, fnOf, startM, p2, view, atI, ixN, ha, modV, fdiv_ok (j := 1009) (by decide) (by decide), fdiv_ok (j := 2003) (by decide) (by decide), h0, sSetL, gSetL, lstAt, endM, fin, mulV, inW_mod, show inW 104729 = true by decide, show inW 48271 = true by decide]
      exact ⟨_, rfl⟩
    obtain ⟨x, e⟩ := e
    exact ⟨_, _, _, _, e, Int.emod_nonneg _ (by omega), Int.emod_lt_of_pos _ h0⟩
/-- .. as a natural number -/
theorem drawN {a b c : Int} {t : Store} (m : Nat) (h0 : 0 < m) (h1 : m < 1073741824) : ∃ (r : Nat) (a' b' c' : Int), fn__law_draw [.c 0, .t (.int (m : Int))] (wl a b c :: t) = .ok (.t (.int (r : Int))) (wl a' b' c' :: t) ∧ r < m := by
  obtain ⟨r, a', b', c', e, h2, h3⟩ := draw_ok (a := a) (b := b) (c := c) (t := t) (m := (m : Int)) (by omega) (by omega)
  exact ⟨r.toNat, a', b', c', by rw [e, Int.toNat_of_nonneg h2], by omega⟩
/-! all rows -/
def allR (n : Nat) : Nat → List (List Int)
  | 0 => [[]]
  | p + 1 => (allR n p).flatMap fun r => (List.range n).map fun (t : Nat) => r ++ [(t : Int)]
theorem allR_len (n : Nat) : ∀ p, (allR n p).length = n ^ p
  | 0 => rfl
  | p + 1 => by
    show ((allR n p).flatMap fun r => (List.range n).map fun (t : Nat) => r ++ [(t : Int)]).length = _
    rw [List.length_flatMap]
    simp only [List.length_map, List.length_range]
    rw [List.map_const', List.sum_replicate_nat, allR_len n p, Nat.pow_succ]
theorem allR_mem {n : Nat} : ∀ {p : Nat} {r : List Int}, r ∈ allR n p → r.length = p ∧ ∀ x ∈ r, 0 ≤ x ∧ x < n
  | 0, r, h => by
    rw [List.mem_singleton.mp h]
    exact ⟨rfl, fun x hx => nomatch hx⟩
  | p + 1, r, h => by
    obtain ⟨q, hq, hr⟩ := List.mem_flatMap.mp h
    obtain ⟨t, ht, rfl⟩ := List.mem_map.mp hr
    have ht := List.mem_range.mp ht
    obtain ⟨h1, h2⟩ := allR_mem hq
    refine ⟨by simp [h1], fun x hx => ?_⟩
    rcases List.mem_append.mp hx with hx | hx
    · exact h2 x hx
    · rw [List.mem_singleton.mp hx]; omega
theorem pow_le_729 {n p : Nat} (hn : n ≤ 9) (hp : p ≤ 3) : n ^ p ≤ 729 :=
  Nat.le_trans (Nat.pow_le_pow_left hn p) (Nat.le_trans (Nat.pow_le_pow_right (by decide) hp) (by decide))
theorem all_in {n : Nat} {σa σb σc σd : Option Val} {ν : Store} (hn : n ≤ 9) : ∀ (rs acc : List (List Int)) (y : Option Val), (∀ r ∈ rs, r.length ≤ 3) → acc.length + rs.length * n ≤ 10000 →
    ∃ y', forL (.nm 5) f1__law_all (rs.map tupI) [some (.t (.int (n : Int))), σb, σc, σd, some (.c ν.length), y, none] (ν ++ [some (.lst (acc.map tupI))]) = .nx [some (.t (.int (n : Int))), σb, σc, σd, some (.c ν.length), y', none] (ν ++ [some (.lst ((acc ++ rs.flatMap fun r => (List.range n).map fun (t : Nat) => r ++ [(t : Int)]).map tupI))])
  | [], acc, y, _, _ => ⟨y, by simp [forL]⟩
  | r :: rs, acc, y, hr, hl => by
    have hl1 : acc.length + (rs.length + 1) * n ≤ 10000 := hl
    rw [Nat.add_mul, Nat.one_mul] at hl1
    have hr3 := hr r List.mem_cons_self
    have k : lcL (.nm 6) tYes' e1__law_all (rgI 0 n) [some (.t (.int (n : Int))), σb, σc, σd, some (.c ν.length), some (.t (tupI r)), none] (ν ++ [some (.lst (acc.map tupI))]) = .ok ((rgI 0 n).map fun d => match d with | .int t => tupI (r ++ [t]) | _ => .non) (ν ++ [some (.lst (acc.map tupI))]) := by
      refine lcL_map _ fun d hd => ?_
      rw [rgI_nat] at hd
      obtain ⟨t, ht, rfl⟩ := List.mem_map.mp hd
      refine ⟨_, asg_nm, rfl, ?_⟩
      have ad := addV_tup (a := r.map .int) (b := [.int (t : Int)]) (by simp; omega)
      simp [e1__law_all, ad]
    have ke : ((rgI 0 n).map fun d => match d with | .int t => tupI (r ++ [t]) | _ => .non) = ((List.range n).map fun (t : Nat) => r ++ [(t : Int)]).map tupI := by
      rw [rgI_nat, List.map_map, List.map_map]; rfl
    rw [ke] at k
    have z : szF (((List.range n).map fun (t : Nat) => r ++ [(t : Int)]).map tupI) (ν ++ [some (.lst (acc.map tupI))]) = .ok _ _ := szF_ok (szL _ (by simp; omega))
    have ex := extF_ok (μ := ν ++ [some (.lst (acc.map tupI))]) (k := ν.length) (ds := acc.map tupI) (es := ((List.range n).map fun (t : Nat) => r ++ [(t : Int)]).map tupI) (by simp) (by simp; omega)
    rw [set_snoc] at ex
    have hb : f1__law_all [some (.t (.int (n : Int))), σb, σc, σd, some (.c ν.length), some (.t (tupI r)), none] (ν ++ [some (.lst (acc.map tupI))]) = .nx [some (.t (.int (n : Int))), σb, σc, σd, some (.c ν.length), some (.t (tupI r)), none] (ν ++ [some (.lst ((acc ++ (List.range n).map fun (t : Nat) => r ++ [(t : Int)]).map tupI))]) := by
      rw [List.map_append]
      simp only [f1__law_all, sExp_eq, eMutG, eV_eq, List.getElem?_cons_succ, List.getElem?_cons_zero, bind_ok, lstAt, at_snoc, aCons_eq, eOfF_eq, lcF_eq, eN_eq, aNil_eq, range1_ok (n := n) (by omega), sl_nm, wipeM, List.set_cons_succ, List.set_cons_zero, k, z, ex, st_ok]
    obtain ⟨y', e⟩ := all_in (n := n) (σa := σa) (σb := σb) (σc := σc) (σd := σd) (ν := ν) hn rs (acc ++ (List.range n).map fun (t : Nat) => r ++ [(t : Int)]) (some (.t (tupI r))) (fun r hr' => hr r (List.mem_cons_of_mem _ hr')) (by simp; omega)
    refine ⟨y', ?_⟩
    rw [List.map_cons, forL_nx (by simp) hb, e, List.flatMap_cons, List.append_assoc]
theorem all_ok {n p : Nat} {μ : Store} (hn : n ≤ 9) (hp : p ≤ 3) : fn__law_all [.t (.int (n : Int)), .t (.int (p : Int))] μ = .ok (.t (.lst ((allR n p).map tupI))) μ := by
  have step : ∀ (k : Nat) (d x y : Option Val) (ν : Store), k < 3 → ∃ x' y', f2__law_all [some (.t (.int (n : Int))), some (.t (.int (p : Int))), some (.t (.lst ((allR n k).map tupI))), d, x, y, none] ν = .nx [some (.t (.int (n : Int))), some (.t (.int (p : Int))), some (.t (.lst ((allR n (k + 1)).map tupI))), d, x', y', none] (ν ++ [none]) := by
    intro k d x y ν hk
    have hlen := allR_len n k
    have h7 := pow_le_729 (p := k) hn (by omega)
    obtain ⟨y', e⟩ := all_in (n := n) (σa := none) (σb := some (.t (.int (p : Int)))) (σc := some (.t (.lst ((allR n k).map tupI)))) (σd := d) (ν := ν) hn (allR n k) [] y (fun r hr => by rw [(allR_mem hr).1]; omega) (by
      rw [hlen]
      have : n ^ k * n ≤ 729 * 9 := Nat.mul_le_mul h7 hn
      simp; omega)
    refine ⟨some (.t (.lst ((allR n (k + 1)).map tupI))), y', ?_⟩
    simp only [f2__law_all, sSeq_eq, sAsg_nm, eCellF_eq, eN_eq, aNil_eq, bind_ok, gLst_0, st_ok, List.set_cons_succ, List.set_cons_zero, seq_nx, sFor_eq, e1_eq, eV_eq, List.getElem?_cons_succ, List.getElem?_cons_zero, gIt_lst]
    have e' := e
    simp only [List.map_nil, List.nil_append] at e'
    rw [e']
    simp only [seq_nx, sSeq_eq, sFrz, List.getElem?_cons_succ, List.getElem?_cons_zero]
    rw [frz_lst at_snoc]
    simp only [set_snoc, seq_nx, sAsg_nm, eV_eq, List.set_cons_succ, List.set_cons_zero, List.getElem?_cons_succ, List.getElem?_cons_zero, st_ok]
    rfl
  have loop : ∃ σx σy σz, forL (.nm 3) f2__law_all (rgI 0 p) [some (.t (.int (n : Int))), some (.t (.int (p : Int))), some (.t (.lst ((allR n 0).map tupI))), none, none, none, none] μ = .nx [some (.t (.int (n : Int))), some (.t (.int (p : Int))), some (.t (.lst ((allR n p).map tupI))), σx, σy, σz, none] (μ ++ List.replicate p none) := by
    refine forL_inv (fun i σ μ' => μ' = μ ++ List.replicate i none ∧ ∃ σx σy σz, σ = [some (.t (.int (n : Int))), some (.t (.int (p : Int))), some (.t (.lst ((allR n i).map tupI))), σx, σy, σz, none]) (fun r => ∃ σx σy σz, r = .nx [some (.t (.int (n : Int))), some (.t (.int (p : Int))), some (.t (.lst ((allR n p).map tupI))), σx, σy, σz, none] (μ ++ List.replicate p none)) ⟨by simp, none, none, none, rfl⟩ ?_ ?_
    · rintro i d σ μ' hd ⟨rfl, σx, σy, σz, rfl⟩
      obtain ⟨hi, rfl⟩ := range_at hd
      obtain ⟨x', y', e⟩ := step i (some (.t (.int i))) σy σz (μ ++ List.replicate i none) (by omega)
      exact ⟨_, asg_nm, .inl ⟨_, _, .inl e, by rw [List.append_assoc, ← List.replicate_succ'], _, _, _, rfl⟩⟩
    · rintro σ μ' ⟨rfl, σx, σy, σz, rfl⟩
      rw [rgI_len]
      exact ⟨_, _, _, rfl⟩
  obtain ⟨σx, σy, σz, e⟩ := loop
  have e0 : ((allR n 0).map tupI) = [.tup []] := rfl
  rw [e0] at e
  simp [fn__law_all, b__law_all, fnOf, startM, range1_ok (n := p) (by omega), e]
/-! tables -/
def inR (n : Nat) (l : List Int) : Prop := ∀ x ∈ l, 0 ≤ x ∧ x < (n : Int)
theorem at_inR {n : Nat} {l : List Int} {i : Nat} (h : inR n l) (hi : i < l.length) : ∃ x : Int, atI (l.map PV.int) (i : Int) = some (.int x) ∧ 0 ≤ x ∧ x < n := by
  rw [at_int hi]
  exact ⟨_, rfl, h _ (PM.getD_mem hi)⟩
/-- what is told of a row's things, ahead of the drawn cell -/
theorem told_ok {n p k w : Nat} {r : List Int} {σa σd σe σh : Option Val} {f : Val} {ν : Store} (hn1 : 1 ≤ n) (hn : n ≤ 9) (hr : r.length = p) (hi : inR n r) (hk : k < n) (hp : p ≤ 3) : ∃ L : List Int, inR n L ∧ 4 ≤ L.length ∧ L.length ≤ 5 ∧
    (sSeq (sAsg (.nm 7) (eOfF (eN gLst (aCons (eV 4) (aCons (e2 (p2 modV) (e2 (p2 addV) (eN (pN sumV) (aCons (eV 6) aNil)) (eV 4)) (eV 1)) (aCons (eN (pN minV1) (aCons (e2 (p2 addV) (eV 6) (eN gTup (aCons (eV 4) aNil))) aNil)) (aCons (eN (pN maxV1) (aCons (e2 (p2 addV) (eV 6) (eN gTup (aCons (eV 4) aNil))) aNil)) aNil)))))))
    (sIf (tVal (e2 (p2 gtV) (eV 2) (eC (.int 0))))
      (sAsg (.nm 7) (eOfF (e2 (pf2 addF) (eSl (fun l h => p1 (slV l h)) (eV 7) oNone (oSome (eC (.int 2)))) (eOfF (eN gLst (aCons (eN (pN minV1) (aCons (eV 6) aNil)) (aCons (eN (pN maxV1) (aCons (eV 6) aNil)) (aCons (e2 (p2 atV) (eV 6) (e2 (p2 modV) (eV 4) (eV 2))) aNil))))))))
      sPass)) [σa, some (.t (.int (n : Int))), some (.t (.int (p : Int))), σd, some (.t (.int (k : Int))), some f, some (.t (tupI r)), σh, σe] ν = .nx [σa, some (.t (.int (n : Int))), some (.t (.int (p : Int))), σd, some (.t (.int (k : Int))), some f, some (.t (tupI r)), some (.t (lstI L)), σe] ν := by
  have e0 : (r.map PV.int) ++ [.int (k : Int)] = (r ++ [(k : Int)]).map .int := by simp
  have hi2 : inR n (r ++ [(k : Int)]) := fun x hx => by
    rcases List.mem_append.mp hx with hx | hx
    · exact hi x hx
    · rw [List.mem_singleton.mp hx]; omega
  have ne : r ++ [(k : Int)] ≠ [] := by simp
  obtain ⟨m1, hm1, em1⟩ := minV1_tupI ne
  obtain ⟨m2, hm2, em2⟩ := maxV1_tupI ne
  have ad := addV_tup (a := r.map .int) (b := [.int (k : Int)]) (by simp; omega)
  rw [e0] at ad
  have es := sumV_tupI r
  have q1 := Int.emod_nonneg (r.sum + (k : Int)) (b := (n : Int)) (by omega)
  have q2 := Int.emod_lt_of_pos (r.sum + (k : Int)) (b := (n : Int)) (by omega)
  have md := mod_ok (i := r.sum + (k : Int)) (j := (n : Int)) (by omega)
  have kk : inR n [(k : Int), (r.sum + (k : Int)) % (n : Int), m1, m2] := by
    intro x hx
    simp only [List.mem_cons, List.not_mem_nil, or_false] at hx
    rcases hx with rfl | rfl | rfl | rfl
    · omega
    · exact ⟨q1, q2⟩
    · exact hi2 _ hm1
    · exact hi2 _ hm2
  by_cases hp0 : (0 : Int) < p
  · have hrn : r ≠ [] := fun z => by rw [z] at hr; simp at hr; omega
    obtain ⟨m3, hm3, em3⟩ := minV1_tupI hrn
    obtain ⟨m4, hm4, em4⟩ := maxV1_tupI hrn
    have md2 := mod_ok (i := (k : Int)) (j := (p : Int)) hp0
    have hmod : (k : Int) % (p : Int) = ((k % p : Nat) : Int) := by simp
    obtain ⟨x, ex, hx1, hx2⟩ := at_inR (i := k % p) hi (by rw [hr]; exact Nat.mod_lt _ (by omega))
    refine ⟨[(k : Int), (r.sum + (k : Int)) % (n : Int), m3, m4, x], ?_, by simp, by simp, ?_⟩
    · intro y hy
      simp only [List.mem_cons, List.not_mem_nil, or_false] at hy
      rcases hy with rfl | rfl | rfl | rfl | rfl
      · omega
      · exact ⟨q1, q2⟩
      · exact hi _ hm3
      · exact hi _ hm4
      · exact ⟨hx1, hx2⟩
    · have cu : cutG [PV.int (k : Int), .int ((r.sum + (k : Int)) % (n : Int)), .int m1, .int m2] none (some 2) = [.int (k : Int), .int ((r.sum + (k : Int)) % (n : Int))] := rfl
      have ad2 := addF_ok (a := [PV.int (k : Int), .int ((r.sum + (k : Int)) % (n : Int))]) (b := [.int m3, .int m4, .int x]) (by simp)
      have hmod2 : ((k : Int) % (p : Int)) = ((k % p : Nat) : Int) := hmod
      simp only [sSeq_eq, sAsg_nm, eOfF_eq, eN_eq, aCons_eq, eV_eq, List.getElem?_cons_succ, List.getElem?_cons_zero, bind_ok, aNil_eq, e2_eq, p2_t, pN_1, es, Option.map_some, orok_some, addV_int, md, gTup_1, ad, em1, em2, gLst_4, st_ok, List.set_cons_succ, List.set_cons_zero, seq_nx, sIf_eq, tVal_eq, eC_eq, gtV_int, gBl_bl, decide_eq_true hp0, if_true, eSl_eq, oNone_eq, oSome_eq, gOpt_int, p1_t, slV_lst, cu, em3, em4, md2, hmod2, atV_tup, ex, gLst_3, pf2_t, ad2]
      rfl
  · refine ⟨[(k : Int), (r.sum + (k : Int)) % (n : Int), m1, m2], kk, by simp, by simp, ?_⟩
    simp only [sSeq_eq, sAsg_nm, eOfF_eq, eN_eq, aCons_eq, eV_eq, List.getElem?_cons_succ, List.getElem?_cons_zero, bind_ok, aNil_eq, e2_eq, p2_t, pN_1, es, Option.map_some, orok_some, addV_int, md, gTup_1, ad, em1, em2, gLst_4, st_ok, List.set_cons_succ, List.set_cons_zero, seq_nx, sIf_eq, tVal_eq, eC_eq, gtV_int, gBl_bl, decide_eq_false hp0, Bool.false_eq_true, if_false, sPass_eq]
    rfl

theorem table_loop {n p k w : Nat} {t : Store} (hn1 : 1 ≤ n) (hn : n ≤ 9) (hk : k < n) (hp : p ≤ 3) (hw : w < 8) : ∀ (rs : List (List Int)) (acc : List Int) (a b c : Int) (y6 y7 y8 : Option Val), (∀ r ∈ rs, r.length = p ∧ inR n r) → inR n acc → acc.length + rs.length ≤ 1000 →
    ∃ (acc' : List Int) (a' b' c' : Int) (y6' y7' y8' : Option Val), forL (.nm 6) f1__law_table (rs.map tupI) [some (.c 0), some (.t (.int (n : Int))), some (.t (.int (p : Int))), some (.t (.int (w : Int))), some (.t (.int (k : Int))), some (.c (t.length + 1)), y6, y7, y8] (wl a b c :: (t ++ [some (.lst (acc.map .int))])) = .nx [some (.c 0), some (.t (.int (n : Int))), some (.t (.int (p : Int))), some (.t (.int (w : Int))), some (.t (.int (k : Int))), some (.c (t.length + 1)), y6', y7', y8'] (wl a' b' c' :: (t ++ [some (.lst (acc'.map .int))])) ∧ acc'.length = acc.length + rs.length ∧ inR n acc'
  | [], acc, a, b, c, y6, y7, y8, _, ha, _ => ⟨acc, a, b, c, y6, y7, y8, rfl, rfl, ha⟩
  | r :: rs, acc, a, b, c, y6, y7, y8, hr, ha, hl => by
    obtain ⟨hr1, hr2⟩ := hr r List.mem_cons_self
    have hl' : acc.length + (rs.length + 1) ≤ 1000 := hl
    obtain ⟨L, hL, hL4, hL5, et⟩ := told_ok (n := n) (p := p) (k := k) (w := w) (r := r) (σa := some (.c 0)) (σd := some (.t (.int (w : Int)))) (σe := y8) (σh := y7) (f := .c (t.length + 1)) (ν := (wl a b c :: (t ++ [some (.lst (acc.map .int))]))) hn1 hn hr1 hr2 hk hp
    obtain ⟨q, a1, b1, c1, ed, hq⟩ := drawN (a := a) (b := b) (c := c) (t := t ++ [some (.lst (acc.map .int))]) n (by omega) (by omega)
    have hLq : inR n (L ++ List.replicate 8 (q : Int)) := fun z hz => by
      rcases List.mem_append.mp hz with hz | hz
      · exact hL z hz
      · rw [List.eq_of_mem_replicate hz]; omega
    obtain ⟨v, ev, hv1, hv2⟩ := at_inR (i := w) hLq (by simp; omega)
    have mf : mulF (.lst [PV.int (q : Int)]) (.int 8) = some (List.replicate 8 (.int (q : Int))) := by
      have := mulF_ok (l := [PV.int (q : Int)]) (k := 8) (by simp) (by decide)
      rw [rep_one] at this
      exact this
    have af := addF_ok (a := L.map .int) (b := List.replicate 8 (.int (q : Int))) (by simp; omega)
    have e8 : L.map PV.int ++ List.replicate 8 (.int (q : Int)) = (L ++ List.replicate 8 (q : Int)).map .int := by simp
    rw [e8] at af
    have hb : f1__law_table [some (.c 0), some (.t (.int (n : Int))), some (.t (.int (p : Int))), some (.t (.int (w : Int))), some (.t (.int (k : Int))), some (.c (t.length + 1)), some (.t (tupI r)), y7, y8] (wl a b c :: (t ++ [some (.lst (acc.map .int))])) = .nx [some (.c 0), some (.t (.int (n : Int))), some (.t (.int (p : Int))), some (.t (.int (w : Int))), some (.t (.int (k : Int))), some (.c (t.length + 1)), some (.t (tupI r)), some (.t (lstI L)), some (.t (.int (q : Int)))] (wl a1 b1 c1 :: (t ++ [some (.lst ((acc ++ [v]).map .int))])) := by
      have e1 : f1__law_table = sSeq (sAsg (.nm 7) (eOfF (eN gLst (aCons (eV 4) (aCons (e2 (p2 modV) (e2 (p2 addV) (eN (pN sumV) (aCons (eV 6) aNil)) (eV 4)) (eV 1)) (aCons (eN (pN minV1) (aCons (e2 (p2 addV) (eV 6) (eN gTup (aCons (eV 4) aNil))) aNil)) (aCons (eN (pN maxV1) (aCons (e2 (p2 addV) (eV 6) (eN gTup (aCons (eV 4) aNil))) aNil)) aNil))))))) (sSeq (sIf (tVal (e2 (p2 gtV) (eV 2) (eC (.int 0))))
      (sAsg (.nm 7) (eOfF (e2 (pf2 addF) (eSl (fun l h => p1 (slV l h)) (eV 7) oNone (oSome (eC (.int 2)))) (eOfF (eN gLst (aCons (eN (pN minV1) (aCons (eV 6) aNil)) (aCons (eN (pN maxV1) (aCons (eV 6) aNil)) (aCons (e2 (p2 atV) (eV 6) (e2 (p2 modV) (eV 4) (eV 2))) aNil))))))))
      sPass) (sSeq (sAsg (.nm 8) (eN (gCall 2 fn__law_draw) (aCons (eV 0) (aCons (eV 1) aNil)))) (sExp (eMut mAppend (eV 5) (aCons (e2 (p2 atV) (eOfF (e2 (pf2 addF) (eV 7) (eOfF (e2 (pf2 mulF) (eOfF (eN gLst (aCons (eV 8) aNil))) (eC (.int 8)))))) (eV 3)) aNil))))) := rfl
      have assoc : ∀ (A B C : MSt) (σ : Sl) (μ : Store) (σ1 : Sl) (μ1 : Store), sSeq A B σ μ = .nx σ1 μ1 → sSeq A (sSeq B C) σ μ = C σ1 μ1 := by
        intro A B C σ μ σ1 μ1 h
        simp only [sSeq_eq] at h ⊢
        cases eA : A σ μ with
        | nx s m => rw [eA] at h; simp only [seq_nx] at h; simp [h]
        | _ => rw [eA] at h; cases h
      rw [e1, assoc _ _ _ _ _ _ _ et]
      simp only [sSeq_eq, sAsg_nm, eN_eq, aCons_eq, eV_eq, List.getElem?_cons_succ, List.getElem?_cons_zero, bind_ok, aNil_eq, gCall_2c, ed, st_ok, List.set_cons_succ, List.set_cons_zero, seq_nx, sExp_eq, eMutG, lstAt, e2_eq, eOfF_eq, eC_eq, gLst_1, pf2_t, mf, af, orok_some, p2_t, atV_lst, ev, Option.map_some, gMut, asT_cons, asT_nil, mAppend, List.getElem?_concat_length]
      rw [if_pos (by rw [List.length_map]; exact szL _ (by omega))]
      simp
    obtain ⟨acc', a', b', c', z6, z7, z8, e, hl2, hi2⟩ := table_loop (n := n) (p := p) (k := k) (w := w) (t := t) hn1 hn hk hp hw rs (acc ++ [v]) a1 b1 c1 (some (.t (tupI r))) (some (.t (lstI L))) (some (.t (.int (q : Int)))) (fun r hr' => hr r (List.mem_cons_of_mem _ hr')) (fun z hz => by
      rcases List.mem_append.mp hz with hz | hz
      · exact ha z hz
      · rw [List.mem_singleton.mp hz]; exact ⟨hv1, hv2⟩) (by simp; omega)
    refine ⟨acc', a', b', c', z6, z7, z8, ?_, by simp at hl2 ⊢; omega, hi2⟩
    rw [List.map_cons, forL_nx (by simp) hb, e]
theorem table_ok {n p : Nat} {a b c : Int} {t : Store} (hn1 : 1 ≤ n) (hn : n ≤ 9) (hp : p ≤ 3) : ∃ (row : List Int) (a' b' c' : Int), fn__law_table [.c 0, .t (.int (n : Int)), .t (.int (p : Int))] (wl a b c :: t) = .ok (.t (tupI row)) (wl a' b' c' :: t) ∧ row.length = n ^ p ∧ inR n row := by
  obtain ⟨w, a1, b1, c1, e1, hw⟩ := drawN (a := a) (b := b) (c := c) (t := t) 8 (by decide) (by decide)
  obtain ⟨k, a2, b2, c2, e2', hk⟩ := drawN (a := a1) (b := b1) (c := c1) (t := t) n (by omega) (by omega)
  have h7 := pow_le_729 (n := n) (p := p) hn hp
  have hlen := allR_len n p
  obtain ⟨acc', a3, b3, c3, z6, z7, z8, e3, hl, hi⟩ := table_loop (n := n) (p := p) (k := k) (w := w) (t := t) hn1 hn hk hp hw (allR n p) [] a2 b2 c2 none none none (fun r hr => allR_mem hr) (fun z hz => nomatch hz) (by rw [hlen]; simp; omega)
  have ea := all_ok (n := n) (p := p) (μ := (wl a2 b2 c2 :: (t ++ [some (.lst [])]))) hn hp
  have e1' : fn__law_draw [.c 0, .t (.int 8)] (wl a b c :: t) = .ok (.t (.int (w : Int))) (wl a1 b1 c1 :: t) := e1
  refine ⟨acc', a3, b3, c3, ?_, by rw [hl, hlen]; simp, hi⟩
  simp only [fn__law_table, b__law_table, fnOf, startM, List.map_cons, List.map_nil, List.length_cons, List.length_nil, List.cons_append, List.nil_append]
  simp only [sSeq_eq, sAsg_nm, eN_eq, aCons_eq, eV_eq, List.getElem?_cons_succ, List.getElem?_cons_zero, bind_ok, aNil_eq, eC_eq, gCall_2c, e1', st_ok, List.replicate, List.set_cons_succ, List.set_cons_zero, seq_nx, e2', eCellF_eq, gLst_0, List.length_cons, List.length_nil, List.cons_append, List.nil_append, sFor_eq, e1_eq, gCall_2, ea, gIt_lst]
  have e3' := e3
  simp only [List.map_nil] at e3'
  rw [e3']
  simp [pN, views, view, endM, fin]

theorem draw_dr {w : W3} {t : Store} {m : Nat} (h0 : 0 < m) (h1 : m < 1073741824) : fn__law_draw [.c 0, .t (.int (m : Int))] (wlw w :: t) = .ok (.t (.int ((dr m w).1 : Int))) (wlw (dr m w).2 :: t) := by
  obtain ⟨a, b, c⟩ := w
  have h0' : (0 : Int) < m := by omega
  have h1' : (m : Int) < 1073741824 := by omega
  have q1 := Int.emod_nonneg a (b := (m : Int)) (by omega)
  have q2 := Int.emod_nonneg (drX (a, b, c)) (b := (m : Int)) (by omega)
  unfold dr
  by_cases ha : 0 < a
  · simp only [ha, if_true, Int.toNat_of_nonneg q1]
    simp [wlw, fn__law_draw, b__law_draw, fnOf, startM, p2, view, atI, ixN, ha, modV, fdiv_ok h0' h1', h0', h0, sSetL, gSetL, lstAt, endM, fin]
  · simp only [ha, if_false, Int.toNat_of_nonneg q2]
    simp [wlw, drX, fn__law_draw, b__law_draw, fnOf, startM, p2, view, atI, ixN, ha, modV, fdiv_ok (j := 1009) (by decide) (by decide), fdiv_ok (j := 2003) (by decide) (by decide), h0', h0, sSetL, gSetL, lstAt, endM, fin, mulV, inW_mod, show inW 104729 = true by decide, show inW 48271 = true by decide]
theorem draw_lit {w : W3} {t : Store} {m : Nat} (h0 : 0 < m) (h1 : m < 1073741824) : fn__law_draw [.c 0, .t (.int (no_index (OfNat.ofNat m)))] (wlw w :: t) = .ok (.t (.int ((dr m w).1 : Int))) (wlw (dr m w).2 :: t) := draw_dr h0 h1
theorem draw_succ {w : W3} {t : Store} {m : Nat} (h1 : m < 1073741823) : fn__law_draw [.c 0, .t (.int ((m : Int) + 1))] (wlw w :: t) = .ok (.t (.int ((dr (m + 1) w).1 : Int))) (wlw (dr (m + 1) w).2 :: t) := draw_dr (m := m + 1) (by omega) (by omega)
theorem drawE (w : W3) (m : Nat) (h0 : 0 < m) (h1 : m < 1073741824) : ∃ (i : Nat) (w1 : W3), i < m ∧ ∀ t, fn__law_draw [.c 0, .t (.int (m : Int))] (wlw w :: t) = .ok (.t (.int (i : Int))) (wlw w1 :: t) := ⟨_, _, dr_lt h0, fun _ => draw_dr h0 h1⟩
theorem drawX (w : W3) (m : Nat) (M : Int) (hM : M = (m : Int) := by rfl) (h0 : 0 < m := by omega) (h1 : m < 1073741824 := by omega) : ∃ (i : Nat) (w1 : W3), i < m ∧ ∀ t, fn__law_draw [.c 0, .t (.int M)] (wlw w :: t) = .ok (.t (.int (i : Int))) (wlw w1 :: t) := ⟨_, _, dr_lt h0, fun _ => by rw [hM]; exact draw_dr h0 h1⟩

/-! names -/
def abcL : List Nat := (List.range 26).map (· + 97)
theorem abc_eq : ("abcdefghijklmnopqrstuvwxyz" : Str) = sg abcL := by decide +kernel
theorem nil_eq : ("" : Str) = sg [] := by decide +kernel
theorem abc_at {i : Nat} (h : i < 26) : atV (.str (sg abcL)) (.int (i : Int)) = some (.str (sg [97 + i])) := by
  rw [atV_sg (by decide) (by simpa [abcL] using h)]
  simp [abcL, Nat.add_comm]
theorem small_of {c : Nat} (h1 : 97 ≤ c) (h2 : c < 123) : smallB c = true := by
  unfold smallB
  rw [abc_eq, sg_list, decide_eq_true_eq]
  exact List.mem_map.mpr ⟨c - 97, List.mem_range.mpr (by omega), by omega⟩
def goodL (l : List Nat) : Prop := 2 ≤ l.length ∧ l.length ≤ 8 ∧ ∀ c ∈ l, 97 ≤ c ∧ c < 123
theorem isName_sg {l : List Nat} (h : goodL l) : isNameB (.str (sg l)) = true := by
  obtain ⟨h1, h2, h3⟩ := h
  have e : l.all smallB = true := List.all_eq_true.mpr fun c hc => small_of (h3 c hc).1 (h3 c hc).2
  have c1 : (2 : Int) ≤ l.length := by omega
  have c2 : (l.length : Int) ≤ 8 := by omega
  simp [isNameB, e, c1, c2]
theorem singles {ys : List PV} (h : ∀ y ∈ ys, ∃ r : Nat, r < 26 ∧ y = .str (sg [97 + r])) : ∃ rs : List Nat, ys = (rs.map fun r => [97 + r]).map (fun l => .str (sg l)) ∧ (∀ r ∈ rs, r < 26) ∧ rs.length = ys.length := by
  induction ys with
  | nil => exact ⟨[], rfl, fun r hr => (nomatch hr), rfl⟩
  | cons y ys ih =>
    obtain ⟨r, hr, rfl⟩ := h y List.mem_cons_self
    obtain ⟨rs, e, h2, h3⟩ := ih fun y hy => h y (List.mem_cons_of_mem _ hy)
    refine ⟨r :: rs, by rw [e]; rfl, fun z hz => ?_, by simp [h3]⟩
    rcases List.mem_cons.mp hz with e | e
    · rw [e]; exact hr
    · exact h2 z e
theorem flat_singles (rs : List Nat) : TL.joinL [] (rs.map fun r => [97 + r]) = rs.map (97 + ·) := by
  rw [joinL_nil]
  induction rs with
  | nil => rfl
  | cons r rs ih => simp [ih]
def nameL (S : List Nat) (i f k : Nat) : List Nat := S.take i ++ (97 + (f + 5 * k) % 26) :: S.drop i
theorem names_ok {a b c : Int} {t : Store} {m : Nat} (hm : m ≤ 6) : ∃ (nm : Nat → List Nat) (a' b' c' : Int), fn__law_names [.c 0, .t (.int (m : Int))] (wl a b c :: t) = .ok (.t (.lst ((List.range m).map fun k => .str (sg (nm k))))) (wl a' b' c' :: t) ∧ (∀ k, k < m → goodL (nm k)) ∧ ∀ i j, i < m → j < m → nm i = nm j → i = j := by
  obtain ⟨n7, a1, b1, c1, e1, h7⟩ := drawN (a := a) (b := b) (c := c) (t := t) 7 (by decide) (by decide)
  have e1' : fn__law_draw [.c 0, .t (.int 7)] (wl a b c :: t) = .ok (.t (.int (n7 : Int))) (wl a1 b1 c1 :: t) := e1
  -- the stem
  have st : ∃ ys μ', lcL (.nm 6) tYes' e1__law_names (rgI 0 (1 + n7)) [some (.c 0), some (.t (.int (m : Int))), some (.t (.str (sg abcL))), none, none, none, none] (wl a1 b1 c1 :: t) = .ok ys μ' ∧ (∃ x y z, μ' = wl x y z :: t) ∧ ys.length = (rgI 0 (1 + n7)).length ∧ ∀ y ∈ ys, ∃ r : Nat, r < 26 ∧ y = .str (sg [97 + r]) := by
    refine lcL_inv (fun _ μ' => ∃ x y z, μ' = wl x y z :: t) (fun y => ∃ r : Nat, r < 26 ∧ y = .str (sg [97 + r])) ⟨a1, b1, c1, rfl⟩ ?_
    rintro i d μ' hd ⟨x, y, z, rfl⟩
    obtain ⟨r, x', y', z', er, hr⟩ := drawN (a := x) (b := y) (c := z) (t := t) 26 (by decide) (by decide)
    have er' : fn__law_draw [.c 0, .t (.int 26)] (wl x y z :: t) = .ok (.t (.int (r : Int))) (wl x' y' z' :: t) := er
    exact ⟨_, .str (sg [97 + r]), _, asg_nm, rfl, by simp [e1__law_names, er', abc_at hr], ⟨x', y', z', rfl⟩, r, hr, rfl⟩
  obtain ⟨ys, μ', es, ⟨a2, b2, c2, rfl⟩, hlen, hys⟩ := st
  obtain ⟨rs, rfl, hrs, hrl⟩ := singles hys
  rw [rgI_len] at hlen
  have hrl2 : rs.length = 1 + n7 := by rw [hrl]; exact hlen
  have z1 : szF ((rs.map fun r => [97 + r]).map fun l => .str (sg l)) (wl a2 b2 c2 :: t) = .ok _ _ := szF_ok (szL _ (by simp; omega))
  have hsum : ∀ rs : List Nat, ((rs.map fun r => [97 + r]).map List.length).sum = rs.length := by
    intro rs
    induction rs with
    | nil => rfl
    | cons r rs ih => simp at ih ⊢; omega
  have ej := gJoin_sg (s := []) (ls := rs.map fun r => [97 + r]) (μ := wl a2 b2 c2 :: t) (by rw [hsum]; simp; omega) (fun c hc => nomatch hc) (fun l hl c hc => by
    obtain ⟨r, hr, rfl⟩ := List.mem_map.mp hl
    rw [List.mem_singleton.mp hc]
    have := hrs r hr
    omega)
  rw [flat_singles] at ej
  obtain ⟨i, a3, b3, c3, e3, hi⟩ := drawN (a := a2) (b := b2) (c := c2) (t := t) (rs.length + 1) (by omega) (by omega)
  have e3' : fn__law_draw [.c 0, .t (.int ((rs.length : Int) + 1))] (wl a2 b2 c2 :: t) = .ok (.t (.int (i : Int))) (wl a3 b3 c3 :: t) := by
    have : ((rs.length + 1 : Nat) : Int) = (rs.length : Int) + 1 := by omega
    rw [← this]; exact e3
  obtain ⟨f, a4, b4, c4, e4, hf⟩ := drawN (a := a3) (b := b3) (c := c3) (t := t) 26 (by decide) (by decide)
  have e4' : fn__law_draw [.c 0, .t (.int 26)] (wl a3 b3 c3 :: t) = .ok (.t (.int (f : Int))) (wl a4 b4 c4 :: t) := e4
  generalize hS : rs.map (97 + ·) = S at ej
  have hSl : S.length = rs.length := by rw [← hS, List.length_map]
  have hSc : ∀ c ∈ S, 97 ≤ c ∧ c < 123 := by
    intro c hc
    rw [← hS] at hc
    obtain ⟨r, hr, rfl⟩ := List.mem_map.mp hc
    have := hrs r hr
    omega
  refine ⟨nameL S i f, a4, b4, c4, ?_, ?_, ?_⟩
  · have el : lcL (.nm 6) tYes' e2__law_names (rgI 0 m) [some (.c 0), some (.t (.int (m : Int))), some (.t (.str (sg abcL))), some (.t (.str (sg S))), some (.t (.int (i : Int))), some (.t (.int (f : Int))), none] (wl a4 b4 c4 :: t) = .ok ((rgI 0 m).map fun d => match d with | .int k => .str (sg (nameL S i f k.toNat)) | _ => .non) (wl a4 b4 c4 :: t) := by
      refine lcL_map _ fun d hd => ?_
      rw [rgI_nat] at hd
      obtain ⟨k, hk, rfl⟩ := List.mem_map.mp hd
      have hk := List.mem_range.mp hk
      refine ⟨_, asg_nm, rfl, ?_⟩
      have s1 : slV none (some (i : Int)) (.str (sg S)) = some (.str (sg (S.take i))) := by rw [slV_sg (by omega), cut_to (by omega)]
      have s2 : slV (some (i : Int)) none (.str (sg S)) = some (.str (sg (S.drop i))) := by rw [slV_sg (by omega), cut_from (by omega)]
      have m1 : mulV (.int 5) (.int (k : Int)) = some (.int (5 * (k : Int))) := mulV_ok' (by decide) (by decide)
      have m2 : modV (.int ((f : Int) + 5 * (k : Int))) (.int 26) = some (.int (((f + 5 * k) % 26 : Nat) : Int)) := by
        rw [mod_ok (by decide)]
        congr 2
      have at1 := abc_at (i := (f + 5 * k) % 26) (Nat.mod_lt _ (by decide))
      have d1 := addV_sg (l := S.take i) (m := [97 + (f + 5 * k) % 26]) (by simp; omega)
      have d2 := addV_sg (l := S.take i ++ [97 + (f + 5 * k) % 26]) (m := S.drop i) (by simp; omega)
      have fin2 : S.take i ++ [97 + (f + 5 * k) % 26] ++ S.drop i = nameL S i f k := by simp [nameL]
      rw [fin2] at d2
      simp only [e2__law_names, e2_eq, eSl_eq, eV_eq, List.getElem?_set, List.getElem?_cons_succ, List.getElem?_cons_zero, List.set_cons_succ, List.set_cons_zero, bind_ok, oNone_eq, oSome_eq, gOpt_int, p1_t, s1, s2, Option.map_some, orok_some, p2_t, eC_eq, m1, addV_int, m2, at1, d1, d2, Int.toNat_natCast]
    have ke : ((rgI 0 m).map fun d => match d with | .int k => .str (sg (nameL S i f k.toNat)) | _ => .non) = (List.range m).map fun k => PV.str (sg (nameL S i f k)) := by
      rw [rgI_nat, List.map_map]; rfl
    rw [ke] at el
    have z2 : szF ((List.range m).map fun k => PV.str (sg (nameL S i f k))) (wl a4 b4 c4 :: t) = .ok _ _ := szF_ok (szL _ (by simp; omega))
    have ln := lenV_sg (l := S) (by omega)
    rw [hSl] at ln
    have r1 : gRange1 [.t (.int (1 + (n7 : Int)))] (wl a1 b1 c1 :: t) = .ok (rgI 0 (1 + n7)) (wl a1 b1 c1 :: t) := by
      have := range1_ok (n := 1 + n7) (μ := wl a1 b1 c1 :: t) (by omega)
      simpa using this
    have r2 := range1_ok (n := m) (μ := wl a4 b4 c4 :: t) (by omega)
    have j0 : ∀ x : R Val, (match (Val.t (.str (sg []))) with | .t (.str _) => x | _ => .stuck) = x := fun _ => rfl
    simp only [fn__law_names, b__law_names, fnOf, startM, List.map_cons, List.map_nil, List.length_cons, List.length_nil, List.cons_append, List.nil_append, List.replicate, abc_eq, nil_eq]
    simp only [sSeq_eq, sAsg_nm, eC_eq, st_ok, List.set_cons_succ, List.set_cons_zero, seq_nx, eJoin, bind_ok, eOfF_eq, lcF_eq, eN_eq, aCons_eq, aNil_eq, e2_eq, eV_eq, List.getElem?_cons_succ, List.getElem?_cons_zero, gCall_2c, e1', p2_t, addV_int, Option.map_some, orok_some, r1, sl_nm, wipeM, es, z1, ej, pN_1, ln, e3', e4', sRet_eq, r2, el, z2, endM_rt]
    simp
  · intro k hk
    refine ⟨by simp [nameL]; omega, by simp [nameL]; omega, fun c hc => ?_⟩
    rcases List.mem_append.mp hc with hc | hc
    · exact hSc c (List.mem_of_mem_take hc)
    · rcases List.mem_cons.mp hc with e | hc
      · have := Nat.mod_lt (f + 5 * k) (show 0 < 26 by decide)
        omega
      · exact hSc c (List.mem_of_mem_drop hc)
  · intro x y hx hy e
    have e2 := List.append_cancel_left e
    have e3 : (f + 5 * x) % 26 = (f + 5 * y) % 26 := by
      have := List.cons.inj e2
      omega
    omega

/-! deeds as data; the methods of House -/
theorem by_ne' : ((("by_name" : Str) == ("size" : Str)) = false) := by decide +kernel
theorem sz_ne' : ((("size" : Str) == ("by_name" : Str)) = false) := by decide +kernel
abbrev Dd := List Nat × Nat × List Int
def dV (d : Dd) : PV := .tup [.str (sg d.1), .int (d.2.1 : Int), tupI d.2.2]
def okD (n : Nat) (d : Dd) : Prop := goodL d.1 ∧ d.2.1 ≤ 3 ∧ d.2.2.length = n ^ d.2.1 ∧ inR n d.2.2
structure okDs (n : Nat) (ds : List Dd) : Prop where
  ok : ∀ d ∈ ds, okD n d
  nd : (ds.map (·.1)).Nodup
  len : ds.length ≤ 6
abbrev hV (n : Nat) (ds : List Dd) : PV := houseV (n : Int) (ds.map dV)
@[simp] theorem nameD_dV (d : Dd) : nameD (dV d) = .str (sg d.1) := rfl
theorem m_size {n : Int} {ds : List PV} {μ : Store} : gFld ["House"] "size" (.t (houseV n ds)) μ = .ok (.t (.int n)) μ := by
  simp [houseV, gFld, List.lookup, by_ne']
theorem m_by {n : Int} {ds : List PV} {μ : Store} : gFld ["House"] "by_name" (.t (houseV n ds)) μ = .ok (.t (.dic false (ds.map nameD) ds)) μ := by
  simp [houseV, gFld, List.lookup, by_ne']
theorem m_obj {n : Int} {ds : List PV} {m : Str} (h : m ∉ [("size" : Str), "by_name"]) : PM.isObj "House" m (.t (houseV n ds)) = true := by
  simp [PM.isObj, houseV]
  simpa using h
theorem m_things {n : Int} {ds : List PV} {μ : Store} : fn_House_things [.t (houseV n ds)] μ = .ok (.t (.int n)) μ := by
  simp [fn_House_things, b_House_things, fnOf, startM, m_size]
theorem m_deeds {n : Int} {ds : List PV} {μ : Store} : fn_House_deeds [.t (houseV n ds)] μ = .ok (.t (.lst ds)) μ := by
  simp [fn_House_deeds, b_House_deeds, fnOf, startM, m_by]
theorem dfind_dV (l : List Nat) : ∀ ds : List Dd, dfind ((ds.map dV).map nameD) (ds.map dV) (.str (sg l)) = (ds.find? fun d => decide (d.1 = l)).map dV
  | [] => rfl
  | d :: ds => by
    show (if keyEq (.str (sg d.1)) (.str (sg l)) then some (dV d) else dfind ((ds.map dV).map nameD) (ds.map dV) (.str (sg l))) = _
    rw [keyEq_str, dfind_dV l ds, List.find?_cons]
    by_cases h : d.1 = l
    · simp [h]
    · simp [h]
theorem m_deed {n : Int} {ds : List Dd} {l : List Nat} {μ : Store} : fn_House_deed [.t (houseV n (ds.map dV)), .t (.str (sg l))] μ = (match ds.find? (fun d => decide (d.1 = l)) with
    | some d => .ok (.t (dV d)) μ
    | none => .ex "NoName" (some ("name", .str (sg l))) μ) := by
  have e := dfind_dV l ds
  have h1 : notInPV (.str (sg l)) (.dic false ((ds.map dV).map nameD) (ds.map dV)) = some (.bl (!(ds.find? fun d => decide (d.1 = l)).isSome)) := by
    have := inPV_dic (b := false) (ks := (ds.map dV).map nameD) (vs := ds.map dV) (k := .str (sg l)) rfl
    rw [e] at this
    unfold inPV at this
    unfold notInPV
    cases hi : inV' (.str (sg l)) (.dic false ((ds.map dV).map nameD) (ds.map dV)) with
    | none => rw [hi] at this; cases this
    | some b =>
      rw [hi] at this
      have hb : b = ((ds.find? fun d => decide (d.1 = l)).map dV).isSome := by
        have := Option.some.inj this
        exact PV.bl.inj this
      rw [hb, Option.isSome_map]; rfl
  cases hf : ds.find? (fun d => decide (d.1 = l)) with
  | none =>
    rw [hf] at h1
    simp [-List.map_map, fn_House_deed, b_House_deed, fnOf, startM, m_by, h1, sRaise, endM]
  | some d =>
    rw [hf] at h1 e
    have h2 : atV (.dic false ((ds.map dV).map nameD) (ds.map dV)) (.str (sg l)) = some (dV d) := by
      simp [-List.map_map, atV, e, keyB, keyOf]
    simp [-List.map_map, fn_House_deed, b_House_deed, fnOf, startM, m_by, h1, h2]
theorem m_places {n : Int} {ds : List Dd} {l : List Nat} {μ : Store} : fn_House_places [.t (houseV n (ds.map dV)), .t (.str (sg l))] μ = (match ds.find? (fun d => decide (d.1 = l)) with
    | some d => .ok (.t (.int (d.2.1 : Int))) μ
    | none => .ex "NoName" (some ("name", .str (sg l))) μ) := by
  have o := m_obj (n := n) (ds := ds.map dV) (m := "deed") (by decide +kernel)
  have e := m_deed (n := n) (ds := ds) (l := l) (μ := μ)
  cases hf : ds.find? (fun d => decide (d.1 = l)) with
  | none =>
    rw [hf] at e
    simp [fn_House_places, b_House_places, fnOf, startM, o, e, endM]
  | some d =>
    rw [hf] at e
    have a1 : atV (dV d) (.int 1) = some (.int (d.2.1 : Int)) := rfl
    simp [fn_House_places, b_House_places, fnOf, startM, o, e, a1]
/-- the cell of things -/
def spotI (n : Int) (r : List Int) : Int := r.foldl (fun a x => a * n + x) 0
theorem spot_loop {n : Int} {s0 : Option Val} {μ : Store} (hn1 : 0 ≤ n) (hn : n ≤ 1000) : ∀ (r : List Int) (acc : Int) (x : Option Val), ∃ x', forL (.nm 3) f1_spot_of (r.map .int) [s0, some (.t (.int n)), some (.t (.int acc)), x] μ = .nx [s0, some (.t (.int n)), some (.t (.int (r.foldl (fun a x => a * n + x) acc))), x'] μ
  | [], acc, x => ⟨x, rfl⟩
  | y :: r, acc, x => by
    have hm : mulV (.int acc) (.int n) = some (.int (acc * n)) := mulV_ok (by omega) (by omega)
    obtain ⟨x', e⟩ := spot_loop (s0 := s0) (μ := μ) hn1 hn r (acc * n + y) (some (.t (.int y)))
    refine ⟨x', ?_⟩
    rw [List.map_cons, forL_nx (σ1 := [s0, some (.t (.int n)), some (.t (.int acc)), some (.t (.int y))]) (σ2 := [s0, some (.t (.int n)), some (.t (.int (acc * n + y))), some (.t (.int y))]) (μ2 := μ) (by simp) (by simp [f1_spot_of, hm]), e]
    rfl
theorem spot_ok {n : Int} {r : List Int} {μ : Store} (hn1 : 0 ≤ n) (hn : n ≤ 1000) : fn_spot_of [.t (tupI r), .t (.int n)] μ = .ok (.t (.int (spotI n r))) μ := by
  obtain ⟨x', e⟩ := spot_loop (s0 := some (.t (tupI r))) (μ := μ) hn1 hn r 0 none
  have g : gIt (.t (tupI r)) μ = .ok (r.map .int) μ := rfl
  simp [fn_spot_of, b_spot_of, fnOf, startM, g, e, spotI]
theorem spot_lt {n : Nat} : ∀ (r : List Int) (acc : Int) (m : Nat), 0 ≤ acc → acc < (m : Int) → inR n r → 0 ≤ r.foldl (fun a x => a * (n : Int) + x) acc ∧ r.foldl (fun a x => a * (n : Int) + x) acc < ((m * n ^ r.length : Nat) : Int)
  | [], acc, m, h0, h1, _ => by simpa using ⟨h0, h1⟩
  | y :: r, acc, m, h0, h1, hi => by
    obtain ⟨y0, y1⟩ := hi y List.mem_cons_self
    have q0 : 0 ≤ acc * (n : Int) + y := Int.add_nonneg (Int.mul_nonneg h0 (by omega)) y0
    have q1 : acc * (n : Int) + y < ((m * n : Nat) : Int) := by
      have : (acc + 1) * (n : Int) ≤ (m : Int) * (n : Int) := Int.mul_le_mul_of_nonneg_right (by omega) (by omega)
      rw [Int.add_mul, Int.one_mul] at this
      push_cast
      omega
    have := spot_lt (n := n) r (acc * (n : Int) + y) (m * n) q0 q1 (fun z hz => hi z (List.mem_cons_of_mem _ hz))
    rw [List.foldl_cons, List.length_cons, Nat.pow_succ, Nat.mul_comm (n ^ r.length) n, ← Nat.mul_assoc]
    exact this
theorem spotI_lt {n : Nat} {r : List Int} (hi : inR n r) : 0 ≤ spotI n r ∧ spotI n r < ((n ^ r.length : Nat) : Int) := by
  have := spot_lt (n := n) r 0 1 (by omega) (by omega) hi
  rw [Nat.one_mul] at this
  exact this
theorem row_inv {n : Nat} : ∀ {l : List PV}, l.all (isThingB n) = true → ∃ r : List Int, l = r.map .int ∧ inR n r
  | [], _ => ⟨[], rfl, fun z hz => nomatch hz⟩
  | d :: l, h => by
    rw [List.all_cons, Bool.and_eq_true] at h
    obtain ⟨r, e, hi⟩ := row_inv h.2
    cases d with
    | int i =>
      have hd := h.1
      unfold isThingB at hd
      rw [Bool.and_eq_true] at hd
      refine ⟨i :: r, by rw [e]; rfl, fun z hz => ?_⟩
      rcases List.mem_cons.mp hz with rfl | hz
      · exact ⟨of_decide_eq_true hd.1, of_decide_eq_true hd.2⟩
      · exact hi z hz
    | _ => exact absurd h.1 (by simp [isThingB])
theorem isRow_inv {n : Nat} {d : PV} {w : Int} (h : isRowB d w n = true) : ∃ r : List Int, d = tupI r ∧ (r.length : Int) = w ∧ inR n r := by
  unfold isRowB at h
  split at h
  · rename_i l
    rw [Bool.and_eq_true] at h
    obtain ⟨r, e, hi⟩ := row_inv h.2
    have hw := of_decide_eq_true h.1
    exact ⟨r, by rw [e], by rw [← hw, e, List.length_map], hi⟩
  · cases h
theorem find_mem {ds : List Dd} {l : List Nat} {d : Dd} (h : ds.find? (fun d => decide (d.1 = l)) = some d) : d ∈ ds ∧ d.1 = l := ⟨List.mem_of_find?_eq_some h, by have := List.find?_some h; simpa using this⟩

theorem of_asg {n : Nat} {ds : List Dd} {d : Dd} {a b : Val} : asg (.tp [.nm 3, .nm 4, .nm 5]) (.t (dV d)) [some (.t (hV n ds)), some a, some b, none, none, none] = some [some (.t (hV n ds)), some a, some b, some (.t (.str (sg d.1))), some (.t (.int (d.2.1 : Int))), some (.t (tupI d.2.2))] := rfl
theorem SD_tupI {r : List Int} (h : r.length ≤ 1000) : SD 2 (tupI r) := by
  refine SD_tup.mpr ⟨by rw [List.length_map]; omega, fun x hx => ?_⟩
  obtain ⟨i, _, rfl⟩ := List.mem_map.mp hx
  exact SD_int
theorem tab_at {n : Nat} {d : Dd} {r : List Int} (hd : okD n d) (hl : r.length = d.2.1) (hi : inR n r) : atV (tupI d.2.2) (.int (spotI n r)) = some (.int (d.2.2.getD (spotI n r).toNat 0)) := by
  obtain ⟨_, hp, hlen, _⟩ := hd
  obtain ⟨s0, s1⟩ := spotI_lt hi
  rw [hl, ← hlen] at s1
  have h1 : (spotI n r).toNat < d.2.2.length := by omega
  have e := at_int h1
  rw [Int.toNat_of_nonneg s0] at e
  exact e
theorem isRow_ok {n w : Nat} {r : List Int} (h : r.length = w) (hi : inR n r) : isRowB (tupI r) (w : Int) n = true := by
  unfold isRowB
  simp only [List.length_map, h, decide_true, Bool.true_and]
  exact row_all hi
theorem hDue_none' {n : Int} : ∀ (ds seen : List PV) (k : Nat), (∀ d ∈ ds, isDeedB n d = true) → (seen ++ ds.map nameD).Pairwise (fun x y => keyEq x y = false) → hDue n k seen ds = none
  | [], _, _, _, _ => by unfold hDue; rfl
  | d :: ds, seen, k, hd, hp => by
    have e : seen.any (keyEq · (nameD d)) = false := by
      rw [List.any_eq_false]
      intro x hx
      have := (List.pairwise_append.mp hp).2.2 x hx (nameD d) (by simp)
      simp [this]
    unfold hDue
    rw [hd d List.mem_cons_self, e]
    simp only [Bool.not_false, Bool.and_self, if_true]
    refine hDue_none' ds (seen ++ [nameD d]) (k + 1) (fun x hx => hd x (List.mem_cons_of_mem _ hx)) ?_
    rw [List.append_assoc]
    exact hp
theorem okD.deed {n : Nat} {d : Dd} (h : okD n d) : isDeedB n (dV d) = true := by
  obtain ⟨h1, h2, h3, h4⟩ := h
  have hrow : isRowB (tupI d.2.2) ((n : Int) ^ d.2.1) n = true := by
    have := isRow_ok h3 h4
    simpa using this
  have h5 : (d.2.1 : Int) ≤ 3 := by omega
  simp [dV, isDeedB, isName_sg h1, h5, hrow]
theorem okD.sb {n : Nat} {d : Dd} (hn : n ≤ 9) (h : okD n d) : SB 2 (dV d) := by
  obtain ⟨h1, h2, h3, h4⟩ := h
  have h5 := pow_le_729 (n := n) (p := d.2.1) hn h2
  refine (SB_tup (n := 1)).mpr ⟨by simp, fun x hx => ?_⟩
  simp only [List.mem_cons, List.not_mem_nil, or_false] at hx
  rcases hx with rfl | rfl | rfl
  · exact SB_str.mpr (by have := h1.2.1; rw [sg_len]; omega)
  · exact SB_int
  · exact SB_tupI (k := 0) (by omega)
theorem okDs.sb {n : Nat} {ds : List Dd} (hn : n ≤ 9) (h : okDs n ds) : SB 3 (.lst (ds.map dV)) := (SB_lst (n := 2)).mpr ⟨by have := h.len; rw [List.length_map]; omega, fun x hx => by
  obtain ⟨d, hd, rfl⟩ := List.mem_map.mp hx
  exact (h.ok d hd).sb hn⟩
theorem okDs.due {n : Nat} {ds : List Dd} (h : okDs n ds) : hDue n 0 [] (ds.map dV) = none := by
  refine hDue_none' (ds.map dV) [] 0 (fun d hd => ?_) ?_
  · obtain ⟨d', hd', rfl⟩ := List.mem_map.mp hd
    exact (h.ok d' hd').deed
  · rw [List.nil_append, List.map_map, List.pairwise_map]
    have := h.nd
    rw [List.Nodup, List.pairwise_map] at this
    refine this.imp fun {x y} hxy => ?_
    show keyEq (.str (sg x.1)) (.str (sg y.1)) = false
    rw [keyEq_str, decide_eq_false_iff_not, sg_inj]
    exact hxy
theorem m_make {n : Nat} {ds : List Dd} {μ : Store} (hn1 : 1 ≤ n) (hn : n ≤ 9) (h : okDs n ds) : (fi_House [.t (.int (n : Int)), .t (.lst (ds.map dV))] μ).bind (mkOb "House" ["size", "by_name"]) = .ok (.t (hV n ds)) μ := by
  have hd : houseDue (.int (n : Int)) (.lst (ds.map dV)) = none := by
    have h1 : (1 : Int) ≤ n := by omega
    have h2 : (n : Int) ≤ 9 := by omega
    have h3 := h.len
    simp [houseDue, h1, h2, h3, h.due]
  obtain ⟨m, es, e1, e2, e3⟩ := (house_make (μ := μ) (m := 3) (s := .int (n : Int)) (l := .lst (ds.map dV)) SB_int (.inl (h.sb hn))).2 hd
  cases e1
  cases e2
  exact e3

theorem pigeon {α : Type} [DecidableEq α] : ∀ (l m : List α), l.Nodup → (∀ x ∈ l, x ∈ m) → l.length ≤ m.length
  | [], _, _, _ => Nat.zero_le _
  | x :: l, m, hn, h => by
    have hx := h x List.mem_cons_self
    have hn' := List.nodup_cons.mp hn
    have := pigeon l (m.erase x) hn'.2 fun y hy => (List.mem_erase_of_ne (fun e : y = x => hn'.1 (e ▸ hy))).mpr (h y (List.mem_cons_of_mem _ hy))
    rw [List.length_erase_of_mem hx] at this
    have hp : 0 < m.length := List.length_pos_of_mem hx
    rw [List.length_cons]
    omega
theorem find_none {ds : List Dd} {l : List Nat} (h : l ∉ ds.map (·.1)) : ds.find? (fun d => decide (d.1 = l)) = none := by
  rw [List.find?_eq_none]
  intro d hd
  simp only [decide_eq_true_eq]
  exact fun e => h (e ▸ List.mem_map_of_mem (f := (·.1)) hd)
theorem find_at {n : Nat} {ds : List Dd} (h : okDs n ds) {d : Dd} (hd : d ∈ ds) : ds.find? (fun e => decide (e.1 = d.1)) = some d := by
  cases hf : ds.find? (fun e => decide (e.1 = d.1)) with
  | none =>
    rw [List.find?_eq_none] at hf
    exact absurd (decide_eq_true rfl) (hf d hd)
  | some e =>
    obtain ⟨he, q⟩ := find_mem hf
    obtain ⟨i, hi, rfl⟩ := List.getElem_of_mem he
    obtain ⟨j, hj, rfl⟩ := List.getElem_of_mem hd
    have hij := (List.getElem_inj (h₀ := by simpa using hi) (h₁ := by simpa using hj) h.nd).mp (by simp only [List.getElem_map]; rw [q])
    subst hij
    rfl
theorem eqB_sg {l m : List Nat} : eqB (.str (sg l)) (.str (sg m)) = decide (l = m) := by rw [eqB_str]; simp
theorem SD_names {ds : List Dd} (h : ds.length ≤ 1000) : SD 1 (.lst (ds.map fun d => .str (sg d.1))) := SD_lst.mpr ⟨by rw [List.length_map]; omega, fun x hx => by
  obtain ⟨d, _, rfl⟩ := List.mem_map.mp hx
  exact SD_str⟩
theorem names_any {ds : List Dd} {l : List Nat} : ((ds.map fun d => PV.str (sg d.1)).any fun z => eqB z (.str (sg l))) = (ds.map (·.1)).contains l := by
  induction ds with
  | nil => rfl
  | cons d ds ih =>
    rw [List.map_cons, List.any_cons, ih, eqB_sg, List.map_cons, List.contains_cons]
    congr 1
    rw [Bool.eq_iff_iff]; simp; exact eq_comm
theorem inV_names {ds : List Dd} {l : List Nat} (h : ds.length ≤ 1000) : inV' (.str (sg l)) (.lst (ds.map fun d => .str (sg d.1))) = some ((ds.map (·.1)).contains l) := by
  show (if PM.okD (.str (sg l)) && PM.okD (.lst (ds.map fun d => .str (sg d.1))) then some ((ds.map fun d => PV.str (sg d.1)).any fun z => eqB z (.str (sg l))) else none) = _
  rw [(SD_names h).ok, show PM.okD (.str (sg l)) = true from rfl, names_any]
  rfl
theorem notIn_names {ds : List Dd} {l : List Nat} (h : ds.length ≤ 1000) : notInPV (.str (sg l)) (.lst (ds.map fun d => .str (sg d.1))) = some (.bl (!(ds.map (·.1)).contains l)) := by
  unfold notInPV; rw [inV_names h]; rfl
theorem eqV_self {x : PV} {k : Nat} (h : SD k x) (hk : k ≤ 64 := by decide) : PM.eqV x x = some (.bl true) := by rw [eq_ok (h.ok hk) (h.ok hk), eqB_refl]
theorem neV_self {x : PV} {k : Nat} (h : SD k x) (hk : k ≤ 64 := by decide) : neV x x = some (.bl false) := by rw [ne_ok (h.ok hk) (h.ok hk), eqB_refl]; rfl
theorem SD_2 {a b : PV} {k : Nat} (ha : SD k a) (hb : SD k b) : SD (k + 1) (.tup [a, b]) := SD_tup.mpr ⟨by simp, fun x hx => by
  simp only [List.mem_cons, List.not_mem_nil, or_false] at hx
  rcases hx with rfl | rfl <;> assumption⟩
theorem asg_dV {a b c : Nat} {d : Dd} {σ : Sl} : asg (.tp [.nm a, .nm b, .nm c]) (.t (dV d)) σ = some (((σ.set a (some (.t (.str (sg d.1))))).set b (some (.t (.int (d.2.1 : Int))))).set c (some (.t (tupI d.2.2)))) := (rfl)
theorem table_w {n p : Nat} {w : W3} {t : Store} (hn1 : 1 ≤ n) (hn : n ≤ 9) (hp : p ≤ 3) : ∃ (row : List Int) (w' : W3), fn__law_table [.c 0, .t (.int (n : Int)), .t (.int (p : Int))] (wlw w :: t) = .ok (.t (tupI row)) (wlw w' :: t) ∧ row.length = n ^ p ∧ inR n row := by
  obtain ⟨row, a, b, c, e, h1, h2⟩ := table_ok (n := n) (p := p) (a := w.1) (b := w.2.1) (c := w.2.2) (t := t) hn1 hn hp
  exact ⟨row, (a, b, c), e, h1, h2⟩
theorem nodup_at {ds : List Dd} {i j : Nat} (h : (ds.map (·.1)).Nodup) (hi : i < ds.length) (hj : j < ds.length) (e : ds[i].1 = ds[j].1) : i = j :=
  (List.getElem_inj (h₀ := by simpa using hi) (h₁ := by simpa using hj) h).mp (by simp only [List.getElem_map]; exact e)
theorem names_w {w : W3} {t : Store} {m : Nat} (hm : m ≤ 6) : ∃ (nms : List (List Nat)) (w' : W3), fn__law_names [.c 0, .t (.int (m : Int))] (wlw w :: t) = .ok (.t (.lst (nms.map fun l => .str (sg l)))) (wlw w' :: t) ∧ nms.length = m ∧ (∀ l ∈ nms, goodL l) ∧ nms.Nodup := by
  obtain ⟨nm, a, b, c, e, h1, h2⟩ := names_ok (a := w.1) (b := w.2.1) (c := w.2.2) (t := t) hm
  refine ⟨(List.range m).map nm, (a, b, c), ?_, by simp, fun l hl => ?_, ?_⟩
  · rw [List.map_map]; exact e
  · obtain ⟨k, hk, rfl⟩ := List.mem_map.mp hl
    exact h1 k (List.mem_range.mp hk)
  · rw [List.Nodup, List.pairwise_map]
    refine List.Pairwise.imp_of_mem ?_ (List.nodup_range (n := m))
    intro i j hi hj hij z
    exact hij (h2 i j (List.mem_range.mp hi) (List.mem_range.mp hj) z)
theorem nat_list {l : List Int} {m : Nat} (h : ∀ x ∈ l, 0 ≤ x ∧ x < (m : Int)) : ∃ ps : List Nat, l.map PV.int = ps.map (fun (p : Nat) => PV.int (p : Int)) ∧ ps.length = l.length ∧ ∀ p ∈ ps, p < m := by
  refine ⟨l.map Int.toNat, ?_, by simp, fun p hp => ?_⟩
  · rw [List.map_map]
    refine List.map_congr_left fun x hx => ?_
    have := h x hx
    simp only [Function.comp]
    rw [Int.toNat_of_nonneg this.1]
  · obtain ⟨x, hx, rfl⟩ := List.mem_map.mp hp
    have := h x hx
    omega

/-! steps -/
def givenB (g : Int) : PV → Bool
  | .tup [.int i] => decide (0 ≤ i) && decide (i < g)
  | _ => false
theorem is_given_ok {d : PV} {g : Int} {k : Nat} {μ : Store} (h : SB k d) : fn_is_given [.t d, .t (.int g)] μ = .ok (.t (.bl (givenB g d))) μ := by
  cases d with
  | tup l =>
    obtain ⟨m, rfl, hl, hm⟩ := h.tupE
    match l, hm with
    | [], _ => simp [fn_is_given, b_is_given, fnOf, startM, subT, givenB]
    | [a], hm =>
      have iw := is_whole_ok (μ := μ) (hm a (by simp)).ty
      have a0 : atI [a] 0 = some a := rfl
      cases a <;> simp [fn_is_given, b_is_given, fnOf, startM, subT, givenB, a0, iw, isIntB, eChain]
      rename_i i
      by_cases h0 : 0 ≤ i <;> simp [h0]
    | a :: b :: r, _ =>
      have e : ¬ ((r.length : Int) + 1 + 1 = 1) := by omega
      simp [fn_is_given, b_is_given, fnOf, startM, subT, givenB, e]
  | obj C a b => exact absurd h SB_noobj
  | _ => simp [fn_is_given, b_is_given, fnOf, startM, subT, givenB]
theorem m_names {n : Int} {ds : List Dd} {μ : Store} : fn_House_names [.t (houseV n (ds.map dV))] μ = .ok (.t (.lst (ds.map fun d => .str (sg d.1)))) μ := by
  have e : (ds.map dV).map nameD = ds.map fun d => .str (sg d.1) := by rw [List.map_map]; rfl
  simp [-List.map_map, fn_House_names, b_House_names, fnOf, startM, m_by, e]
def stepB (ds : List Dd) (k g : Int) : PV → Bool
  | .tup (.str z :: r) => (match ds.find? (fun d => decide (d.1 = z.cps.toList)) with
    | some d => decide (r.length = d.2.1) && r.all (isThingB k)
    | none => false)
  | .tup [.int i] => decide (0 ≤ i) && decide (i < g)
  | _ => false
theorem eqB_tnil {ts : List PV} : eqB (.tup ts) (.tup []) = ts.isEmpty := by
  cases ts <;> simp [eqB, PV.data, datas, PyData.eqv, PyData.eqvAll]
theorem eqV_tnil {ts : List PV} {k : Nat} (h : SD k (.tup ts)) (hk : k ≤ 64) : PM.eqV (.tup ts) (.tup []) = some (.bl ts.isEmpty) := by
  rw [eq_ok (h.ok hk) ((SD_tup (n := 0)).mpr ⟨by simp, by simp⟩).ok, eqB_tnil]
theorem cut1 {α : Type} {a : α} {r : List α} : cutG (a :: r) (some 1) none = r := by
  have := cut_from (l := a :: r) (k := 1) (by simp)
  simpa using this
theorem at_head {α : Type} {a : α} {r : List α} : atI (a :: r) 0 = some a := atI_nat' (i := 0) (by simp)
theorem find_contains {ds : List Dd} {l : List Nat} : (ds.map (·.1)).contains l = (ds.find? (fun d => decide (d.1 = l))).isSome := by
  induction ds with
  | nil => rfl
  | cons d ds ih =>
    rw [List.map_cons, List.contains_cons, ih, List.find?_cons]
    by_cases h : d.1 = l
    · simp [h]
    · have : ¬ l = d.1 := fun e => h e.symm
      simp [h, this]
theorem isTy_str_no {a : PV} (h1 : ∀ z, a ≠ .str z) (h3 : ∀ C n l, a ≠ .obj C n l) : isTy "str" a = some (.bl false) := by
  cases a with
  | str z => exact absurd rfl (h1 z)
  | obj C n l => exact absurd rfl (h3 C n l)
  | _ => simp [subT]
theorem is_step_odd {n : Nat} {ds : List Dd} {a : PV} {r : List PV} {at_ g : Int} {μ : Store} (h1 : ∀ z, a ≠ .str z) (h2 : ∀ i, a ≠ .int i) (h3 : ∀ C n l, a ≠ .obj C n l) (ig : fn_is_given [.t (.tup (a :: r)), .t (.int g)] μ = .ok (.t (.bl (givenB g (.tup (a :: r))))) μ) (en' : PM.eqV (.tup (a :: r)) (.tup []) = some (.bl false)) :
    fn_is_step [.t (hV n ds), .t (.tup (a :: r)), .t (.int at_), .t (.int g)] μ = .ok (.t (.bl (stepB ds at_ g (.tup (a :: r))))) μ := by
  have gb : givenB g (.tup (a :: r)) = false := by
    unfold givenB
    split
    · rename_i e; cases e; exact absurd rfl (h2 _)
    · rfl
  have sb : stepB ds at_ g (.tup (a :: r)) = false := by
    unfold stepB
    split
    · rename_i e; cases e; exact absurd rfl (h1 _)
    · rename_i e; cases e; exact absurd rfl (h2 _)
    · rfl
  have a0 : atI (a :: r) 0 = some a := at_head
  have ty := isTy_str_no h1 h3
  rw [gb] at ig
  rw [sb]
  simp [fn_is_step, b_is_step, fnOf, startM, subT, ig, en', a0, ty]
theorem is_step_ok {n : Nat} {ds : List Dd} {d : PV} {at_ g : Int} {k : Nat} {μ : Store} (hds : ds.length ≤ 1000) (h : SB k d) (hk : k ≤ 60) : fn_is_step [.t (hV n ds), .t d, .t (.int at_), .t (.int g)] μ = .ok (.t (.bl (stepB ds at_ g d))) μ := by
  have ig := is_given_ok (g := g) (μ := μ) h
  have o1 := m_obj (n := (n : Int)) (ds := ds.map dV) (m := "names") (by decide +kernel)
  have o2 := m_obj (n := (n : Int)) (ds := ds.map dV) (m := "places") (by decide +kernel)
  have mn := m_names (n := (n : Int)) (ds := ds) (μ := μ)
  cases d with
  | tup l =>
    obtain ⟨m, rfl, hl, hm⟩ := h.tupE
    have en := eqV_tnil h.sd (by omega)
    match l, hl, hm with
    | [], _, _ => simp [fn_is_step, b_is_step, fnOf, startM, subT, givenB, stepB, ig, en]
    | a :: r, hl, hm =>
      have en' : PM.eqV (.tup (a :: r)) (.tup []) = some (.bl false) := en
      cases a with
      | str z =>
        obtain ⟨s, rfl⟩ : ∃ s, z = sg s := ⟨_, sg_of z⟩
        have gb : givenB g (.tup (.str (sg s) :: r)) = false := by unfold givenB; split <;> first | rfl | (rename_i q; cases q)
        rw [gb] at ig
        have ni := notIn_names (l := s) hds
        rw [find_contains] at ni
        have mp := m_places (n := (n : Int)) (ds := ds) (l := s) (μ := μ)
        have a0 : atI (.str (sg s) :: r) 0 = some (.str (sg s)) := at_head
        cases hf : ds.find? (fun d => decide (d.1 = s)) with
        | none =>
          rw [hf] at ni
          simp [fn_is_step, b_is_step, fnOf, startM, subT, ig, en', a0, o1, mn, ni, stepB, hf]
        | some d =>
          rw [hf] at ni mp
          by_cases hp : r.length = d.2.1
          · have hp' : (r.length : Int) + 1 = (d.2.1 : Int) + 1 := by omega
            have lc : ∀ (σ : Sl), 4 < σ.length → σ[2]? = some (some (.t (.int at_))) → lcL (.nm 4) tYes' e1_is_step r σ μ = .ok (r.map fun d => .bl (isThingB at_ d)) μ := fun σ h4 h2 => lcL_map _ fun y hy => by
              have iw := is_whole_ok (μ := μ) (hm y (List.mem_cons_of_mem _ hy)).ty
              refine ⟨_, asg_nm, rfl, ?_⟩
              cases y <;> simp [e1_is_step, h4, h2, iw, isIntB, isThingB, eChain]
              rename_i i
              by_cases h0 : 0 ≤ i <;> simp [h0, h2]
            have z := szF_ok (ds := r.map fun d => PV.bl (isThingB at_ d)) (μ := μ) (szL _ (by simp at hl ⊢; omega))
            have hpp : ((r.length : Int) + 1 = (d.2.1 : Int) + 1) = True := eq_true hp'
            simp only [fn_is_step, b_is_step, fnOf, startM, List.map_cons, List.map_nil, List.length_cons, List.length_nil, List.cons_append, List.nil_append]
            simp [subT, ig, en', a0, o1, mn, ni, o2, mp, hp, cut1, wipeM, lc, z, allV_map, stepB, hf]
          · have hp' : ¬ ((r.length : Int) + 1 = (d.2.1 : Int) + 1) := by omega
            have hp2 : ¬ ((r.length : Int) = (d.2.1 : Int)) := by omega
            simp [fn_is_step, b_is_step, fnOf, startM, subT, ig, en', a0, o1, mn, ni, o2, mp, hp, hp', hp2, stepB, hf]
      | int i =>
        cases r with
        | nil =>
          have a0 : atI [PV.int i] 0 = some (.int i) := rfl
          cases hb : (decide (0 ≤ i) && decide (i < g)) with
          | true =>
            have gb : givenB g (.tup [.int i]) = true := hb
            rw [gb] at ig
            simp [fn_is_step, b_is_step, fnOf, startM, ig, stepB, hb]
          | false =>
            have gb : givenB g (.tup [.int i]) = false := hb
            rw [gb] at ig
            simp [fn_is_step, b_is_step, fnOf, startM, subT, ig, en', a0, stepB, hb]
        | cons b r =>
          have a0 : atI (PV.int i :: b :: r) 0 = some (.int i) := at_head
          have gb : givenB g (.tup (.int i :: b :: r)) = false := rfl
          rw [gb] at ig
          simp [fn_is_step, b_is_step, fnOf, startM, subT, ig, en', a0, stepB]
      | obj C q1 q2 => exact absurd (hm _ List.mem_cons_self) SB_noobj
      | _ => exact is_step_odd (by intro z e; cases e) (by intro z e; cases e) (by intro C a b e; cases e) ig en'
  | obj C a b => exact absurd h SB_noobj
  | _ => simp [fn_is_step, b_is_step, fnOf, startM, subT, givenB, stepB, ig]
/-- the first that is no step -/
def stDue (ds : List Dd) (g : Int) : Nat → List PV → Option Nat
  | _, [] => none
  | k, d :: l => if stepB ds (k : Int) g d then stDue ds g (k + 1) l else some k
theorem check_loop {n : Nat} {ds : List Dd} {g : Int} {s1 : Option Val} {μ : Store} {m : Nat} (hds : ds.length ≤ 1000) (hm : m ≤ 60) : ∀ (l : List PV) (k : Nat) (x y : Option Val), (∀ d ∈ l, SB m d) →
    (∀ j, stDue ds g k l = some j → ∃ σ, forL (.tp [.nm 3, .nm 4]) f1_check_steps (enumF k l) [some (.t (hV n ds)), s1, some (.t (.int g)), x, y] μ = .ex "NoSteps" (some ("at", .int (j : Int))) σ μ) ∧
    (stDue ds g k l = none → ∃ σ, forL (.tp [.nm 3, .nm 4]) f1_check_steps (enumF k l) [some (.t (hV n ds)), s1, some (.t (.int g)), x, y] μ = .nx σ μ)
  | [], k, x, y, _ => ⟨fun j h => by (unfold stDue at h; cases h), fun _ => ⟨_, rfl⟩⟩
  | d :: l, k, x, y, h => by
    have is := is_step_ok (n := n) (at_ := (k : Int)) (g := g) (μ := μ) hds (h d List.mem_cons_self) hm
    unfold stDue
    cases hb : stepB ds (k : Int) g d with
    | false =>
      rw [hb] at is
      refine ⟨fun j hj => ?_, fun hj => by simp at hj⟩
      have ej : k = j := by simpa using hj
      subst ej
      rw [enumF]
      exact ⟨_, forL_ex (σ1 := [some (.t (hV n ds)), s1, some (.t (.int g)), some (.t (.int (k : Int))), some (.t d)]) (σ2 := [some (.t (hV n ds)), s1, some (.t (.int g)), some (.t (.int (k : Int))), some (.t d)]) (by simp) (by simp [f1_check_steps, is, sRaise])⟩
    | true =>
      rw [hb] at is
      have st : ∀ r, forL (.tp [.nm 3, .nm 4]) f1_check_steps (enumF (k + 1) l) [some (.t (hV n ds)), s1, some (.t (.int g)), some (.t (.int (k : Int))), some (.t d)] μ = r → forL (.tp [.nm 3, .nm 4]) f1_check_steps (enumF k (d :: l)) [some (.t (hV n ds)), s1, some (.t (.int g)), x, y] μ = r := by
        rintro r rfl
        rw [enumF]
        exact forL_nx (σ1 := [some (.t (hV n ds)), s1, some (.t (.int g)), some (.t (.int (k : Int))), some (.t d)]) (by simp) (by simp [f1_check_steps, is])
      obtain ⟨i1, i2⟩ := check_loop (n := n) (ds := ds) (g := g) (s1 := s1) (μ := μ) hds hm l (k + 1) (some (.t (.int (k : Int)))) (some (.t d)) (fun z hz => h z (List.mem_cons_of_mem _ hz))
      refine ⟨fun j hj => ?_, fun hj => ?_⟩
      · obtain ⟨σ, e⟩ := i1 j (by simpa using hj)
        exact ⟨σ, st _ e⟩
      · obtain ⟨σ, e⟩ := i2 (by simpa using hj)
        exact ⟨σ, st _ e⟩
def chkR (ds : List Dd) (g : Int) (l : List PV) (μ : Store) : R Val := match stDue ds g 0 l with
  | none => .ok (.t .non) μ
  | some j => .ex "NoSteps" (some ("at", .int (j : Int))) μ
theorem check_steps_ok {n : Nat} {ds : List Dd} {l : List PV} {g : Int} {m : Nat} {μ : Store} (hds : ds.length ≤ 1000) (h : ∀ d ∈ l, SB m d) (hm : m ≤ 60) : fn_check_steps [.t (hV n ds), .t (.lst l), .t (.int g)] μ = chkR ds g l μ := by
  obtain ⟨i1, i2⟩ := check_loop (n := n) (ds := ds) (g := g) (s1 := some (.t (.lst l))) (μ := μ) hds hm l 0 none none h
  unfold chkR
  cases hd : stDue ds g 0 l with
  | none =>
    obtain ⟨σ, e⟩ := i2 hd
    simp [fn_check_steps, b_check_steps, fnOf, startM, subT, enumP_F, e]
  | some j =>
    obtain ⟨σ, e⟩ := i1 j hd
    simp [fn_check_steps, b_check_steps, fnOf, startM, subT, enumP_F, e]
theorem check_steps_odd {n : Nat} {ds : List Dd} {d g : PV} {μ : Store} (h1 : ∀ l, d ≠ .lst l) (h2 : tyN d ≠ none) : fn_check_steps [.t (hV n ds), .t d, .t g] μ = .ex "NoSteps" (some ("at", .int 0)) μ := by
  have e : isTy "list" d = some (.bl false) := by
    cases d with
    | lst l => exact absurd rfl (h1 l)
    | obj _ _ _ => exact absurd rfl h2
    | _ => simp [subT]
  simp [fn_check_steps, b_check_steps, fnOf, startM, e, sRaise]

/-! deeds put together, steps run -/
/-- a deed's row of rows, place by place -/
def putT (tb : List Int) (n : Nat) (rs : List (List Int)) (w : Nat) : List Int := (List.range w).map fun j => tb.getD (spotI n (rs.map (·.getD j 0))).toNat 0
theorem putT_len {tb : List Int} {n : Nat} {rs : List (List Int)} {w : Nat} : (putT tb n rs w).length = w := by simp [putT]
theorem col_inR {n w j : Nat} {rs : List (List Int)} (h : ∀ r ∈ rs, r.length = w ∧ inR n r) (hj : j < w) : inR n (rs.map (·.getD j 0)) := fun x hx => by
  obtain ⟨r, hr, rfl⟩ := List.mem_map.mp hx
  obtain ⟨h1, h2⟩ := h r hr
  exact h2 _ (PM.getD_mem (by omega))
theorem putT_inR {tb : List Int} {n w : Nat} {rs : List (List Int)} (ht : tb.length = n ^ rs.length) (hi : inR n tb) (h : ∀ r ∈ rs, r.length = w ∧ inR n r) : inR n (putT tb n rs w) := fun x hx => by
  obtain ⟨j, hj, rfl⟩ := List.mem_map.mp hx
  have hj := List.mem_range.mp hj
  obtain ⟨s0, s1⟩ := spotI_lt (col_inR h hj)
  rw [List.length_map, ← ht] at s1
  exact hi _ (PM.getD_mem (by omega))
theorem tb_at {tb : List Int} {i : Int} (h0 : 0 ≤ i) (h1 : i < tb.length) : atI (tb.map PV.int) i = some (.int (tb.getD i.toNat 0)) := by
  have := at_int (l := tb) (i := i.toNat) (by omega)
  rwa [Int.toNat_of_nonneg h0] at this
theorem row_eq {r : List Int} {w : Nat} (h : r.length = w) : r.map PV.int = (List.range w).map fun j => PV.int (r.getD j 0) := by
  refine List.ext_getElem (by simp [h]) fun j h1 h2 => ?_
  have hj : j < r.length := by simpa using h1
  simp [List.getD_eq_getElem?_getD, List.getElem?_eq_getElem hj]
theorem range_int {w : Nat} (f : Nat → Int) : (List.range w).map (fun j => PV.int (f j)) = ((List.range w).map f).map PV.int := by rw [List.map_map]; rfl
theorem put_ok0 {tb : List Int} {n w : Nat} {μ : Store} (ht : tb.length = 1) (hw : w ≤ 1000) : fn_put_together [.t (tupI tb), .t (.int (n : Int)), .t (.lst []), .t (.int (w : Int))] μ = .ok (.t (tupI (putT tb n [] w))) μ := by
  have a0 : atI (tb.map PV.int) 0 = some (.int (tb.getD 0 0)) := at_int (i := 0) (by omega)
  have en : PM.eqV (.lst []) (.lst []) = some (.bl true) := eqV_self ((SD_lst (n := 0)).mpr ⟨by simp, by simp⟩)
  have mv : mulV (.tup [PV.int (tb.getD 0 0)]) (.int (w : Int)) = some (tupI (putT tb n [] w)) := by
    have h1 : (decide (0 ≤ (w : Int))) = true := by simp
    have h2 : Nat.ble (w : Int).toNat 1000 = true := Nat.ble_eq_true_of_le (by omega)
    have e : rep (w : Int) [PV.int (tb.getD 0 0)] = (putT tb n [] w).map PV.int := by
      rw [rep_one]
      unfold putT
      rw [List.map_map]
      have : (PV.int ∘ fun j => tb.getD (spotI n (List.map (fun r => List.getD r j 0) [])).toNat 0) = fun (_ : Nat) => PV.int (tb.getD 0 0) := by funext j; rfl
      rw [this, List.map_const', List.length_range]
    show (if (!false && (decide (0 ≤ (w : Int)) && (Nat.ble (w : Int).toNat 1000 && Nat.ble 1 1000))) = true then some (PV.tup (rep (w : Int) [PV.int (tb.getD 0 0)])) else none) = _
    rw [h1, h2, e]; rfl
  generalize tb.getD 0 0 = t0 at a0 mv
  simp [fn_put_together, b_put_together, fnOf, startM, en, a0, mv]
theorem eqV_lne {x : PV} {l : List PV} {k : Nat} (h : SD k (.lst (x :: l))) (hk : k ≤ 64) : PM.eqV (.lst (x :: l)) (.lst []) = some (.bl false) := by
  rw [eq_ok (h.ok hk) ((SD_lst (n := 0)).mpr ⟨by simp, by simp⟩).ok, eqB_nil]; rfl
theorem SD_rows {rs : List (List Int)} {w : Nat} (hl : rs.length ≤ 1000) (hw : w ≤ 1000) (h : ∀ r ∈ rs, r.length = w) : SD 2 (.lst (rs.map tupI)) := SD_lst.mpr ⟨by rw [List.length_map]; omega, fun x hx => by
  obtain ⟨r, hr, rfl⟩ := List.mem_map.mp hx
  exact PM.SD_tupI (by rw [h r hr]; omega)⟩
theorem put_ok1 {tb r : List Int} {n w : Nat} {μ : Store} (hn : n ≤ 9) (ht : tb.length = n) (hw : w ≤ 1000) (hr : r.length = w) (hi : inR n r) : fn_put_together [.t (tupI tb), .t (.int (n : Int)), .t (.lst [tupI r]), .t (.int (w : Int))] μ = .ok (.t (tupI (putT tb n [r] w))) μ := by
  have en := eqV_lne (x := tupI r) (l := []) (SD_rows (rs := [r]) (by simp) hw (by simpa using hr)) (by decide)
  have lc : ∀ σ : Sl, 5 < σ.length → σ[0]? = some (some (.t (tupI tb))) → lcL (.nm 5) tYes' e1_put_together (r.map PV.int) σ μ = .ok ((putT tb n [r] w).map PV.int) μ := fun σ h5 h0 => by
    rw [row_eq hr, lcL_map (fun d => match d with | .int x => .int (tb.getD x.toNat 0) | _ => .non) fun d hd => ?_]
    · congr 1
      unfold putT
      rw [List.map_map, List.map_map]
      refine List.map_congr_left fun j hj => ?_
      simp [spotI]
    · obtain ⟨j, hj, rfl⟩ := List.mem_map.mp hd
      have hj := List.mem_range.mp hj
      obtain ⟨q0, q1⟩ := hi _ (PM.getD_mem (show j < r.length by omega))
      have ta := tb_at (tb := tb) q0 (by omega)
      exact ⟨_, asg_nm, rfl, by simp [-List.getD_eq_getElem?_getD, e1_put_together, h5, h0, ta]⟩
  have z := szF_ok (ds := (putT tb n [r] w).map PV.int) (μ := μ) (szL _ (by rw [List.length_map, putT_len]; omega))
  have a0 : atI [tupI r] 0 = some (tupI r) := rfl
  have g : gIt (.t (tupI r)) μ = .ok (r.map PV.int) μ := rfl
  generalize hZ : (putT tb n [r] w).map PV.int = Z at lc z
  simp [fn_put_together, b_put_together, fnOf, startM, en, a0, g, wipeM, lc, z, hZ]
theorem put_ok2 {tb r s : List Int} {n w : Nat} {μ : Store} (hn : n ≤ 9) (ht : tb.length = n ^ 2) (hw : w ≤ 1000) (hr : r.length = w) (hi : inR n r) (hs : s.length = w) (hi2 : inR n s) : fn_put_together [.t (tupI tb), .t (.int (n : Int)), .t (.lst [tupI r, tupI s]), .t (.int (w : Int))] μ = .ok (.t (tupI (putT tb n [r, s] w))) μ := by
  have en := eqV_lne (x := tupI r) (l := [tupI s]) (SD_rows (rs := [r, s]) (by simp) hw (by simp [hr, hs])) (by decide)
  have zp : zipP (r.map PV.int) (s.map PV.int) = (List.range w).map fun j => .tup [.int (r.getD j 0), .int (s.getD j 0)] := by
    unfold zipP
    rw [row_eq hr, row_eq hs, List.zipWith_map, List.zipWith_self]
  have lc : ∀ σ : Sl, 6 < σ.length → σ[0]? = some (some (.t (tupI tb))) → σ[1]? = some (some (.t (.int (n : Int)))) → lcL (.tp [.nm 5, .nm 6]) tYes' e2_put_together (zipP (r.map PV.int) (s.map PV.int)) σ μ = .ok ((putT tb n [r, s] w).map PV.int) μ := fun σ h6 h0 h1 => by
    rw [zp, lcL_map (fun d => match d with | .tup [.int x, .int y] => .int (tb.getD (x * n + y).toNat 0) | _ => .non) fun d hd => ?_]
    · congr 1
      unfold putT
      rw [List.map_map, List.map_map]
      refine List.map_congr_left fun j hj => ?_
      simp [spotI]
    · obtain ⟨j, hj, rfl⟩ := List.mem_map.mp hd
      have hj := List.mem_range.mp hj
      have hc : inR n [r.getD j 0, s.getD j 0] := fun x hx => by
        simp only [List.mem_cons, List.not_mem_nil, or_false] at hx
        rcases hx with rfl | rfl
        · exact hi _ (PM.getD_mem (by omega))
        · exact hi2 _ (PM.getD_mem (by omega))
      obtain ⟨q0, q1⟩ := spotI_lt hc
      have es : spotI n [r.getD j 0, s.getD j 0] = r.getD j 0 * n + s.getD j 0 := by simp [spotI]
      rw [es] at q0 q1
      have ta := tb_at (tb := tb) q0 (by rw [ht]; exact q1)
      have hm : mulV (.int (r.getD j 0)) (.int (n : Int)) = some (.int (r.getD j 0 * n)) := mulV_ok (by omega) (by omega)
      have h5 : 5 < σ.length := by omega
      generalize r.getD j 0 = x at *
      generalize s.getD j 0 = y at *
      refine ⟨(σ.set 5 (some (.t (.int x)))).set 6 (some (.t (.int y))), by simp, rfl, ?_⟩
      simp [e2_put_together, h5, h6, h0, h1, hm, ta]
  have z := szF_ok (ds := (putT tb n [r, s] w).map PV.int) (μ := μ) (szL _ (by rw [List.length_map, putT_len]; omega))
  have a0 : atI [tupI r, tupI s] 0 = some (tupI r) := rfl
  have a1 : atI [tupI r, tupI s] 1 = some (tupI s) := rfl
  have g : gZip [.t (tupI r), .t (tupI s)] μ = .ok (zipP (r.map PV.int) (s.map PV.int)) μ := rfl
  generalize hZ : (putT tb n [r, s] w).map PV.int = Z at lc z
  generalize zipP (r.map PV.int) (s.map PV.int) = ZZ at lc g
  simp [fn_put_together, b_put_together, fnOf, startM, en, a0, a1, g, wipeM, lc, z, hZ]
theorem put_ok3 {tb r s u : List Int} {n w : Nat} {μ : Store} (hn : n ≤ 9) (ht : tb.length = n ^ 3) (hw : w ≤ 1000) (hr : r.length = w) (hi : inR n r) (hs : s.length = w) (hi2 : inR n s) (hu : u.length = w) (hi3 : inR n u) : fn_put_together [.t (tupI tb), .t (.int (n : Int)), .t (.lst [tupI r, tupI s, tupI u]), .t (.int (w : Int))] μ = .ok (.t (tupI (putT tb n [r, s, u] w))) μ := by
  have en := eqV_lne (x := tupI r) (l := [tupI s, tupI u]) (SD_rows (rs := [r, s, u]) (by simp) hw (by simp [hr, hs, hu])) (by decide)
  have zp : zip3P (r.map PV.int) (s.map PV.int) (u.map PV.int) = (List.range w).map fun j => tupI [r.getD j 0, s.getD j 0, u.getD j 0] := by
    unfold zip3P
    rw [row_eq hr, row_eq hs, row_eq hu]
    refine List.ext_getElem (by simp) fun j h1 h2 => ?_
    simp
  have lc : ∀ σ : Sl, 4 < σ.length → σ[0]? = some (some (.t (tupI tb))) → σ[1]? = some (some (.t (.int (n : Int)))) → lcL (.nm 4) tYes' e3_put_together (zip3P (r.map PV.int) (s.map PV.int) (u.map PV.int)) σ μ = .ok ((putT tb n [r, s, u] w).map PV.int) μ := fun σ h4 h0 h1 => by
    rw [zp, lcL_map (fun d => match d with | .tup [.int x, .int y, .int v] => .int (tb.getD (spotI n [x, y, v]).toNat 0) | _ => .non) fun d hd => ?_]
    · congr 1
      unfold putT
      rw [List.map_map, List.map_map]
      rfl
    · obtain ⟨j, hj, rfl⟩ := List.mem_map.mp hd
      have hj := List.mem_range.mp hj
      have hc : inR n [r.getD j 0, s.getD j 0, u.getD j 0] := fun x hx => by
        simp only [List.mem_cons, List.not_mem_nil, or_false] at hx
        rcases hx with rfl | rfl | rfl
        · exact hi _ (PM.getD_mem (by omega))
        · exact hi2 _ (PM.getD_mem (by omega))
        · exact hi3 _ (PM.getD_mem (by omega))
      obtain ⟨q0, q1⟩ := spotI_lt hc
      have ta := tb_at (tb := tb) q0 (by rw [ht]; exact q1)
      have sp := spot_ok (n := (n : Int)) (r := [r.getD j 0, s.getD j 0, u.getD j 0]) (μ := μ) (by omega) (by omega)
      refine ⟨_, asg_nm, rfl, ?_⟩
      show e3_put_together _ _ = .ok (.t (.int (tb.getD (spotI n [r.getD j 0, s.getD j 0, u.getD j 0]).toNat 0))) μ
      generalize hK : [r.getD j 0, s.getD j 0, u.getD j 0] = kk at *
      simp [-List.getD_eq_getElem?_getD, e3_put_together, h4, h0, h1, sp, ta]
  have z := szF_ok (ds := (putT tb n [r, s, u] w).map PV.int) (μ := μ) (szL _ (by rw [List.length_map, putT_len]; omega))
  have a0 : atI [tupI r, tupI s, tupI u] 0 = some (tupI r) := rfl
  have a1 : atI [tupI r, tupI s, tupI u] 1 = some (tupI s) := rfl
  have a2 : atI [tupI r, tupI s, tupI u] 2 = some (tupI u) := rfl
  have g : gZip3 [.t (tupI r), .t (tupI s), .t (tupI u)] μ = .ok (zip3P (r.map PV.int) (s.map PV.int) (u.map PV.int)) μ := by
    show (if (r.map PV.int).length = (s.map PV.int).length ∧ (s.map PV.int).length = (u.map PV.int).length then _ else _) = _
    rw [if_pos (by simp [hr, hs, hu])]
  generalize hZ : (putT tb n [r, s, u] w).map PV.int = Z at lc z
  generalize zip3P (r.map PV.int) (s.map PV.int) (u.map PV.int) = ZZ at lc g
  simp [fn_put_together, b_put_together, fnOf, startM, en, a0, a1, a2, g, wipeM, lc, z, hZ]
theorem put_okT {tb : List Int} {rs : List (List Int)} {n w p : Nat} {μ : Store} (hn : n ≤ 9) (hp : p ≤ 3) (ht : tb.length = n ^ p) (hw : w ≤ 1000) (hl : rs.length = p) (h : ∀ r ∈ rs, r.length = w ∧ inR n r) : fn_put_together [.t (tupI tb), .t (.int (n : Int)), .t (.lst (rs.map tupI)), .t (.int (w : Int))] μ = .ok (.t (tupI (putT tb n rs w))) μ := by
  subst hl
  match rs, hp, ht, h with
  | [], _, ht, _ => exact put_ok0 (by simpa using ht) hw
  | [r], _, ht, h => exact put_ok1 hn (by simpa using ht) hw (h r (by simp)).1 (h r (by simp)).2
  | [r, s], _, ht, h => exact put_ok2 hn ht hw (h r (by simp)).1 (h r (by simp)).2 (h s (by simp)).1 (h s (by simp)).2
  | [r, s, u], _, ht, h => exact put_ok3 hn ht hw (h r (by simp)).1 (h r (by simp)).2 (h s (by simp)).1 (h s (by simp)).2 (h u (by simp)).1 (h u (by simp)).2
  | _ :: _ :: _ :: _ :: r, hp, _, _ => exact absurd hp (by simp)
/-- the row of a step -/
def stepRow (n : Nat) (ds : List Dd) (rows : List (List Int)) (w : Nat) (found : List (List Int)) : PV → List Int
  | .tup [.int i] => rows.getD i.toNat []
  | .tup (.str z :: r) => (match ds.find? (fun d => decide (d.1 = z.cps.toList)) with
    | some d => putT d.2.2 n (r.map fun x => match x with | .int i => found.getD i.toNat [] | _ => []) w
    | none => [])
  | _ => []
def runRows (n : Nat) (ds : List Dd) (rows : List (List Int)) (w : Nat) : List PV → List (List Int) → List (List Int)
  | [], found => found
  | s :: l, found => runRows n ds rows w l (found ++ [stepRow n ds rows w found s])
theorem runRows_len {n : Nat} {ds : List Dd} {rows : List (List Int)} {w : Nat} : ∀ (l : List PV) (found : List (List Int)), (runRows n ds rows w l found).length = found.length + l.length
  | [], _ => rfl
  | s :: l, found => by
    show (runRows n ds rows w l (found ++ [stepRow n ds rows w found s])).length = _
    rw [runRows_len l]; simp; omega
def okRows (n w : Nat) (rs : List (List Int)) : Prop := ∀ r ∈ rs, r.length = w ∧ inR n r
theorem getD_mem' {α : Type} {l : List α} {i : Nat} {x : α} (h : i < l.length) : l.getD i x ∈ l := by
  rw [List.getD_eq_getElem?_getD, List.getElem?_eq_getElem h]; exact List.getElem_mem h
theorem at_rows {rs : List (List Int)} {i : Int} (h0 : 0 ≤ i) (h1 : i < rs.length) : atI (rs.map tupI) i = some (tupI (rs.getD i.toNat [])) := by
  have e := atI_nat' (l := rs.map tupI) (i := i.toNat) (by rw [List.length_map]; omega)
  rw [Int.toNat_of_nonneg h0] at e
  rw [e, List.getElem_map, List.getD_eq_getElem?_getD, List.getElem?_eq_getElem (by omega)]; rfl
/-- a step's row is one -/
theorem stepRow_ok {n w g : Nat} {ds : List Dd} {rows found : List (List Int)} {s : PV} (hd : okDs n ds) (hg : rows.length = g) (hr : okRows n w rows) (hf : okRows n w found) (h : stepB ds (found.length : Int) (g : Int) s = true) : (stepRow n ds rows w found s).length = w ∧ inR n (stepRow n ds rows w found s) := by
  unfold stepB at h
  split at h
  · rename_i z r
    split at h
    · rename_i d e
      rw [Bool.and_eq_true] at h
      have hl := of_decide_eq_true h.1
      have okd := hd.ok d (find_mem e).1
      have hrs : okRows n w (r.map fun x => match x with | .int i => found.getD i.toNat [] | _ => []) := fun y hy => by
        obtain ⟨x, hx, rfl⟩ := List.mem_map.mp hy
        have hx := List.all_eq_true.mp h.2 x hx
        cases x with
        | int i =>
          simp only [isThingB, Bool.and_eq_true, decide_eq_true_eq] at hx
          exact hf _ (getD_mem' (by omega))
        | _ => cases hx
      unfold stepRow
      simp only [e]
      exact ⟨putT_len, putT_inR (by rw [List.length_map, hl]; exact okd.2.2.1) okd.2.2.2 hrs⟩
    · cases h
  · rename_i i
    simp only [Bool.and_eq_true, decide_eq_true_eq] at h
    exact hr _ (getD_mem' (by omega))
  · cases h
theorem run_step {n w g : Nat} {ds : List Dd} {rows found : List (List Int)} {s : PV} {s1 s5 s6 s7 s8 s9 : Option Val} {ν : Store} (hn : n ≤ 9) (hw : w ≤ 1000) (hd : okDs n ds) (hg : rows.length = g) (hr : okRows n w rows) (hf : okRows n w found) (hfl : found.length ≤ 1000) (h : stepB ds (found.length : Int) (g : Int) s = true) :
    ∃ s6' s7' s8', f1_run [some (.t (hV n ds)), s1, some (.t (.lst (rows.map tupI))), some (.t (.int (w : Int))), some (.c ν.length), some (.t s), s6, s7, s8, none] (ν ++ [some (.lst (found.map tupI))]) = .nx [some (.t (hV n ds)), s1, some (.t (.lst (rows.map tupI))), some (.t (.int (w : Int))), some (.c ν.length), some (.t s), s6', s7', s8', none] (ν ++ [some (.lst ((found ++ [stepRow n ds rows w found s]).map tupI))]) := by
  have la : lstAt (ν ++ [some (.lst (found.map tupI))]) (.c ν.length) = some (ν.length, found.map tupI) := by simp [lstAt]
  have ap : ∀ d, gMut mAppend (.c ν.length) [.t d] (ν ++ [some (.lst (found.map tupI))]) = .ok (.t .non) (ν ++ [some (.lst (found.map tupI ++ [d]))]) := fun d => by
    rw [app_cell (k := ν.length) (ds := found.map tupI) (by simp) (by simp; omega), set_snoc]
  unfold stepB at h
  split at h
  · rename_i z r
    split at h
    · rename_i d e
      rw [Bool.and_eq_true] at h
      have hl := of_decide_eq_true h.1
      have okd := hd.ok d (find_mem e).1
      obtain ⟨l, rfl⟩ : ∃ l, z = sg l := ⟨_, sg_of z⟩
      rw [sg_list] at e
      have md := m_deed (n := (n : Int)) (ds := ds) (l := l) (μ := ν ++ [some (.lst (found.map tupI))])
      rw [e] at md
      have o := m_obj (n := (n : Int)) (ds := ds.map dV) (m := "deed") (by decide +kernel)
      have o2 := m_obj (n := (n : Int)) (ds := ds.map dV) (m := "things") (by decide +kernel)
      have a0 : atI (.str (sg l) :: r) 0 = some (.str (sg l)) := at_head
      have hrs : okRows n w (r.map fun x => match x with | .int i => found.getD i.toNat [] | _ => []) := fun y hy => by
        obtain ⟨x, hx, rfl⟩ := List.mem_map.mp hy
        have hx := List.all_eq_true.mp h.2 x hx
        cases x with
        | int i =>
          simp only [isThingB, Bool.and_eq_true, decide_eq_true_eq] at hx
          exact hf _ (getD_mem' (by omega))
        | _ => cases hx
      have lc : ∀ σ : Sl, 9 < σ.length → σ[4]? = some (some (.c ν.length)) → lcL (.nm 9) tYes' e1_run r σ (ν ++ [some (.lst (found.map tupI))]) = .ok ((r.map fun x => match x with | .int i => found.getD i.toNat [] | _ => []).map tupI) (ν ++ [some (.lst (found.map tupI))]) := fun σ h9 h4 => by
        rw [lcL_map (fun x => match x with | .int i => tupI (found.getD i.toNat []) | _ => tupI []) fun x hx => ?_, List.map_map]
        · congr 1
          refine List.map_congr_left fun x _ => ?_
          cases x <;> rfl
        · have hx := List.all_eq_true.mp h.2 x hx
          cases x with
          | int i =>
            simp only [isThingB, Bool.and_eq_true, decide_eq_true_eq] at hx
            have ar := at_rows (rs := found) hx.1 hx.2
            refine ⟨_, asg_nm, rfl, ?_⟩
            have p2c := p2_cell (g := atV) (k := ν.length) (e := .int i) (μ := ν ++ [some (.lst (found.map tupI))]) (ds := found.map tupI) (by simp)
            simp [e1_run, h9, h4, p2c, ar]
          | _ => cases hx
      have z := szF_ok (ds := (r.map fun x => match x with | .int i => found.getD i.toNat [] | _ => []).map tupI) (μ := ν ++ [some (.lst (found.map tupI))]) (szL _ (by simp; have := okd.2.1; omega))
      have pt := put_okT (μ := ν ++ [some (.lst (found.map tupI))]) hn okd.2.1 okd.2.2.1 hw (by rw [List.length_map]; exact hl) hrs
      have er : stepRow n ds rows w found (.tup (.str (sg l) :: r)) = putT d.2.2 n (r.map fun x => match x with | .int i => found.getD i.toNat [] | _ => []) w := by
        simp only [stepRow, sg_list, e]
      rw [er]
      refine ⟨some (.t (.str (sg d.1))), some (.t (.int (d.2.1 : Int))), some (.t (tupI d.2.2)), ?_⟩
      generalize (r.map fun x => match x with | .int i => found.getD i.toNat [] | _ => []) = RS at lc z pt
      generalize putT d.2.2 n RS w = PT at pt
      have em : (found ++ [PT]).map tupI = found.map tupI ++ [tupI PT] := by simp
      rw [em]
      clear em
      generalize tupI PT = pt' at pt
      simp [f1_run, a0, subT, o, md, sAsg_tp, asg_dV, eMutG_eq, la, o2, m_things, cut1, wipeM, lc, z, pt, ap]
    · cases h
  · rename_i i
    simp only [Bool.and_eq_true, decide_eq_true_eq] at h
    have ar := at_rows (rs := rows) h.1 (by omega)
    have a0 : atI [PV.int i] 0 = some (.int i) := rfl
    refine ⟨s6, s7, s8, ?_⟩
    have er : stepRow n ds rows w found (.tup [.int i]) = rows.getD i.toNat [] := rfl
    rw [er]
    have em : (found ++ [rows.getD i.toNat []]).map tupI = found.map tupI ++ [tupI (rows.getD i.toNat [])] := by simp
    rw [em]
    clear em
    generalize tupI (rows.getD i.toNat []) = pt' at ar
    simp [f1_run, a0, subT, eMutG_eq, la, ar, ap]
  · cases h
theorem run_loop {n w g : Nat} {ds : List Dd} {rows : List (List Int)} {s1 : Option Val} {ν : Store} (hn : n ≤ 9) (hw : w ≤ 1000) (hd : okDs n ds) (hg : rows.length = g) (hr : okRows n w rows) : ∀ (l : List PV) (found : List (List Int)) (s5 s6 s7 s8 : Option Val), okRows n w found → found.length + l.length ≤ 1000 → stDue ds (g : Int) found.length l = none →
    ∃ s5' s6' s7' s8', forL (.nm 5) f1_run l [some (.t (hV n ds)), s1, some (.t (.lst (rows.map tupI))), some (.t (.int (w : Int))), some (.c ν.length), s5, s6, s7, s8, none] (ν ++ [some (.lst (found.map tupI))]) = .nx [some (.t (hV n ds)), s1, some (.t (.lst (rows.map tupI))), some (.t (.int (w : Int))), some (.c ν.length), s5', s6', s7', s8', none] (ν ++ [some (.lst ((runRows n ds rows w l found).map tupI))]) ∧ okRows n w (runRows n ds rows w l found)
  | [], found, s5, s6, s7, s8, hf, _, _ => ⟨s5, s6, s7, s8, rfl, hf⟩
  | s :: l, found, s5, s6, s7, s8, hf, hl, h => by
    have hl' : found.length + (l.length + 1) ≤ 1000 := hl
    unfold stDue at h
    cases hb : stepB ds (found.length : Int) (g : Int) s with
    | false => rw [hb] at h; simp at h
    | true =>
      rw [hb] at h
      obtain ⟨t6, t7, t8, e⟩ := run_step (s1 := s1) (s5 := s5) (s6 := s6) (s7 := s7) (s8 := s8) (s9 := none) (ν := ν) hn hw hd hg hr hf (by omega) hb
      have hs := stepRow_ok hd hg hr hf hb
      obtain ⟨u5, u6, u7, u8, e2, ok⟩ := run_loop (s1 := s1) (ν := ν) hn hw hd hg hr l (found ++ [stepRow n ds rows w found s]) (some (.t s)) t6 t7 t8 (fun r hr' => by
        rcases List.mem_append.mp hr' with hr' | hr'
        · exact hf r hr'
        · rw [List.mem_singleton.mp hr']; exact hs) (by simp; omega) (by simpa using h)
      refine ⟨u5, u6, u7, u8, ?_, ok⟩
      rw [forL_nx (σ1 := [some (.t (hV n ds)), s1, some (.t (.lst (rows.map tupI))), some (.t (.int (w : Int))), some (.c ν.length), some (.t s), s6, s7, s8, none]) (by simp) e]
      exact e2

theorem run_ok {n w g : Nat} {ds : List Dd} {rows : List (List Int)} {l : List PV} {μ : Store} (hn : n ≤ 9) (hw : w ≤ 1000) (hd : okDs n ds) (hg : rows.length = g) (hr : okRows n w rows) (hl : l.length ≤ 1000) (h : stDue ds (g : Int) 0 l = none) :
    fn_run [.t (hV n ds), .t (.lst l), .t (.lst (rows.map tupI)), .t (.int (w : Int))] μ = .ok (.t (.lst ((runRows n ds rows w l []).map tupI))) μ ∧ okRows n w (runRows n ds rows w l []) := by
  obtain ⟨u5, u6, u7, u8, e, ok⟩ := run_loop (s1 := some (.t (.lst l))) (ν := μ) hn hw hd hg hr l [] none none none none (by intro r hr; cases hr) (by simp; omega) h
  refine ⟨?_, ok⟩
  have e' := e
  simp only [List.map_nil] at e'
  have fz : frz1 (μ ++ [some (.lst ((runRows n ds rows w l []).map tupI))]) (.c μ.length) = some (.t (.lst ((runRows n ds rows w l []).map tupI)), μ ++ [none]) := by
    rw [frz_lst at_snoc, set_snoc]
  generalize (runRows n ds rows w l []).map tupI = Z at e' fz
  simp [fn_run, b_run, fnOf, startM, e', sFrz, fz]


theorem house_lc {n : Nat} {t : Store} {s2 s3 : Option Val} (hn1 : 1 ≤ n) (hn : n ≤ 9) : ∀ (nms : List (List Nat)) (ps : List Nat) (w : W3), nms.length = ps.length → (∀ p ∈ ps, p ≤ 3) →
    ∃ (ds : List Dd) (w' : W3), lcL (.tp [.nm 4, .nm 5]) tYes' e1__law_house (zipP (nms.map fun l => .str (sg l)) (ps.map fun (p : Nat) => .int (p : Int))) [some (.c 0), some (.t (.int (n : Int))), s2, s3, none, none] (wlw w :: t) = .ok (ds.map dV) (wlw w' :: t) ∧ ds.map (·.1) = nms ∧ ds.map (·.2.1) = ps ∧ ∀ d ∈ ds, d.2.1 ≤ 3 ∧ d.2.2.length = n ^ d.2.1 ∧ inR n d.2.2
  | [], [], w, _, _ => ⟨[], w, rfl, rfl, rfl, by simp⟩
  | l :: nms, p :: ps, w, hl, hp => by
    have hp3 := hp p List.mem_cons_self
    obtain ⟨row, w1, et, hrl, hri⟩ := table_w (n := n) (p := p) (w := w) (t := t) hn1 hn hp3
    obtain ⟨ds, w2, e, h1, h2, h3⟩ := house_lc (t := t) (s2 := s2) (s3 := s3) hn1 hn nms ps w1 (by simpa using hl) (fun q hq => hp q (List.mem_cons_of_mem _ hq))
    have tp : ∀ μ, PM.gTup [.t (.str (sg l)), .t (.int (p : Int)), .t (tupI row)] μ = .ok (.t (dV (l, p, row))) μ := fun μ => gTup_ok rfl (szL _ (by simp))
    refine ⟨(l, p, row) :: ds, w2, ?_, by simp [h1], by simp [h2], fun d hd => ?_⟩
    · refine lcL_cons (σ1 := [some (.c 0), some (.t (.int (n : Int))), s2, s3, some (.t (.str (sg l))), some (.t (.int (p : Int)))]) (μ2 := wlw w1 :: t) (by simp) rfl ?_ e
      generalize dV (l, p, row) = dd at tp
      generalize tupI row = tr at et tp
      simp [-gTup_3, e1__law_house, et, tp]
    · rcases List.mem_cons.mp hd with rfl | hd
      · exact ⟨hp3, hrl, hri⟩
      · exact h3 d hd
  | [], _ :: _, _, hl, _ => by simp at hl
  | _ :: _, [], _, hl, _ => by simp at hl
theorem house_w {n : Nat} {ps : List Nat} {w : W3} {t : Store} (hn1 : 1 ≤ n) (hn : n ≤ 9) (hl : ps.length ≤ 6) (hp : ∀ p ∈ ps, p ≤ 3) : ∃ (ds : List Dd) (w' : W3), okDs n ds ∧ ds.map (·.2.1) = ps ∧ fn__law_house [.c 0, .t (.int (n : Int)), .t (.lst (ps.map fun (p : Nat) => .int (p : Int)))] (wlw w :: t) = .ok (.t (hV n ds)) (wlw w' :: t) := by
  obtain ⟨nms, w1, e1, h1, h2, h3⟩ := names_w (w := w) (t := t) (m := ps.length) hl
  obtain ⟨ds, w2, e2, h4, h5, h6⟩ := house_lc (t := t) (s2 := some (.t (.lst (ps.map fun (p : Nat) => .int (p : Int))))) (s3 := some (.t (.lst (nms.map fun l => .str (sg l))))) hn1 hn nms ps w1 h1 hp
  have hdl : ds.length = ps.length := by rw [← h5, List.length_map]
  have ok : okDs n ds := ⟨fun d hd => ⟨h2 _ (by rw [← h4]; exact List.mem_map_of_mem (f := (·.1)) hd), h6 d hd⟩, by rw [h4]; exact h3, by omega⟩
  refine ⟨ds, w2, ok, h5, ?_⟩
  have mk := m_make (μ := wlw w2 :: t) hn1 hn ok
  have z := szF_ok (ds := ds.map dV) (μ := wlw w2 :: t) (szL _ (by simp; omega))
  have g : gZip [.t (.lst (nms.map fun l => .str (sg l))), .t (.lst (ps.map fun (p : Nat) => .int (p : Int)))] (wlw w1 :: t) = .ok (zipP (nms.map fun l => .str (sg l)) (ps.map fun (p : Nat) => .int (p : Int))) (wlw w1 :: t) := rfl
  have le : lenV [.lst (ps.map fun (p : Nat) => .int (p : Int))] = some (.int (ps.length : Int)) := by simp
  generalize zipP (nms.map fun l => .str (sg l)) (ps.map fun (p : Nat) => .int (p : Int)) = ZZ at g e2
  generalize (nms.map fun l => PV.str (sg l)) = NN at e1 g e2
  generalize (ps.map fun (p : Nat) => PV.int (p : Int)) = PP at g le e2 ⊢
  simp [-lenV_lst, fn__law_house, b__law_house, fnOf, startM, le, e1, g, wipeM, e2, z, mk]

/-! worths, rows_of -/
theorem check_rows_loop {w n : Int} {s0 : Option Val} {μ : Store} : ∀ (rs : List (List Int)) (k : Nat) (x y : Option Val), (∀ r ∈ rs, isRowB (tupI r) w n = true ∧ r.length ≤ 1000) → ∃ σ, forL (.tp [.nm 3, .nm 4]) f1_check_rows (enumF k (rs.map tupI)) [s0, some (.t (.int w)), some (.t (.int n)), x, y] μ = .nx σ μ
  | [], _, _, _, _ => ⟨_, rfl⟩
  | r :: rs, k, x, y, h => by
    obtain ⟨h1, h2⟩ := h r List.mem_cons_self
    have ir := is_row_ok (w := w) (n := n) (μ := μ) (PM.SD_tupI (l := r) (k := 0) (by omega))
    rw [h1] at ir
    obtain ⟨σ, e⟩ := check_rows_loop (w := w) (n := n) (s0 := s0) (μ := μ) rs (k + 1) (some (.t (.int (k : Int)))) (some (.t (tupI r))) fun q hq => h q (List.mem_cons_of_mem _ hq)
    refine ⟨σ, ?_⟩
    rw [List.map_cons, enumF, forL_nx (σ1 := [s0, some (.t (.int w)), some (.t (.int n)), some (.t (.int (k : Int))), some (.t (tupI r))]) (σ2 := [s0, some (.t (.int w)), some (.t (.int n)), some (.t (.int (k : Int))), some (.t (tupI r))]) (μ2 := μ) (by simp) (by simp [f1_check_rows, ir])]
    exact e
theorem check_rows_ok {w n : Nat} {rs : List (List Int)} {μ : Store} (h : okRows n w rs) (hw : w ≤ 1000) : fn_check_rows [.t (.lst (rs.map tupI)), .t (.int (w : Int)), .t (.int (n : Int))] μ = .ok (.t .non) μ := by
  obtain ⟨σ, e⟩ := check_rows_loop (w := (w : Int)) (n := (n : Int)) (s0 := some (.t (.lst (rs.map tupI)))) (μ := μ) rs 0 none none fun r hr => ⟨isRow_ok (h r hr).1 (h r hr).2, by rw [(h r hr).1]; exact hw⟩
  have en : gEnum [.t (.lst (rs.map tupI))] μ = .ok (enumF 0 (rs.map tupI)) μ := by rw [gEnum_lst, enumP_F]
  simp [fn_check_rows, b_check_rows, fnOf, startM, subT, en, e]
/-! things at a spot -/
def digs (n : Nat) : Nat → Nat → List Int
  | 0, _ => []
  | p + 1, s => digs n p (s / n) ++ [((s % n : Nat) : Int)]
theorem digs_len {n : Nat} : ∀ {p s : Nat}, (digs n p s).length = p
  | 0, _ => rfl
  | p + 1, s => by show (digs n p (s / n) ++ [_]).length = _; rw [List.length_append, digs_len]; rfl
theorem digs_inR {n : Nat} (hn : 0 < n) : ∀ {p s : Nat}, inR n (digs n p s)
  | 0, _ => fun x hx => nomatch hx
  | p + 1, s => fun x hx => by
    rcases List.mem_append.mp hx with hx | hx
    · exact digs_inR hn x hx
    · rw [List.mem_singleton.mp hx]
      have := Nat.mod_lt s hn
      omega
theorem tat_loop {n : Nat} {s1 : Option Val} {μ : Store} (hn1 : 0 < n) (hn : n ≤ 1000) : ∀ (items : List PV) (s : Nat) (acc : List Int) (x : Option Val), acc.length + items.length ≤ 1000 → ∃ s' x', forL (.nm 4) f1_things_at items [some (.t (.int (s : Int))), s1, some (.t (.int (n : Int))), some (.t (tupI acc)), x] μ = .nx [s', s1, some (.t (.int (n : Int))), some (.t (tupI (digs n items.length s ++ acc))), x'] μ
  | [], s, acc, x, _ => ⟨_, x, rfl⟩
  | d :: items, s, acc, x, hl => by
    have hl' : acc.length + (items.length + 1) ≤ 1000 := hl
    have md : modV (.int (s : Int)) (.int (n : Int)) = some (.int ((s % n : Nat) : Int)) := by rw [mod_ok (by omega)]; simp
    have dv : fdivV (.int (s : Int)) (.int (n : Int)) = some (.int ((s / n : Nat) : Int)) := by rw [fdiv_ok (by omega) (by omega)]; simp
    have ad := addV_tup (a := [PV.int ((s % n : Nat) : Int)]) (b := acc.map PV.int) (by simp; omega)
    have ad' : addV (.tup [PV.int ((s % n : Nat) : Int)]) (tupI acc) = some (tupI (((s % n : Nat) : Int) :: acc)) := ad
    obtain ⟨s', x', e⟩ := tat_loop (s1 := s1) (μ := μ) hn1 hn items (s / n) (((s % n : Nat) : Int) :: acc) (some (.t d)) (by simp; omega)
    refine ⟨s', x', ?_⟩
    have ee : digs n (d :: items).length s ++ acc = digs n items.length (s / n) ++ (((s % n : Nat) : Int) :: acc) := by
      show digs n (items.length + 1) s ++ acc = _
      rw [digs, List.append_assoc]; rfl
    rw [ee, forL_nx (σ1 := [some (.t (.int (s : Int))), s1, some (.t (.int (n : Int))), some (.t (tupI acc)), some (.t d)]) (σ2 := [some (.t (.int ((s / n : Nat) : Int))), s1, some (.t (.int (n : Int))), some (.t (tupI (((s % n : Nat) : Int) :: acc))), some (.t d)]) (μ2 := μ) (by simp) ?_, e]
    generalize tupI (((s % n : Nat) : Int) :: acc) = T at ad'
    generalize tupI acc = A at ad'
    generalize ((s % n : Nat) : Int) = sm at md ad'
    generalize ((s / n : Nat) : Int) = sd at dv
    simp [f1_things_at, md, dv, ad']
theorem things_at_ok {n p s : Nat} {μ : Store} (hn1 : 0 < n) (hn : n ≤ 1000) (hp : p ≤ 1000) : fn_things_at [.t (.int (s : Int)), .t (.int (p : Int)), .t (.int (n : Int))] μ = .ok (.t (tupI (digs n p s))) μ := by
  obtain ⟨s', x', e⟩ := tat_loop (s1 := some (.t (.int (p : Int)))) (μ := μ) hn1 hn (rgI 0 p) s [] none (by rw [rgI_len]; simp; omega)
  rw [rgI_len, List.append_nil] at e
  have e' : forL (.nm 4) f1_things_at (rgI 0 p) [some (.t (.int (s : Int))), some (.t (.int (p : Int))), some (.t (.int (n : Int))), some (.t (.tup [])), none] μ = _ := e
  simp [fn_things_at, b_things_at, fnOf, startM, range1_ok (n := p) (by omega), e']
theorem flat_at {α β : Type} {n : Nat} (f : α → List β) : ∀ (l : List α) (s : Nat), (∀ a ∈ l, (f a).length = n) → 0 < n → (l.flatMap f)[s]? = (l[s / n]?).bind fun a => (f a)[s % n]?
  | [], s, _, _ => by simp
  | a :: l, s, h, hn => by
    rw [List.flatMap_cons]
    have ha := h a List.mem_cons_self
    by_cases q : s < n
    · rw [List.getElem?_append_left (by omega), Nat.div_eq_of_lt q, Nat.mod_eq_of_lt q]; rfl
    · rw [List.getElem?_append_right (by omega), ha, flat_at f l (s - n) (fun b hb => h b (List.mem_cons_of_mem _ hb)) hn]
      have e1 : s / n = (s - n) / n + 1 := by rw [Nat.div_eq s n, if_pos ⟨hn, by omega⟩]
      have e2 : s % n = (s - n) % n := by rw [Nat.mod_eq_sub_mod (by omega)]
      rw [e1, e2, List.getElem?_cons_succ]
theorem allR_at {n : Nat} (hn : 0 < n) : ∀ {p s : Nat}, s < n ^ p → (allR n p)[s]? = some (digs n p s)
  | 0, s, h => by
    have : s = 0 := by simpa using h
    rw [this]; rfl
  | p + 1, s, h => by
    show ((allR n p).flatMap fun r => (List.range n).map fun (t : Nat) => r ++ [(t : Int)])[s]? = _
    rw [flat_at (n := n) _ _ _ (by simp) hn]
    have hq : s / n < n ^ p := by
      rw [Nat.pow_succ] at h
      exact Nat.div_lt_of_lt_mul (by rw [Nat.mul_comm]; exact h)
    rw [allR_at hn hq]
    have hm := Nat.mod_lt s hn
    simp [digs, hm]
theorem allR_digs {n p : Nat} (hn : 0 < n) : allR n p = (List.range (n ^ p)).map (digs n p) := by
  refine List.ext_getElem? fun s => ?_
  by_cases h : s < n ^ p
  · rw [allR_at hn h, List.getElem?_map, List.getElem?_range h]; rfl
  · rw [List.getElem?_eq_none (by rw [allR_len]; omega), List.getElem?_eq_none (by simp; omega)]

/-! check_rows of any list -/
def rowDue (w n : Int) : Nat → List PV → Option Nat
  | _, [] => none
  | k, d :: l => if isRowB d w n = true then rowDue w n (k + 1) l else some k
theorem chkr_loop {w n : Int} {s0 : Option Val} {μ : Store} {m : Nat} : ∀ (l : List PV) (k : Nat) (x y : Option Val), (∀ d ∈ l, SD m d) →
    (rowDue w n k l = none → ∃ σ, forL (.tp [.nm 3, .nm 4]) f1_check_rows (enumF k l) [s0, some (.t (.int w)), some (.t (.int n)), x, y] μ = .nx σ μ) ∧
    ∀ j, rowDue w n k l = some j → ∃ σ, forL (.tp [.nm 3, .nm 4]) f1_check_rows (enumF k l) [s0, some (.t (.int w)), some (.t (.int n)), x, y] μ = .ex "NoRow" (some ("at", .int (j : Int))) σ μ
  | [], _, _, _, _ => ⟨fun _ => ⟨_, rfl⟩, fun j h => by cases h⟩
  | d :: l, k, x, y, h => by
    have ir := is_row_ok (w := w) (n := n) (μ := μ) (h d List.mem_cons_self)
    obtain ⟨i1, i2⟩ := chkr_loop (w := w) (n := n) (s0 := s0) (μ := μ) l (k + 1) (some (.t (.int (k : Int)))) (some (.t d)) fun q hq => h q (List.mem_cons_of_mem _ hq)
    unfold rowDue
    rw [enumF]
    cases hb : isRowB d w n with
    | true =>
      rw [hb] at ir
      have st := forL_nx (B := f1_check_rows) (T := .tp [.nm 3, .nm 4]) (d := .tup [.int (k : Int), d]) (ds := enumF (k + 1) l) (σ := [s0, some (.t (.int w)), some (.t (.int n)), x, y]) (μ := μ) (σ1 := [s0, some (.t (.int w)), some (.t (.int n)), some (.t (.int (k : Int))), some (.t d)]) (σ2 := [s0, some (.t (.int w)), some (.t (.int n)), some (.t (.int (k : Int))), some (.t d)]) (μ2 := μ) (by simp) (by simp [f1_check_rows, ir])
      rw [st]
      simpa using ⟨i1, i2⟩
    | false =>
      rw [hb] at ir
      refine ⟨fun z => by simp at z, fun j hj => ?_⟩
      obtain rfl : k = j := by simpa using hj
      exact ⟨[s0, some (.t (.int w)), some (.t (.int n)), some (.t (.int (k : Int))), some (.t d)], forL_ex (σ1 := [s0, some (.t (.int w)), some (.t (.int n)), some (.t (.int (k : Int))), some (.t d)]) (by simp) (by simp [f1_check_rows, ir, sRaise])⟩
theorem chkr_no {w n : Int} {l : List PV} {m j : Nat} {μ : Store} (h : ∀ d ∈ l, SD m d) (hj : rowDue w n 0 l = some j) : fn_check_rows [.t (.lst l), .t (.int w), .t (.int n)] μ = .ex "NoRow" (some ("at", .int (j : Int))) μ := by
  obtain ⟨σ, e⟩ := (chkr_loop (w := w) (n := n) (s0 := some (.t (.lst l))) (μ := μ) l 0 none none h).2 j hj
  have en : gEnum [.t (.lst l)] μ = .ok (enumF 0 l) μ := by rw [gEnum_lst, enumP_F]
  simp [fn_check_rows, b_check_rows, fnOf, startM, subT, en, e]
theorem chkr_ok {w n : Int} {l : List PV} {m : Nat} {μ : Store} (h : ∀ d ∈ l, SD m d) (hj : rowDue w n 0 l = none) : fn_check_rows [.t (.lst l), .t (.int w), .t (.int n)] μ = .ok (.t .non) μ := by
  obtain ⟨σ, e⟩ := (chkr_loop (w := w) (n := n) (s0 := some (.t (.lst l))) (μ := μ) l 0 none none h).1 hj
  have en : gEnum [.t (.lst l)] μ = .ok (enumF 0 l) μ := by rw [gEnum_lst, enumP_F]
  simp [fn_check_rows, b_check_rows, fnOf, startM, subT, en, e]
theorem chkr_odd {w n : PV} {d : PV} {μ : Store} (h1 : ∀ l, d ≠ .lst l) (h2 : tyN d ≠ none) : fn_check_rows [.t d, .t w, .t n] μ = .ex "NoRow" (some ("at", .int 0)) μ := by
  have ty : isTy "list" d = some (.bl false) := by
    cases d with
    | lst l => exact absurd rfl (h1 l)
    | obj C a b => exact absurd rfl h2
    | _ => simp [subT]
  simp [fn_check_rows, b_check_rows, fnOf, startM, ty, sRaise]
theorem rowDue_app {w n : Int} {d : PV} {r : List PV} (hd : isRowB d w n = false) : ∀ (l : List PV) (k : Nat), (∀ x ∈ l, isRowB x w n = true) → rowDue w n k (l ++ d :: r) = some (k + l.length)
  | [], k, _ => by
    show (if isRowB d w n = true then _ else some k) = _
    rw [hd]; simp
  | x :: l, k, h => by
    show (if isRowB x w n = true then rowDue w n (k + 1) (l ++ d :: r) else some k) = _
    rw [h x List.mem_cons_self, if_pos rfl, rowDue_app hd l (k + 1) fun y hy => h y (List.mem_cons_of_mem _ hy)]
    simp; omega

/-! what steps are worth -/
def stepVal (n : Nat) (ds : List Dd) (things F : List Int) : PV → Int
  | .tup [.int i] => things.getD i.toNat 0
  | .tup (.str z :: r) => (match ds.find? (fun d => decide (d.1 = z.cps.toList)) with
    | some d => d.2.2.getD (spotI n (r.map fun x => match x with | .int i => F.getD i.toNat 0 | _ => 0)).toNat 0
    | none => 0)
  | _ => 0
def runVal (n : Nat) (ds : List Dd) (things : List Int) : List PV → List Int → List Int
  | [], F => F
  | s :: l, F => runVal n ds things l (F ++ [stepVal n ds things F s])
abbrev one1 : List Int → List (List Int) := List.map fun x => [x]
theorem one1_getD {F : List Int} {i : Nat} (h : i < F.length) : (one1 F).getD i [] = [F.getD i 0] := by
  simp [List.getD_eq_getElem?_getD, List.getElem?_eq_getElem h]
theorem stepRow_val {n g : Nat} {ds : List Dd} {things F : List Int} {s : PV} (hg : things.length = g) (h : stepB ds (F.length : Int) (g : Int) s = true) : stepRow n ds (one1 things) 1 (one1 F) s = [stepVal n ds things F s] := by
  unfold stepB at h
  split at h
  · rename_i z r
    split at h
    · rename_i d e
      rw [Bool.and_eq_true] at h
      unfold stepRow stepVal
      simp only [e, putT, List.range_one, List.map_cons, List.map_nil, List.map_map]
      congr 4
      refine List.map_congr_left fun x hx => ?_
      have hx := List.all_eq_true.mp h.2 x hx
      cases x with
      | int i =>
        simp only [isThingB, Bool.and_eq_true, decide_eq_true_eq] at hx
        simp only [Function.comp]
        rw [one1_getD (by omega)]; rfl
      | _ => cases hx
    · cases h
  · rename_i i
    simp only [Bool.and_eq_true, decide_eq_true_eq] at h
    show (one1 things).getD i.toNat [] = [things.getD i.toNat 0]
    rw [one1_getD (by omega)]
  · cases h
theorem runRows_val {n g : Nat} {ds : List Dd} {things : List Int} (hg : things.length = g) : ∀ (l : List PV) (F : List Int), stDue ds (g : Int) F.length l = none → runRows n ds (one1 things) 1 l (one1 F) = one1 (runVal n ds things l F)
  | [], F, _ => rfl
  | s :: l, F, h => by
    unfold stDue at h
    cases hb : stepB ds (F.length : Int) (g : Int) s with
    | false => rw [hb] at h; simp at h
    | true =>
      rw [hb] at h
      show runRows n ds (one1 things) 1 l (one1 F ++ [stepRow n ds (one1 things) 1 (one1 F) s]) = one1 (runVal n ds things l (F ++ [stepVal n ds things F s]))
      rw [stepRow_val hg hb]
      have e : one1 F ++ [[stepVal n ds things F s]] = one1 (F ++ [stepVal n ds things F s]) := by simp
      rw [e]
      exact runRows_val hg l _ (by simpa using h)
theorem runVal_len {n : Nat} {ds : List Dd} {things : List Int} : ∀ (l : List PV) (F : List Int), (runVal n ds things l F).length = F.length + l.length
  | [], _ => rfl
  | s :: l, F => by
    show (runVal n ds things l (F ++ [stepVal n ds things F s])).length = _
    rw [runVal_len l]; simp; omega
theorem stepVal_inR {n g : Nat} {ds : List Dd} {things F : List Int} {s : PV} (hd : okDs n ds) (hg : things.length = g) (ht : inR n things) (hF : inR n F) (h : stepB ds (F.length : Int) (g : Int) s = true) : 0 ≤ stepVal n ds things F s ∧ stepVal n ds things F s < n := by
  have okr : ∀ L : List Int, inR n L → okRows n 1 (one1 L) := fun L hL r hr => by
    obtain ⟨x, hx, rfl⟩ := List.mem_map.mp hr
    exact ⟨rfl, fun y hy => by rw [List.mem_singleton.mp hy]; exact hL x hx⟩
  have := (stepRow_ok (w := 1) (rows := one1 things) (found := one1 F) hd (by simpa using hg) (okr _ ht) (okr _ hF) (by simpa using h)).2
  rw [stepRow_val hg h] at this
  exact this _ (by simp)
/-! sayings that hold -/
theorem places_ok {n p : Nat} {ds : List Dd} {μ : Store} (hn : n ≤ 9) (hp : p ≤ 3) : fn_check_places [.t (hV n ds), .t (.int (p : Int))] μ = if 81 < n ^ p then .ex "TooMany" (some ("many", .int ((n ^ p : Nat) : Int))) μ else .ok (.t .non) μ := by
  have iw := is_whole_ok (d := .int (p : Int)) (μ := μ) (by simp [tyN])
  have o := m_obj (n := (n : Int)) (ds := ds.map dV) (m := "things") (by decide +kernel)
  have ce := cells_ok (n := (n : Int)) (p := (p : Int)) (μ := μ) (by omega) (by omega) (by omega) (by omega)
  have ce' : fn_cells [.t (.int (n : Int)), .t (.int (p : Int))] μ = .ok (.t (.int ((n ^ p : Nat) : Int))) μ := by
    rw [ce]; simp
  have h3 : (p : Int) ≤ 3 := by omega
  generalize n ^ p = w at ce' ⊢
  by_cases h : 81 < w
  · have h' : (81 : Int) < (w : Int) := by omega
    simp [fn_check_places, b_check_places, fnOf, startM, iw, isIntB, eChain, hp, h3, o, m_things, ce', h, h', sRaise]
  · have h' : ¬ (81 : Int) < (w : Int) := by omega
    simp [fn_check_places, b_check_places, fnOf, startM, iw, isIntB, eChain, hp, h3, o, m_things, ce', h, h']
theorem places_bad {n : Nat} {ds : List Dd} {d : PV} {μ : Store} (ht : tyN d ≠ none) (h : isThingB 4 d = false) : fn_check_places [.t (hV n ds), .t d] μ = .ex "NoRow" (some ("at", .int 0)) μ := by
  have iw := is_whole_ok (μ := μ) ht
  cases d with
  | int i =>
    by_cases h0 : 0 ≤ i
    · have h3 : ¬ i ≤ 3 := fun z => by
        have : i < 4 := by omega
        simp [isThingB, h0, this] at h
      simp [fn_check_places, b_check_places, fnOf, startM, iw, isIntB, eChain, h0, h3, sRaise]
    · simp [fn_check_places, b_check_places, fnOf, startM, iw, isIntB, eChain, h0, sRaise]
  | _ => simp [fn_check_places, b_check_places, fnOf, startM, iw, isIntB, sRaise]
/-- whether two steps part at things -/
def parts (n : Nat) (ds : List Dd) (l : List PV) (i j : Nat) (r : List Int) : Bool := !decide ((runVal n ds r l []).getD i 0 = (runVal n ds r l []).getD j 0)
def holdP : Option (List Int) → PV
  | none => .tup [.str "holds"]
  | some r => .tup [.str "breaks", tupI r]
/-! argument rows -/
def argR (n p : Nat) : List (List Int) := (List.range p).map fun k => (allR n p).map (·.getD k 0)
theorem argR_ok {n p : Nat} : okRows n (n ^ p) (argR n p) := fun r hr => by
  obtain ⟨k, hk, rfl⟩ := List.mem_map.mp hr
  have hk := List.mem_range.mp hk
  refine ⟨by rw [List.length_map, allR_len], fun x hx => ?_⟩
  obtain ⟨q, hq, rfl⟩ := List.mem_map.mp hx
  obtain ⟨h1, h2⟩ := allR_mem hq
  exact h2 _ (getD_mem' (by omega))
theorem argR_len {n p : Nat} : (argR n p).length = p := by simp [argR]
theorem arg_ok {n p : Nat} {μ : Store} (hn1 : 1 ≤ n) (hn : n ≤ 9) (hp : p ≤ 3) : fn_argument_rows [.t (.int (n : Int)), .t (.int (p : Int))] μ = .ok (.t (.lst ((argR n p).map tupI))) μ := by
  have h7 := pow_le_729 hn hp
  have ce := cells_ok (n := (n : Int)) (p := (p : Int)) (μ := μ) (by omega) (by omega) (by omega) (by omega)
  rw [Int.toNat_natCast] at ce
  have ec : ((n : Int) ^ p) = ((n ^ p : Nat) : Int) := by rw [Int.natCast_pow]
  rw [ec] at ce
  have lc1 : ∀ σ : Sl, σ[0]? = some (some (.t (.int (n : Int)))) → σ[1]? = some (some (.t (.int (p : Int)))) → 3 < σ.length → lcL (.nm 3) tYes' e1_argument_rows (rgI 0 (n ^ p)) σ μ = .ok ((allR n p).map tupI) μ := fun σ h0 h1 h3 => by
    rw [rgI_nat, lcL_map (fun d => match d with | .int s => tupI (digs n p s.toNat) | _ => .non) fun d hd => ?_, List.map_map, allR_digs (by omega), List.map_map]
    · rfl
    · obtain ⟨s, hs, rfl⟩ := List.mem_map.mp hd
      refine ⟨_, asg_nm, rfl, ?_⟩
      have ta := things_at_ok (n := n) (p := p) (s := s) (μ := μ) (by omega) (by omega) (by omega)
      show _ = R.ok (PM.Val.t (tupI (digs n p s))) μ
      generalize tupI (digs n p s) = D at ta ⊢
      simp [e1_argument_rows, h0, h1, h3, ta]
  have z1 := szF_ok (ds := (allR n p).map tupI) (μ := μ) (szL _ (by rw [List.length_map, allR_len]; omega))
  have lc2 : ∀ (σ : Sl) (k : Nat), k < p → σ[4]? = some (some (.t (.int (k : Int)))) → 5 < σ.length → lcL (.nm 5) tYes' e2_argument_rows ((allR n p).map tupI) σ μ = .ok (((allR n p).map (·.getD k 0)).map PV.int) μ := fun σ k hk h4 h5 => by
    rw [lcL_map (fun d => match d with | .tup l => (match atI l (k : Int) with | some x => x | none => .non) | _ => .non) fun d hd' => ?_, List.map_map, List.map_map]
    · congr 1
      refine List.map_congr_left fun r hr' => ?_
      have a : atI (r.map PV.int) (k : Int) = some (.int (r.getD k 0)) := at_int (by have := (allR_mem hr').1; omega)
      simp only [Function.comp, a]
    · obtain ⟨r, hr', rfl⟩ := List.mem_map.mp hd'
      have a : atI (r.map PV.int) (k : Int) = some (.int (r.getD k 0)) := at_int (by have := (allR_mem hr').1; omega)
      refine ⟨_, asg_nm, rfl, ?_⟩
      simp only [a]
      have av : atV (tupI r) (.int (k : Int)) = some (.int (r.getD k 0)) := a
      generalize r.getD k 0 = v at av
      generalize tupI r = tr at av
      simp [e2_argument_rows, h4, h5, av]
  have z2 : ∀ k, szF (((allR n p).map (·.getD k 0)).map PV.int) μ = .ok (((allR n p).map (·.getD k 0)).map PV.int) μ := fun k => szF_ok (szL _ (by rw [List.length_map, List.length_map, allR_len]; omega))
  have lc3 : ∀ σ : Sl, σ[2]? = some (some (.t (.lst ((allR n p).map tupI)))) → 5 < σ.length → lcL (.nm 4) tYes' e3_argument_rows (rgI 0 p) σ μ = .ok ((argR n p).map tupI) μ := fun σ h2 h5 => by
    rw [rgI_nat, lcL_map (fun d => match d with | .int s => tupI ((allR n p).map (·.getD s.toNat 0)) | _ => .non) fun d hd => ?_, List.map_map, argR, List.map_map]
    · rfl
    · obtain ⟨k, hk, rfl⟩ := List.mem_map.mp hd
      have hk := List.mem_range.mp hk
      refine ⟨_, asg_nm, rfl, ?_⟩
      have l2 := fun σ h4 h5 => lc2 σ k hk h4 h5
      have zz := z2 k
      have g : gIt (.t (.lst ((allR n p).map tupI))) μ = .ok ((allR n p).map tupI) μ := rfl
      have tp : tupleV [.lst (((allR n p).map (·.getD k 0)).map PV.int)] = some (tupI ((allR n p).map (·.getD k 0))) := rfl
      show _ = R.ok (PM.Val.t (tupI ((allR n p).map (·.getD k 0)))) μ
      generalize tupI ((allR n p).map (·.getD k 0)) = T0 at tp ⊢
      generalize ((allR n p).map (·.getD k 0)).map PV.int = T1 at l2 zz tp
      generalize (allR n p).map tupI = T2 at *
      simp [-tupleV_lst, e3_argument_rows, h2, h5, g, wipeM, l2, zz, tp, show 4 < σ.length by omega]
  have z3 := szF_ok (ds := (argR n p).map tupI) (μ := μ) (szL _ (by rw [List.length_map, argR_len]; omega))
  generalize (argR n p).map tupI = T3 at *
  generalize (allR n p).map tupI = T2 at *
  have r1 := range1_ok (n := n ^ p) (μ := μ) (by omega)
  generalize ((n ^ p : Nat) : Int) = W at ce r1
  simp [fn_argument_rows, b_argument_rows, fnOf, startM, ce, r1, wipeM, lc1, z1, lc3, z3, range1_ok (n := p) (by omega)]

/-! k29 -/
theorem x_mr : (("TooMany" : Str) = ("NoRow" : Str)) = False := eq_false (by decide +kernel)
theorem x_pr : (("NoPaper" : Str) = ("NoRow" : Str)) = False := eq_false (by decide +kernel)
theorem x_pm : (("NoPaper" : Str) = ("TooMany" : Str)) = False := eq_false (by decide +kernel)
theorem asked_told {th : ME} {σ : Sl} {μ : Store} {w : PV} (h : th (capM (capS σ)) μ = .ok (.t w) μ) : eLam fl__law_asked th σ μ = .ok (.t (.tup [.str "told", .non])) μ := eLam_eq fun L => by
  simp [fl__law_asked, b__law_asked, fnOf, startM, sTry, wipeX, eAct_eq, h]
theorem asked_row {th : ME} {σ : Sl} {μ : Store} {z : PV} (h : th (capM (capS σ)) μ = .ex "NoRow" (some ("at", z)) μ) : eLam fl__law_asked th σ μ = .ok (.t (.tup [.str "row", z])) μ := eLam_eq fun L => by
  simp [fl__law_asked, b__law_asked, fnOf, startM, sTry, wipeX, eAct_eq, h, handle, gXf, RS.unset, plainO]
theorem asked_many {th : ME} {σ : Sl} {μ : Store} {z : PV} (h : th (capM (capS σ)) μ = .ex "TooMany" (some ("many", z)) μ) : eLam fl__law_asked th σ μ = .ok (.t (.tup [.str "many", z])) μ := eLam_eq fun L => by
  simp [fl__law_asked, b__law_asked, fnOf, startM, sTry, wipeX, eAct_eq, h, handle, gXf, RS.unset, plainO, x_mr]
theorem asked_paper {th : ME} {σ : Sl} {μ : Store} {z : PV} (h : th (capM (capS σ)) μ = .ex "NoPaper" (some ("at", z)) μ) : eLam fl__law_asked th σ μ = .ok (.t (.tup [.str "paper", .non])) μ := eLam_eq fun L => by
  simp [fl__law_asked, b__law_asked, fnOf, startM, sTry, wipeX, eAct_eq, h, handle, RS.unset, plainO, x_pr, x_pm]
theorem cap_cons {o : Option Val} {σ : Sl} : capM (capS (o :: σ)) = (capV o).map Fl.v :: capM (capS σ) := rfl
theorem capV_t {d : PV} : (capV (some (.t d))).map Fl.v = some (.t d) := rfl
section
variable {n : Nat} {ds : List Dd} {μ : Store} {c : Str} {f : Option (Str × PV)} {p t x : PV}
theorem td_ex (h : fn_check_table [.t (hV n ds), .t p, .t t] μ = .ex c f μ) : fn_term_deed [.t (hV n ds), .t p, .t t, .t x] μ = .ex c f μ := by
  simp [fn_term_deed, b_term_deed, fnOf, startM, h]
theorem ct_ex (h : fn_check_table [.t (hV n ds), .t p, .t t] μ = .ex c f μ) : fn_check_term [.t (hV n ds), .t p, .t t, .t x] μ = .ex c f μ := by
  simp [fn_check_term, b_check_term, fnOf, startM, h]
theorem ctab_ex (h : fn_check_places [.t (hV n ds), .t p] μ = .ex c f μ) : fn_check_table [.t (hV n ds), .t p, .t t] μ = .ex c f μ := by
  simp [fn_check_table, b_check_table, fnOf, startM, h]
theorem dm_ex (h : fn_check_places [.t (hV n ds), .t p] μ = .ex c f μ) : fn_deeds_made [.t (hV n ds), .t p, .t x] μ = .ex c f μ := by
  simp [fn_deeds_made, b_deeds_made, fnOf, startM, h]
theorem to_ex (h : fn_check_places [.t (hV n ds), .t p] μ = .ex c f μ) : fn_table_of [.t (hV n ds), .t x, .t p] μ = .ex c f μ := by
  simp [fn_table_of, b_table_of, fnOf, startM, h]
end
theorem ctab_bad {n p k : Nat} {ds : List Dd} {t : PV} {μ : Store} (hn : n ≤ 9) (hp : p ≤ 3) (hw : n ^ p ≤ 81) (ht : SD k t) (hb : isRowB t ((n ^ p : Nat) : Int) (n : Int) = false) : fn_check_table [.t (hV n ds), .t (.int (p : Int)), .t t] μ = .ex "NoRow" (some ("at", .int 1)) μ := by
  have pk := places_ok (n := n) (p := p) (ds := ds) (μ := μ) hn hp
  rw [if_neg (by omega)] at pk
  have o := m_obj (n := (n : Int)) (ds := ds.map dV) (m := "things") (by decide +kernel)
  have ce := cells_ok (n := (n : Int)) (p := (p : Int)) (μ := μ) (by omega) (by omega) (by omega) (by omega)
  rw [Int.toNat_natCast, ← Int.natCast_pow] at ce
  have ir := is_row_ok (w := ((n ^ p : Nat) : Int)) (n := (n : Int)) (μ := μ) ht
  rw [hb] at ir
  generalize ((n ^ p : Nat) : Int) = W at ce ir
  simp [fn_check_table, b_check_table, fnOf, startM, pk, o, m_things, ce, ir, sRaise]
theorem ctab_ok {n p : Nat} {ds : List Dd} {tb : List Int} {μ : Store} (hn : n ≤ 9) (hp : p ≤ 3) (hw : n ^ p ≤ 81) (ht : tb.length = n ^ p) (hi : inR n tb) : fn_check_table [.t (hV n ds), .t (.int (p : Int)), .t (tupI tb)] μ = .ok (.t .non) μ := by
  have pk := places_ok (n := n) (p := p) (ds := ds) (μ := μ) hn hp
  rw [if_neg (by omega)] at pk
  have o := m_obj (n := (n : Int)) (ds := ds.map dV) (m := "things") (by decide +kernel)
  have ce := cells_ok (n := (n : Int)) (p := (p : Int)) (μ := μ) (by omega) (by omega) (by omega) (by omega)
  rw [Int.toNat_natCast, ← Int.natCast_pow] at ce
  have ir := is_row_ok (w := ((n ^ p : Nat) : Int)) (n := (n : Int)) (μ := μ) (PM.SD_tupI (l := tb) (k := 0) (by omega))
  rw [isRow_ok ht hi] at ir
  generalize ((n ^ p : Nat) : Int) = W at ce ir
  generalize tupI tb = T at ir
  simp [fn_check_table, b_check_table, fnOf, startM, pk, o, m_things, ce, ir]
theorem ct_none {n p : Nat} {ds : List Dd} {tb : List Int} {μ : Store} (hn : n ≤ 9) (hp : p ≤ 3) (hw : n ^ p ≤ 81) (ht : tb.length = n ^ p) (hi : inR n tb) : fn_check_term [.t (hV n ds), .t (.int (p : Int)), .t (tupI tb), .t .non] μ = .ex "NoPaper" (some ("at", .int (-1))) μ := by
  have ck := ctab_ok (ds := ds) (μ := μ) hn hp hw ht hi
  generalize tupI tb = T at ck
  simp [fn_check_term, b_check_term, fnOf, startM, subT, ck, sRaise]
/-- no row may be put where none may be -/
theorem grown_0 {n w : Nat} {ds : List Dd} {r : List Int} {rs : List (List Int)} {μ : Store} : fn_grown [.t (hV n ds), .t (.lst (tupI r :: rs.map tupI)), .t (.int (w : Int)), .t (.int 0)] μ = .ex "TooMany" (some ("many", .int 0)) μ := by
  obtain ⟨G, hG⟩ : ∃ G, G = PM.Val.g (.ob "Growing" ["house", "wide", "most", "numbers", "rows", "steps"]) [.t (hV n ds), .t (.int (w : Int)), .t (.int 0), .c μ.length, .c (μ.length + 1), .c (μ.length + 2)] := ⟨_, rfl⟩
  have mk : (fi_Growing [.t (hV n ds), .t (.int (w : Int)), .t (.int 0)] μ).bind (mkOb "Growing" ["house", "wide", "most", "numbers", "rows", "steps"]) = .ok G (μ ++ [some (.dic true [] []), some (.lst []), some (.lst [])]) := by
    rw [hG]
    simp [fi_Growing, iniOf, bi_Growing, iFld, startM, isSelf, iNil, finI, isT, mkOb, flsOf, asT, Val.plain]
  have ob : PM.isObj "Growing" "put" G = true := by
    rw [hG]
    simp only [PM.isObj]
    decide +kernel
  have f1 : ∀ μ', gFld ["Growing"] "numbers" G μ' = .ok (.c μ.length) μ' := fun μ' => by rw [hG]; rfl
  have f2 : ∀ μ', gFld ["Growing"] "rows" G μ' = .ok (.c (μ.length + 1)) μ' := fun μ' => by rw [hG]; rfl
  have f3 : ∀ μ', gFld ["Growing"] "most" G μ' = .ok (.t (.int 0)) μ' := fun μ' => by rw [hG]; rfl
  have gp : G.plain = true := by rw [hG]; rfl
  have fin0 : ∀ w, μ.take μ.length = μ := fun (w : Nat) => List.take_length
  have pt : fn_Growing_put [G, .t (tupI r), .t (.tup [.int 0])] (μ ++ [some (.dic true [] []), some (.lst []), some (.lst [])]) = .ex "TooMany" (some ("many", .int 0)) (μ ++ [some (.dic true [] []), some (.lst []), some (.lst [])]) := by
    have ni : p2 notInPV (.t (tupI r)) (.c μ.length) (μ ++ [some (.dic true [] []), some (.lst []), some (.lst [])]) = .ok (.t (.bl true)) (μ ++ [some (.dic true [] []), some (.lst []), some (.lst [])]) := by
      have hk : (keysOf (r.map PV.int)).isSome = true := by
        induction r with
        | nil => rfl
        | cons x r ih =>
          simp only [List.map_cons, keysOf, keyOf]
          cases h : keysOf (r.map PV.int) with
          | none => rw [h] at ih; cases ih
          | some _ => rfl
      simp [p2, view, notInPV, inV', keyB, hk, dfind]
    have le : pN lenV [.c (μ.length + 1)] (μ ++ [some (.dic true [] []), some (.lst []), some (.lst [])]) = .ok (.t (.int 0)) (μ ++ [some (.dic true [] []), some (.lst []), some (.lst [])]) := by
      rw [pN_cell (ds := []) (by simp)]; rfl
    generalize tupI r = tr at ni
    generalize μ ++ [some (Cell.dic true [] []), some (.lst []), some (.lst [])] = S at ni le
    simp [fn_Growing_put, b_Growing_put, fnOf, startM, f1, f2, f3, ni, le, sRaise]
  have fl : ∀ l σa σb σc σd, forL (.tp [.nm 5, .nm 6]) f1_grown (enumF 0 (tupI r :: l)) [σa, σb, σc, σd, some G, none, none, none, none, none] (μ ++ [some (.dic true [] []), some (.lst []), some (.lst [])]) = .ex "TooMany" (some ("many", .int 0)) [σa, σb, σc, σd, some G, some (.t (.int 0)), some (.t (tupI r)), none, none, none] (μ ++ [some (.dic true [] []), some (.lst []), some (.lst [])]) := fun l σa σb σc σd => by
    rw [enumF]
    generalize tupI r = tr at pt
    exact forL_ex (σ1 := [σa, σb, σc, σd, some G, some (.t (.int 0)), some (.t tr), none, none, none]) (by simp) (by simp [f1_grown, ob, gCall, gp, pt])
  have en : ∀ μ', gEnum [.t (.lst (tupI r :: rs.map tupI))] μ' = .ok (enumF 0 (tupI r :: rs.map tupI)) μ' := fun μ' => by rw [gEnum_lst, enumP_F]
  generalize rs.map tupI = L at *
  generalize tupI r = tr at *
  simp [fn_grown, b_grown, fnOf, startM, mk, en, fl]
theorem made_0 {n p : Nat} {ds : List Dd} {tb : List Int} {μ : Store} (hn1 : 1 ≤ n) (hn : n ≤ 9) (hp : p ≤ 3) (hw : n ^ p ≤ 81) (hp0 : 0 < p) (ht : tb.length = n ^ p) (hi : inR n tb) : fn_term_deed [.t (hV n ds), .t (.int (p : Int)), .t (tupI tb), .t (.int 0)] μ = .ex "TooMany" (some ("many", .int 0)) μ ∧ fn_deeds_made [.t (hV n ds), .t (.int (p : Int)), .t (.int 0)] μ = .ex "TooMany" (some ("many", .int 0)) μ := by
  have pk := places_ok (n := n) (p := p) (ds := ds) (μ := μ) hn hp
  rw [if_neg (by omega)] at pk
  have o := m_obj (n := (n : Int)) (ds := ds.map dV) (m := "things") (by decide +kernel)
  have ck := ctab_ok (ds := ds) (μ := μ) hn hp hw ht hi
  have ar := arg_ok (n := n) (p := p) (μ := μ) hn1 hn hp
  have ce := cells_ok (n := (n : Int)) (p := (p : Int)) (μ := μ) (by omega) (by omega) (by omega) (by omega)
  rw [Int.toNat_natCast, ← Int.natCast_pow] at ce
  have cr := check_rows_ok (μ := μ) (argR_ok (n := n) (p := p)) (by omega)
  have ir := is_row_ok (w := ((n ^ p : Nat) : Int)) (n := (n : Int)) (μ := μ) (PM.SD_tupI (l := tb) (k := 0) (by omega))
  rw [isRow_ok ht hi] at ir
  have le : lenV [tupI tb] = some (.int ((n ^ p : Nat) : Int)) := by rw [lenV_tup, List.length_map, ht]
  obtain ⟨r, rs, hA⟩ : ∃ r rs, argR n p = r :: rs := by
    cases h : argR n p with
    | nil => have := argR_len (n := n) (p := p); rw [h] at this; simp at this; omega
    | cons r rs => exact ⟨r, rs, rfl⟩
  have gr := grown_0 (n := n) (w := n ^ p) (ds := ds) (r := r) (rs := rs) (μ := μ)
  have hA' : (argR n p).map tupI = tupI r :: rs.map tupI := by rw [hA]; rfl
  rw [← hA'] at gr
  have ty : isTy "tuple" (tupI tb) = some (.bl true) := rfl
  clear hA hA'
  generalize (argR n p).map tupI = A at *
  generalize ((n ^ p : Nat) : Int) = W at *
  generalize tupI tb = T at *
  have md : fn_made [.t (hV n ds), .t (.lst A), .t T, .t (.int 0)] μ = .ex "TooMany" (some ("many", .int 0)) μ := by
    simp [fn_made, b_made, fnOf, startM, ty, le, o, m_things, cr, ir, gr]
  have sp : fn_spread [.t (hV n ds), .t (.lst A), .t (.int W), .t (.int 0)] μ = .ex "TooMany" (some ("many", .int 0)) μ := by
    simp [fn_spread, b_spread, fnOf, startM, o, m_things, cr, gr]
  constructor
  · simp [fn_term_deed, b_term_deed, fnOf, startM, ck, o, m_things, ar, gPick, WD.pickG, WD.Pk.get, dfOk, md]
  · simp [fn_deeds_made, b_deeds_made, fnOf, startM, pk, o, m_things, ar, ce, gPick, WD.pickG, WD.Pk.get, dfOk, sp]

theorem l_cells_ok {n p : Nat} {μ : Store} (hn : n ≤ 9) (hp : p ≤ 3) : fn__law_cells [.t (.int (n : Int)), .t (.int (p : Int))] μ = .ok (.t (.int ((n ^ p : Nat) : Int))) μ := by
  have hm : ∀ i, mulV (.int i) (.int (n : Int)) = some (.int (i * (n : Int))) := fun i => mulV_ok (by omega) (by omega)
  have hq : p = 0 ∨ p = 1 ∨ p = 2 ∨ p = 3 := by omega
  rw [Int.natCast_pow]
  rcases hq with e | e | e | e <;> rw [e] <;>
    simp [fn__law_cells, b__law_cells, fnOf, startM, rgI, List.range, List.range.loop, forL, f1__law_cells, hm, Int.pow_succ, gRange1, bnd]
theorem pd_bad {n : Nat} {d : PV} {μ : Store} (ht : tyN d ≠ none) (h : isThingB 4 d = false) : fn__law_places_due [.t (.int (n : Int)), .t d] μ = .ok (.t (.tup [.str "row", .int 0])) μ := by
  cases d with
  | int i =>
    by_cases h0 : 0 ≤ i
    · have h3 : ¬ i ≤ 3 := fun z => by
        have : i < 4 := by omega
        simp [isThingB, h0, this] at h
      simp [fn__law_places_due, b__law_places_due, fnOf, startM, subT, eChain, h0, h3]
    · simp [fn__law_places_due, b__law_places_due, fnOf, startM, subT, eChain, h0]
  | obj C a b => exact absurd rfl ht
  | _ => simp [fn__law_places_due, b__law_places_due, fnOf, startM, subT]
theorem pd_ok {n p : Nat} {μ : Store} (hn : n ≤ 9) (hp : p ≤ 3) : fn__law_places_due [.t (.int (n : Int)), .t (.int (p : Int))] μ = .ok (.t (if 81 < n ^ p then .tup [.str "many", .int ((n ^ p : Nat) : Int)] else .non)) μ := by
  have ce := l_cells_ok (n := n) (p := p) (μ := μ) hn hp
  have h0 : (0 : Int) ≤ (p : Int) := by omega
  have h3 : (p : Int) ≤ 3 := by omega
  by_cases h : 81 < n ^ p
  · rw [if_pos h]
    have h' : (81 : Int) < ((n ^ p : Nat) : Int) := by omega
    generalize ((n ^ p : Nat) : Int) = W at ce h' ⊢
    simp [fn__law_places_due, b__law_places_due, fnOf, startM, subT, eChain, hp, h3, ce, h']
  · rw [if_neg h]
    have h' : ¬ (81 : Int) < ((n ^ p : Nat) : Int) := by omega
    generalize ((n ^ p : Nat) : Int) = W at ce h' ⊢
    simp [fn__law_places_due, b__law_places_due, fnOf, startM, subT, eChain, hp, h3, ce, h']
theorem i1_ok {n : Nat} {ds : List Dd} {pl odd D : PV} {w : W3} {c : Str} {f : Option (Str × PV)} {s0 s1 s7 s8 s9 s10 s11 s12 : Option Val} (hD : SD 1 D) (E : ∀ {th : ME} {σ : Sl} {μ : Store}, th (capM (capS σ)) μ = .ex c f μ → eLam fl__law_asked th σ μ = .ok (.t D) μ) (hp : ∀ μ, fn_check_places [.t (hV n ds), .t pl] μ = .ex c f μ) :
    i1__law_right [s0, s1, some (.t (hV n ds)), some (.t pl), some (.t D), some (.t odd), none, s7, s8, s9, s10, s11, s12] [wlw w] = .rt (.t (.bl true)) [wlw w, some (.lst [D, D, D, D])] := by
  have l1 : ∀ a1 a2, eLam fl__law_asked l1__law_right [s0, s1, some (.t (hV n ds)), some (.t pl), a1, some (.t odd), a2, s7, s8, s9, s10, s11, s12] [wlw w] = .ok (.t D) [wlw w] := fun a1 a2 => E (by simp [l1__law_right, cap_cons, capV_t, td_ex (ctab_ex (hp _))])
  have l2 : ∀ a1 a2 μ, eLam fl__law_asked l2__law_right [s0, s1, some (.t (hV n ds)), some (.t pl), a1, some (.t odd), a2, s7, s8, s9, s10, s11, s12] μ = .ok (.t D) μ := fun a1 a2 μ => E (by simp [l2__law_right, cap_cons, capV_t, ct_ex (ctab_ex (hp _))])
  have l3 : ∀ a1 a2 μ, eLam fl__law_asked l3__law_right [s0, s1, some (.t (hV n ds)), some (.t pl), a1, some (.t odd), a2, s7, s8, s9, s10, s11, s12] μ = .ok (.t D) μ := fun a1 a2 μ => E (by simp [l3__law_right, cap_cons, capV_t, dm_ex (hp _)])
  have l4 : ∀ a1 a2 μ, eLam fl__law_asked l4__law_right [s0, s1, some (.t (hV n ds)), some (.t pl), a1, some (.t odd), a2, s7, s8, s9, s10, s11, s12] μ = .ok (.t D) μ := fun a1 a2 μ => E (by simp [l4__law_right, cap_cons, capV_t, to_ex (hp _)])
  have la : ∀ l, lstAt [wlw w, some (.lst l)] (.c 1) = some (1, l) := fun l => lstAt_cell rfl
  have ap : ∀ l : List PV, l.length ≤ 5 → gMut mAppend (.c 1) [.t D] [wlw w, some (.lst l)] = .ok (.t .non) [wlw w, some (.lst (l ++ [D]))] := fun l hl => by
    rw [app_cell (k := 1) (ds := l) rfl (by omega)]; rfl
  have a1 := ap [D] (by simp)
  have a2 := ap [D, D] (by simp)
  have a3 := ap [D, D, D] (by simp)
  have mf : mulF (.lst [D]) (.int 4) = some [D, D, D, D] := mulF_ok (l := [D]) (k := 4) (by simp) (by decide)
  have sd : SD 2 (.lst [D, D, D, D]) := SD_lst.mpr ⟨by simp, by simp [hD]⟩
  have ee := eqV_self sd
  have pc : p2 PM.eqV (.c 1) (.t (.lst [D, D, D, D])) [wlw w, some (.lst [D, D, D, D])] = .ok (.t (.bl true)) [wlw w, some (.lst [D, D, D, D])] := by
    rw [p2_cell (k := 1) (ds := [D, D, D, D]) rfl, ee]; rfl
  simp [i1__law_right, l1, eMutG_eq, la, l2, a1, l3, a2, l4, a3, mf, pc]
theorem ne_self2 {a : Str} {x : PV} {k : Nat} (h : SD k x) (hk : k ≤ 60) : neV (.tup [.str a, x]) (.tup [.str a, x]) = some (.bl false) := neV_self (SD_2 (SD_str (n := k)) h) (by omega)
theorem eq_self2 {a : Str} {x : PV} {k : Nat} (h : SD k x) (hk : k ≤ 60) : PM.eqV (.tup [.str a, x]) (.tup [.str a, x]) = some (.bl true) := eqV_self (SD_2 (SD_str (n := k)) h) (by omega)
theorem k1_ok {n p : Nat} {ds : List Dd} {tb : List Int} {bad : PV} {μ : Store} {s0 s1 s4 s5 s6 s7 s9 s11 s12 : Option Val} (hn1 : 1 ≤ n) (hn : n ≤ 9) (hp : p ≤ 3) (hw : n ^ p ≤ 81) (ht : tb.length = n ^ p) (hi : inR n tb) (hb : isRowB bad ((n ^ p : Nat) : Int) (n : Int) = false) (hs : SD 2 bad) :
    k1__law_right [s0, s1, some (.t (hV n ds)), some (.t (.int (p : Int))), s4, s5, s6, s7, some (.t (tupI tb)), s9, some (.t bad), s11, s12] μ = .rt (.t (.bl true)) μ := by
  have cb := ctab_bad (ds := ds) (μ := μ) hn hp hw hs hb
  have c5 := td_ex (x := .int 0) cb
  have c6 := ct_ex (x := .non) cb
  have c9 := ct_none (ds := ds) (μ := μ) hn hp hw ht hi
  have c78 := fun hp0 => made_0 (ds := ds) (μ := μ) hn1 hn hp hw hp0 ht hi
  have n1 := ne_self2 (a := "row") (SD_int (n := 0) (i := 1)) (by decide)
  have n2 := ne_self2 (a := "many") (SD_int (n := 0) (i := 0)) (by decide)
  have n3 := eq_self2 (a := "paper") (SD_non (n := 0)) (by decide)
  generalize tupI tb = T at *
  have l5 : eLam fl__law_asked l5__law_right [s0, s1, some (.t (hV n ds)), some (.t (.int (p : Int))), s4, s5, s6, s7, some (.t T), s9, some (.t bad), s11, s12] μ = _ := asked_row (z := .int 1) (by simp [l5__law_right, cap_cons, capV_t, c5])
  have l6 : eLam fl__law_asked l6__law_right [s0, s1, some (.t (hV n ds)), some (.t (.int (p : Int))), s4, s5, s6, s7, some (.t T), s9, some (.t bad), s11, s12] μ = _ := asked_row (z := .int 1) (by simp [l6__law_right, cap_cons, capV_t, c6])
  have l9 : eLam fl__law_asked l9__law_right [s0, s1, some (.t (hV n ds)), some (.t (.int (p : Int))), s4, s5, s6, s7, some (.t T), s9, some (.t bad), s11, s12] μ = _ := asked_paper (z := .int (-1)) (by simp [l9__law_right, cap_cons, capV_t, c9])
  by_cases hp0 : 0 < p
  · obtain ⟨c7, c8⟩ := c78 hp0
    have l7 : eLam fl__law_asked l7__law_right [s0, s1, some (.t (hV n ds)), some (.t (.int (p : Int))), s4, s5, s6, s7, some (.t T), s9, some (.t bad), s11, s12] μ = _ := asked_many (z := .int 0) (by simp [l7__law_right, cap_cons, capV_t, c7])
    have l8 : eLam fl__law_asked l8__law_right [s0, s1, some (.t (hV n ds)), some (.t (.int (p : Int))), s4, s5, s6, s7, some (.t T), s9, some (.t bad), s11, s12] μ = _ := asked_many (z := .int 0) (by simp [l8__law_right, cap_cons, capV_t, c8])
    have h0 : (0 : Int) < (p : Int) := by omega
    simp [k1__law_right, l5, l6, l7, l8, l9, n1, n2, n3, hp0]
  · have h0 : ¬ (0 : Int) < (p : Int) := by omega
    simp [k1__law_right, l5, l6, l9, n1, n3, hp0, h0]

theorem row_spoilt {n : Int} {W : Int} {a b : List PV} {d : PV} (h : isThingB n d = false) : isRowB (.tup ((a ++ [d]) ++ b)) W n = false := by
  have : ((a ++ [d]) ++ b).all (isThingB n) = false := by
    rw [List.all_append, List.all_append]
    simp [h]
  simp only [isRowB, this, Bool.and_false]
theorem k2_ok {n p : Nat} {ds : List Dd} {w : W3} {s4 s5 : Option Val} (hn1 : 1 ≤ n) (hn : n ≤ 9) (hp : p ≤ 3) (hw : n ^ p ≤ 81) : ∃ w',
    k2__law_right [some (.c 0), some (.t (.int (n : Int))), some (.t (hV n ds)), some (.t (.int (p : Int))), s4, s5, none, none, none, none, none, none, none] [wlw w] = .rt (.t (.bl true)) [wlw w'] := by
  have hw1 : 1 ≤ n ^ p := Nat.one_le_pow _ _ hn1
  have ce := l_cells_ok (n := n) (p := p) (μ := [wlw w]) hn hp
  have lc : ∀ σ : Sl, σ[0]? = some (some (.c 0)) → σ[1]? = some (some (.t (.int (n : Int)))) → 11 < σ.length → lcL (.nm 11) tYes' e2__law_right (rgI 0 (n ^ p)) σ [wlw w] = .ok ((drL n (n ^ p) w).1.map .int) [wlw (drL n (n ^ p) w).2] := fun σ h0 h1 h11 => lc_draws fun d hd w => ⟨_, asg_nm, rfl, by simp [e2__law_right, h0, h1, draw_dr (m := n) (by omega) (by omega)]⟩
  have ht : (drL n (n ^ p) w).1.length = n ^ p := drL_len
  have hi : inR n (drL n (n ^ p) w).1 := drL_mem (by omega)
  generalize drL n (n ^ p) w = D at lc ht hi
  obtain ⟨tb, w1⟩ := D
  simp only at lc ht hi
  have z := szF_ok (ds := tb.map PV.int) (μ := [wlw w1]) (szL _ (by simp; omega))
  obtain ⟨x, w2, qx, ex⟩ := drawX w1 (n ^ p) ((n ^ p : Nat) : Int)
  obtain ⟨i, w3, qi, ei⟩ := drawX w2 8 8
  have Rl : (tb.map PV.int).length = n ^ p := by rw [List.length_map, ht]
  have sdI : ∀ y ∈ tb.map PV.int, SD 1 y := SD_ints
  have k1 := fun (bad : PV) hb hs => k1_ok (ds := ds) (tb := tb) (bad := bad) (μ := [wlw w3]) (s0 := some (.c 0)) (s1 := some (.t (.int (n : Int)))) (s4 := s4) (s5 := s5) (s6 := none) (s7 := some (.t (.int ((n ^ p : Nat) : Int)))) (s9 := some (.t (.int (x : Int)))) (s11 := none) (s12 := none) hn1 hn hp hw ht hi hb hs
  have tp : tupleV [.lst (tb.map PV.int)] = some (.tup (tb.map PV.int)) := rfl
  have g : listF [.tup (tb.map PV.int)] = some (tb.map PV.int) := rfl
  have k1' : ∀ bad, isRowB bad ((n ^ p : Nat) : Int) (n : Int) = false → SD 2 bad → k1__law_right [some (.c 0), some (.t (.int (n : Int))), some (.t (hV n ds)), some (.t (.int (p : Int))), s4, s5, none, some (.t (.int ((n ^ p : Nat) : Int))), some (.t (.tup (tb.map PV.int))), some (.t (.int (x : Int))), some (.t bad), none, none] [wlw w3] = .rt (.t (.bl true)) [wlw w3] := k1
  clear k1
  generalize tb.map PV.int = R at *
  have s1 : slV none (some (x : Int)) (.tup R) = some (.tup (R.take x)) := by rw [slV_tup, cut_to']
  have s2 : slV (some ((x : Int) + 1)) none (.tup R) = some (.tup (R.drop (x + 1))) := by rw [slV_tup, cut_from1]
  have s3 : slV (some 1) none (.tup R) = some (.tup (R.drop 1)) := by rw [slV_tup]; exact congrArg (fun l => some (PV.tup l)) (cut_from' (k := 1))
  have b1 := addV_tup (a := R) (b := [.int 0]) (by simp; omega)
  have b3 : ∀ d, addV (.tup (R.take x)) (.tup [d]) = some (.tup (R.take x ++ [d])) := fun d => addV_tup (by simp; omega)
  have b4 : ∀ d, addV (.tup (R.take x ++ [d])) (.tup (R.drop (x + 1))) = some (.tup ((R.take x ++ [d]) ++ R.drop (x + 1))) := fun d => addV_tup (by simp; omega)
  have lc3 : ∀ σ : Sl, σ[8]? = some (some (.t (.tup R))) → σ[9]? = some (some (.t (.int (x : Int)))) → 12 < σ.length → lcL (.nm 12) tYes' e3__law_right [.int (n : Int), .int (-1), .bl true, .str "0"] σ [wlw w2] = .ok ([.int (n : Int), .int (-1), .bl true, .str "0"].map fun d => .tup ((R.take x ++ [d]) ++ R.drop (x + 1))) [wlw w2] := fun σ h8 h9 h12 => lcL_map _ fun d _ => ⟨_, asg_nm, rfl, by simp [-List.append_assoc, e3__law_right, h8, h9, h12, s1, s2, b3, b4]⟩
  have z3 := szF_ok (ds := [.int (n : Int), .int (-1), .bl true, .str "0"].map fun d => PV.tup ((R.take x ++ [d]) ++ R.drop (x + 1))) (μ := [wlw w2]) (szL _ (by simp))
  have sdA : ∀ d, SD 1 d → SD 2 (.tup ((R.take x ++ [d]) ++ R.drop (x + 1))) := fun d hd => SD_tup.mpr ⟨by simp; omega, fun y hy => by
    rcases List.mem_append.mp hy with hy | hy
    · rcases List.mem_append.mp hy with hy | hy
      · exact sdI y (List.mem_of_mem_take hy)
      · rw [List.mem_singleton.mp hy]; exact hd
    · exact sdI y (List.mem_of_mem_drop hy)⟩
  obtain ⟨L, hL⟩ : ∃ L, L = [.tup (R ++ [.int 0]), .tup (R.drop 1), .lst R, .non] ++ ([.int (n : Int), .int (-1), .bl true, .str "0"].map fun d => PV.tup ((R.take x ++ [d]) ++ R.drop (x + 1))) := ⟨_, rfl⟩
  have hLl : L.length = 8 := by rw [hL]; simp
  have hLs : ∀ y ∈ L, isRowB y ((n ^ p : Nat) : Int) (n : Int) = false ∧ SD 2 y := fun y hy => by
    rw [hL] at hy
    rcases List.mem_append.mp hy with hy | hy
    · simp only [List.mem_cons, List.not_mem_nil, or_false] at hy
      rcases hy with rfl | rfl | rfl | rfl
      · refine ⟨?_, SD_tup.mpr ⟨by simp; omega, fun y hy => by
          rcases List.mem_append.mp hy with hy | hy
          · exact sdI y hy
          · rw [List.mem_singleton.mp hy]; exact SD_int⟩⟩
        have : ¬ (((R ++ [PV.int 0]).length : Int) = ((n ^ p : Nat) : Int)) := by rw [List.length_append, Rl]; simp; omega
        simp only [isRowB, this, decide_false, Bool.false_and]
      · refine ⟨?_, SD_tup.mpr ⟨by simp; omega, fun y hy => sdI y (List.mem_of_mem_drop hy)⟩⟩
        have : ¬ (((R.drop 1).length : Int) = ((n ^ p : Nat) : Int)) := by rw [List.length_drop, Rl]; omega
        simp only [isRowB, this, decide_false, Bool.false_and]
      · exact ⟨rfl, SD_lst.mpr ⟨by omega, sdI⟩⟩
      · exact ⟨rfl, SD_non⟩
    · obtain ⟨d, hd, rfl⟩ := List.mem_map.mp hy
      simp only [List.mem_cons, List.not_mem_nil, or_false] at hd
      rcases hd with rfl | rfl | rfl | rfl
      · exact ⟨row_spoilt (by simp [isThingB]), sdA _ SD_int⟩
      · exact ⟨row_spoilt (by simp [isThingB]), sdA _ SD_int⟩
      · exact ⟨row_spoilt rfl, sdA _ SD_bl⟩
      · exact ⟨row_spoilt rfl, sdA _ SD_str⟩
  obtain ⟨bad, eb, hb, hs⟩ := at_all (i := i) hLs (by omega)
  have af := addF_ok (a := [.tup (R ++ [.int 0]), .tup (R.drop 1), .lst R, .non]) (b := [.int (n : Int), .int (-1), .bl true, .str "0"].map fun d => PV.tup ((R.take x ++ [d]) ++ R.drop (x + 1))) (by simp)
  rw [← hL] at af
  have e1 := k1' bad hb hs
  have r1 := range1_ok (n := n ^ p) (μ := [wlw w]) (by omega)
  refine ⟨w3, ?_⟩
  clear hL hLs k1' hb qx
  generalize ((n ^ p : Nat) : Int) = W at *
  unfold k2__law_right
  generalize k1__law_right = K1 at e1
  generalize ([.int (n : Int), .int (-1), .bl true, .str "0"].map fun d => PV.tup ((R.take x ++ [d]) ++ R.drop (x + 1))) = L2 at *
  generalize R ++ [PV.int 0] = y1 at *
  generalize R.drop 1 = y2 at *
  simp [-listF_tup, -slV_tup, -tupleV_lst, ce, r1, wipeM, lc, z, tp, ex, b1, s3, g, lc3, z3, af, ei, eb, e1]
theorem right_w (w : W3) : ∃ w', fn__law_right [.c 0] [wlw w] = .ok (.t (.bl true)) [wlw w'] := by
  obtain ⟨n0, w1, q1, e1⟩ := drawX w 9 9
  obtain ⟨n, hn⟩ : ∃ n : Nat, n = 1 + n0 := ⟨_, rfl⟩
  have en : (1 : Int) + (n0 : Int) = (n : Int) := by omega
  obtain ⟨k3, w2, q2, e2'⟩ := drawX w1 3 3
  have lc1 : ∀ σ : Sl, σ[0]? = some (some (.c 0)) → 11 < σ.length → lcL (.nm 11) tYes' e1__law_right (rgI 0 k3) σ [wlw w2] = .ok ((drL 3 k3 w2).1.map .int) [wlw (drL 3 k3 w2).2] := fun σ h0 h7 => lc_draws fun d hd w => ⟨_, asg_nm, rfl, by simp [e1__law_right, h0, draw_lit]⟩
  obtain ⟨ps, eps, hpl, hp⟩ := nat_list (drL_mem (m := 3) (k := k3) (w := w2) (by omega))
  rw [drL_len] at hpl
  generalize drL 3 k3 w2 = D at lc1 eps
  obtain ⟨pI, w3⟩ := D
  simp only at lc1 eps
  rw [eps] at lc1
  have z1 := szF_ok (ds := ps.map (fun (p : Nat) => PV.int (p : Int))) (μ := [wlw w3]) (szL _ (by simp; omega))
  obtain ⟨ds, w4, hd, hds, e4⟩ := house_w (n := n) (ps := ps) (w := w3) (t := []) (by omega) (by omega) (by omega) (fun p hp' => by have := hp p hp'; omega)
  obtain ⟨i, w5, q5, e5⟩ := drawX w4 12 12
  obtain ⟨j, w6, q6, e6⟩ := drawX w5 5 5
  obtain ⟨odd, eo⟩ : ∃ odd : PV, atI [PV.non, .tup [], .lst [.int 0], .tup [.int (n : Int)], .str "table"] (j : Int) = some odd := ⟨_, atI_nat' (by simpa using q6)⟩
  simp only [fn__law_right, b__law_right, fnOf, startM, List.map_cons, List.map_nil, List.length_cons, List.length_nil, List.cons_append, List.nil_append, List.replicate]
  have g12 : ∀ μ, gLst [.t (.int 0), .t (.int 1), .t (.int 2), .t (.int 3), .t (.int 3), .t (.int 3), .t (.bl true), .t .non, .t (.int (-1)), .t (.int 4), .t (.str "2"), .t (.tup [.int 1])] μ = .ok [PV.int 0, .int 1, .int 2, .int 3, .int 3, .int 3, .bl true, .non, .int (-1), .int 4, .str "2", .tup [.int 1]] μ := fun μ => gLst_ok rfl (szL _ (by simp))
  generalize hPP : (ps.map (fun (p : Nat) => PV.int (p : Int))) = PP at *
  have places : (∃ p : Nat, p ≤ 3 ∧ atI [PV.int 0, .int 1, .int 2, .int 3, .int 3, .int 3, .bl true, .non, .int (-1), .int 4, .str "2", .tup [.int 1]] (i : Int) = some (.int (p : Int))) ∨ ∃ d, tyN d ≠ none ∧ isThingB 4 d = false ∧ atI [PV.int 0, .int 1, .int 2, .int 3, .int 3, .int 3, .bl true, .non, .int (-1), .int 4, .str "2", .tup [.int 1]] (i : Int) = some d := by
    have : i = 0 ∨ i = 1 ∨ i = 2 ∨ i = 3 ∨ i = 4 ∨ i = 5 ∨ i = 6 ∨ i = 7 ∨ i = 8 ∨ i = 9 ∨ i = 10 ∨ i = 11 := by omega
    rcases this with rfl | rfl | rfl | rfl | rfl | rfl | rfl | rfl | rfl | rfl | rfl | rfl
    · exact .inl ⟨0, by decide, rfl⟩
    · exact .inl ⟨1, by decide, rfl⟩
    · exact .inl ⟨2, by decide, rfl⟩
    · exact .inl ⟨3, by decide, rfl⟩
    · exact .inl ⟨3, by decide, rfl⟩
    · exact .inl ⟨3, by decide, rfl⟩
    · exact .inr ⟨_, by simp [tyN], rfl, rfl⟩
    · exact .inr ⟨_, by simp [tyN], rfl, rfl⟩
    · exact .inr ⟨.int (-1), by simp [tyN], by decide, rfl⟩
    · exact .inr ⟨.int 4, by simp [tyN], by decide, rfl⟩
    · exact .inr ⟨_, by simp [tyN], rfl, rfl⟩
    · exact .inr ⟨_, by simp [tyN], rfl, rfl⟩
  rcases places with ⟨p, hp3, ep⟩ | ⟨d, hd1, hd2, ep⟩
  · have pd := pd_ok (n := n) (p := p) (μ := [wlw w5]) (by omega) hp3
    by_cases hw : 81 < n ^ p
    · rw [if_pos hw] at pd
      have pk : ∀ μ, fn_check_places [.t (hV n ds), .t (.int (p : Int))] μ = .ex "TooMany" (some ("many", .int ((n ^ p : Nat) : Int))) μ := fun μ => by
        have := places_ok (n := n) (p := p) (ds := ds) (μ := μ) (by omega) hp3
        rwa [if_pos hw] at this
      have i1 := i1_ok (w := w6) (odd := odd) (s0 := some (.c 0)) (s1 := some (.t (.int (n : Int)))) (s7 := none) (s8 := none) (s9 := none) (s10 := none) (s11 := none) (s12 := none) (SD_2 (k := 0) SD_str SD_int) (fun h => asked_many h) pk
      have q : PM.isNon (.tup [.str "many", .int ((n ^ p : Nat) : Int)]) = false := rfl
      refine ⟨w6, ?_⟩
      generalize PV.tup [.str "many", .int ((n ^ p : Nat) : Int)] = D at *
      simp [e1, en, e2', range1_ok (n := k3) (by omega), wipeM, lc1, z1, e4, g12, e5, ep, pd, k3__law_right, e6, eo, q, i1]
    · rw [if_neg hw] at pd
      obtain ⟨w', e⟩ := k2_ok (n := n) (p := p) (ds := ds) (w := w6) (s4 := some (.t .non)) (s5 := some (.t odd)) (by omega) (by omega) hp3 (by omega)
      have q : PM.isNon .non = true := rfl
      refine ⟨w', ?_⟩
      unfold k3__law_right
      generalize k2__law_right = K2 at e
      simp [e1, en, e2', range1_ok (n := k3) (by omega), wipeM, lc1, z1, e4, g12, e5, ep, pd, e6, eo, q, e]
  · have pd := pd_bad (n := n) (μ := [wlw w5]) hd1 hd2
    have pk : ∀ μ, fn_check_places [.t (hV n ds), .t d] μ = .ex "NoRow" (some ("at", .int 0)) μ := fun μ => places_bad hd1 hd2
    have i1 := i1_ok (w := w6) (odd := odd) (s0 := some (.c 0)) (s1 := some (.t (.int (n : Int)))) (s7 := none) (s8 := none) (s9 := none) (s10 := none) (s11 := none) (s12 := none) (SD_2 (k := 0) SD_str SD_int) (fun h => asked_row h) pk
    have q : PM.isNon (.tup [.str "row", .int 0]) = false := rfl
    refine ⟨w6, ?_⟩
    generalize PV.tup [.str "row", .int 0] = D at *
    simp [e1, en, e2', range1_ok (n := k3) (by omega), wipeM, lc1, z1, e4, g12, e5, ep, pd, k3__law_right, e6, eo, q, i1]

/-! the law's turns; right_w ahead -/
theorem law_turn1 {ns : List Int} {i : Nat} {n : Int} : sScope f1_law [some (.s ns), some (.t (.int i)), some (.t (.int n))] [] = .nx [some (.s ns), some (.t (.int i)), some (.t (.int n))] [] := by
  have md := mod_ok (i := n) (j := 2147483647) (by decide)
  have pw : powV (.int 10) (.int 18) = some (.int 1000000000000000000) := rfl
  have key : ∃ z, f1_law [some (.s ns), some (.t (.int i)), some (.t (.int n))] [] = .nx [some (.s ns), some (.t (.int i)), some (.t (.int n))] [z] := by
    have w1 : inW 0 = true := by decide
    have w2 : inW 1 = true := by decide
    have w3 : inW 7919 = true := by decide
    by_cases hn : (1000000000000000000 : Int) ≤ n
    · obtain ⟨w', r⟩ := right_w (n * 1, n % 2147483647 + 7919 * i, 0)
      refine ⟨wlw w', ?_⟩
      have r' : fn__law_right [.c 0] [some (.lst [.int n, .int (n % 2147483647 + 7919 * i), .int 0])] = .ok (.t (.bl true)) [wlw w'] := by rw [← r]; simp [wlw]
      simp [f1_law, pw, hn, mulV, w1, w2, w3, md, r']
    · obtain ⟨w', r⟩ := right_w (n * 0, n % 2147483647 + 7919 * i, 0)
      refine ⟨wlw w', ?_⟩
      have r' : fn__law_right [.c 0] [some (.lst [.int 0, .int (n % 2147483647 + 7919 * i), .int 0])] = .ok (.t (.bl true)) [wlw w'] := by rw [← r]; simp [wlw]
      simp [f1_law, pw, hn, mulV, w1, w2, w3, md, r']
  obtain ⟨z, key⟩ := key
  unfold sScope
  rw [key]
  rfl
theorem law_loop (N : Int) (ns : List Int) : ∃ s1 s2, forL (.tp [(.nm 1), (.nm 2)]) (sScope f1_law) (enumP (cutG (ns.map PV.int ++ [.int 0]) none (some N))) [some (.s ns), none, none] [] = .nx [some (.s ns), s1, s2] [] := by
  have hint : ∀ d ∈ cutG (ns.map PV.int ++ [.int 0]) none (some N), ∃ n : Int, d = .int n := by
    intro d hd
    rcases List.mem_append.mp (cut_mem hd) with h | h
    · obtain ⟨n, _, rfl⟩ := List.mem_map.mp h
      exact ⟨n, rfl⟩
    · exact ⟨0, List.mem_singleton.mp h⟩
  refine forL_inv (fun (_ : Nat) (σ : Sl) (μ : Store) => μ = [] ∧ ∃ s1 s2 : Option Val, σ = [some (.s ns), s1, s2]) (fun (r : RS) => ∃ s1 s2, r = .nx [some (.s ns), s1, s2] []) ⟨rfl, none, none, rfl⟩ ?_ ?_
  · rintro i d σ μ hd ⟨rfl, s1, s2, rfl⟩
    obtain ⟨z, hz, rfl⟩ := enumP_at hd
    obtain ⟨n, rfl⟩ := hint z (List.mem_of_getElem? hz)
    exact ⟨[some (.s ns), some (.t (.int i)), some (.t (.int n))], by simp, .inl ⟨_, _, .inl law_turn1, rfl, _, _, rfl⟩⟩
  · rintro σ μ ⟨rfl, s1, s2, rfl⟩
    exact ⟨s1, s2, rfl⟩

theorem law_true : ∀ ns : List Int, ns.length ≤ 63 → fn_law [.s ns] [] = .ok (.t (.bl true)) [] := by
  intro ns hn
  have sz : ns.length + 1 ≤ sizeLine := szL _ (by omega)
  obtain ⟨s1, s2, loop⟩ := law_loop 8 ns
  have h0 : okDs 9 [] := ⟨by simp, by simp, by simp⟩
  have m0 : ∀ μ, (fi_House [.t (.int 9), .t (.lst [])] μ).bind (mkOb "House" ["size", "by_name"]) = .ok (.t (hV 9 [])) μ := fun μ => m_make (μ := μ) (n := 9) (by decide) (by decide) h0
  have pk := places_ok (n := 9) (p := 2) (ds := []) (μ := []) (by decide) (by decide)
  rw [if_neg (by decide)] at pk
  have pk' : fn_check_places [.t (hV 9 []), .t (.int 2)] [] = .ok (.t .non) [] := pk
  have st : stDue [] ((2 : Nat) : Int) 0 [.tup [.int 0]] = none := by decide +kernel
  have ck := check_steps_ok (n := 9) (ds := []) (l := [.tup [.int 0]]) (g := 2) (m := 1) (μ := []) (by simp) (fun d hd => by rw [List.mem_singleton.mp hd]; exact SB_t1 SB_int) (by decide)
  unfold chkR at ck
  have st' : stDue [] 2 0 [.tup [.int 0]] = none := st
  rw [st'] at ck
  have o := m_obj (n := ((9 : Nat) : Int)) (ds := ([] : List Dd).map dV) (m := "things") (by decide +kernel)
  have o' : PM.isObj "House" "things" (.t (hV 9 [])) = true := o
  have th : fn_House_things [.t (hV 9 [])] [] = .ok (.t (.int 9)) [] := m_things
  have ce := cells_ok (n := 9) (p := 2) (μ := []) (by decide) (by decide) (by decide) (by decide)
  have ce' : fn_cells [.t (.int 9), .t (.int 2)] [] = .ok (.t (.int 81)) [] := ce
  have ar := arg_ok (n := 9) (p := 2) (μ := []) (by decide) (by decide) (by decide)
  have ar' : fn_argument_rows [.t (.int 9), .t (.int 2)] [] = .ok (.t (.lst ((argR 9 2).map tupI))) [] := ar
  obtain ⟨rn, _⟩ := run_ok (n := 9) (w := 81) (g := 2) (ds := []) (rows := argR 9 2) (l := [.tup [.int 0]]) (μ := []) (by decide) (by decide) h0 argR_len argR_ok (by decide) st
  have rn' : fn_run [.t (hV 9 []), .t (.lst [.tup [.int 0]]), .t (.lst ((argR 9 2).map tupI)), .t (.int 81)] [] = .ok (.t (.lst [tupI (stepRow 9 [] (argR 9 2) 81 [] (.tup [.int 0]))])) [] := rn
  have a1 : ∀ x : PV, atI [x] (-1) = some x := fun x => rfl
  have e0 : PM.eqV (.lst [.tup [.int 0]]) (.lst []) = some (.bl false) := eqV_lne (k := 2) ((SD_lst (n := 1)).mpr ⟨by simp, fun x hx => by rw [List.mem_singleton.mp hx]; exact (SD_tup (n := 0)).mpr ⟨by simp, by simp⟩⟩) (by decide)
  generalize tupI (stepRow 9 [] (argR 9 2) 81 [] (.tup [.int 0])) = Z at rn'
  generalize (argR 9 2).map tupI = A at ar' rn'
  generalize hV 9 [] = B at *
  have tb : fn_table_of [.t B, .t (.lst [.tup [.int 0]]), .t (.int 2)] [] = .ok (.t Z) [] := by
    simp [fn_table_of, b_table_of, fnOf, startM, pk', ck, e0, o', th, ce', ar', rn', a1]
  have l1 : ∀ a b c, eLam fl__law_asked l1_law [a, b, c] [] = .ok (.t (.tup [.str "told", .non])) [] := fun a b c => asked_told (w := Z) (by simp [l1_law, m0, tb])
  have ee := eq_self2 (a := "told") (SD_non (n := 0)) (by decide)
  simp [fn_law, b_law, fnOf, startM, gScr, sz, loop, l1, ee]

end K29
namespace K29
open PySem PySem.Spec PyProof.Rows L2
open PM (MSt Fn fnOf)
def topS (i : Nat) : Stmt := PySem.Challenge.pw_wishdeeds_k29_deeds_refused.main.body.getD i (.Pass ⟨0, 0, 0, 0⟩)
abbrev s__law_draw : Stmt := topS 55
theorem sc__law_draw : FnScope ["_law_well", "_law_many", "_law_found", "_law_number"] ["_law_well", "_law_many"] (defScope s__law_draw) := ⟨rfl, rfl, rfl, by decide +kernel, rfl, by decide +kernel, by decide +kernel⟩
abbrev s__law_names : Stmt := topS 56
theorem sc__law_names : FnScope ["_law_well", "_law_many", "_law_letters", "_law_stem", "_law_at", "_law_first", "_law_k"] ["_law_well", "_law_many"] (defScope s__law_names) := ⟨rfl, rfl, rfl, by decide +kernel, rfl, by decide +kernel, by decide +kernel⟩
abbrev s_is_whole : Stmt := topS 14
theorem sc_is_whole : FnScope ["thing"] ["thing"] (defScope s_is_whole) := ⟨rfl, rfl, rfl, by decide +kernel, rfl, by decide +kernel, by decide +kernel⟩
abbrev s_NoHouse_init : Stmt := inClass (topS 3) 0
theorem sc_NoHouse_init : FnScope ["self", "at"] ["self", "at"] (defScope s_NoHouse_init) := ⟨rfl, rfl, rfl, by decide +kernel, rfl, by decide +kernel, by decide +kernel⟩
abbrev s_is_name : Stmt := topS 16
theorem sc_is_name : FnScope ["word", "sign"] ["word"] (defScope s_is_name) := ⟨rfl, rfl, rfl, by decide +kernel, rfl, by decide +kernel, by decide +kernel⟩
abbrev s_is_thing : Stmt := topS 15
theorem sc_is_thing : FnScope ["thing", "size"] ["thing", "size"] (defScope s_is_thing) := ⟨rfl, rfl, rfl, by decide +kernel, rfl, by decide +kernel, by decide +kernel⟩
abbrev s_is_row : Stmt := topS 17
theorem sc_is_row : FnScope ["row", "wide", "size", "one"] ["row", "wide", "size"] (defScope s_is_row) := ⟨rfl, rfl, rfl, by decide +kernel, rfl, by decide +kernel, by decide +kernel⟩
abbrev s_cells : Stmt := topS 18
theorem sc_cells : FnScope ["size", "places", "found", "k"] ["size", "places"] (defScope s_cells) := ⟨rfl, rfl, rfl, by decide +kernel, rfl, by decide +kernel, by decide +kernel⟩
abbrev s_is_deed : Stmt := topS 21
theorem sc_is_deed : FnScope ["deed", "size", "name", "places", "table"] ["deed", "size"] (defScope s_is_deed) := ⟨rfl, rfl, rfl, by decide +kernel, rfl, by decide +kernel, by decide +kernel⟩
abbrev s_House_init : Stmt := inClass (topS 22) 0
theorem sc_House_init : FnScope ["self", "size", "deeds", "found", "at", "deed"] ["self", "size", "deeds"] (defScope s_House_init) := ⟨rfl, rfl, rfl, by decide +kernel, rfl, by decide +kernel, by decide +kernel⟩
abbrev s__law_all : Stmt := topS 57
theorem sc__law_all : FnScope ["_law_size", "_law_places", "_law_found", "_law_k", "_law_longer", "_law_row", "_law_thing"] ["_law_size", "_law_places"] (defScope s__law_all) := ⟨rfl, rfl, rfl, by decide +kernel, rfl, by decide +kernel, by decide +kernel⟩
abbrev s__law_table : Stmt := topS 58
theorem sc__law_table : FnScope ["_law_well", "_law_size", "_law_places", "_law_way", "_law_number", "_law_found", "_law_things", "_law_told", "_law_cell"] ["_law_well", "_law_size", "_law_places"] (defScope s__law_table) := ⟨rfl, rfl, rfl, by decide +kernel, rfl, by decide +kernel, by decide +kernel⟩
abbrev s__law_house : Stmt := topS 59
theorem sc__law_house : FnScope ["_law_well", "_law_size", "_law_places", "_law_names_here", "_law_name", "_law_many"] ["_law_well", "_law_size", "_law_places"] (defScope s__law_house) := ⟨rfl, rfl, rfl, by decide +kernel, rfl, by decide +kernel, by decide +kernel⟩
abbrev s__law_cells : Stmt := topS 61
theorem sc__law_cells : FnScope ["_law_size", "_law_places", "_law_found", "_law_k"] ["_law_size", "_law_places"] (defScope s__law_cells) := ⟨rfl, rfl, rfl, by decide +kernel, rfl, by decide +kernel, by decide +kernel⟩
abbrev s__law_places_due : Stmt := topS 62
theorem sc__law_places_due : FnScope ["_law_size", "_law_places"] ["_law_size", "_law_places"] (defScope s__law_places_due) := ⟨rfl, rfl, rfl, by decide +kernel, rfl, by decide +kernel, by decide +kernel⟩
abbrev s_NoName_init : Stmt := inClass (topS 4) 0
theorem sc_NoName_init : FnScope ["self", "name"] ["self", "name"] (defScope s_NoName_init) := ⟨rfl, rfl, rfl, by decide +kernel, rfl, by decide +kernel, by decide +kernel⟩
abbrev s_NoPaper_init : Stmt := inClass (topS 7) 0
theorem sc_NoPaper_init : FnScope ["self", "at"] ["self", "at"] (defScope s_NoPaper_init) := ⟨rfl, rfl, rfl, by decide +kernel, rfl, by decide +kernel, by decide +kernel⟩
abbrev s_NoRow_init : Stmt := inClass (topS 5) 0
theorem sc_NoRow_init : FnScope ["self", "at"] ["self", "at"] (defScope s_NoRow_init) := ⟨rfl, rfl, rfl, by decide +kernel, rfl, by decide +kernel, by decide +kernel⟩
abbrev s_NoSteps_init : Stmt := inClass (topS 6) 0
theorem sc_NoSteps_init : FnScope ["self", "at"] ["self", "at"] (defScope s_NoSteps_init) := ⟨rfl, rfl, rfl, by decide +kernel, rfl, by decide +kernel, by decide +kernel⟩
abbrev s_TooMany_init : Stmt := inClass (topS 8) 0
theorem sc_TooMany_init : FnScope ["self", "many"] ["self", "many"] (defScope s_TooMany_init) := ⟨rfl, rfl, rfl, by decide +kernel, rfl, by decide +kernel, by decide +kernel⟩
abbrev s__law_asked : Stmt := topS 60
theorem sc__law_asked : FnScope ["_law_ask", "_law_told", "e"] ["_law_ask"] (defScope s__law_asked) := ⟨rfl, rfl, rfl, by decide +kernel, rfl, by decide +kernel, by decide +kernel⟩
abbrev s_House_things : Stmt := inClass (topS 22) 1
theorem sc_House_things : FnScope ["self"] ["self"] (defScope s_House_things) := ⟨rfl, rfl, rfl, by decide +kernel, rfl, by decide +kernel, by decide +kernel⟩
abbrev s_check_places : Stmt := topS 47
theorem sc_check_places : FnScope ["house", "places", "wide"] ["house", "places"] (defScope s_check_places) := ⟨rfl, rfl, rfl, by decide +kernel, rfl, by decide +kernel, by decide +kernel⟩
abbrev s_check_table : Stmt := topS 48
theorem sc_check_table : FnScope ["house", "places", "table"] ["house", "places", "table"] (defScope s_check_table) := ⟨rfl, rfl, rfl, by decide +kernel, rfl, by decide +kernel, by decide +kernel⟩
abbrev s_check_rows : Stmt := topS 27
theorem sc_check_rows : FnScope ["rows", "wide", "size", "at", "row"] ["rows", "wide", "size"] (defScope s_check_rows) := ⟨rfl, rfl, rfl, by decide +kernel, rfl, by decide +kernel, by decide +kernel⟩
abbrev s_Growing_init : Stmt := inClass (topS 34) 0
theorem sc_Growing_init : FnScope ["self", "house", "wide", "most"] ["self", "house", "wide", "most"] (defScope s_Growing_init) := ⟨rfl, rfl, rfl, by decide +kernel, rfl, by decide +kernel, by decide +kernel⟩
abbrev s_Growing_put : Stmt := inClass (topS 34) 1
theorem sc_Growing_put : FnScope ["self", "row", "step"] ["self", "row", "step"] (defScope s_Growing_put) := ⟨rfl, rfl, rfl, by decide +kernel, rfl, by decide +kernel, by decide +kernel⟩
abbrev s_House_deeds : Stmt := inClass (topS 22) 2
theorem sc_House_deeds : FnScope ["self"] ["self"] (defScope s_House_deeds) := ⟨rfl, rfl, rfl, by decide +kernel, rfl, by decide +kernel, by decide +kernel⟩
abbrev s_grown : Stmt := topS 35
theorem sc_grown : FnScope ["house", "rows", "wide", "most", "growing", "at", "row", "name", "places", "table"] ["house", "rows", "wide", "most"] (defScope s_grown) := ⟨rfl, rfl, rfl, by decide +kernel, rfl, by decide +kernel, by decide +kernel⟩
abbrev s_made : Stmt := topS 37
theorem sc_made : FnScope ["house", "rows", "goal", "most", "growing"] ["house", "rows", "goal", "most"] (defScope s_made) := ⟨rfl, rfl, rfl, by decide +kernel, rfl, by decide +kernel, by decide +kernel⟩
abbrev s_things_at : Stmt := topS 20
theorem sc_things_at : FnScope ["spot", "places", "size", "found", "k"] ["spot", "places", "size"] (defScope s_things_at) := ⟨rfl, rfl, rfl, by decide +kernel, rfl, by decide +kernel, by decide +kernel⟩
abbrev s_argument_rows : Stmt := topS 46
theorem sc_argument_rows : FnScope ["size", "places", "some", "spot", "k", "things"] ["size", "places"] (defScope s_argument_rows) := ⟨rfl, rfl, rfl, by decide +kernel, rfl, by decide +kernel, by decide +kernel⟩
abbrev s_term_deed : Stmt := topS 50
theorem sc_term_deed : FnScope ["house", "places", "table", "most", "answer"] ["house", "places", "table", "most"] (defScope s_term_deed) := ⟨rfl, rfl, rfl, by decide +kernel, rfl, by decide +kernel, by decide +kernel⟩
abbrev s_check_made : Stmt := topS 43
theorem sc_check_made : FnScope ["house", "rows", "goal", "answer"] ["house", "rows", "goal", "answer"] (defScope s_check_made) := ⟨rfl, rfl, rfl, by decide +kernel, rfl, by decide +kernel, by decide +kernel⟩
abbrev s_check_term : Stmt := topS 51
theorem sc_check_term : FnScope ["house", "places", "table", "answer", "rows"] ["house", "places", "table", "answer"] (defScope s_check_term) := ⟨rfl, rfl, rfl, by decide +kernel, rfl, by decide +kernel, by decide +kernel⟩
abbrev s_spread : Stmt := topS 36
theorem sc_spread : FnScope ["house", "rows", "wide", "most"] ["house", "rows", "wide", "most"] (defScope s_spread) := ⟨rfl, rfl, rfl, by decide +kernel, rfl, by decide +kernel, by decide +kernel⟩
abbrev s_deeds_made : Stmt := topS 52
theorem sc_deeds_made : FnScope ["house", "places", "most", "rows"] ["house", "places", "most"] (defScope s_deeds_made) := ⟨rfl, rfl, rfl, by decide +kernel, rfl, by decide +kernel, by decide +kernel⟩
abbrev s_is_given : Stmt := topS 24
theorem sc_is_given : FnScope ["step", "givens"] ["step", "givens"] (defScope s_is_given) := ⟨rfl, rfl, rfl, by decide +kernel, rfl, by decide +kernel, by decide +kernel⟩
abbrev s_House_names : Stmt := inClass (topS 22) 3
theorem sc_House_names : FnScope ["self"] ["self"] (defScope s_House_names) := ⟨rfl, rfl, rfl, by decide +kernel, rfl, by decide +kernel, by decide +kernel⟩
abbrev s_House_deed : Stmt := inClass (topS 22) 4
theorem sc_House_deed : FnScope ["self", "name"] ["self", "name"] (defScope s_House_deed) := ⟨rfl, rfl, rfl, by decide +kernel, rfl, by decide +kernel, by decide +kernel⟩
abbrev s_House_places : Stmt := inClass (topS 22) 5
theorem sc_House_places : FnScope ["self", "name"] ["self", "name"] (defScope s_House_places) := ⟨rfl, rfl, rfl, by decide +kernel, rfl, by decide +kernel, by decide +kernel⟩
abbrev s_is_step : Stmt := topS 25
theorem sc_is_step : FnScope ["house", "step", "at", "givens", "one"] ["house", "step", "at", "givens"] (defScope s_is_step) := ⟨rfl, rfl, rfl, by decide +kernel, rfl, by decide +kernel, by decide +kernel⟩
abbrev s_check_steps : Stmt := topS 26
theorem sc_check_steps : FnScope ["house", "steps", "givens", "at", "step"] ["house", "steps", "givens"] (defScope s_check_steps) := ⟨rfl, rfl, rfl, by decide +kernel, rfl, by decide +kernel, by decide +kernel⟩
abbrev s_spot_of : Stmt := topS 19
theorem sc_spot_of : FnScope ["things", "size", "found", "one"] ["things", "size"] (defScope s_spot_of) := ⟨rfl, rfl, rfl, by decide +kernel, rfl, by decide +kernel, by decide +kernel⟩
abbrev s_put_together : Stmt := topS 28
theorem sc_put_together : FnScope ["table", "size", "rows", "wide", "things", "one", "other"] ["table", "size", "rows", "wide"] (defScope s_put_together) := ⟨rfl, rfl, rfl, by decide +kernel, rfl, by decide +kernel, by decide +kernel⟩
abbrev s_run : Stmt := topS 29
theorem sc_run : FnScope ["house", "steps", "rows", "wide", "found", "step", "name", "places", "table", "one"] ["house", "steps", "rows", "wide"] (defScope s_run) := ⟨rfl, rfl, rfl, by decide +kernel, rfl, by decide +kernel, by decide +kernel⟩
abbrev s_table_of : Stmt := topS 53
theorem sc_table_of : FnScope ["house", "steps", "places", "wide"] ["house", "steps", "places"] (defScope s_table_of) := ⟨rfl, rfl, rfl, by decide +kernel, rfl, by decide +kernel, by decide +kernel⟩
abbrev s__law_right : Stmt := topS 63
theorem sc__law_right : FnScope ["_law_well", "_law_size", "_law_house_here", "_law_places", "_law_due", "_law_odd", "_law_found", "_law_wide", "_law_table_here", "_law_x", "_law_bad", "_law_k", "_law_one"] ["_law_well"] (defScope s__law_right) := ⟨rfl, rfl, rfl, by decide +kernel, rfl, by decide +kernel, by decide +kernel⟩
abbrev s_law : Stmt := topS 64
theorem sc_law : FnScope ["_law_script", "_law_k", "_law_cell"] ["_law_script"] (defScope s_law) := ⟨rfl, rfl, rfl, by decide +kernel, rfl, by decide +kernel, by decide +kernel⟩
def d__law_draw : He.DefD := ⟨("_law_draw", none), "_law_draw", "_law_draw", defArgs s__law_draw, defBody s__law_draw, defScope s__law_draw, [], []⟩
def d__law_names : He.DefD := ⟨("_law_names", none), "_law_names", "_law_names", defArgs s__law_names, defBody s__law_names, defScope s__law_names, [], []⟩
def d_is_whole : He.DefD := ⟨("is_whole", none), "is_whole", "is_whole", defArgs s_is_whole, defBody s_is_whole, defScope s_is_whole, [], []⟩
def d_NoHouse_init : He.DefD := ⟨("NoHouse", some "__init__"), "__init__", "NoHouse.__init__", defArgs s_NoHouse_init, defBody s_NoHouse_init, defScope s_NoHouse_init, [], []⟩
def d_is_name : He.DefD := ⟨("is_name", none), "is_name", "is_name", defArgs s_is_name, defBody s_is_name, defScope s_is_name, [], []⟩
def d_is_thing : He.DefD := ⟨("is_thing", none), "is_thing", "is_thing", defArgs s_is_thing, defBody s_is_thing, defScope s_is_thing, [], []⟩
def d_is_row : He.DefD := ⟨("is_row", none), "is_row", "is_row", defArgs s_is_row, defBody s_is_row, defScope s_is_row, [], []⟩
def d_cells : He.DefD := ⟨("cells", none), "cells", "cells", defArgs s_cells, defBody s_cells, defScope s_cells, [], []⟩
def d_is_deed : He.DefD := ⟨("is_deed", none), "is_deed", "is_deed", defArgs s_is_deed, defBody s_is_deed, defScope s_is_deed, [], []⟩
def d_House_init : He.DefD := ⟨("House", some "__init__"), "__init__", "House.__init__", defArgs s_House_init, defBody s_House_init, defScope s_House_init, [], []⟩
def d__law_all : He.DefD := ⟨("_law_all", none), "_law_all", "_law_all", defArgs s__law_all, defBody s__law_all, defScope s__law_all, [], []⟩
def d__law_table : He.DefD := ⟨("_law_table", none), "_law_table", "_law_table", defArgs s__law_table, defBody s__law_table, defScope s__law_table, [], []⟩
def d__law_house : He.DefD := ⟨("_law_house", none), "_law_house", "_law_house", defArgs s__law_house, defBody s__law_house, defScope s__law_house, [], []⟩
def d__law_cells : He.DefD := ⟨("_law_cells", none), "_law_cells", "_law_cells", defArgs s__law_cells, defBody s__law_cells, defScope s__law_cells, [], []⟩
def d__law_places_due : He.DefD := ⟨("_law_places_due", none), "_law_places_due", "_law_places_due", defArgs s__law_places_due, defBody s__law_places_due, defScope s__law_places_due, [], []⟩
def d_NoName_init : He.DefD := ⟨("NoName", some "__init__"), "__init__", "NoName.__init__", defArgs s_NoName_init, defBody s_NoName_init, defScope s_NoName_init, [], []⟩
def d_NoPaper_init : He.DefD := ⟨("NoPaper", some "__init__"), "__init__", "NoPaper.__init__", defArgs s_NoPaper_init, defBody s_NoPaper_init, defScope s_NoPaper_init, [], []⟩
def d_NoRow_init : He.DefD := ⟨("NoRow", some "__init__"), "__init__", "NoRow.__init__", defArgs s_NoRow_init, defBody s_NoRow_init, defScope s_NoRow_init, [], []⟩
def d_NoSteps_init : He.DefD := ⟨("NoSteps", some "__init__"), "__init__", "NoSteps.__init__", defArgs s_NoSteps_init, defBody s_NoSteps_init, defScope s_NoSteps_init, [], []⟩
def d_TooMany_init : He.DefD := ⟨("TooMany", some "__init__"), "__init__", "TooMany.__init__", defArgs s_TooMany_init, defBody s_TooMany_init, defScope s_TooMany_init, [], []⟩
def d__law_asked : He.DefD := ⟨("_law_asked", none), "_law_asked", "_law_asked", defArgs s__law_asked, defBody s__law_asked, defScope s__law_asked, [], []⟩
def d_House_things : He.DefD := ⟨("House", some "things"), "things", "House.things", defArgs s_House_things, defBody s_House_things, defScope s_House_things, [], []⟩
def d_check_places : He.DefD := ⟨("check_places", none), "check_places", "check_places", defArgs s_check_places, defBody s_check_places, defScope s_check_places, [], []⟩
def d_check_table : He.DefD := ⟨("check_table", none), "check_table", "check_table", defArgs s_check_table, defBody s_check_table, defScope s_check_table, [], []⟩
def d_check_rows : He.DefD := ⟨("check_rows", none), "check_rows", "check_rows", defArgs s_check_rows, defBody s_check_rows, defScope s_check_rows, [], []⟩
def d_Growing_init : He.DefD := ⟨("Growing", some "__init__"), "__init__", "Growing.__init__", defArgs s_Growing_init, defBody s_Growing_init, defScope s_Growing_init, [], []⟩
def d_Growing_put : He.DefD := ⟨("Growing", some "put"), "put", "Growing.put", defArgs s_Growing_put, defBody s_Growing_put, defScope s_Growing_put, [], []⟩
def d_House_deeds : He.DefD := ⟨("House", some "deeds"), "deeds", "House.deeds", defArgs s_House_deeds, defBody s_House_deeds, defScope s_House_deeds, [], []⟩
def d_grown : He.DefD := ⟨("grown", none), "grown", "grown", defArgs s_grown, defBody s_grown, defScope s_grown, [], []⟩
def d_made : He.DefD := ⟨("made", none), "made", "made", defArgs s_made, defBody s_made, defScope s_made, [.int 200], []⟩
def d_things_at : He.DefD := ⟨("things_at", none), "things_at", "things_at", defArgs s_things_at, defBody s_things_at, defScope s_things_at, [], []⟩
def d_argument_rows : He.DefD := ⟨("argument_rows", none), "argument_rows", "argument_rows", defArgs s_argument_rows, defBody s_argument_rows, defScope s_argument_rows, [], []⟩
def d_term_deed : He.DefD := ⟨("term_deed", none), "term_deed", "term_deed", defArgs s_term_deed, defBody s_term_deed, defScope s_term_deed, [.int 200], []⟩
def d_check_made : He.DefD := ⟨("check_made", none), "check_made", "check_made", defArgs s_check_made, defBody s_check_made, defScope s_check_made, [], []⟩
def d_check_term : He.DefD := ⟨("check_term", none), "check_term", "check_term", defArgs s_check_term, defBody s_check_term, defScope s_check_term, [], []⟩
def d_spread : He.DefD := ⟨("spread", none), "spread", "spread", defArgs s_spread, defBody s_spread, defScope s_spread, [.int 200], []⟩
def d_deeds_made : He.DefD := ⟨("deeds_made", none), "deeds_made", "deeds_made", defArgs s_deeds_made, defBody s_deeds_made, defScope s_deeds_made, [.int 200], []⟩
def d_is_given : He.DefD := ⟨("is_given", none), "is_given", "is_given", defArgs s_is_given, defBody s_is_given, defScope s_is_given, [], []⟩
def d_House_names : He.DefD := ⟨("House", some "names"), "names", "House.names", defArgs s_House_names, defBody s_House_names, defScope s_House_names, [], []⟩
def d_House_deed : He.DefD := ⟨("House", some "deed"), "deed", "House.deed", defArgs s_House_deed, defBody s_House_deed, defScope s_House_deed, [], []⟩
def d_House_places : He.DefD := ⟨("House", some "places"), "places", "House.places", defArgs s_House_places, defBody s_House_places, defScope s_House_places, [], []⟩
def d_is_step : He.DefD := ⟨("is_step", none), "is_step", "is_step", defArgs s_is_step, defBody s_is_step, defScope s_is_step, [], []⟩
def d_check_steps : He.DefD := ⟨("check_steps", none), "check_steps", "check_steps", defArgs s_check_steps, defBody s_check_steps, defScope s_check_steps, [], []⟩
def d_spot_of : He.DefD := ⟨("spot_of", none), "spot_of", "spot_of", defArgs s_spot_of, defBody s_spot_of, defScope s_spot_of, [], []⟩
def d_put_together : He.DefD := ⟨("put_together", none), "put_together", "put_together", defArgs s_put_together, defBody s_put_together, defScope s_put_together, [], []⟩
def d_run : He.DefD := ⟨("run", none), "run", "run", defArgs s_run, defBody s_run, defScope s_run, [], []⟩
def d_table_of : He.DefD := ⟨("table_of", none), "table_of", "table_of", defArgs s_table_of, defBody s_table_of, defScope s_table_of, [], []⟩
def d__law_right : He.DefD := ⟨("_law_right", none), "_law_right", "_law_right", defArgs s__law_right, defBody s__law_right, defScope s__law_right, [], []⟩
def d_law : He.DefD := ⟨("law", none), "law", "law", defArgs s_law, defBody s_law, defScope s_law, [], []⟩
abbrev mks : List Str := ["_law_right", "law"]
def fn : List He.DefD := [d__law_draw, d__law_names, d_is_whole, d_NoHouse_init, d_is_name, d_is_thing, d_is_row, d_cells, d_is_deed, d_House_init, d__law_all, d__law_table, d__law_house, d__law_cells, d__law_places_due, d_NoName_init, d_NoPaper_init, d_NoRow_init, d_NoSteps_init, d_TooMany_init, d__law_asked, d_House_things, d_check_places, d_check_table, d_check_rows, d_Growing_init, d_Growing_put, d_House_deeds, d_grown, d_made, d_things_at, d_argument_rows, d_term_deed, d_check_made, d_check_term, d_spread, d_deeds_made, d_is_given, d_House_names, d_House_deed, d_House_places, d_is_step, d_check_steps, d_spot_of, d_put_together, d_run, d_table_of, d__law_right, d_law]
def fa : List He.Fa := [.int "MOST_DEEDS" 6, .int "MOST_PLACES" 3, .int "MOST_THINGS" 9, .int "MOST_WIDE" 81, .str "SMALL" "abcdefghijklmnopqrstuvwxyz", .free "all", .free "bool", .free "enumerate", .free "int", .free "isinstance", .free "len", .free "list", .free "max", .free "min", .free "range", .free "sorted", .free "str", .free "sum", .free "tuple", .free "zip", .glo "Growing", .glo "House", .glo "NoHouse", .glo "NoName", .glo "NoPaper", .glo "NoRow", .glo "NoSteps", .glo "TooMany", .glo "WishError", .glo "_law_asked", .glo "_law_draw", .glo "_law_names", .glo "is_whole", .glo "is_name", .glo "is_thing", .glo "is_row", .glo "cells", .glo "is_deed", .glo "_law_all", .glo "_law_table", .glo "_law_house", .glo "_law_cells", .glo "_law_places_due", .glo "check_places", .glo "check_table", .glo "check_rows", .glo "grown", .glo "made", .glo "things_at", .glo "argument_rows", .glo "term_deed", .glo "check_made", .glo "check_term", .glo "spread", .glo "deeds_made", .glo "is_given", .glo "is_step", .glo "check_steps", .glo "spot_of", .glo "put_together", .glo "run", .glo "table_of", .glo "_law_right", .glo "law", .cls "Growing", .cls "House", .meth "Growing" "put", .meth "House" "deed", .meth "House" "deeds", .meth "House" "names", .meth "House" "places", .meth "House" "things", .mkr "Growing", .mkr "House", .noat "Growing" "house", .noat "Growing" "most", .noat "Growing" "numbers", .noat "Growing" "rows", .noat "Growing" "steps", .noat "Growing" "wide", .noat "House" "by_name", .noat "House" "size", .exm "NoHouse" "NoHouse" true, .exm "NoHouse" "NoName" false, .exm "NoHouse" "NoPaper" false, .exm "NoHouse" "NoRow" false, .exm "NoHouse" "NoSteps" false, .exm "NoHouse" "TooMany" false, .exm "NoName" "NoHouse" false, .exm "NoName" "NoName" true, .exm "NoName" "NoPaper" false, .exm "NoName" "NoRow" false, .exm "NoName" "NoSteps" false, .exm "NoName" "TooMany" false, .exm "NoPaper" "NoHouse" false, .exm "NoPaper" "NoName" false, .exm "NoPaper" "NoPaper" true, .exm "NoPaper" "NoRow" false, .exm "NoPaper" "NoSteps" false, .exm "NoPaper" "TooMany" false, .exm "NoRow" "NoHouse" false, .exm "NoRow" "NoName" false, .exm "NoRow" "NoPaper" false, .exm "NoRow" "NoRow" true, .exm "NoRow" "NoSteps" false, .exm "NoRow" "TooMany" false, .exm "NoSteps" "NoHouse" false, .exm "NoSteps" "NoName" false, .exm "NoSteps" "NoPaper" false, .exm "NoSteps" "NoRow" false, .exm "NoSteps" "NoSteps" true, .exm "NoSteps" "TooMany" false, .exm "TooMany" "NoHouse" false, .exm "TooMany" "NoName" false, .exm "TooMany" "NoPaper" false, .exm "TooMany" "NoRow" false, .exm "TooMany" "NoSteps" false, .exm "TooMany" "TooMany" true]
def fx : List WD.Fx := [.oex "NoHouse", .ini "NoHouse", .noa "NoHouse" "at", .exd "NoHouse", .oex "NoName", .ini "NoName", .noa "NoName" "name", .exd "NoName", .oex "NoPaper", .ini "NoPaper", .noa "NoPaper" "at", .exd "NoPaper", .oex "NoRow", .ini "NoRow", .noa "NoRow" "at", .exd "NoRow", .oex "NoSteps", .ini "NoSteps", .noa "NoSteps" "at", .exd "NoSteps", .oex "TooMany", .ini "TooMany", .noa "TooMany" "many", .exd "TooMany", .par "WishError", .kit "NoHouse" "NoHouse" true, .kit "NoHouse" "NoName" false, .kit "NoHouse" "NoPaper" false, .kit "NoHouse" "NoRow" false, .kit "NoHouse" "NoSteps" false, .kit "NoHouse" "TooMany" false, .kiv "NoHouse" "ValueError" true, .kit "NoName" "NoHouse" false, .kit "NoName" "NoName" true, .kit "NoName" "NoPaper" false, .kit "NoName" "NoRow" false, .kit "NoName" "NoSteps" false, .kit "NoName" "TooMany" false, .kiv "NoName" "ValueError" true, .kit "NoPaper" "NoHouse" false, .kit "NoPaper" "NoName" false, .kit "NoPaper" "NoPaper" true, .kit "NoPaper" "NoRow" false, .kit "NoPaper" "NoSteps" false, .kit "NoPaper" "TooMany" false, .kiv "NoPaper" "ValueError" true, .kit "NoRow" "NoHouse" false, .kit "NoRow" "NoName" false, .kit "NoRow" "NoPaper" false, .kit "NoRow" "NoRow" true, .kit "NoRow" "NoSteps" false, .kit "NoRow" "TooMany" false, .kiv "NoRow" "ValueError" true, .kit "NoSteps" "NoHouse" false, .kit "NoSteps" "NoName" false, .kit "NoSteps" "NoPaper" false, .kit "NoSteps" "NoRow" false, .kit "NoSteps" "NoSteps" true, .kit "NoSteps" "TooMany" false, .kiv "NoSteps" "ValueError" true, .kit "TooMany" "NoHouse" false, .kit "TooMany" "NoName" false, .kit "TooMany" "NoPaper" false, .kit "TooMany" "NoRow" false, .kit "TooMany" "NoSteps" false, .kit "TooMany" "TooMany" true, .kiv "TooMany" "ValueError" true]
structure Tx (K : PySem.W.Frag) (mg : Str → Option Value) : Prop where
  c_MOST_DEEDS : ∃ t, mg "MOST_DEEDS" = some (.int 6 t)
  c_MOST_PLACES : ∃ t, mg "MOST_PLACES" = some (.int 3 t)
  c_MOST_THINGS : ∃ t, mg "MOST_THINGS" = some (.int 9 t)
  c_MOST_WIDE : ∃ t, mg "MOST_WIDE" = some (.int 81 t)
  c_SMALL : ∃ t, mg "SMALL" = some (.str "abcdefghijklmnopqrstuvwxyz" t)
  z_all : mg "all" = none
  z_bool : mg "bool" = none
  z_enumerate : mg "enumerate" = none
  z_int : mg "int" = none
  z_isinstance : mg "isinstance" = none
  z_len : mg "len" = none
  z_list : mg "list" = none
  z_max : mg "max" = none
  z_min : mg "min" = none
  z_range : mg "range" = none
  z_sorted : mg "sorted" = none
  z_str : mg "str" = none
  z_sum : mg "sum" = none
  z_tuple : mg "tuple" = none
  z_zip : mg "zip" = none
  g_Growing : mg "Growing" = some (.ref (He.ga K "Growing"))
  g_House : mg "House" = some (.ref (He.ga K "House"))
  g_NoHouse : mg "NoHouse" = some (.ref (He.ga K "NoHouse"))
  g_NoName : mg "NoName" = some (.ref (He.ga K "NoName"))
  g_NoPaper : mg "NoPaper" = some (.ref (He.ga K "NoPaper"))
  g_NoRow : mg "NoRow" = some (.ref (He.ga K "NoRow"))
  g_NoSteps : mg "NoSteps" = some (.ref (He.ga K "NoSteps"))
  g_TooMany : mg "TooMany" = some (.ref (He.ga K "TooMany"))
  g_WishError : mg "WishError" = some (.ref (He.ga K "WishError"))
  g__law_asked : mg "_law_asked" = some (.ref (He.ga K "_law_asked"))
  g__law_draw : mg "_law_draw" = some (.ref (He.ga K "_law_draw"))
  g__law_names : mg "_law_names" = some (.ref (He.ga K "_law_names"))
  g_is_whole : mg "is_whole" = some (.ref (He.ga K "is_whole"))
  g_is_name : mg "is_name" = some (.ref (He.ga K "is_name"))
  g_is_thing : mg "is_thing" = some (.ref (He.ga K "is_thing"))
  g_is_row : mg "is_row" = some (.ref (He.ga K "is_row"))
  g_cells : mg "cells" = some (.ref (He.ga K "cells"))
  g_is_deed : mg "is_deed" = some (.ref (He.ga K "is_deed"))
  g__law_all : mg "_law_all" = some (.ref (He.ga K "_law_all"))
  g__law_table : mg "_law_table" = some (.ref (He.ga K "_law_table"))
  g__law_house : mg "_law_house" = some (.ref (He.ga K "_law_house"))
  g__law_cells : mg "_law_cells" = some (.ref (He.ga K "_law_cells"))
  g__law_places_due : mg "_law_places_due" = some (.ref (He.ga K "_law_places_due"))
  g_check_places : mg "check_places" = some (.ref (He.ga K "check_places"))
  g_check_table : mg "check_table" = some (.ref (He.ga K "check_table"))
  g_check_rows : mg "check_rows" = some (.ref (He.ga K "check_rows"))
  g_grown : mg "grown" = some (.ref (He.ga K "grown"))
  g_made : mg "made" = some (.ref (He.ga K "made"))
  g_things_at : mg "things_at" = some (.ref (He.ga K "things_at"))
  g_argument_rows : mg "argument_rows" = some (.ref (He.ga K "argument_rows"))
  g_term_deed : mg "term_deed" = some (.ref (He.ga K "term_deed"))
  g_check_made : mg "check_made" = some (.ref (He.ga K "check_made"))
  g_check_term : mg "check_term" = some (.ref (He.ga K "check_term"))
  g_spread : mg "spread" = some (.ref (He.ga K "spread"))
  g_deeds_made : mg "deeds_made" = some (.ref (He.ga K "deeds_made"))
  g_is_given : mg "is_given" = some (.ref (He.ga K "is_given"))
  g_is_step : mg "is_step" = some (.ref (He.ga K "is_step"))
  g_check_steps : mg "check_steps" = some (.ref (He.ga K "check_steps"))
  g_spot_of : mg "spot_of" = some (.ref (He.ga K "spot_of"))
  g_put_together : mg "put_together" = some (.ref (He.ga K "put_together"))
  g_run : mg "run" = some (.ref (He.ga K "run"))
  g_table_of : mg "table_of" = some (.ref (He.ga K "table_of"))
  g__law_right : mg "_law_right" = some (.ref (He.ga K "_law_right"))
  g_law : mg "law" = some (.ref (He.ga K "law"))
  cl_Growing : Cls K (He.ga K "Growing")
  cl_House : Cls K (He.ga K "House")
  mt_Growing_put : Meth K (He.ga K "Growing") "put" (He.ma K (He.ga K "Growing") "put")
  mt_House_deed : Meth K (He.ga K "House") "deed" (He.ma K (He.ga K "House") "deed")
  mt_House_deeds : Meth K (He.ga K "House") "deeds" (He.ma K (He.ga K "House") "deeds")
  mt_House_names : Meth K (He.ga K "House") "names" (He.ma K (He.ga K "House") "names")
  mt_House_places : Meth K (He.ga K "House") "places" (He.ma K (He.ga K "House") "places")
  mt_House_things : Meth K (He.ga K "House") "things" (He.ma K (He.ga K "House") "things")
  mk_Growing : Mk K (He.ga K "Growing") (He.ma K (He.ga K "Growing") "__init__")
  mk_House : Mk K (He.ga K "House") (He.ma K (He.ga K "House") "__init__")
  na_Growing_house : NoAttr K (He.ga K "Growing") "house"
  na_Growing_most : NoAttr K (He.ga K "Growing") "most"
  na_Growing_numbers : NoAttr K (He.ga K "Growing") "numbers"
  na_Growing_rows : NoAttr K (He.ga K "Growing") "rows"
  na_Growing_steps : NoAttr K (He.ga K "Growing") "steps"
  na_Growing_wide : NoAttr K (He.ga K "Growing") "wide"
  na_House_by_name : NoAttr K (He.ga K "House") "by_name"
  na_House_size : NoAttr K (He.ga K "House") "size"
  ox_NoHouse : OexC K (He.ga K "NoHouse")
  ix_NoHouse : PySem.W.findIn K (.ref (He.ga K "NoHouse")) "__init__" = some (some (.ref (He.ma K (He.ga K "NoHouse") "__init__"))) ∧ PySem.W.typeIn K (.ref (He.ma K (He.ga K "NoHouse") "__init__")) = some (.type "function")
  nx_NoHouse : PySem.W.findIn K (.ref (He.ga K "NoHouse")) "at" = some none
  ex_NoHouse : WD.ExD K (He.ga K "NoHouse")
  ox_NoName : OexC K (He.ga K "NoName")
  ix_NoName : PySem.W.findIn K (.ref (He.ga K "NoName")) "__init__" = some (some (.ref (He.ma K (He.ga K "NoName") "__init__"))) ∧ PySem.W.typeIn K (.ref (He.ma K (He.ga K "NoName") "__init__")) = some (.type "function")
  nx_NoName : PySem.W.findIn K (.ref (He.ga K "NoName")) "name" = some none
  ex_NoName : WD.ExD K (He.ga K "NoName")
  ox_NoPaper : OexC K (He.ga K "NoPaper")
  ix_NoPaper : PySem.W.findIn K (.ref (He.ga K "NoPaper")) "__init__" = some (some (.ref (He.ma K (He.ga K "NoPaper") "__init__"))) ∧ PySem.W.typeIn K (.ref (He.ma K (He.ga K "NoPaper") "__init__")) = some (.type "function")
  nx_NoPaper : PySem.W.findIn K (.ref (He.ga K "NoPaper")) "at" = some none
  ex_NoPaper : WD.ExD K (He.ga K "NoPaper")
  ox_NoRow : OexC K (He.ga K "NoRow")
  ix_NoRow : PySem.W.findIn K (.ref (He.ga K "NoRow")) "__init__" = some (some (.ref (He.ma K (He.ga K "NoRow") "__init__"))) ∧ PySem.W.typeIn K (.ref (He.ma K (He.ga K "NoRow") "__init__")) = some (.type "function")
  nx_NoRow : PySem.W.findIn K (.ref (He.ga K "NoRow")) "at" = some none
  ex_NoRow : WD.ExD K (He.ga K "NoRow")
  ox_NoSteps : OexC K (He.ga K "NoSteps")
  ix_NoSteps : PySem.W.findIn K (.ref (He.ga K "NoSteps")) "__init__" = some (some (.ref (He.ma K (He.ga K "NoSteps") "__init__"))) ∧ PySem.W.typeIn K (.ref (He.ma K (He.ga K "NoSteps") "__init__")) = some (.type "function")
  nx_NoSteps : PySem.W.findIn K (.ref (He.ga K "NoSteps")) "at" = some none
  ex_NoSteps : WD.ExD K (He.ga K "NoSteps")
  ox_TooMany : OexC K (He.ga K "TooMany")
  ix_TooMany : PySem.W.findIn K (.ref (He.ga K "TooMany")) "__init__" = some (some (.ref (He.ma K (He.ga K "TooMany") "__init__"))) ∧ PySem.W.typeIn K (.ref (He.ma K (He.ga K "TooMany") "__init__")) = some (.type "function")
  nx_TooMany : PySem.W.findIn K (.ref (He.ga K "TooMany")) "many" = some none
  ex_TooMany : WD.ExD K (He.ga K "TooMany")
  px_WishError : WD.Par K (He.ga K "WishError")
  em_NoHouse_NoHouse : PySem.W.exmOne K (.ref (He.ga K "NoHouse")) (.ref (He.ga K "NoHouse")) = some true
  ki_NoHouse_NoHouse : PySem.W.kitOne K (.ref (He.ga K "NoHouse")) (.ref (He.ga K "NoHouse")) = some true
  em_NoHouse_NoName : PySem.W.exmOne K (.ref (He.ga K "NoHouse")) (.ref (He.ga K "NoName")) = some false
  ki_NoHouse_NoName : PySem.W.kitOne K (.ref (He.ga K "NoHouse")) (.ref (He.ga K "NoName")) = some false
  em_NoHouse_NoPaper : PySem.W.exmOne K (.ref (He.ga K "NoHouse")) (.ref (He.ga K "NoPaper")) = some false
  ki_NoHouse_NoPaper : PySem.W.kitOne K (.ref (He.ga K "NoHouse")) (.ref (He.ga K "NoPaper")) = some false
  em_NoHouse_NoRow : PySem.W.exmOne K (.ref (He.ga K "NoHouse")) (.ref (He.ga K "NoRow")) = some false
  ki_NoHouse_NoRow : PySem.W.kitOne K (.ref (He.ga K "NoHouse")) (.ref (He.ga K "NoRow")) = some false
  em_NoHouse_NoSteps : PySem.W.exmOne K (.ref (He.ga K "NoHouse")) (.ref (He.ga K "NoSteps")) = some false
  ki_NoHouse_NoSteps : PySem.W.kitOne K (.ref (He.ga K "NoHouse")) (.ref (He.ga K "NoSteps")) = some false
  em_NoHouse_TooMany : PySem.W.exmOne K (.ref (He.ga K "NoHouse")) (.ref (He.ga K "TooMany")) = some false
  ki_NoHouse_TooMany : PySem.W.kitOne K (.ref (He.ga K "NoHouse")) (.ref (He.ga K "TooMany")) = some false
  kv_NoHouse : PySem.W.kitOne K (.ref (He.ga K "NoHouse")) (.type "ValueError") = some true
  em_NoName_NoHouse : PySem.W.exmOne K (.ref (He.ga K "NoName")) (.ref (He.ga K "NoHouse")) = some false
  ki_NoName_NoHouse : PySem.W.kitOne K (.ref (He.ga K "NoName")) (.ref (He.ga K "NoHouse")) = some false
  em_NoName_NoName : PySem.W.exmOne K (.ref (He.ga K "NoName")) (.ref (He.ga K "NoName")) = some true
  ki_NoName_NoName : PySem.W.kitOne K (.ref (He.ga K "NoName")) (.ref (He.ga K "NoName")) = some true
  em_NoName_NoPaper : PySem.W.exmOne K (.ref (He.ga K "NoName")) (.ref (He.ga K "NoPaper")) = some false
  ki_NoName_NoPaper : PySem.W.kitOne K (.ref (He.ga K "NoName")) (.ref (He.ga K "NoPaper")) = some false
  em_NoName_NoRow : PySem.W.exmOne K (.ref (He.ga K "NoName")) (.ref (He.ga K "NoRow")) = some false
  ki_NoName_NoRow : PySem.W.kitOne K (.ref (He.ga K "NoName")) (.ref (He.ga K "NoRow")) = some false
  em_NoName_NoSteps : PySem.W.exmOne K (.ref (He.ga K "NoName")) (.ref (He.ga K "NoSteps")) = some false
  ki_NoName_NoSteps : PySem.W.kitOne K (.ref (He.ga K "NoName")) (.ref (He.ga K "NoSteps")) = some false
  em_NoName_TooMany : PySem.W.exmOne K (.ref (He.ga K "NoName")) (.ref (He.ga K "TooMany")) = some false
  ki_NoName_TooMany : PySem.W.kitOne K (.ref (He.ga K "NoName")) (.ref (He.ga K "TooMany")) = some false
  kv_NoName : PySem.W.kitOne K (.ref (He.ga K "NoName")) (.type "ValueError") = some true
  em_NoPaper_NoHouse : PySem.W.exmOne K (.ref (He.ga K "NoPaper")) (.ref (He.ga K "NoHouse")) = some false
  ki_NoPaper_NoHouse : PySem.W.kitOne K (.ref (He.ga K "NoPaper")) (.ref (He.ga K "NoHouse")) = some false
  em_NoPaper_NoName : PySem.W.exmOne K (.ref (He.ga K "NoPaper")) (.ref (He.ga K "NoName")) = some false
  ki_NoPaper_NoName : PySem.W.kitOne K (.ref (He.ga K "NoPaper")) (.ref (He.ga K "NoName")) = some false
  em_NoPaper_NoPaper : PySem.W.exmOne K (.ref (He.ga K "NoPaper")) (.ref (He.ga K "NoPaper")) = some true
  ki_NoPaper_NoPaper : PySem.W.kitOne K (.ref (He.ga K "NoPaper")) (.ref (He.ga K "NoPaper")) = some true
  em_NoPaper_NoRow : PySem.W.exmOne K (.ref (He.ga K "NoPaper")) (.ref (He.ga K "NoRow")) = some false
  ki_NoPaper_NoRow : PySem.W.kitOne K (.ref (He.ga K "NoPaper")) (.ref (He.ga K "NoRow")) = some false
  em_NoPaper_NoSteps : PySem.W.exmOne K (.ref (He.ga K "NoPaper")) (.ref (He.ga K "NoSteps")) = some false
  ki_NoPaper_NoSteps : PySem.W.kitOne K (.ref (He.ga K "NoPaper")) (.ref (He.ga K "NoSteps")) = some false
  em_NoPaper_TooMany : PySem.W.exmOne K (.ref (He.ga K "NoPaper")) (.ref (He.ga K "TooMany")) = some false
  ki_NoPaper_TooMany : PySem.W.kitOne K (.ref (He.ga K "NoPaper")) (.ref (He.ga K "TooMany")) = some false
  kv_NoPaper : PySem.W.kitOne K (.ref (He.ga K "NoPaper")) (.type "ValueError") = some true
  em_NoRow_NoHouse : PySem.W.exmOne K (.ref (He.ga K "NoRow")) (.ref (He.ga K "NoHouse")) = some false
  ki_NoRow_NoHouse : PySem.W.kitOne K (.ref (He.ga K "NoRow")) (.ref (He.ga K "NoHouse")) = some false
  em_NoRow_NoName : PySem.W.exmOne K (.ref (He.ga K "NoRow")) (.ref (He.ga K "NoName")) = some false
  ki_NoRow_NoName : PySem.W.kitOne K (.ref (He.ga K "NoRow")) (.ref (He.ga K "NoName")) = some false
  em_NoRow_NoPaper : PySem.W.exmOne K (.ref (He.ga K "NoRow")) (.ref (He.ga K "NoPaper")) = some false
  ki_NoRow_NoPaper : PySem.W.kitOne K (.ref (He.ga K "NoRow")) (.ref (He.ga K "NoPaper")) = some false
  em_NoRow_NoRow : PySem.W.exmOne K (.ref (He.ga K "NoRow")) (.ref (He.ga K "NoRow")) = some true
  ki_NoRow_NoRow : PySem.W.kitOne K (.ref (He.ga K "NoRow")) (.ref (He.ga K "NoRow")) = some true
  em_NoRow_NoSteps : PySem.W.exmOne K (.ref (He.ga K "NoRow")) (.ref (He.ga K "NoSteps")) = some false
  ki_NoRow_NoSteps : PySem.W.kitOne K (.ref (He.ga K "NoRow")) (.ref (He.ga K "NoSteps")) = some false
  em_NoRow_TooMany : PySem.W.exmOne K (.ref (He.ga K "NoRow")) (.ref (He.ga K "TooMany")) = some false
  ki_NoRow_TooMany : PySem.W.kitOne K (.ref (He.ga K "NoRow")) (.ref (He.ga K "TooMany")) = some false
  kv_NoRow : PySem.W.kitOne K (.ref (He.ga K "NoRow")) (.type "ValueError") = some true
  em_NoSteps_NoHouse : PySem.W.exmOne K (.ref (He.ga K "NoSteps")) (.ref (He.ga K "NoHouse")) = some false
  ki_NoSteps_NoHouse : PySem.W.kitOne K (.ref (He.ga K "NoSteps")) (.ref (He.ga K "NoHouse")) = some false
  em_NoSteps_NoName : PySem.W.exmOne K (.ref (He.ga K "NoSteps")) (.ref (He.ga K "NoName")) = some false
  ki_NoSteps_NoName : PySem.W.kitOne K (.ref (He.ga K "NoSteps")) (.ref (He.ga K "NoName")) = some false
  em_NoSteps_NoPaper : PySem.W.exmOne K (.ref (He.ga K "NoSteps")) (.ref (He.ga K "NoPaper")) = some false
  ki_NoSteps_NoPaper : PySem.W.kitOne K (.ref (He.ga K "NoSteps")) (.ref (He.ga K "NoPaper")) = some false
  em_NoSteps_NoRow : PySem.W.exmOne K (.ref (He.ga K "NoSteps")) (.ref (He.ga K "NoRow")) = some false
  ki_NoSteps_NoRow : PySem.W.kitOne K (.ref (He.ga K "NoSteps")) (.ref (He.ga K "NoRow")) = some false
  em_NoSteps_NoSteps : PySem.W.exmOne K (.ref (He.ga K "NoSteps")) (.ref (He.ga K "NoSteps")) = some true
  ki_NoSteps_NoSteps : PySem.W.kitOne K (.ref (He.ga K "NoSteps")) (.ref (He.ga K "NoSteps")) = some true
  em_NoSteps_TooMany : PySem.W.exmOne K (.ref (He.ga K "NoSteps")) (.ref (He.ga K "TooMany")) = some false
  ki_NoSteps_TooMany : PySem.W.kitOne K (.ref (He.ga K "NoSteps")) (.ref (He.ga K "TooMany")) = some false
  kv_NoSteps : PySem.W.kitOne K (.ref (He.ga K "NoSteps")) (.type "ValueError") = some true
  em_TooMany_NoHouse : PySem.W.exmOne K (.ref (He.ga K "TooMany")) (.ref (He.ga K "NoHouse")) = some false
  ki_TooMany_NoHouse : PySem.W.kitOne K (.ref (He.ga K "TooMany")) (.ref (He.ga K "NoHouse")) = some false
  em_TooMany_NoName : PySem.W.exmOne K (.ref (He.ga K "TooMany")) (.ref (He.ga K "NoName")) = some false
  ki_TooMany_NoName : PySem.W.kitOne K (.ref (He.ga K "TooMany")) (.ref (He.ga K "NoName")) = some false
  em_TooMany_NoPaper : PySem.W.exmOne K (.ref (He.ga K "TooMany")) (.ref (He.ga K "NoPaper")) = some false
  ki_TooMany_NoPaper : PySem.W.kitOne K (.ref (He.ga K "TooMany")) (.ref (He.ga K "NoPaper")) = some false
  em_TooMany_NoRow : PySem.W.exmOne K (.ref (He.ga K "TooMany")) (.ref (He.ga K "NoRow")) = some false
  ki_TooMany_NoRow : PySem.W.kitOne K (.ref (He.ga K "TooMany")) (.ref (He.ga K "NoRow")) = some false
  em_TooMany_NoSteps : PySem.W.exmOne K (.ref (He.ga K "TooMany")) (.ref (He.ga K "NoSteps")) = some false
  ki_TooMany_NoSteps : PySem.W.kitOne K (.ref (He.ga K "TooMany")) (.ref (He.ga K "NoSteps")) = some false
  em_TooMany_TooMany : PySem.W.exmOne K (.ref (He.ga K "TooMany")) (.ref (He.ga K "TooMany")) = some true
  ki_TooMany_TooMany : PySem.W.kitOne K (.ref (He.ga K "TooMany")) (.ref (He.ga K "TooMany")) = some true
  kv_TooMany : PySem.W.kitOne K (.ref (He.ga K "TooMany")) (.type "ValueError") = some true
  F__law_draw : ∃ fd, FunD K "_law_draw" "_law_draw" (defArgs s__law_draw) (defBody s__law_draw) (defScope s__law_draw) [] [] (He.ga K "_law_draw") fd
  F__law_names : ∃ fd, FunD K "_law_names" "_law_names" (defArgs s__law_names) (defBody s__law_names) (defScope s__law_names) [] [] (He.ga K "_law_names") fd
  F_is_whole : ∃ fd, FunD K "is_whole" "is_whole" (defArgs s_is_whole) (defBody s_is_whole) (defScope s_is_whole) [] [] (He.ga K "is_whole") fd
  F_NoHouse_init : ∃ fd, FunD K "__init__" "NoHouse.__init__" (defArgs s_NoHouse_init) (defBody s_NoHouse_init) (defScope s_NoHouse_init) [] [] (He.ma K (He.ga K "NoHouse") "__init__") fd
  F_is_name : ∃ fd, FunD K "is_name" "is_name" (defArgs s_is_name) (defBody s_is_name) (defScope s_is_name) [] [] (He.ga K "is_name") fd
  F_is_thing : ∃ fd, FunD K "is_thing" "is_thing" (defArgs s_is_thing) (defBody s_is_thing) (defScope s_is_thing) [] [] (He.ga K "is_thing") fd
  F_is_row : ∃ fd, FunD K "is_row" "is_row" (defArgs s_is_row) (defBody s_is_row) (defScope s_is_row) [] [] (He.ga K "is_row") fd
  F_cells : ∃ fd, FunD K "cells" "cells" (defArgs s_cells) (defBody s_cells) (defScope s_cells) [] [] (He.ga K "cells") fd
  F_is_deed : ∃ fd, FunD K "is_deed" "is_deed" (defArgs s_is_deed) (defBody s_is_deed) (defScope s_is_deed) [] [] (He.ga K "is_deed") fd
  F_House_init : ∃ fd, FunD K "__init__" "House.__init__" (defArgs s_House_init) (defBody s_House_init) (defScope s_House_init) [] [] (He.ma K (He.ga K "House") "__init__") fd
  F__law_all : ∃ fd, FunD K "_law_all" "_law_all" (defArgs s__law_all) (defBody s__law_all) (defScope s__law_all) [] [] (He.ga K "_law_all") fd
  F__law_table : ∃ fd, FunD K "_law_table" "_law_table" (defArgs s__law_table) (defBody s__law_table) (defScope s__law_table) [] [] (He.ga K "_law_table") fd
  F__law_house : ∃ fd, FunD K "_law_house" "_law_house" (defArgs s__law_house) (defBody s__law_house) (defScope s__law_house) [] [] (He.ga K "_law_house") fd
  F__law_cells : ∃ fd, FunD K "_law_cells" "_law_cells" (defArgs s__law_cells) (defBody s__law_cells) (defScope s__law_cells) [] [] (He.ga K "_law_cells") fd
  F__law_places_due : ∃ fd, FunD K "_law_places_due" "_law_places_due" (defArgs s__law_places_due) (defBody s__law_places_due) (defScope s__law_places_due) [] [] (He.ga K "_law_places_due") fd
  F_NoName_init : ∃ fd, FunD K "__init__" "NoName.__init__" (defArgs s_NoName_init) (defBody s_NoName_init) (defScope s_NoName_init) [] [] (He.ma K (He.ga K "NoName") "__init__") fd
  F_NoPaper_init : ∃ fd, FunD K "__init__" "NoPaper.__init__" (defArgs s_NoPaper_init) (defBody s_NoPaper_init) (defScope s_NoPaper_init) [] [] (He.ma K (He.ga K "NoPaper") "__init__") fd
  F_NoRow_init : ∃ fd, FunD K "__init__" "NoRow.__init__" (defArgs s_NoRow_init) (defBody s_NoRow_init) (defScope s_NoRow_init) [] [] (He.ma K (He.ga K "NoRow") "__init__") fd
  F_NoSteps_init : ∃ fd, FunD K "__init__" "NoSteps.__init__" (defArgs s_NoSteps_init) (defBody s_NoSteps_init) (defScope s_NoSteps_init) [] [] (He.ma K (He.ga K "NoSteps") "__init__") fd
  F_TooMany_init : ∃ fd, FunD K "__init__" "TooMany.__init__" (defArgs s_TooMany_init) (defBody s_TooMany_init) (defScope s_TooMany_init) [] [] (He.ma K (He.ga K "TooMany") "__init__") fd
  F__law_asked : ∃ fd, FunD K "_law_asked" "_law_asked" (defArgs s__law_asked) (defBody s__law_asked) (defScope s__law_asked) [] [] (He.ga K "_law_asked") fd
  F_House_things : ∃ fd, FunD K "things" "House.things" (defArgs s_House_things) (defBody s_House_things) (defScope s_House_things) [] [] (He.ma K (He.ga K "House") "things") fd
  F_check_places : ∃ fd, FunD K "check_places" "check_places" (defArgs s_check_places) (defBody s_check_places) (defScope s_check_places) [] [] (He.ga K "check_places") fd
  F_check_table : ∃ fd, FunD K "check_table" "check_table" (defArgs s_check_table) (defBody s_check_table) (defScope s_check_table) [] [] (He.ga K "check_table") fd
  F_check_rows : ∃ fd, FunD K "check_rows" "check_rows" (defArgs s_check_rows) (defBody s_check_rows) (defScope s_check_rows) [] [] (He.ga K "check_rows") fd
  F_Growing_init : ∃ fd, FunD K "__init__" "Growing.__init__" (defArgs s_Growing_init) (defBody s_Growing_init) (defScope s_Growing_init) [] [] (He.ma K (He.ga K "Growing") "__init__") fd
  F_Growing_put : ∃ fd, FunD K "put" "Growing.put" (defArgs s_Growing_put) (defBody s_Growing_put) (defScope s_Growing_put) [] [] (He.ma K (He.ga K "Growing") "put") fd
  F_House_deeds : ∃ fd, FunD K "deeds" "House.deeds" (defArgs s_House_deeds) (defBody s_House_deeds) (defScope s_House_deeds) [] [] (He.ma K (He.ga K "House") "deeds") fd
  F_grown : ∃ fd, FunD K "grown" "grown" (defArgs s_grown) (defBody s_grown) (defScope s_grown) [] [] (He.ga K "grown") fd
  F_made : ∃ fd, FunD K "made" "made" (defArgs s_made) (defBody s_made) (defScope s_made) [.int 200] [] (He.ga K "made") fd
  F_things_at : ∃ fd, FunD K "things_at" "things_at" (defArgs s_things_at) (defBody s_things_at) (defScope s_things_at) [] [] (He.ga K "things_at") fd
  F_argument_rows : ∃ fd, FunD K "argument_rows" "argument_rows" (defArgs s_argument_rows) (defBody s_argument_rows) (defScope s_argument_rows) [] [] (He.ga K "argument_rows") fd
  F_term_deed : ∃ fd, FunD K "term_deed" "term_deed" (defArgs s_term_deed) (defBody s_term_deed) (defScope s_term_deed) [.int 200] [] (He.ga K "term_deed") fd
  F_check_made : ∃ fd, FunD K "check_made" "check_made" (defArgs s_check_made) (defBody s_check_made) (defScope s_check_made) [] [] (He.ga K "check_made") fd
  F_check_term : ∃ fd, FunD K "check_term" "check_term" (defArgs s_check_term) (defBody s_check_term) (defScope s_check_term) [] [] (He.ga K "check_term") fd
  F_spread : ∃ fd, FunD K "spread" "spread" (defArgs s_spread) (defBody s_spread) (defScope s_spread) [.int 200] [] (He.ga K "spread") fd
  F_deeds_made : ∃ fd, FunD K "deeds_made" "deeds_made" (defArgs s_deeds_made) (defBody s_deeds_made) (defScope s_deeds_made) [.int 200] [] (He.ga K "deeds_made") fd
  F_is_given : ∃ fd, FunD K "is_given" "is_given" (defArgs s_is_given) (defBody s_is_given) (defScope s_is_given) [] [] (He.ga K "is_given") fd
  F_House_names : ∃ fd, FunD K "names" "House.names" (defArgs s_House_names) (defBody s_House_names) (defScope s_House_names) [] [] (He.ma K (He.ga K "House") "names") fd
  F_House_deed : ∃ fd, FunD K "deed" "House.deed" (defArgs s_House_deed) (defBody s_House_deed) (defScope s_House_deed) [] [] (He.ma K (He.ga K "House") "deed") fd
  F_House_places : ∃ fd, FunD K "places" "House.places" (defArgs s_House_places) (defBody s_House_places) (defScope s_House_places) [] [] (He.ma K (He.ga K "House") "places") fd
  F_is_step : ∃ fd, FunD K "is_step" "is_step" (defArgs s_is_step) (defBody s_is_step) (defScope s_is_step) [] [] (He.ga K "is_step") fd
  F_check_steps : ∃ fd, FunD K "check_steps" "check_steps" (defArgs s_check_steps) (defBody s_check_steps) (defScope s_check_steps) [] [] (He.ga K "check_steps") fd
  F_spot_of : ∃ fd, FunD K "spot_of" "spot_of" (defArgs s_spot_of) (defBody s_spot_of) (defScope s_spot_of) [] [] (He.ga K "spot_of") fd
  F_put_together : ∃ fd, FunD K "put_together" "put_together" (defArgs s_put_together) (defBody s_put_together) (defScope s_put_together) [] [] (He.ga K "put_together") fd
  F_run : ∃ fd, FunD K "run" "run" (defArgs s_run) (defBody s_run) (defScope s_run) [] [] (He.ga K "run") fd
  F_table_of : ∃ fd, FunD K "table_of" "table_of" (defArgs s_table_of) (defBody s_table_of) (defScope s_table_of) [] [] (He.ga K "table_of") fd
  F__law_right : ∃ fd, FunD K "_law_right" "_law_right" (defArgs s__law_right) (defBody s__law_right) (defScope s__law_right) [] [] (He.ga K "_law_right") fd
  F_law : ∃ fd, FunD K "law" "law" (defArgs s_law) (defBody s_law) (defScope s_law) [] [] (He.ga K "law") fd
theorem mkTx {K : PySem.W.Frag} {h : Heap} {mg : Str → Option Value} (X : K.In h) (G : h.Ns mainGlobals mg) (c : WD.SaysE fa fn fx K) : Tx K mg :=
  { c_MOST_DEEDS := He.int_ok X G (c.says.fact 0 (f := .int "MOST_DEEDS" 6) rfl),
    c_MOST_PLACES := He.int_ok X G (c.says.fact 1 (f := .int "MOST_PLACES" 3) rfl),
    c_MOST_THINGS := He.int_ok X G (c.says.fact 2 (f := .int "MOST_THINGS" 9) rfl),
    c_MOST_WIDE := He.int_ok X G (c.says.fact 3 (f := .int "MOST_WIDE" 81) rfl),
    c_SMALL := He.str_ok X G (c.says.fact 4 (f := .str "SMALL" "abcdefghijklmnopqrstuvwxyz") rfl),
    z_all := He.free_ok X G (c.says.fact 5 (f := .free "all") rfl),
    z_bool := He.free_ok X G (c.says.fact 6 (f := .free "bool") rfl),
    z_enumerate := He.free_ok X G (c.says.fact 7 (f := .free "enumerate") rfl),
    z_int := He.free_ok X G (c.says.fact 8 (f := .free "int") rfl),
    z_isinstance := He.free_ok X G (c.says.fact 9 (f := .free "isinstance") rfl),
    z_len := He.free_ok X G (c.says.fact 10 (f := .free "len") rfl),
    z_list := He.free_ok X G (c.says.fact 11 (f := .free "list") rfl),
    z_max := He.free_ok X G (c.says.fact 12 (f := .free "max") rfl),
    z_min := He.free_ok X G (c.says.fact 13 (f := .free "min") rfl),
    z_range := He.free_ok X G (c.says.fact 14 (f := .free "range") rfl),
    z_sorted := He.free_ok X G (c.says.fact 15 (f := .free "sorted") rfl),
    z_str := He.free_ok X G (c.says.fact 16 (f := .free "str") rfl),
    z_sum := He.free_ok X G (c.says.fact 17 (f := .free "sum") rfl),
    z_tuple := He.free_ok X G (c.says.fact 18 (f := .free "tuple") rfl),
    z_zip := He.free_ok X G (c.says.fact 19 (f := .free "zip") rfl),
    g_Growing := He.glo_ok X G (c.says.fact 20 (f := .glo "Growing") rfl),
    g_House := He.glo_ok X G (c.says.fact 21 (f := .glo "House") rfl),
    g_NoHouse := He.glo_ok X G (c.says.fact 22 (f := .glo "NoHouse") rfl),
    g_NoName := He.glo_ok X G (c.says.fact 23 (f := .glo "NoName") rfl),
    g_NoPaper := He.glo_ok X G (c.says.fact 24 (f := .glo "NoPaper") rfl),
    g_NoRow := He.glo_ok X G (c.says.fact 25 (f := .glo "NoRow") rfl),
    g_NoSteps := He.glo_ok X G (c.says.fact 26 (f := .glo "NoSteps") rfl),
    g_TooMany := He.glo_ok X G (c.says.fact 27 (f := .glo "TooMany") rfl),
    g_WishError := He.glo_ok X G (c.says.fact 28 (f := .glo "WishError") rfl),
    g__law_asked := He.glo_ok X G (c.says.fact 29 (f := .glo "_law_asked") rfl),
    g__law_draw := He.glo_ok X G (c.says.fact 30 (f := .glo "_law_draw") rfl),
    g__law_names := He.glo_ok X G (c.says.fact 31 (f := .glo "_law_names") rfl),
    g_is_whole := He.glo_ok X G (c.says.fact 32 (f := .glo "is_whole") rfl),
    g_is_name := He.glo_ok X G (c.says.fact 33 (f := .glo "is_name") rfl),
    g_is_thing := He.glo_ok X G (c.says.fact 34 (f := .glo "is_thing") rfl),
    g_is_row := He.glo_ok X G (c.says.fact 35 (f := .glo "is_row") rfl),
    g_cells := He.glo_ok X G (c.says.fact 36 (f := .glo "cells") rfl),
    g_is_deed := He.glo_ok X G (c.says.fact 37 (f := .glo "is_deed") rfl),
    g__law_all := He.glo_ok X G (c.says.fact 38 (f := .glo "_law_all") rfl),
    g__law_table := He.glo_ok X G (c.says.fact 39 (f := .glo "_law_table") rfl),
    g__law_house := He.glo_ok X G (c.says.fact 40 (f := .glo "_law_house") rfl),
    g__law_cells := He.glo_ok X G (c.says.fact 41 (f := .glo "_law_cells") rfl),
    g__law_places_due := He.glo_ok X G (c.says.fact 42 (f := .glo "_law_places_due") rfl),
    g_check_places := He.glo_ok X G (c.says.fact 43 (f := .glo "check_places") rfl),
    g_check_table := He.glo_ok X G (c.says.fact 44 (f := .glo "check_table") rfl),
    g_check_rows := He.glo_ok X G (c.says.fact 45 (f := .glo "check_rows") rfl),
    g_grown := He.glo_ok X G (c.says.fact 46 (f := .glo "grown") rfl),
    g_made := He.glo_ok X G (c.says.fact 47 (f := .glo "made") rfl),
    g_things_at := He.glo_ok X G (c.says.fact 48 (f := .glo "things_at") rfl),
    g_argument_rows := He.glo_ok X G (c.says.fact 49 (f := .glo "argument_rows") rfl),
    g_term_deed := He.glo_ok X G (c.says.fact 50 (f := .glo "term_deed") rfl),
    g_check_made := He.glo_ok X G (c.says.fact 51 (f := .glo "check_made") rfl),
    g_check_term := He.glo_ok X G (c.says.fact 52 (f := .glo "check_term") rfl),
    g_spread := He.glo_ok X G (c.says.fact 53 (f := .glo "spread") rfl),
    g_deeds_made := He.glo_ok X G (c.says.fact 54 (f := .glo "deeds_made") rfl),
    g_is_given := He.glo_ok X G (c.says.fact 55 (f := .glo "is_given") rfl),
    g_is_step := He.glo_ok X G (c.says.fact 56 (f := .glo "is_step") rfl),
    g_check_steps := He.glo_ok X G (c.says.fact 57 (f := .glo "check_steps") rfl),
    g_spot_of := He.glo_ok X G (c.says.fact 58 (f := .glo "spot_of") rfl),
    g_put_together := He.glo_ok X G (c.says.fact 59 (f := .glo "put_together") rfl),
    g_run := He.glo_ok X G (c.says.fact 60 (f := .glo "run") rfl),
    g_table_of := He.glo_ok X G (c.says.fact 61 (f := .glo "table_of") rfl),
    g__law_right := He.glo_ok X G (c.says.fact 62 (f := .glo "_law_right") rfl),
    g_law := He.glo_ok X G (c.says.fact 63 (f := .glo "law") rfl),
    cl_Growing := He.cls_ok (c.says.fact 64 (f := .cls "Growing") rfl),
    cl_House := He.cls_ok (c.says.fact 65 (f := .cls "House") rfl),
    mt_Growing_put := He.meth_ok (c.says.fact 66 (f := .meth "Growing" "put") rfl),
    mt_House_deed := He.meth_ok (c.says.fact 67 (f := .meth "House" "deed") rfl),
    mt_House_deeds := He.meth_ok (c.says.fact 68 (f := .meth "House" "deeds") rfl),
    mt_House_names := He.meth_ok (c.says.fact 69 (f := .meth "House" "names") rfl),
    mt_House_places := He.meth_ok (c.says.fact 70 (f := .meth "House" "places") rfl),
    mt_House_things := He.meth_ok (c.says.fact 71 (f := .meth "House" "things") rfl),
    mk_Growing := He.mkr_ok (c.says.fact 72 (f := .mkr "Growing") rfl),
    mk_House := He.mkr_ok (c.says.fact 73 (f := .mkr "House") rfl),
    na_Growing_house := He.noat_ok (c.says.fact 74 (f := .noat "Growing" "house") rfl),
    na_Growing_most := He.noat_ok (c.says.fact 75 (f := .noat "Growing" "most") rfl),
    na_Growing_numbers := He.noat_ok (c.says.fact 76 (f := .noat "Growing" "numbers") rfl),
    na_Growing_rows := He.noat_ok (c.says.fact 77 (f := .noat "Growing" "rows") rfl),
    na_Growing_steps := He.noat_ok (c.says.fact 78 (f := .noat "Growing" "steps") rfl),
    na_Growing_wide := He.noat_ok (c.says.fact 79 (f := .noat "Growing" "wide") rfl),
    na_House_by_name := He.noat_ok (c.says.fact 80 (f := .noat "House" "by_name") rfl),
    na_House_size := He.noat_ok (c.says.fact 81 (f := .noat "House" "size") rfl),
    ox_NoHouse := WD.oex_ok (c.own 0 (f := .oex "NoHouse") rfl),
    ix_NoHouse := WD.ini_ok (c.own 1 (f := .ini "NoHouse") rfl),
    nx_NoHouse := WD.noa_ok (c.own 2 (f := .noa "NoHouse" "at") rfl),
    ex_NoHouse := WD.exd_ok' (c.own 3 (f := .exd "NoHouse") rfl),
    ox_NoName := WD.oex_ok (c.own 4 (f := .oex "NoName") rfl),
    ix_NoName := WD.ini_ok (c.own 5 (f := .ini "NoName") rfl),
    nx_NoName := WD.noa_ok (c.own 6 (f := .noa "NoName" "name") rfl),
    ex_NoName := WD.exd_ok' (c.own 7 (f := .exd "NoName") rfl),
    ox_NoPaper := WD.oex_ok (c.own 8 (f := .oex "NoPaper") rfl),
    ix_NoPaper := WD.ini_ok (c.own 9 (f := .ini "NoPaper") rfl),
    nx_NoPaper := WD.noa_ok (c.own 10 (f := .noa "NoPaper" "at") rfl),
    ex_NoPaper := WD.exd_ok' (c.own 11 (f := .exd "NoPaper") rfl),
    ox_NoRow := WD.oex_ok (c.own 12 (f := .oex "NoRow") rfl),
    ix_NoRow := WD.ini_ok (c.own 13 (f := .ini "NoRow") rfl),
    nx_NoRow := WD.noa_ok (c.own 14 (f := .noa "NoRow" "at") rfl),
    ex_NoRow := WD.exd_ok' (c.own 15 (f := .exd "NoRow") rfl),
    ox_NoSteps := WD.oex_ok (c.own 16 (f := .oex "NoSteps") rfl),
    ix_NoSteps := WD.ini_ok (c.own 17 (f := .ini "NoSteps") rfl),
    nx_NoSteps := WD.noa_ok (c.own 18 (f := .noa "NoSteps" "at") rfl),
    ex_NoSteps := WD.exd_ok' (c.own 19 (f := .exd "NoSteps") rfl),
    ox_TooMany := WD.oex_ok (c.own 20 (f := .oex "TooMany") rfl),
    ix_TooMany := WD.ini_ok (c.own 21 (f := .ini "TooMany") rfl),
    nx_TooMany := WD.noa_ok (c.own 22 (f := .noa "TooMany" "many") rfl),
    ex_TooMany := WD.exd_ok' (c.own 23 (f := .exd "TooMany") rfl),
    px_WishError := WD.par_ok (c.own 24 (f := .par "WishError") rfl),
    em_NoHouse_NoHouse := He.exm_ok (c.says.fact 82 (f := .exm "NoHouse" "NoHouse" true) rfl),
    ki_NoHouse_NoHouse := WD.kit_ok (c.own 25 (f := .kit "NoHouse" "NoHouse" true) rfl),
    em_NoHouse_NoName := He.exm_ok (c.says.fact 83 (f := .exm "NoHouse" "NoName" false) rfl),
    ki_NoHouse_NoName := WD.kit_ok (c.own 26 (f := .kit "NoHouse" "NoName" false) rfl),
    em_NoHouse_NoPaper := He.exm_ok (c.says.fact 84 (f := .exm "NoHouse" "NoPaper" false) rfl),
    ki_NoHouse_NoPaper := WD.kit_ok (c.own 27 (f := .kit "NoHouse" "NoPaper" false) rfl),
    em_NoHouse_NoRow := He.exm_ok (c.says.fact 85 (f := .exm "NoHouse" "NoRow" false) rfl),
    ki_NoHouse_NoRow := WD.kit_ok (c.own 28 (f := .kit "NoHouse" "NoRow" false) rfl),
    em_NoHouse_NoSteps := He.exm_ok (c.says.fact 86 (f := .exm "NoHouse" "NoSteps" false) rfl),
    ki_NoHouse_NoSteps := WD.kit_ok (c.own 29 (f := .kit "NoHouse" "NoSteps" false) rfl),
    em_NoHouse_TooMany := He.exm_ok (c.says.fact 87 (f := .exm "NoHouse" "TooMany" false) rfl),
    ki_NoHouse_TooMany := WD.kit_ok (c.own 30 (f := .kit "NoHouse" "TooMany" false) rfl),
    kv_NoHouse := WD.kiv_ok (c.own 31 (f := .kiv "NoHouse" "ValueError" true) rfl),
    em_NoName_NoHouse := He.exm_ok (c.says.fact 88 (f := .exm "NoName" "NoHouse" false) rfl),
    ki_NoName_NoHouse := WD.kit_ok (c.own 32 (f := .kit "NoName" "NoHouse" false) rfl),
    em_NoName_NoName := He.exm_ok (c.says.fact 89 (f := .exm "NoName" "NoName" true) rfl),
    ki_NoName_NoName := WD.kit_ok (c.own 33 (f := .kit "NoName" "NoName" true) rfl),
    em_NoName_NoPaper := He.exm_ok (c.says.fact 90 (f := .exm "NoName" "NoPaper" false) rfl),
    ki_NoName_NoPaper := WD.kit_ok (c.own 34 (f := .kit "NoName" "NoPaper" false) rfl),
    em_NoName_NoRow := He.exm_ok (c.says.fact 91 (f := .exm "NoName" "NoRow" false) rfl),
    ki_NoName_NoRow := WD.kit_ok (c.own 35 (f := .kit "NoName" "NoRow" false) rfl),
    em_NoName_NoSteps := He.exm_ok (c.says.fact 92 (f := .exm "NoName" "NoSteps" false) rfl),
    ki_NoName_NoSteps := WD.kit_ok (c.own 36 (f := .kit "NoName" "NoSteps" false) rfl),
    em_NoName_TooMany := He.exm_ok (c.says.fact 93 (f := .exm "NoName" "TooMany" false) rfl),
    ki_NoName_TooMany := WD.kit_ok (c.own 37 (f := .kit "NoName" "TooMany" false) rfl),
    kv_NoName := WD.kiv_ok (c.own 38 (f := .kiv "NoName" "ValueError" true) rfl),
    em_NoPaper_NoHouse := He.exm_ok (c.says.fact 94 (f := .exm "NoPaper" "NoHouse" false) rfl),
    ki_NoPaper_NoHouse := WD.kit_ok (c.own 39 (f := .kit "NoPaper" "NoHouse" false) rfl),
    em_NoPaper_NoName := He.exm_ok (c.says.fact 95 (f := .exm "NoPaper" "NoName" false) rfl),
    ki_NoPaper_NoName := WD.kit_ok (c.own 40 (f := .kit "NoPaper" "NoName" false) rfl),
    em_NoPaper_NoPaper := He.exm_ok (c.says.fact 96 (f := .exm "NoPaper" "NoPaper" true) rfl),
    ki_NoPaper_NoPaper := WD.kit_ok (c.own 41 (f := .kit "NoPaper" "NoPaper" true) rfl),
    em_NoPaper_NoRow := He.exm_ok (c.says.fact 97 (f := .exm "NoPaper" "NoRow" false) rfl),
    ki_NoPaper_NoRow := WD.kit_ok (c.own 42 (f := .kit "NoPaper" "NoRow" false) rfl),
    em_NoPaper_NoSteps := He.exm_ok (c.says.fact 98 (f := .exm "NoPaper" "NoSteps" false) rfl),
    ki_NoPaper_NoSteps := WD.kit_ok (c.own 43 (f := .kit "NoPaper" "NoSteps" false) rfl),
    em_NoPaper_TooMany := He.exm_ok (c.says.fact 99 (f := .exm "NoPaper" "TooMany" false) rfl),
    ki_NoPaper_TooMany := WD.kit_ok (c.own 44 (f := .kit "NoPaper" "TooMany" false) rfl),
    kv_NoPaper := WD.kiv_ok (c.own 45 (f := .kiv "NoPaper" "ValueError" true) rfl),
    em_NoRow_NoHouse := He.exm_ok (c.says.fact 100 (f := .exm "NoRow" "NoHouse" false) rfl),
    ki_NoRow_NoHouse := WD.kit_ok (c.own 46 (f := .kit "NoRow" "NoHouse" false) rfl),
    em_NoRow_NoName := He.exm_ok (c.says.fact 101 (f := .exm "NoRow" "NoName" false) rfl),
    ki_NoRow_NoName := WD.kit_ok (c.own 47 (f := .kit "NoRow" "NoName" false) rfl),
    em_NoRow_NoPaper := He.exm_ok (c.says.fact 102 (f := .exm "NoRow" "NoPaper" false) rfl),
    ki_NoRow_NoPaper := WD.kit_ok (c.own 48 (f := .kit "NoRow" "NoPaper" false) rfl),
    em_NoRow_NoRow := He.exm_ok (c.says.fact 103 (f := .exm "NoRow" "NoRow" true) rfl),
    ki_NoRow_NoRow := WD.kit_ok (c.own 49 (f := .kit "NoRow" "NoRow" true) rfl),
    em_NoRow_NoSteps := He.exm_ok (c.says.fact 104 (f := .exm "NoRow" "NoSteps" false) rfl),
    ki_NoRow_NoSteps := WD.kit_ok (c.own 50 (f := .kit "NoRow" "NoSteps" false) rfl),
    em_NoRow_TooMany := He.exm_ok (c.says.fact 105 (f := .exm "NoRow" "TooMany" false) rfl),
    ki_NoRow_TooMany := WD.kit_ok (c.own 51 (f := .kit "NoRow" "TooMany" false) rfl),
    kv_NoRow := WD.kiv_ok (c.own 52 (f := .kiv "NoRow" "ValueError" true) rfl),
    em_NoSteps_NoHouse := He.exm_ok (c.says.fact 106 (f := .exm "NoSteps" "NoHouse" false) rfl),
    ki_NoSteps_NoHouse := WD.kit_ok (c.own 53 (f := .kit "NoSteps" "NoHouse" false) rfl),
    em_NoSteps_NoName := He.exm_ok (c.says.fact 107 (f := .exm "NoSteps" "NoName" false) rfl),
    ki_NoSteps_NoName := WD.kit_ok (c.own 54 (f := .kit "NoSteps" "NoName" false) rfl),
    em_NoSteps_NoPaper := He.exm_ok (c.says.fact 108 (f := .exm "NoSteps" "NoPaper" false) rfl),
    ki_NoSteps_NoPaper := WD.kit_ok (c.own 55 (f := .kit "NoSteps" "NoPaper" false) rfl),
    em_NoSteps_NoRow := He.exm_ok (c.says.fact 109 (f := .exm "NoSteps" "NoRow" false) rfl),
    ki_NoSteps_NoRow := WD.kit_ok (c.own 56 (f := .kit "NoSteps" "NoRow" false) rfl),
    em_NoSteps_NoSteps := He.exm_ok (c.says.fact 110 (f := .exm "NoSteps" "NoSteps" true) rfl),
    ki_NoSteps_NoSteps := WD.kit_ok (c.own 57 (f := .kit "NoSteps" "NoSteps" true) rfl),
    em_NoSteps_TooMany := He.exm_ok (c.says.fact 111 (f := .exm "NoSteps" "TooMany" false) rfl),
    ki_NoSteps_TooMany := WD.kit_ok (c.own 58 (f := .kit "NoSteps" "TooMany" false) rfl),
    kv_NoSteps := WD.kiv_ok (c.own 59 (f := .kiv "NoSteps" "ValueError" true) rfl),
    em_TooMany_NoHouse := He.exm_ok (c.says.fact 112 (f := .exm "TooMany" "NoHouse" false) rfl),
    ki_TooMany_NoHouse := WD.kit_ok (c.own 60 (f := .kit "TooMany" "NoHouse" false) rfl),
    em_TooMany_NoName := He.exm_ok (c.says.fact 113 (f := .exm "TooMany" "NoName" false) rfl),
    ki_TooMany_NoName := WD.kit_ok (c.own 61 (f := .kit "TooMany" "NoName" false) rfl),
    em_TooMany_NoPaper := He.exm_ok (c.says.fact 114 (f := .exm "TooMany" "NoPaper" false) rfl),
    ki_TooMany_NoPaper := WD.kit_ok (c.own 62 (f := .kit "TooMany" "NoPaper" false) rfl),
    em_TooMany_NoRow := He.exm_ok (c.says.fact 115 (f := .exm "TooMany" "NoRow" false) rfl),
    ki_TooMany_NoRow := WD.kit_ok (c.own 63 (f := .kit "TooMany" "NoRow" false) rfl),
    em_TooMany_NoSteps := He.exm_ok (c.says.fact 116 (f := .exm "TooMany" "NoSteps" false) rfl),
    ki_TooMany_NoSteps := WD.kit_ok (c.own 64 (f := .kit "TooMany" "NoSteps" false) rfl),
    em_TooMany_TooMany := He.exm_ok (c.says.fact 117 (f := .exm "TooMany" "TooMany" true) rfl),
    ki_TooMany_TooMany := WD.kit_ok (c.own 65 (f := .kit "TooMany" "TooMany" true) rfl),
    kv_TooMany := WD.kiv_ok (c.own 66 (f := .kiv "TooMany" "ValueError" true) rfl),
    F__law_draw := c.says.def_ 0 (d := d__law_draw) rfl,
    F__law_names := c.says.def_ 1 (d := d__law_names) rfl,
    F_is_whole := c.says.def_ 2 (d := d_is_whole) rfl,
    F_NoHouse_init := c.says.def_ 3 (d := d_NoHouse_init) rfl,
    F_is_name := c.says.def_ 4 (d := d_is_name) rfl,
    F_is_thing := c.says.def_ 5 (d := d_is_thing) rfl,
    F_is_row := c.says.def_ 6 (d := d_is_row) rfl,
    F_cells := c.says.def_ 7 (d := d_cells) rfl,
    F_is_deed := c.says.def_ 8 (d := d_is_deed) rfl,
    F_House_init := c.says.def_ 9 (d := d_House_init) rfl,
    F__law_all := c.says.def_ 10 (d := d__law_all) rfl,
    F__law_table := c.says.def_ 11 (d := d__law_table) rfl,
    F__law_house := c.says.def_ 12 (d := d__law_house) rfl,
    F__law_cells := c.says.def_ 13 (d := d__law_cells) rfl,
    F__law_places_due := c.says.def_ 14 (d := d__law_places_due) rfl,
    F_NoName_init := c.says.def_ 15 (d := d_NoName_init) rfl,
    F_NoPaper_init := c.says.def_ 16 (d := d_NoPaper_init) rfl,
    F_NoRow_init := c.says.def_ 17 (d := d_NoRow_init) rfl,
    F_NoSteps_init := c.says.def_ 18 (d := d_NoSteps_init) rfl,
    F_TooMany_init := c.says.def_ 19 (d := d_TooMany_init) rfl,
    F__law_asked := c.says.def_ 20 (d := d__law_asked) rfl,
    F_House_things := c.says.def_ 21 (d := d_House_things) rfl,
    F_check_places := c.says.def_ 22 (d := d_check_places) rfl,
    F_check_table := c.says.def_ 23 (d := d_check_table) rfl,
    F_check_rows := c.says.def_ 24 (d := d_check_rows) rfl,
    F_Growing_init := c.says.def_ 25 (d := d_Growing_init) rfl,
    F_Growing_put := c.says.def_ 26 (d := d_Growing_put) rfl,
    F_House_deeds := c.says.def_ 27 (d := d_House_deeds) rfl,
    F_grown := c.says.def_ 28 (d := d_grown) rfl,
    F_made := c.says.def_ 29 (d := d_made) rfl,
    F_things_at := c.says.def_ 30 (d := d_things_at) rfl,
    F_argument_rows := c.says.def_ 31 (d := d_argument_rows) rfl,
    F_term_deed := c.says.def_ 32 (d := d_term_deed) rfl,
    F_check_made := c.says.def_ 33 (d := d_check_made) rfl,
    F_check_term := c.says.def_ 34 (d := d_check_term) rfl,
    F_spread := c.says.def_ 35 (d := d_spread) rfl,
    F_deeds_made := c.says.def_ 36 (d := d_deeds_made) rfl,
    F_is_given := c.says.def_ 37 (d := d_is_given) rfl,
    F_House_names := c.says.def_ 38 (d := d_House_names) rfl,
    F_House_deed := c.says.def_ 39 (d := d_House_deed) rfl,
    F_House_places := c.says.def_ 40 (d := d_House_places) rfl,
    F_is_step := c.says.def_ 41 (d := d_is_step) rfl,
    F_check_steps := c.says.def_ 42 (d := d_check_steps) rfl,
    F_spot_of := c.says.def_ 43 (d := d_spot_of) rfl,
    F_put_together := c.says.def_ 44 (d := d_put_together) rfl,
    F_run := c.says.def_ 45 (d := d_run) rfl,
    F_table_of := c.says.def_ 46 (d := d_table_of) rfl,
    F__law_right := c.says.def_ 47 (d := d__law_right) rfl,
    F_law := c.says.def_ 48 (d := d_law) rfl }
section
variable {P : Program} {w : World} {K : PySem.W.Frag} {tb : List (Addr × Str)} {mg : Str → Option Value} {base : Heap}
theorem ok__law_draw (T : Tx K mg) : WD.Cal P w K mg base (L2.CX P w) 1 "_law_draw" (He.ga K "_law_draw") (PM.SpF ⟨K, tb⟩ 2 fn__law_draw) [] := by
  obtain ⟨fd, F⟩ := T.F__law_draw
  exact ⟨PM.fn_ok (K := ⟨K, tb⟩) (b := b__law_draw) F sc__law_draw (fun _ _ _ _ _ _ us hl => match us, hl with | [_, _], _ => rfl) (fun cdv A outer s H E hr =>
    (PM.ss_cons (PM.s_if (ps_if (PM.t_cmp (PM.op_gtV) (PM.i_ix (WD.huD hr) (PM.i_pv (pv 0)) PM.i_int (fun _ _ => rfl)) PM.i_int (nomark _))
        (PM.ss_cons (PM.s_set (ps_set (i := 2) sc__law_draw.nd rfl (.inl rfl) (PM.i_op PM.op_modV (PM.i_ix (WD.huD hr) (PM.i_pv (pv 0)) PM.i_int (fun _ _ => rfl)) (PM.i_pv (pv 1)))))
      (PM.ss_cons (PM.s_setL (ps_asg (PM.i_op PM.op_fdivV (PM.i_ix (WD.huD hr) (PM.i_pv (pv 0)) PM.i_int (fun _ _ => rfl)) (PM.i_pv (pv 1))) (pg_sub (PM.i_pv (pv 0)) PM.i_int set_list)))
      (PM.ss_one (PM.s_ret (ps_ret (PM.i_pv (pv 2)))))))
        PM.ss_nil))
      (PM.ss_cons (PM.s_setL (ps_asg (PM.i_op PM.op_addV (PM.i_ix (WD.huD hr) (PM.i_pv (pv 0)) PM.i_int (fun _ _ => rfl)) PM.i_int) (pg_sub (PM.i_pv (pv 0)) PM.i_int set_list)))
      (PM.ss_cons (PM.s_set (ps_set (i := 3) sc__law_draw.nd rfl (.inl rfl) (PM.i_op PM.op_modV (PM.i_op PM.op_mulV (PM.i_op PM.op_addV (PM.i_op PM.op_addV (PM.i_ix (WD.huD hr) (PM.i_pv (pv 0)) PM.i_int (fun _ _ => rfl)) (PM.i_op PM.op_mulV PM.i_int (PM.i_ix (WD.huD hr) (PM.i_pv (pv 0)) PM.i_int (fun _ _ => rfl)))) PM.i_int) PM.i_int) PM.i_int)))
      (PM.ss_cons (PM.s_set (ps_set (i := 3) sc__law_draw.nd rfl (.inl rfl) (PM.i_op PM.op_modV (PM.i_op PM.op_mulV (PM.i_pv (pv 3)) (PM.i_op PM.op_addV (PM.i_op PM.op_fdivV (PM.i_pv (pv 3)) PM.i_int) PM.i_int)) PM.i_int)))
      (PM.ss_one (PM.s_ret (ps_ret (PM.i_op PM.op_modV (PM.i_op PM.op_modV (PM.i_op PM.op_mulV (PM.i_pv (pv 3)) (PM.i_op PM.op_addV (PM.i_op PM.op_fdivV (PM.i_pv (pv 3)) PM.i_int) PM.i_int)) PM.i_int) (PM.i_pv (pv 1))))))))))), F.kp, T.g__law_draw⟩
end
section
variable {P : Program} {w : World} {K : PySem.W.Frag} {tb : List (Addr × Str)} {mg : Str → Option Value} {base : Heap}
theorem ok__law_names (T : Tx K mg) : WD.Cal P w K mg base (L2.CX P w) 2 "_law_names" (He.ga K "_law_names") (PM.SpF ⟨K, tb⟩ 2 fn__law_names) [] := by
  obtain ⟨fd, F⟩ := T.F__law_names
  exact ⟨PM.fn_ok (K := ⟨K, tb⟩) (b := b__law_names) F sc__law_names (fun _ _ _ _ _ _ us hl => match us, hl with | [_, _], _ => rfl) (fun cdv A outer s H E hr =>
    (PM.ss_cons (PM.s_set (ps_set (i := 2) sc__law_names.nd rfl (.inr rfl) PM.i_str))
      (PM.ss_cons (PM.s_set (ps_set (i := 3) sc__law_names.nd rfl (.inr rfl) (PM.i_join PM.i_str (PM.i_ofF (PM.f_lc (pe_lc (own := [("_law_k", 6)]) rfl sc__law_names.nd (PM.ii_range1 (by rfl) T.z_range (PM.a_cons (PM.i_op PM.op_addV PM.i_int (PM.i_call (ok__law_draw T) (takes_of rfl rfl rfl rfl) (hr.mono (by decide)) (by rfl) (PM.a_cons (PM.i_pv (pv 0)) (PM.a_cons PM.i_int PM.a_nil)))) PM.a_nil)) (blkOk_by (N := ["_law_well", "_law_many", "_law_letters", "_law_stem", "_law_at", "_law_first", "_law_k"]) (sc := defScope s__law_names) (by decide +kernel)) (fun _ _ _ _ _ => (PM.g_name (pg_name (i := 6) sc__law_names.nd rfl (.inl rfl)))) (fun _ _ _ _ _ => PM.ts_yes) (fun _ _ _ _ _ => (PM.i_ix (WD.huD hr) (PM.i_pv (pv 2)) (PM.i_call (ok__law_draw T) takes0 (hr.mono (by decide)) (by rfl) (PM.a_cons (PM.i_pv (pv 0)) (PM.a_cons PM.i_int PM.a_nil))) (fun _ _ => rfl)))))) (fun ho he => WD.k_pe_join K ho he))))
      (PM.ss_cons (PM.s_set (ps_set (i := 4) sc__law_names.nd rfl (.inr rfl) (PM.i_call (ok__law_draw T) (takes_of rfl rfl rfl rfl) (hr.mono (by decide)) (by rfl) (PM.a_cons (PM.i_pv (pv 0)) (PM.a_cons (PM.i_op PM.op_addV (PM.i_callB (PM.cr_lenV) (by rfl) T.z_len WD.bt_len (PM.a_cons (PM.i_pv (pv 3)) PM.a_nil)) PM.i_int) PM.a_nil)))))
      (PM.ss_cons (PM.s_set (ps_set (i := 5) sc__law_names.nd rfl (.inr rfl) (PM.i_call (ok__law_draw T) (takes_of rfl rfl rfl rfl) (hr.mono (by decide)) (by rfl) (PM.a_cons (PM.i_pv (pv 0)) (PM.a_cons PM.i_int PM.a_nil)))))
      (PM.ss_one (PM.s_ret (ps_ret (PM.i_ofF (PM.f_lc (pe_lc (own := [("_law_k", 6)]) rfl sc__law_names.nd (PM.ii_range1 (by rfl) T.z_range (PM.a_cons (PM.i_pv (pv 1)) PM.a_nil)) (blkOk_by (N := ["_law_well", "_law_many", "_law_letters", "_law_stem", "_law_at", "_law_first", "_law_k"]) (sc := defScope s__law_names) (by decide +kernel)) (fun _ _ _ _ _ => (PM.g_name (pg_name (i := 6) sc__law_names.nd rfl (.inl rfl)))) (fun _ _ _ _ _ => PM.ts_yes) (fun _ _ _ _ _ => (PM.i_op PM.op_addV (PM.i_op PM.op_addV (PM.i_sl (PM.i_pv (pv 3)) PM.o_none (PM.o_some (PM.i_pv (pv 4)))) (PM.i_ix (WD.huD hr) (PM.i_pv (pv 2)) (PM.i_op PM.op_modV (PM.i_op PM.op_addV (PM.i_pv (pv 5)) (PM.i_op PM.op_mulV PM.i_int (PM.i_pv (pv 6)))) PM.i_int) (fun _ _ => rfl))) (PM.i_sl (PM.i_pv (pv 3)) (PM.o_some (PM.i_pv (pv 4))) PM.o_none)))))))))))))), F.kp, T.g__law_names⟩
end
section
variable {P : Program} {w : World} {K : PySem.W.Frag} {tb : List (Addr × Str)} {mg : Str → Option Value} {base : Heap}
theorem ok_is_whole (T : Tx K mg) : WD.Cal P w K mg base (L2.CX P w) 1 "is_whole" (He.ga K "is_whole") (PM.SpF ⟨K, tb⟩ 1 fn_is_whole) [] := by
  obtain ⟨fd, F⟩ := T.F_is_whole
  exact ⟨PM.fn_ok (K := ⟨K, tb⟩) (b := b_is_whole) F sc_is_whole (fun _ _ _ _ _ _ us hl => match us, hl with | [_], _ => rfl) (fun cdv A outer s H E hr =>
    (PM.ss_one (PM.s_ret (ps_ret (PM.i_and (PM.i_isT (PM.i_pv (pv 0)) (pe_bltn (v := .ty "int") (by rfl) T.z_int WD.bt_int rfl) (by decide) (by rfl) T.z_isinstance) (pe_one (PM.i_not (PM.i_isT (PM.i_pv (pv 0)) (pe_bltn (v := .ty "bool") (by rfl) T.z_bool WD.bt_bool rfl) (by decide) (by rfl) T.z_isinstance)))))))), F.kp, T.g_is_whole⟩
end
section
variable {P : Program} {w : World} {K : PySem.W.Frag} {mg : Str → Option Value} {base : Heap}
theorem xm_NoHouse (T : Tx K mg) : WD.Xmk P w K mg base 1 "NoHouse" (He.ga K "NoHouse") (He.ma K (He.ga K "NoHouse") "__init__") "at" := by
  obtain ⟨fd, F⟩ := T.F_NoHouse_init
  refine ⟨WD.fn0_of F sc_NoHouse_init (fun vs H Q E h => ?_) (fun _ _ _ _ _ _ us hl => match us, hl with | [_, _], _ => rfl) (fun cdv A outer s H vs Q E hr h => ?_), T.ox_NoHouse, T.ix_NoHouse, T.g_NoHouse⟩
  · obtain ⟨a, v, rfl, ha, k⟩ := h
    rfl
  · obtain ⟨a, v, rfl, ha, k⟩ := h
    refine ⟨_, (pss_cons (ps_expr (WD.pe_oinit (by rfl) T.g_WishError T.px_WishError (pa_cons (pv 0) (pa_cons pe_str pa_nil))))
      (pss_one (ps_ost (pv 0) (pv 1)))), ?_⟩
    refine ⟨_, rfl, a, He.ga K "NoHouse", [_], rfl, by show 1 ≤ 1000; decide, T.ox_NoHouse, ha, ?_⟩
    exact ⟨_, rfl, _, rfl, a, He.ga K "NoHouse", rfl, T.ox_NoHouse, T.nx_NoHouse, .inl ⟨ha, k⟩⟩
end
section
variable {P : Program} {w : World} {K : PySem.W.Frag} {tb : List (Addr × Str)} {mg : Str → Option Value} {base : Heap}
theorem ok_is_name (T : Tx K mg) : WD.Cal P w K mg base (L2.CX P w) 1 "is_name" (He.ga K "is_name") (PM.SpF ⟨K, tb⟩ 1 fn_is_name) [] := by
  obtain ⟨fd, F⟩ := T.F_is_name
  exact ⟨PM.fn_ok (K := ⟨K, tb⟩) (b := b_is_name) F sc_is_name (fun _ _ _ _ _ _ us hl => match us, hl with | [_], _ => rfl) (fun cdv A outer s H E hr =>
    (PM.ss_one (PM.s_ret (ps_ret (PM.i_and (PM.i_isT (PM.i_pv (pv 0)) (pe_bltn (v := .ty "str") (by rfl) T.z_str WD.bt_str rfl) (by decide) (by rfl) T.z_isinstance) (PM.i_and (PM.i_chain (PM.op_leV) (PM.op_leV) PM.i_int (PM.i_callB (PM.cr_lenV) (by rfl) T.z_len WD.bt_len (PM.a_cons (PM.i_pv (pv 0)) PM.a_nil)) PM.i_int) (pe_one (PM.i_callB (PM.cr_allV rfl) (by rfl) T.z_all WD.bt_all (PM.a_cons (PM.i_ofF (PM.f_lc (pe_lc (own := [("sign", 1)]) rfl sc_is_name.nd (PM.ii_val (PM.i_pv (pv 0))) (blkOk_by (N := ["word", "sign"]) (sc := defScope s_is_name) (by decide +kernel)) (fun _ _ _ _ _ => (PM.g_name (pg_name (i := 1) sc_is_name.nd rfl (.inl rfl)))) (fun _ _ _ _ _ => PM.ts_yes) (fun _ _ _ _ _ => (PM.i_cmp (PM.op_inV (WD.hu65 hr)) (PM.i_pv (pv 1)) (PM.i_gs (by rfl) T.c_SMALL) (by rfl)))))) PM.a_nil))))))))), F.kp, T.g_is_name⟩
end
section
variable {P : Program} {w : World} {K : PySem.W.Frag} {tb : List (Addr × Str)} {mg : Str → Option Value} {base : Heap}
theorem ok_is_thing (T : Tx K mg) : WD.Cal P w K mg base (L2.CX P w) 2 "is_thing" (He.ga K "is_thing") (PM.SpF ⟨K, tb⟩ 2 fn_is_thing) [] := by
  obtain ⟨fd, F⟩ := T.F_is_thing
  exact ⟨PM.fn_ok (K := ⟨K, tb⟩) (b := b_is_thing) F sc_is_thing (fun _ _ _ _ _ _ us hl => match us, hl with | [_, _], _ => rfl) (fun cdv A outer s H E hr =>
    (PM.ss_one (PM.s_ret (ps_ret (PM.i_and (PM.i_call (ok_is_whole T) (takes_of rfl rfl rfl rfl) (hr.mono (by decide)) (by rfl) (PM.a_cons (PM.i_pv (pv 0)) PM.a_nil)) (pe_one (PM.i_chain (PM.op_leV) (PM.op_ltV hr.units0) PM.i_int (PM.i_pv (pv 0)) (PM.i_pv (pv 1))))))))), F.kp, T.g_is_thing⟩
end
section
variable {P : Program} {w : World} {K : PySem.W.Frag} {tb : List (Addr × Str)} {mg : Str → Option Value} {base : Heap}
theorem ok_is_row (T : Tx K mg) : WD.Cal P w K mg base (L2.CX P w) 3 "is_row" (He.ga K "is_row") (PM.SpF ⟨K, tb⟩ 3 fn_is_row) [] := by
  obtain ⟨fd, F⟩ := T.F_is_row
  exact ⟨PM.fn_ok (K := ⟨K, tb⟩) (b := b_is_row) F sc_is_row (fun _ _ _ _ _ _ us hl => match us, hl with | [_, _, _], _ => rfl) (fun cdv A outer s H E hr =>
    (PM.ss_one (PM.s_ret (ps_ret (PM.i_and (PM.i_isT (PM.i_pv (pv 0)) (pe_bltn (v := .ty "tuple") (by rfl) T.z_tuple WD.bt_tuple rfl) (by decide) (by rfl) T.z_isinstance) (PM.i_and (PM.i_cmp (PM.op_eqV hr.units) (PM.i_callB (PM.cr_lenV) (by rfl) T.z_len WD.bt_len (PM.a_cons (PM.i_pv (pv 0)) PM.a_nil)) (PM.i_pv (pv 1)) (nomark _)) (pe_one (PM.i_callB (PM.cr_allV rfl) (by rfl) T.z_all WD.bt_all (PM.a_cons (PM.i_ofF (PM.f_lc (pe_lc (own := [("one", 3)]) rfl sc_is_row.nd (PM.ii_val (PM.i_pv (pv 0))) (blkOk_by (N := ["row", "wide", "size", "one"]) (sc := defScope s_is_row) (by decide +kernel)) (fun _ _ _ _ _ => (PM.g_name (pg_name (i := 3) sc_is_row.nd rfl (.inl rfl)))) (fun _ _ _ _ _ => PM.ts_yes) (fun _ _ _ _ _ => (PM.i_call (ok_is_thing T) takes0 (hr.mono (by decide)) (by rfl) (PM.a_cons (PM.i_pv (pv 3)) (PM.a_cons (PM.i_pv (pv 2)) PM.a_nil))))))) PM.a_nil))))))))), F.kp, T.g_is_row⟩
end
section
variable {P : Program} {w : World} {K : PySem.W.Frag} {tb : List (Addr × Str)} {mg : Str → Option Value} {base : Heap}
theorem ok_cells (T : Tx K mg) : WD.Cal P w K mg base (L2.CX P w) 1 "cells" (He.ga K "cells") (PM.SpF ⟨K, tb⟩ 2 fn_cells) [] := by
  obtain ⟨fd, F⟩ := T.F_cells
  exact ⟨PM.fn_ok (K := ⟨K, tb⟩) (b := b_cells) F sc_cells (fun _ _ _ _ _ _ us hl => match us, hl with | [_, _], _ => rfl) (fun cdv A outer s H E hr =>
    (PM.ss_cons (PM.s_set (ps_set (i := 2) sc_cells.nd rfl (.inl rfl) PM.i_int))
      (PM.ss_cons (PM.s_for (passes_of rfl) rfl (PM.ii_range1 (by rfl) T.z_range (PM.a_cons (PM.i_pv (pv 1)) PM.a_nil)) (PM.g_name (pg_name (i := 3) sc_cells.nd rfl (.inl rfl)))
        (PM.ss_one (PM.s_set (ps_set (i := 2) sc_cells.nd rfl (.inl rfl) (PM.i_op PM.op_mulV (PM.i_pv (pv 2)) (PM.i_pv (pv 0)))))))
      (PM.ss_one (PM.s_ret (ps_ret (PM.i_pv (pv 2)))))))), F.kp, T.g_cells⟩
end
section
variable {P : Program} {w : World} {K : PySem.W.Frag} {tb : List (Addr × Str)} {mg : Str → Option Value} {base : Heap}
theorem ok_is_deed (T : Tx K mg) : WD.Cal P w K mg base (L2.CX P w) 4 "is_deed" (He.ga K "is_deed") (PM.SpF ⟨K, tb⟩ 2 fn_is_deed) [] := by
  obtain ⟨fd, F⟩ := T.F_is_deed
  exact ⟨PM.fn_ok (K := ⟨K, tb⟩) (b := b_is_deed) F sc_is_deed (fun _ _ _ _ _ _ us hl => match us, hl with | [_, _], _ => rfl) (fun cdv A outer s H E hr =>
    (PM.ss_cons (PM.s_if (ps_if (PW.pt (PM.w_or (PM.t_not (PM.t_val (PM.i_isT (PM.i_pv (pv 0)) (pe_bltn (v := .ty "tuple") (by rfl) T.z_tuple WD.bt_tuple rfl) (by decide) (by rfl) T.z_isinstance))) (PM.w_or (PM.t_cmp (PM.op_neV hr.units) (PM.i_callB (PM.cr_lenV) (by rfl) T.z_len WD.bt_len (PM.a_cons (PM.i_pv (pv 0)) PM.a_nil)) PM.i_int (nomark _)) (pw_or1 (PM.t_not (PM.t_val (PM.i_call (ok_is_name T) (takes_of rfl rfl rfl rfl) (hr.mono (by decide)) (by rfl) (PM.a_cons (PM.i_ix (WD.huD hr) (PM.i_pv (pv 0)) PM.i_int (fun _ _ => rfl)) PM.a_nil))))))))
        (PM.ss_one (PM.s_ret (ps_ret PM.i_bl)))
        PM.ss_nil))
      (PM.ss_cons (PM.s_asg (ps_asg (PM.i_pv (pv 0)) (PM.g_tup (PM.gs_cons (PM.g_name (pg_name (i := 2) sc_is_deed.nd rfl (.inl rfl))) (PM.gs_cons (PM.g_name (pg_name (i := 3) sc_is_deed.nd rfl (.inl rfl))) (PM.gs_cons (PM.g_name (pg_name (i := 4) sc_is_deed.nd rfl (.inl rfl))) PM.gs_nil))) rfl)))
      (PM.ss_cons (PM.s_if (ps_if (PW.pt (PM.w_or (PM.t_not (PM.t_val (PM.i_call (ok_is_whole T) (takes_of rfl rfl rfl rfl) (hr.mono (by decide)) (by rfl) (PM.a_cons (PM.i_pv (pv 3)) PM.a_nil)))) (pw_or1 (PM.t_not (PM.t_chain (PM.op_leV) (PM.op_leV) PM.i_int (PM.i_pv (pv 3)) (PM.i_gi (by rfl) T.c_MOST_PLACES))))))
        (PM.ss_one (PM.s_ret (ps_ret PM.i_bl)))
        PM.ss_nil))
      (PM.ss_one (PM.s_ret (ps_ret (PM.i_call (ok_is_row T) (takes_of rfl rfl rfl rfl) (hr.mono (by decide)) (by rfl) (PM.a_cons (PM.i_pv (pv 4)) (PM.a_cons (PM.i_call (ok_cells T) (takes_of rfl rfl rfl rfl) (hr.mono (by decide)) (by rfl) (PM.a_cons (PM.i_pv (pv 1)) (PM.a_cons (PM.i_pv (pv 3)) PM.a_nil))) (PM.a_cons (PM.i_pv (pv 1)) PM.a_nil))))))))))), F.kp, T.g_is_deed⟩
end
section
variable {P : Program} {w : World} {K : PySem.W.Frag} {tb : List (Addr × Str)} {mg : Str → Option Value} {base : Heap}
theorem mk_House (T : Tx K mg) : WD.Mak P w K mg base (L2.CX P w) 5 "House" (He.ga K "House") (He.ma K (He.ga K "House") "__init__") (PM.SpI ⟨K, tb⟩ "House" ["size", "by_name"] 2 fi_House) [] := by
  obtain ⟨fd, F⟩ := T.F_House_init
  have h := PM.ini_ok (K := ⟨K, tb⟩) (P := P) (w := w) (mg := mg) (base := base) (n := 2) (k := 4) (C := "House") (ns := ["size", "by_name"]) (F := bi_House) F sc_House_init rfl (fun _ _ _ _ _ _ us hl => match us, hl with | [_, _, _], _ => rfl) (fun cdv A outer s H E a hr =>
    (PM.in_pre (PM.s_if (ps_if (PW.pt (PM.w_or (PM.t_not (PM.t_val (PM.i_call (ok_is_whole T) (takes_of rfl rfl rfl rfl) (hr.mono (by decide)) (by rfl) (PM.a_cons (PM.i_pv (pv 1)) PM.a_nil)))) (pw_or1 (PM.t_not (PM.t_chain (PM.op_leV) (PM.op_leV) PM.i_int (PM.i_pv (pv 1)) (PM.i_gi (by rfl) T.c_MOST_THINGS))))))
        (PM.ss_one (PM.s_raise (ps_raise rfl (takes_of rfl rfl rfl rfl) (WD.pmk_x (xm_NoHouse T) (hr.mono (by decide)) (by rfl) (PM.a_cons (PM.i_un PM.un_negV PM.i_int) PM.a_nil)))))
        PM.ss_nil))
      (PM.in_pre (PM.s_if (ps_if (PW.pt (PM.w_or (PM.t_not (PM.t_val (PM.i_isT (PM.i_pv (pv 2)) (pe_bltn (v := .ty "list") (by rfl) T.z_list WD.bt_list rfl) (by decide) (by rfl) T.z_isinstance))) (pw_or1 (PM.t_cmp (PM.op_gtV) (PM.i_callB (PM.cr_lenV) (by rfl) T.z_len WD.bt_len (PM.a_cons (PM.i_pv (pv 2)) PM.a_nil)) (PM.i_gi (by rfl) T.c_MOST_DEEDS) (nomark _)))))
        (PM.ss_one (PM.s_raise (ps_raise rfl (takes_of rfl rfl rfl rfl) (WD.pmk_x (xm_NoHouse T) (hr.mono (by decide)) (by rfl) (PM.a_cons (PM.i_un PM.un_negV PM.i_int) PM.a_nil)))))
        PM.ss_nil))
      (PM.in_pre (PM.s_set (ps_set (i := 3) sc_House_init.nd rfl (.inl rfl) PM.i_dnewK))
      (PM.in_pre (PM.s_for (passes_of rfl) rfl (PM.ii_enum (by rfl) T.z_enumerate (PM.a_cons (PM.i_pv (pv 2)) PM.a_nil)) (PM.g_tup (PM.gs_cons (PM.g_name (pg_name (i := 4) sc_House_init.nd rfl (.inl rfl))) (PM.gs_cons (PM.g_name (pg_name (i := 5) sc_House_init.nd rfl (.inl rfl))) PM.gs_nil)) rfl)
        (PM.ss_cons (PM.s_if (ps_if (PW.pt (PM.w_or (PM.t_not (PM.t_val (PM.i_call (ok_is_deed T) (takes_of rfl rfl rfl rfl) (hr.mono (by decide)) (by rfl) (PM.a_cons (PM.i_pv (pv 5)) (PM.a_cons (PM.i_pv (pv 1)) PM.a_nil))))) (pw_or1 (PM.t_cmp (PM.op_inV (WD.hu65 hr)) (PM.i_ix (WD.huD hr) (PM.i_pv (pv 5)) PM.i_int (fun _ _ => rfl)) (PM.i_pv (pv 3)) (by rfl)))))
        (PM.ss_one (PM.s_raise (ps_raise rfl (takes_of rfl rfl rfl rfl) (WD.pmk_x (xm_NoHouse T) (hr.mono (by decide)) (by rfl) (PM.a_cons (PM.i_pv (pv 4)) PM.a_nil)))))
        PM.ss_nil))
      (PM.ss_one (PM.s_dput (ps_dput (WD.huD hr) (PM.i_pv (pv 3)) (PM.i_ix (WD.huD hr) (PM.i_pv (pv 5)) PM.i_int (fun _ _ => rfl)) (PM.i_pv (pv 5)) rfl)))))
      (PM.in_fld (i := 0) (fun h1 h2 => WD.k_ps_fld K h1 h2) (pv 0) (PM.i_pv (pv 1)) (PM.in_frz (i := 3) (PM.in_fld (i := 0) (fun h1 h2 => WD.k_ps_fld K h1 h2) (pv 0) (PM.i_pv (pv 3)) PM.in_nil T.cl_House T.na_House_by_name (by decide) (by decide))) T.cl_House T.na_House_size (by decide) (by decide)))))))
  exact ⟨h, T.mk_House, T.g_House⟩
end
section
variable {P : Program} {w : World} {K : PySem.W.Frag} {tb : List (Addr × Str)} {mg : Str → Option Value} {base : Heap}
theorem ok__law_all (T : Tx K mg) : WD.Cal P w K mg base (L2.CX P w) 1 "_law_all" (He.ga K "_law_all") (PM.SpF ⟨K, tb⟩ 2 fn__law_all) [] := by
  obtain ⟨fd, F⟩ := T.F__law_all
  exact ⟨PM.fn_ok (K := ⟨K, tb⟩) (b := b__law_all) F sc__law_all (fun _ _ _ _ _ _ us hl => match us, hl with | [_, _], _ => rfl) (fun cdv A outer s H E hr =>
    (PM.ss_cons (PM.s_set (ps_set (i := 2) sc__law_all.nd rfl (.inl rfl) (PM.i_ofF (PM.f_lst (PM.a_cons (PM.i_tup PM.a_nil) PM.a_nil)))))
      (PM.ss_cons (PM.s_for (passes_of rfl) rfl (PM.ii_range1 (by rfl) T.z_range (PM.a_cons (PM.i_pv (pv 1)) PM.a_nil)) (PM.g_name (pg_name (i := 3) sc__law_all.nd rfl (.inl rfl)))
        (PM.ss_cons (PM.s_set (ps_set (i := 4) sc__law_all.nd rfl (.inl rfl) (PM.i_cellF (PM.f_lst PM.a_nil))))
      (PM.ss_cons (PM.s_for (passes_of rfl) rfl (PM.ii_val (PM.i_pv (pv 2))) (PM.g_name (pg_name (i := 5) sc__law_all.nd rfl (.inr rfl)))
        (PM.ss_one (PM.s_exp (PM.i_ext (PM.i_pv (pv 4)) (PM.a_cons (PM.i_ofF (PM.f_lc (pe_lc (own := [("_law_thing", 6)]) rfl sc__law_all.nd (PM.ii_range1 (by rfl) T.z_range (PM.a_cons (PM.i_pv (pv 0)) PM.a_nil)) (blkOk_by (N := ["_law_size", "_law_places", "_law_found", "_law_k", "_law_longer", "_law_row", "_law_thing"]) (sc := defScope s__law_all) (by decide +kernel)) (fun _ _ _ _ _ => (PM.g_name (pg_name (i := 6) sc__law_all.nd rfl (.inl rfl)))) (fun _ _ _ _ _ => PM.ts_yes) (fun _ _ _ _ _ => (PM.i_op PM.op_addV (PM.i_pv (pv 5)) (PM.i_tup (PM.a_cons (PM.i_pv (pv 6)) PM.a_nil))))))) PM.a_nil) (fun ho ha => WD.k_pe_bm K PySem.F.plainAttrs_list PySem.F.slot_list_extend PySem.F.type_list_extend mt_extend ho ha)))))
      (PM.ss_frz (i := 4) (PM.ss_one (PM.s_set (ps_set (i := 2) sc__law_all.nd rfl (.inl rfl) (PM.i_pv (pv 4)))))))))
      (PM.ss_one (PM.s_ret (ps_ret (PM.i_pv (pv 2)))))))), F.kp, T.g__law_all⟩
end
section
variable {P : Program} {w : World} {K : PySem.W.Frag} {tb : List (Addr × Str)} {mg : Str → Option Value} {base : Heap}
theorem ok__law_table (T : Tx K mg) : WD.Cal P w K mg base (L2.CX P w) 2 "_law_table" (He.ga K "_law_table") (PM.SpF ⟨K, tb⟩ 3 fn__law_table) [] := by
  obtain ⟨fd, F⟩ := T.F__law_table
  exact ⟨PM.fn_ok (K := ⟨K, tb⟩) (b := b__law_table) F sc__law_table (fun _ _ _ _ _ _ us hl => match us, hl with | [_, _, _], _ => rfl) (fun cdv A outer s H E hr =>
    (PM.ss_cons (PM.s_set (ps_set (i := 3) sc__law_table.nd rfl (.inl rfl) (PM.i_call (ok__law_draw T) (takes_of rfl rfl rfl rfl) (hr.mono (by decide)) (by rfl) (PM.a_cons (PM.i_pv (pv 0)) (PM.a_cons PM.i_int PM.a_nil)))))
      (PM.ss_cons (PM.s_set (ps_set (i := 4) sc__law_table.nd rfl (.inl rfl) (PM.i_call (ok__law_draw T) (takes_of rfl rfl rfl rfl) (hr.mono (by decide)) (by rfl) (PM.a_cons (PM.i_pv (pv 0)) (PM.a_cons (PM.i_pv (pv 1)) PM.a_nil)))))
      (PM.ss_cons (PM.s_set (ps_set (i := 5) sc__law_table.nd rfl (.inl rfl) (PM.i_cellF (PM.f_lst PM.a_nil))))
      (PM.ss_cons (PM.s_for (passes_of rfl) rfl (PM.ii_val (PM.i_call (ok__law_all T) (takes_of rfl rfl rfl rfl) (hr.mono (by decide)) (by rfl) (PM.a_cons (PM.i_pv (pv 1)) (PM.a_cons (PM.i_pv (pv 2)) PM.a_nil)))) (PM.g_name (pg_name (i := 6) sc__law_table.nd rfl (.inl rfl)))
        (PM.ss_cons (PM.s_set (ps_set (i := 7) sc__law_table.nd rfl (.inl rfl) (PM.i_ofF (PM.f_lst (PM.a_cons (PM.i_pv (pv 4)) (PM.a_cons (PM.i_op PM.op_modV (PM.i_op PM.op_addV (PM.i_callB (PM.cr_sumV rfl) (by rfl) T.z_sum WD.bt_sum (PM.a_cons (PM.i_pv (pv 6)) PM.a_nil)) (PM.i_pv (pv 4))) (PM.i_pv (pv 1))) (PM.a_cons (PM.i_callB (PM.cr_minV1 rfl (WD.huD hr)) (by rfl) T.z_min WD.bt_min (PM.a_cons (PM.i_op PM.op_addV (PM.i_pv (pv 6)) (PM.i_tup (PM.a_cons (PM.i_pv (pv 4)) PM.a_nil))) PM.a_nil)) (PM.a_cons (PM.i_callB (PM.cr_maxV1 rfl (WD.huD hr)) (by rfl) T.z_max WD.bt_max (PM.a_cons (PM.i_op PM.op_addV (PM.i_pv (pv 6)) (PM.i_tup (PM.a_cons (PM.i_pv (pv 4)) PM.a_nil))) PM.a_nil)) PM.a_nil))))))))
      (PM.ss_cons (PM.s_if (ps_if (PM.t_cmp (PM.op_gtV) (PM.i_pv (pv 2)) PM.i_int (nomark _))
        (PM.ss_one (PM.s_set (ps_set (i := 7) sc__law_table.nd rfl (.inl rfl) (PM.i_ofF (PM.f_op PM.op_addF (PM.i_sl (PM.i_pv (pv 7)) PM.o_none (PM.o_some PM.i_int)) (PM.i_ofF (PM.f_lst (PM.a_cons (PM.i_callB (PM.cr_minV1 rfl (WD.huD hr)) (by rfl) T.z_min WD.bt_min (PM.a_cons (PM.i_pv (pv 6)) PM.a_nil)) (PM.a_cons (PM.i_callB (PM.cr_maxV1 rfl (WD.huD hr)) (by rfl) T.z_max WD.bt_max (PM.a_cons (PM.i_pv (pv 6)) PM.a_nil)) (PM.a_cons (PM.i_ix (WD.huD hr) (PM.i_pv (pv 6)) (PM.i_op PM.op_modV (PM.i_pv (pv 4)) (PM.i_pv (pv 2))) (fun _ _ => rfl)) PM.a_nil))))))))))
        PM.ss_nil))
      (PM.ss_cons (PM.s_set (ps_set (i := 8) sc__law_table.nd rfl (.inl rfl) (PM.i_call (ok__law_draw T) (takes_of rfl rfl rfl rfl) (hr.mono (by decide)) (by rfl) (PM.a_cons (PM.i_pv (pv 0)) (PM.a_cons (PM.i_pv (pv 1)) PM.a_nil)))))
      (PM.ss_one (PM.s_exp (PM.i_mut PySem.F.slot_list_append PySem.F.type_list_append PM.mt_appendM (PM.i_pv (pv 5)) (PM.a_cons (PM.i_ix (WD.huD hr) (PM.i_ofF (PM.f_op PM.op_addF (PM.i_pv (pv 7)) (PM.i_ofF (PM.f_op PM.op_mulF (PM.i_ofF (PM.f_lst (PM.a_cons (PM.i_pv (pv 8)) PM.a_nil))) PM.i_int)))) (PM.i_pv (pv 3)) (fun _ _ => rfl)) PM.a_nil) (fun hm ho ha => WD.k_pe_bm K PySem.F.plainAttrs_list PySem.F.slot_list_append PySem.F.type_list_append hm ho ha))))))))
      (PM.ss_one (PM.s_ret (ps_ret (PM.i_callTy PM.cr_tupleV (by rfl) T.z_tuple WD.bt_tuple (PM.a_cons (PM.i_pv (pv 5)) PM.a_nil)))))))))), F.kp, T.g__law_table⟩
end
section
variable {P : Program} {w : World} {K : PySem.W.Frag} {tb : List (Addr × Str)} {mg : Str → Option Value} {base : Heap}
theorem ok__law_house (T : Tx K mg) : WD.Cal P w K mg base (L2.CX P w) 7 "_law_house" (He.ga K "_law_house") (PM.SpF ⟨K, tb⟩ 3 fn__law_house) [] := by
  obtain ⟨fd, F⟩ := T.F__law_house
  exact ⟨PM.fn_ok (K := ⟨K, tb⟩) (b := b__law_house) F sc__law_house (fun _ _ _ _ _ _ us hl => match us, hl with | [_, _, _], _ => rfl) (fun cdv A outer s H E hr =>
    (PM.ss_cons (PM.s_set (ps_set (i := 3) sc__law_house.nd rfl (.inl rfl) (PM.i_call (ok__law_names T) (takes_of rfl rfl rfl rfl) (hr.mono (by decide)) (by rfl) (PM.a_cons (PM.i_pv (pv 0)) (PM.a_cons (PM.i_callB (PM.cr_lenV) (by rfl) T.z_len WD.bt_len (PM.a_cons (PM.i_pv (pv 2)) PM.a_nil)) PM.a_nil)))))
      (PM.ss_one (PM.s_ret (ps_ret (PM.i_make (mk_House T) (takes_of rfl rfl rfl rfl) (hr.mono (by decide)) (by rfl) (PM.a_cons (PM.i_pv (pv 1)) (PM.a_cons (PM.i_ofF (PM.f_lc (pe_lc (own := [("_law_name", 4), ("_law_many", 5)]) rfl sc__law_house.nd (PM.ii_zip (by rfl) T.z_zip (PM.a_cons (PM.i_pv (pv 3)) (PM.a_cons (PM.i_pv (pv 2)) PM.a_nil))) (blkOk_by (N := ["_law_well", "_law_size", "_law_places", "_law_names_here", "_law_name", "_law_many"]) (sc := defScope s__law_house) (by decide +kernel)) (fun _ _ _ _ _ => (PM.g_tup (PM.gs_cons (PM.g_name (pg_name (i := 4) sc__law_house.nd rfl (.inl rfl))) (PM.gs_cons (PM.g_name (pg_name (i := 5) sc__law_house.nd rfl (.inl rfl))) PM.gs_nil)) rfl)) (fun _ _ _ _ _ => PM.ts_yes) (fun _ _ _ _ _ => (PM.i_tup (PM.a_cons (PM.i_pv (pv 4)) (PM.a_cons (PM.i_pv (pv 5)) (PM.a_cons (PM.i_call (ok__law_table T) takes0 (hr.mono (by decide)) (by rfl) (PM.a_cons (PM.i_pv (pv 0)) (PM.a_cons (PM.i_pv (pv 1)) (PM.a_cons (PM.i_pv (pv 5)) PM.a_nil)))) PM.a_nil)))))))) PM.a_nil)))))))), F.kp, T.g__law_house⟩
end
section
variable {P : Program} {w : World} {K : PySem.W.Frag} {tb : List (Addr × Str)} {mg : Str → Option Value} {base : Heap}
theorem ok__law_cells (T : Tx K mg) : WD.Cal P w K mg base (L2.CX P w) 1 "_law_cells" (He.ga K "_law_cells") (PM.SpF ⟨K, tb⟩ 2 fn__law_cells) [] := by
  obtain ⟨fd, F⟩ := T.F__law_cells
  exact ⟨PM.fn_ok (K := ⟨K, tb⟩) (b := b__law_cells) F sc__law_cells (fun _ _ _ _ _ _ us hl => match us, hl with | [_, _], _ => rfl) (fun cdv A outer s H E hr =>
    (PM.ss_cons (PM.s_set (ps_set (i := 2) sc__law_cells.nd rfl (.inl rfl) PM.i_int))
      (PM.ss_cons (PM.s_for (passes_of rfl) rfl (PM.ii_range1 (by rfl) T.z_range (PM.a_cons (PM.i_pv (pv 1)) PM.a_nil)) (PM.g_name (pg_name (i := 3) sc__law_cells.nd rfl (.inl rfl)))
        (PM.ss_one (PM.s_set (ps_set (i := 2) sc__law_cells.nd rfl (.inl rfl) (PM.i_op PM.op_mulV (PM.i_pv (pv 2)) (PM.i_pv (pv 0)))))))
      (PM.ss_one (PM.s_ret (ps_ret (PM.i_pv (pv 2)))))))), F.kp, T.g__law_cells⟩
end
section
variable {P : Program} {w : World} {K : PySem.W.Frag} {tb : List (Addr × Str)} {mg : Str → Option Value} {base : Heap}
theorem ok__law_places_due (T : Tx K mg) : WD.Cal P w K mg base (L2.CX P w) 2 "_law_places_due" (He.ga K "_law_places_due") (PM.SpF ⟨K, tb⟩ 2 fn__law_places_due) [] := by
  obtain ⟨fd, F⟩ := T.F__law_places_due
  exact ⟨PM.fn_ok (K := ⟨K, tb⟩) (b := b__law_places_due) F sc__law_places_due (fun _ _ _ _ _ _ us hl => match us, hl with | [_, _], _ => rfl) (fun cdv A outer s H E hr =>
    (PM.ss_cons (PM.s_if (ps_if (PW.pt (PM.w_or (PM.t_not (PM.t_val (PM.i_isT (PM.i_pv (pv 1)) (pe_bltn (v := .ty "int") (by rfl) T.z_int WD.bt_int rfl) (by decide) (by rfl) T.z_isinstance))) (PM.w_or (PM.t_val (PM.i_isT (PM.i_pv (pv 1)) (pe_bltn (v := .ty "bool") (by rfl) T.z_bool WD.bt_bool rfl) (by decide) (by rfl) T.z_isinstance)) (pw_or1 (PM.t_not (PM.t_chain (PM.op_leV) (PM.op_leV) PM.i_int (PM.i_pv (pv 1)) PM.i_int))))))
        (PM.ss_one (PM.s_ret (ps_ret (PM.i_tup (PM.a_cons PM.i_str (PM.a_cons PM.i_int PM.a_nil))))))
        PM.ss_nil))
      (PM.ss_cons (PM.s_if (ps_if (PM.t_cmp (PM.op_gtV) (PM.i_call (ok__law_cells T) (takes_of rfl rfl rfl rfl) (hr.mono (by decide)) (by rfl) (PM.a_cons (PM.i_pv (pv 0)) (PM.a_cons (PM.i_pv (pv 1)) PM.a_nil))) PM.i_int (nomark _))
        (PM.ss_one (PM.s_ret (ps_ret (PM.i_tup (PM.a_cons PM.i_str (PM.a_cons (PM.i_call (ok__law_cells T) (takes_of rfl rfl rfl rfl) (hr.mono (by decide)) (by rfl) (PM.a_cons (PM.i_pv (pv 0)) (PM.a_cons (PM.i_pv (pv 1)) PM.a_nil))) PM.a_nil))))))
        PM.ss_nil))
      (PM.ss_one (PM.s_ret (ps_ret PM.i_non)))))), F.kp, T.g__law_places_due⟩
end
section
variable {P : Program} {w : World} {K : PySem.W.Frag} {mg : Str → Option Value} {base : Heap}
theorem xm_NoName (T : Tx K mg) : WD.Xmk P w K mg base 1 "NoName" (He.ga K "NoName") (He.ma K (He.ga K "NoName") "__init__") "name" := by
  obtain ⟨fd, F⟩ := T.F_NoName_init
  refine ⟨WD.fn0_of F sc_NoName_init (fun vs H Q E h => ?_) (fun _ _ _ _ _ _ us hl => match us, hl with | [_, _], _ => rfl) (fun cdv A outer s H vs Q E hr h => ?_), T.ox_NoName, T.ix_NoName, T.g_NoName⟩
  · obtain ⟨a, v, rfl, ha, k⟩ := h
    rfl
  · obtain ⟨a, v, rfl, ha, k⟩ := h
    refine ⟨_, (pss_cons (ps_expr (WD.pe_oinit (by rfl) T.g_WishError T.px_WishError (pa_cons (pv 0) (pa_cons pe_str pa_nil))))
      (pss_one (ps_ost (pv 0) (pv 1)))), ?_⟩
    refine ⟨_, rfl, a, He.ga K "NoName", [_], rfl, by show 1 ≤ 1000; decide, T.ox_NoName, ha, ?_⟩
    exact ⟨_, rfl, _, rfl, a, He.ga K "NoName", rfl, T.ox_NoName, T.nx_NoName, .inl ⟨ha, k⟩⟩
end
section
variable {P : Program} {w : World} {K : PySem.W.Frag} {mg : Str → Option Value} {base : Heap}
theorem xm_NoPaper (T : Tx K mg) : WD.Xmk P w K mg base 1 "NoPaper" (He.ga K "NoPaper") (He.ma K (He.ga K "NoPaper") "__init__") "at" := by
  obtain ⟨fd, F⟩ := T.F_NoPaper_init
  refine ⟨WD.fn0_of F sc_NoPaper_init (fun vs H Q E h => ?_) (fun _ _ _ _ _ _ us hl => match us, hl with | [_, _], _ => rfl) (fun cdv A outer s H vs Q E hr h => ?_), T.ox_NoPaper, T.ix_NoPaper, T.g_NoPaper⟩
  · obtain ⟨a, v, rfl, ha, k⟩ := h
    rfl
  · obtain ⟨a, v, rfl, ha, k⟩ := h
    refine ⟨_, (pss_cons (ps_expr (WD.pe_oinit (by rfl) T.g_WishError T.px_WishError (pa_cons (pv 0) (pa_cons pe_str pa_nil))))
      (pss_one (ps_ost (pv 0) (pv 1)))), ?_⟩
    refine ⟨_, rfl, a, He.ga K "NoPaper", [_], rfl, by show 1 ≤ 1000; decide, T.ox_NoPaper, ha, ?_⟩
    exact ⟨_, rfl, _, rfl, a, He.ga K "NoPaper", rfl, T.ox_NoPaper, T.nx_NoPaper, .inl ⟨ha, k⟩⟩
end
section
variable {P : Program} {w : World} {K : PySem.W.Frag} {mg : Str → Option Value} {base : Heap}
theorem xm_NoRow (T : Tx K mg) : WD.Xmk P w K mg base 1 "NoRow" (He.ga K "NoRow") (He.ma K (He.ga K "NoRow") "__init__") "at" := by
  obtain ⟨fd, F⟩ := T.F_NoRow_init
  refine ⟨WD.fn0_of F sc_NoRow_init (fun vs H Q E h => ?_) (fun _ _ _ _ _ _ us hl => match us, hl with | [_, _], _ => rfl) (fun cdv A outer s H vs Q E hr h => ?_), T.ox_NoRow, T.ix_NoRow, T.g_NoRow⟩
  · obtain ⟨a, v, rfl, ha, k⟩ := h
    rfl
  · obtain ⟨a, v, rfl, ha, k⟩ := h
    refine ⟨_, (pss_cons (ps_expr (WD.pe_oinit (by rfl) T.g_WishError T.px_WishError (pa_cons (pv 0) (pa_cons pe_str pa_nil))))
      (pss_one (ps_ost (pv 0) (pv 1)))), ?_⟩
    refine ⟨_, rfl, a, He.ga K "NoRow", [_], rfl, by show 1 ≤ 1000; decide, T.ox_NoRow, ha, ?_⟩
    exact ⟨_, rfl, _, rfl, a, He.ga K "NoRow", rfl, T.ox_NoRow, T.nx_NoRow, .inl ⟨ha, k⟩⟩
end
section
variable {P : Program} {w : World} {K : PySem.W.Frag} {mg : Str → Option Value} {base : Heap}
theorem xm_NoSteps (T : Tx K mg) : WD.Xmk P w K mg base 1 "NoSteps" (He.ga K "NoSteps") (He.ma K (He.ga K "NoSteps") "__init__") "at" := by
  obtain ⟨fd, F⟩ := T.F_NoSteps_init
  refine ⟨WD.fn0_of F sc_NoSteps_init (fun vs H Q E h => ?_) (fun _ _ _ _ _ _ us hl => match us, hl with | [_, _], _ => rfl) (fun cdv A outer s H vs Q E hr h => ?_), T.ox_NoSteps, T.ix_NoSteps, T.g_NoSteps⟩
  · obtain ⟨a, v, rfl, ha, k⟩ := h
    rfl
  · obtain ⟨a, v, rfl, ha, k⟩ := h
    refine ⟨_, (pss_cons (ps_expr (WD.pe_oinit (by rfl) T.g_WishError T.px_WishError (pa_cons (pv 0) (pa_cons pe_str pa_nil))))
      (pss_one (ps_ost (pv 0) (pv 1)))), ?_⟩
    refine ⟨_, rfl, a, He.ga K "NoSteps", [_], rfl, by show 1 ≤ 1000; decide, T.ox_NoSteps, ha, ?_⟩
    exact ⟨_, rfl, _, rfl, a, He.ga K "NoSteps", rfl, T.ox_NoSteps, T.nx_NoSteps, .inl ⟨ha, k⟩⟩
end
section
variable {P : Program} {w : World} {K : PySem.W.Frag} {mg : Str → Option Value} {base : Heap}
theorem xm_TooMany (T : Tx K mg) : WD.Xmk P w K mg base 1 "TooMany" (He.ga K "TooMany") (He.ma K (He.ga K "TooMany") "__init__") "many" := by
  obtain ⟨fd, F⟩ := T.F_TooMany_init
  refine ⟨WD.fn0_of F sc_TooMany_init (fun vs H Q E h => ?_) (fun _ _ _ _ _ _ us hl => match us, hl with | [_, _], _ => rfl) (fun cdv A outer s H vs Q E hr h => ?_), T.ox_TooMany, T.ix_TooMany, T.g_TooMany⟩
  · obtain ⟨a, v, rfl, ha, k⟩ := h
    rfl
  · obtain ⟨a, v, rfl, ha, k⟩ := h
    refine ⟨_, (pss_cons (ps_expr (WD.pe_oinit (by rfl) T.g_WishError T.px_WishError (pa_cons (pv 0) (pa_cons pe_str pa_nil))))
      (pss_one (ps_ost (pv 0) (pv 1)))), ?_⟩
    refine ⟨_, rfl, a, He.ga K "TooMany", [_], rfl, by show 1 ≤ 1000; decide, T.ox_TooMany, ha, ?_⟩
    exact ⟨_, rfl, _, rfl, a, He.ga K "TooMany", rfl, T.ox_TooMany, T.nx_TooMany, .inl ⟨ha, k⟩⟩
end
section
variable {P : Program} {w : World} {K : PySem.W.Frag} {tb : List (Addr × Str)} {mg : Str → Option Value} {base : Heap}
theorem bd__law_asked (T : Tx K mg) {A : Around} {stk : List Env} {cdg : Value} {th : PM.ME} {L : PM.Lm} {s : Shared} {H : Hp} {k : Nat} (hr : Room k (A.deeper (envOfC "_law_asked" (defScope s__law_asked) s.heap.objs.size (He.ga K "_law_asked") cdg))) (act : ∀ (pn : List (Addr × Obj)) (xe : Value → Shared → Prop), PM.Act ⟨K, tb⟩ ((cxOf C8.CX0 P w K mg base ["_law_ask", "_law_told", "e"] "_law_asked" (defScope s__law_asked) (He.ga K "_law_asked") cdg A stk s H C8.E0).tr pn xe) "_law_ask" L th) :
    PM.ISs ⟨K, tb⟩ none PM.W0 (cxOf C8.CX0 P w K mg base ["_law_ask", "_law_told", "e"] "_law_asked" (defScope s__law_asked) (He.ga K "_law_asked") cdg A stk s H C8.E0).nox (defBody s__law_asked) (b__law_asked L th) :=
    (PM.ss_cons (PM.s_set (ps_set (i := 1) sc__law_asked.nd rfl (.inl rfl) (PM.i_tup (PM.a_cons PM.i_str (PM.a_cons PM.i_non PM.a_nil)))))
      (PM.ss_cons (PM.s_try rfl rfl sc__law_asked.nd takes0 (fun W pn xe tk => PM.ss_open tk (fun E tk => (PM.ss_one (PM.s_exp (PM.i_act (act pn xe) tk)))))
        (WD.Clauses.cons (i := 2) (c := .ref (He.ga K "NoRow")) ⟨by rfl, by decide, .inl T.g_NoRow⟩ rfl rfl (fun a oe cls d pn hz hf => (PM.ss_one (PM.s_set (ps_set (i := 1) sc__law_asked.nd rfl (.inl rfl) (PM.i_tup (PM.a_cons PM.i_str (PM.a_cons (PM.i_xf (cs := ["NoRow"]) hz hf (PM.i_pv (pv 2)) (PM.fa_cons ⟨T.ex_NoRow, T.nx_NoRow⟩ PM.fa_nil)) PM.a_nil))))))) (WD.Clauses.cons (i := 2) (c := .ref (He.ga K "TooMany")) ⟨by rfl, by decide, .inl T.g_TooMany⟩ rfl rfl (fun a oe cls d pn hz hf => (PM.ss_one (PM.s_set (ps_set (i := 1) sc__law_asked.nd rfl (.inl rfl) (PM.i_tup (PM.a_cons PM.i_str (PM.a_cons (PM.i_xf (cs := ["TooMany"]) hz hf (PM.i_pv (pv 2)) (PM.fa_cons ⟨T.ex_TooMany, T.nx_TooMany⟩ PM.fa_nil)) PM.a_nil))))))) (WD.Clauses.cons0 (i := 3) (c := .ref (He.ga K "NoPaper")) ⟨by rfl, by decide, .inl T.g_NoPaper⟩ (Nat.le_of_eq rfl) (fun a oe cls d pn hz hf => (PM.ss_one (PM.s_set (ps_set (i := 1) sc__law_asked.nd rfl (.inl rfl) (PM.i_tup (PM.a_cons PM.i_str (PM.a_cons PM.i_non PM.a_nil))))))) (WD.Clauses.cons0 (i := 3) (c := .ref (He.ga K "NoSteps")) ⟨by rfl, by decide, .inl T.g_NoSteps⟩ (Nat.le_of_eq rfl) (fun a oe cls d pn hz hf => (PM.ss_one (PM.s_set (ps_set (i := 1) sc__law_asked.nd rfl (.inl rfl) (PM.i_tup (PM.a_cons PM.i_str (PM.a_cons PM.i_non PM.a_nil))))))) WD.Clauses.nil)))) ⟨(PM.fa_cons T.em_NoRow_NoRow PM.fa_nil), (PM.fa_cons T.em_NoHouse_NoRow (PM.fa_cons T.em_NoName_NoRow (PM.fa_cons T.em_NoPaper_NoRow (PM.fa_cons T.em_NoSteps_NoRow (PM.fa_cons T.em_TooMany_NoRow PM.fa_nil))))), ⟨(PM.fa_cons T.em_TooMany_TooMany PM.fa_nil), (PM.fa_cons T.em_NoHouse_TooMany (PM.fa_cons T.em_NoName_TooMany (PM.fa_cons T.em_NoPaper_TooMany (PM.fa_cons T.em_NoRow_TooMany (PM.fa_cons T.em_NoSteps_TooMany PM.fa_nil))))), ⟨(PM.fa_cons T.em_NoPaper_NoPaper PM.fa_nil), (PM.fa_cons T.em_NoHouse_NoPaper (PM.fa_cons T.em_NoName_NoPaper (PM.fa_cons T.em_NoRow_NoPaper (PM.fa_cons T.em_NoSteps_NoPaper (PM.fa_cons T.em_TooMany_NoPaper PM.fa_nil))))), ⟨(PM.fa_cons T.em_NoSteps_NoSteps PM.fa_nil), (PM.fa_cons T.em_NoHouse_NoSteps (PM.fa_cons T.em_NoName_NoSteps (PM.fa_cons T.em_NoPaper_NoSteps (PM.fa_cons T.em_NoRow_NoSteps (PM.fa_cons T.em_TooMany_NoSteps PM.fa_nil))))), trivial⟩⟩⟩⟩)
      (PM.ss_one (PM.s_ret (ps_ret (PM.i_pv (pv 1)))))))
end
section
variable {P : Program} {w : World} {K : PySem.W.Frag} {tb : List (Addr × Str)} {mg : Str → Option Value} {base : Heap}
theorem mt_House_things (T : Tx K mg) : WD.Met P w K mg base (L2.CX P w) 1 (He.ga K "House") "things" (He.ma K (He.ga K "House") "things") (PM.SpF ⟨K, tb⟩ 1 fn_House_things) [] := by
  obtain ⟨fd, F⟩ := T.F_House_things
  exact ⟨PM.fn_ok (K := ⟨K, tb⟩) (b := b_House_things) F sc_House_things (fun _ _ _ _ _ _ us hl => match us, hl with | [_], _ => rfl) (fun cdv A outer s H E hr =>
    (PM.ss_one (PM.s_ret (ps_ret (PM.i_fld (cs := ["House"]) (PM.i_pv (pv 0)) (PM.fa_cons ⟨T.cl_House, T.na_House_size⟩ PM.fa_nil)))))), T.cl_House, T.mt_House_things⟩
end
section
variable {P : Program} {w : World} {K : PySem.W.Frag} {tb : List (Addr × Str)} {mg : Str → Option Value} {base : Heap}
theorem ok_check_places (T : Tx K mg) : WD.Cal P w K mg base (L2.CX P w) 3 "check_places" (He.ga K "check_places") (PM.SpF ⟨K, tb⟩ 2 fn_check_places) [] := by
  obtain ⟨fd, F⟩ := T.F_check_places
  exact ⟨PM.fn_ok (K := ⟨K, tb⟩) (b := b_check_places) F sc_check_places (fun _ _ _ _ _ _ us hl => match us, hl with | [_, _], _ => rfl) (fun cdv A outer s H E hr =>
    (PM.ss_cons (PM.s_if (ps_if (PW.pt (PM.w_or (PM.t_not (PM.t_val (PM.i_call (ok_is_whole T) (takes_of rfl rfl rfl rfl) (hr.mono (by decide)) (by rfl) (PM.a_cons (PM.i_pv (pv 1)) PM.a_nil)))) (pw_or1 (PM.t_not (PM.t_chain (PM.op_leV) (PM.op_leV) PM.i_int (PM.i_pv (pv 1)) (PM.i_gi (by rfl) T.c_MOST_PLACES))))))
        (PM.ss_one (PM.s_raise (ps_raise rfl (takes_of rfl rfl rfl rfl) (WD.pmk_x (xm_NoRow T) (hr.mono (by decide)) (by rfl) (PM.a_cons PM.i_int PM.a_nil)))))
        PM.ss_nil))
      (PM.ss_cons (PM.s_set (ps_set (i := 2) sc_check_places.nd rfl (.inl rfl) (PM.i_call (ok_cells T) (takes_of rfl rfl rfl rfl) (hr.mono (by decide)) (by rfl) (PM.a_cons (PM.i_meth0 (mt_House_things T) (takes_of rfl rfl rfl rfl) (hr.mono (by decide)) (PM.i_pv (pv 0))) (PM.a_cons (PM.i_pv (pv 1)) PM.a_nil)))))
      (PM.ss_one (PM.s_if (ps_if (PM.t_cmp (PM.op_gtV) (PM.i_pv (pv 2)) (PM.i_gi (by rfl) T.c_MOST_WIDE) (nomark _))
        (PM.ss_one (PM.s_raise (ps_raise rfl (takes_of rfl rfl rfl rfl) (WD.pmk_x (xm_TooMany T) (hr.mono (by decide)) (by rfl) (PM.a_cons (PM.i_pv (pv 2)) PM.a_nil)))))
        PM.ss_nil)))))), F.kp, T.g_check_places⟩
end
section
variable {P : Program} {w : World} {K : PySem.W.Frag} {tb : List (Addr × Str)} {mg : Str → Option Value} {base : Heap}
theorem ok_check_table (T : Tx K mg) : WD.Cal P w K mg base (L2.CX P w) 4 "check_table" (He.ga K "check_table") (PM.SpF ⟨K, tb⟩ 3 fn_check_table) [] := by
  obtain ⟨fd, F⟩ := T.F_check_table
  exact ⟨PM.fn_ok (K := ⟨K, tb⟩) (b := b_check_table) F sc_check_table (fun _ _ _ _ _ _ us hl => match us, hl with | [_, _, _], _ => rfl) (fun cdv A outer s H E hr =>
    (PM.ss_cons (PM.s_exp (PM.i_call (ok_check_places T) (takes_of rfl rfl rfl rfl) (hr.mono (by decide)) (by rfl) (PM.a_cons (PM.i_pv (pv 0)) (PM.a_cons (PM.i_pv (pv 1)) PM.a_nil))))
      (PM.ss_one (PM.s_if (ps_if (PM.t_not (PM.t_val (PM.i_call (ok_is_row T) (takes_of rfl rfl rfl rfl) (hr.mono (by decide)) (by rfl) (PM.a_cons (PM.i_pv (pv 2)) (PM.a_cons (PM.i_call (ok_cells T) (takes_of rfl rfl rfl rfl) (hr.mono (by decide)) (by rfl) (PM.a_cons (PM.i_meth0 (mt_House_things T) (takes_of rfl rfl rfl rfl) (hr.mono (by decide)) (PM.i_pv (pv 0))) (PM.a_cons (PM.i_pv (pv 1)) PM.a_nil))) (PM.a_cons (PM.i_meth0 (mt_House_things T) (takes_of rfl rfl rfl rfl) (hr.mono (by decide)) (PM.i_pv (pv 0))) PM.a_nil))))))
        (PM.ss_one (PM.s_raise (ps_raise rfl (takes_of rfl rfl rfl rfl) (WD.pmk_x (xm_NoRow T) (hr.mono (by decide)) (by rfl) (PM.a_cons PM.i_int PM.a_nil)))))
        PM.ss_nil))))), F.kp, T.g_check_table⟩
end
section
variable {P : Program} {w : World} {K : PySem.W.Frag} {tb : List (Addr × Str)} {mg : Str → Option Value} {base : Heap}
theorem ok_check_rows (T : Tx K mg) : WD.Cal P w K mg base (L2.CX P w) 4 "check_rows" (He.ga K "check_rows") (PM.SpF ⟨K, tb⟩ 3 fn_check_rows) [] := by
  obtain ⟨fd, F⟩ := T.F_check_rows
  exact ⟨PM.fn_ok (K := ⟨K, tb⟩) (b := b_check_rows) F sc_check_rows (fun _ _ _ _ _ _ us hl => match us, hl with | [_, _, _], _ => rfl) (fun cdv A outer s H E hr =>
    (PM.ss_cons (PM.s_if (ps_if (PM.t_not (PM.t_val (PM.i_isT (PM.i_pv (pv 0)) (pe_bltn (v := .ty "list") (by rfl) T.z_list WD.bt_list rfl) (by decide) (by rfl) T.z_isinstance)))
        (PM.ss_one (PM.s_raise (ps_raise rfl (takes_of rfl rfl rfl rfl) (WD.pmk_x (xm_NoRow T) (hr.mono (by decide)) (by rfl) (PM.a_cons PM.i_int PM.a_nil)))))
        PM.ss_nil))
      (PM.ss_one (PM.s_for (passes_of rfl) rfl (PM.ii_enum (by rfl) T.z_enumerate (PM.a_cons (PM.i_pv (pv 0)) PM.a_nil)) (PM.g_tup (PM.gs_cons (PM.g_name (pg_name (i := 3) sc_check_rows.nd rfl (.inl rfl))) (PM.gs_cons (PM.g_name (pg_name (i := 4) sc_check_rows.nd rfl (.inl rfl))) PM.gs_nil)) rfl)
        (PM.ss_one (PM.s_if (ps_if (PM.t_not (PM.t_val (PM.i_call (ok_is_row T) (takes_of rfl rfl rfl rfl) (hr.mono (by decide)) (by rfl) (PM.a_cons (PM.i_pv (pv 4)) (PM.a_cons (PM.i_pv (pv 1)) (PM.a_cons (PM.i_pv (pv 2)) PM.a_nil))))))
        (PM.ss_one (PM.s_raise (ps_raise rfl (takes_of rfl rfl rfl rfl) (WD.pmk_x (xm_NoRow T) (hr.mono (by decide)) (by rfl) (PM.a_cons (PM.i_pv (pv 3)) PM.a_nil)))))
        PM.ss_nil))))))), F.kp, T.g_check_rows⟩
end
section
variable {P : Program} {w : World} {K : PySem.W.Frag} {tb : List (Addr × Str)} {mg : Str → Option Value} {base : Heap}
theorem mk_Growing (T : Tx K mg) : WD.Mak P w K mg base (L2.CX P w) 1 "Growing" (He.ga K "Growing") (He.ma K (He.ga K "Growing") "__init__") (PM.SpI ⟨K, tb⟩ "Growing" ["house", "wide", "most", "numbers", "rows", "steps"] 3 fi_Growing) [] := by
  obtain ⟨fd, F⟩ := T.F_Growing_init
  have h := PM.ini_ok (K := ⟨K, tb⟩) (P := P) (w := w) (mg := mg) (base := base) (n := 3) (k := 0) (C := "Growing") (ns := ["house", "wide", "most", "numbers", "rows", "steps"]) (F := bi_Growing) F sc_Growing_init rfl (fun _ _ _ _ _ _ us hl => match us, hl with | [_, _, _, _], _ => rfl) (fun cdv A outer s H E a hr =>
    (PM.in_fld (i := 0) (fun h1 h2 => WD.k_ps_fld K h1 h2) (pv 0) (PM.i_pv (pv 1)) (PM.in_fld (i := 0) (fun h1 h2 => WD.k_ps_fld K h1 h2) (pv 0) (PM.i_pv (pv 2)) (PM.in_fld (i := 0) (fun h1 h2 => WD.k_ps_fld K h1 h2) (pv 0) (PM.i_pv (pv 3)) (PM.in_fld (i := 0) (fun h1 h2 => WD.k_ps_fld K h1 h2) (pv 0) PM.i_dnewT (PM.in_fld (i := 0) (fun h1 h2 => WD.k_ps_fld K h1 h2) (pv 0) (PM.i_cellF (PM.f_lst PM.a_nil)) (PM.in_fld (i := 0) (fun h1 h2 => WD.k_ps_fld K h1 h2) (pv 0) (PM.i_cellF (PM.f_lst PM.a_nil)) PM.in_nil T.cl_Growing T.na_Growing_steps (by decide) (by decide)) T.cl_Growing T.na_Growing_rows (by decide) (by decide)) T.cl_Growing T.na_Growing_numbers (by decide) (by decide)) T.cl_Growing T.na_Growing_most (by decide) (by decide)) T.cl_Growing T.na_Growing_wide (by decide) (by decide)) T.cl_Growing T.na_Growing_house (by decide) (by decide)))
  exact ⟨h, T.mk_Growing, T.g_Growing⟩
end
section
variable {P : Program} {w : World} {K : PySem.W.Frag} {tb : List (Addr × Str)} {mg : Str → Option Value} {base : Heap}
theorem mt_Growing_put (T : Tx K mg) : WD.Met P w K mg base (L2.CX P w) 3 (He.ga K "Growing") "put" (He.ma K (He.ga K "Growing") "put") (PM.SpF ⟨K, tb⟩ 3 fn_Growing_put) [] := by
  obtain ⟨fd, F⟩ := T.F_Growing_put
  exact ⟨PM.fn_ok (K := ⟨K, tb⟩) (b := b_Growing_put) F sc_Growing_put (fun _ _ _ _ _ _ us hl => match us, hl with | [_, _, _], _ => rfl) (fun cdv A outer s H E hr =>
    (PM.ss_one (PM.s_if (ps_if (PM.t_cmp (PM.op_notInV (WD.hu65 hr)) (PM.i_pv (pv 1)) (PM.i_fld (cs := ["Growing"]) (PM.i_pv (pv 0)) (PM.fa_cons ⟨T.cl_Growing, T.na_Growing_numbers⟩ PM.fa_nil)) (by rfl))
        (PM.ss_cons (PM.s_if (ps_if (PM.t_cmp (PM.op_eqV hr.units) (PM.i_callB (PM.cr_lenV) (by rfl) T.z_len WD.bt_len (PM.a_cons (PM.i_fld (cs := ["Growing"]) (PM.i_pv (pv 0)) (PM.fa_cons ⟨T.cl_Growing, T.na_Growing_rows⟩ PM.fa_nil)) PM.a_nil)) (PM.i_fld (cs := ["Growing"]) (PM.i_pv (pv 0)) (PM.fa_cons ⟨T.cl_Growing, T.na_Growing_most⟩ PM.fa_nil)) (nomark _))
        (PM.ss_one (PM.s_raise (ps_raise rfl (takes_of rfl rfl rfl rfl) (WD.pmk_x (xm_TooMany T) (hr.mono (by decide)) (by rfl) (PM.a_cons (PM.i_fld (cs := ["Growing"]) (PM.i_pv (pv 0)) (PM.fa_cons ⟨T.cl_Growing, T.na_Growing_most⟩ PM.fa_nil)) PM.a_nil)))))
        PM.ss_nil))
      (PM.ss_cons (PM.s_dput (ps_dput (WD.huD hr) (PM.i_fld (cs := ["Growing"]) (PM.i_pv (pv 0)) (PM.fa_cons ⟨T.cl_Growing, T.na_Growing_numbers⟩ PM.fa_nil)) (PM.i_pv (pv 1)) (PM.i_callB (PM.cr_lenV) (by rfl) T.z_len WD.bt_len (PM.a_cons (PM.i_fld (cs := ["Growing"]) (PM.i_pv (pv 0)) (PM.fa_cons ⟨T.cl_Growing, T.na_Growing_rows⟩ PM.fa_nil)) PM.a_nil)) rfl))
      (PM.ss_cons (PM.s_exp (PM.i_mut PySem.F.slot_list_append PySem.F.type_list_append PM.mt_appendM (PM.i_fld (cs := ["Growing"]) (PM.i_pv (pv 0)) (PM.fa_cons ⟨T.cl_Growing, T.na_Growing_rows⟩ PM.fa_nil)) (PM.a_cons (PM.i_pv (pv 1)) PM.a_nil) (fun hm ho ha => WD.k_pe_bm K PySem.F.plainAttrs_list PySem.F.slot_list_append PySem.F.type_list_append hm ho ha)))
      (PM.ss_one (PM.s_exp (PM.i_mut PySem.F.slot_list_append PySem.F.type_list_append PM.mt_appendM (PM.i_fld (cs := ["Growing"]) (PM.i_pv (pv 0)) (PM.fa_cons ⟨T.cl_Growing, T.na_Growing_steps⟩ PM.fa_nil)) (PM.a_cons (PM.i_pv (pv 2)) PM.a_nil) (fun hm ho ha => WD.k_pe_bm K PySem.F.plainAttrs_list PySem.F.slot_list_append PySem.F.type_list_append hm ho ha)))))))
        PM.ss_nil)))), T.cl_Growing, T.mt_Growing_put⟩
end
section
variable {P : Program} {w : World} {K : PySem.W.Frag} {tb : List (Addr × Str)} {mg : Str → Option Value} {base : Heap}
theorem mt_House_deeds (T : Tx K mg) : WD.Met P w K mg base (L2.CX P w) 1 (He.ga K "House") "deeds" (He.ma K (He.ga K "House") "deeds") (PM.SpF ⟨K, tb⟩ 1 fn_House_deeds) [] := by
  obtain ⟨fd, F⟩ := T.F_House_deeds
  exact ⟨PM.fn_ok (K := ⟨K, tb⟩) (b := b_House_deeds) F sc_House_deeds (fun _ _ _ _ _ _ us hl => match us, hl with | [_], _ => rfl) (fun cdv A outer s H E hr =>
    (PM.ss_one (PM.s_ret (ps_ret (PM.i_ofF (PM.f_listVals rfl (by rfl) T.z_list (PM.i_fld (cs := ["House"]) (PM.i_pv (pv 0)) (PM.fa_cons ⟨T.cl_House, T.na_House_by_name⟩ PM.fa_nil)))))))), T.cl_House, T.mt_House_deeds⟩
end
section
variable {P : Program} {w : World} {K : PySem.W.Frag} {tb : List (Addr × Str)} {mg : Str → Option Value} {base : Heap}
theorem ok_grown (T : Tx K mg) : WD.Cal P w K mg base (L2.CX P w) 4 "grown" (He.ga K "grown") (PM.SpF ⟨K, tb⟩ 4 fn_grown) [] := by
  obtain ⟨fd, F⟩ := T.F_grown
  exact ⟨PM.fn_ok (K := ⟨K, tb⟩) (b := b_grown) F sc_grown (fun _ _ _ _ _ _ us hl => match us, hl with | [_, _, _, _], _ => rfl) (fun cdv A outer s H E hr =>
    (PM.ss_cons (PM.s_set (ps_set (i := 4) sc_grown.nd rfl (.inl rfl) (PM.i_make (mk_Growing T) (takes_of rfl rfl rfl rfl) (hr.mono (by decide)) (by rfl) (PM.a_cons (PM.i_pv (pv 0)) (PM.a_cons (PM.i_pv (pv 2)) (PM.a_cons (PM.i_pv (pv 3)) PM.a_nil))))))
      (PM.ss_cons (PM.s_for (passes_of rfl) rfl (PM.ii_enum (by rfl) T.z_enumerate (PM.a_cons (PM.i_pv (pv 1)) PM.a_nil)) (PM.g_tup (PM.gs_cons (PM.g_name (pg_name (i := 5) sc_grown.nd rfl (.inl rfl))) (PM.gs_cons (PM.g_name (pg_name (i := 6) sc_grown.nd rfl (.inl rfl))) PM.gs_nil)) rfl)
        (PM.ss_one (PM.s_exp (PM.i_meth (mt_Growing_put T) (takes_of rfl rfl rfl rfl) (hr.mono (by decide)) (PM.i_pv (pv 4)) (PM.a_cons (PM.i_pv (pv 6)) (PM.a_cons (PM.i_tup (PM.a_cons (PM.i_pv (pv 5)) PM.a_nil)) PM.a_nil))))))
      (PM.ss_cons (PM.s_for (passes_of rfl) rfl (PM.ii_val (PM.i_meth0 (mt_House_deeds T) (takes_of rfl rfl rfl rfl) (hr.mono (by decide)) (PM.i_pv (pv 0)))) (PM.g_tup (PM.gs_cons (PM.g_name (pg_name (i := 7) sc_grown.nd rfl (.inl rfl))) (PM.gs_cons (PM.g_name (pg_name (i := 8) sc_grown.nd rfl (.inl rfl))) (PM.gs_cons (PM.g_name (pg_name (i := 9) sc_grown.nd rfl (.inl rfl))) PM.gs_nil))) rfl)
        (PM.ss_one (PM.s_if (ps_if (PM.t_cmp (PM.op_eqV hr.units) (PM.i_pv (pv 8)) PM.i_int (nomark _))
        (PM.ss_one (PM.s_exp (PM.i_meth (mt_Growing_put T) (takes_of rfl rfl rfl rfl) (hr.mono (by decide)) (PM.i_pv (pv 4)) (PM.a_cons (PM.i_op PM.op_mulV (PM.i_tup (PM.a_cons (PM.i_ix (WD.huD hr) (PM.i_pv (pv 9)) PM.i_int (fun _ _ => rfl)) PM.a_nil)) (PM.i_pv (pv 2))) (PM.a_cons (PM.i_tup (PM.a_cons (PM.i_pv (pv 7)) PM.a_nil)) PM.a_nil)))))
        PM.ss_nil))))
      (PM.ss_cons PM.s_dead
      (PM.ss_one (PM.s_ret (ps_ret (PM.i_pv (pv 4)))))))))), F.kp, T.g_grown⟩
end
section
variable {P : Program} {w : World} {K : PySem.W.Frag} {tb : List (Addr × Str)} {mg : Str → Option Value} {base : Heap}
theorem fk_made (T : Tx K mg) {fd : FuncData} (F : FunD K "made" "made" (defArgs s_made) (defBody s_made) (defScope s_made) [.int 200] [] (He.ga K "made") fd) : FnOk P w K mg base (L2.CX P w) 5 (He.ga K "made") fd ["house", "rows", "goal", "most"] (PM.SpF ⟨K, tb⟩ 4 fn_made) := by
  have h := PM.fn_okF (P := P) (w := w) (mg := mg) (base := base) (k := 4) (K := ⟨K, tb⟩) (b := b_made) F sc_made (fun cdv A outer s H E hr =>
    (PM.ss_cons (PM.s_if (ps_if (PM.t_not (PM.t_val (PM.i_isT (PM.i_pv (pv 2)) (pe_bltn (v := .ty "tuple") (by rfl) T.z_tuple WD.bt_tuple rfl) (by decide) (by rfl) T.z_isinstance)))
        (PM.ss_one (PM.s_raise (ps_raise rfl (takes_of rfl rfl rfl rfl) (WD.pmk_x (xm_NoRow T) (hr.mono (by decide)) (by rfl) (PM.a_cons PM.i_int PM.a_nil)))))
        PM.ss_nil))
      (PM.ss_cons (PM.s_exp (PM.i_call (ok_check_rows T) (takes_of rfl rfl rfl rfl) (hr.mono (by decide)) (by rfl) (PM.a_cons (PM.i_pv (pv 1)) (PM.a_cons (PM.i_callB (PM.cr_lenV) (by rfl) T.z_len WD.bt_len (PM.a_cons (PM.i_pv (pv 2)) PM.a_nil)) (PM.a_cons (PM.i_meth0 (mt_House_things T) (takes_of rfl rfl rfl rfl) (hr.mono (by decide)) (PM.i_pv (pv 0))) PM.a_nil)))))
      (PM.ss_cons (PM.s_if (ps_if (PM.t_not (PM.t_val (PM.i_call (ok_is_row T) (takes_of rfl rfl rfl rfl) (hr.mono (by decide)) (by rfl) (PM.a_cons (PM.i_pv (pv 2)) (PM.a_cons (PM.i_callB (PM.cr_lenV) (by rfl) T.z_len WD.bt_len (PM.a_cons (PM.i_pv (pv 2)) PM.a_nil)) (PM.a_cons (PM.i_meth0 (mt_House_things T) (takes_of rfl rfl rfl rfl) (hr.mono (by decide)) (PM.i_pv (pv 0))) PM.a_nil))))))
        (PM.ss_one (PM.s_raise (ps_raise rfl (takes_of rfl rfl rfl rfl) (WD.pmk_x (xm_NoRow T) (hr.mono (by decide)) (by rfl) (PM.a_cons (PM.i_callB (PM.cr_lenV) (by rfl) T.z_len WD.bt_len (PM.a_cons (PM.i_pv (pv 1)) PM.a_nil)) PM.a_nil)))))
        PM.ss_nil))
      (PM.ss_cons (PM.s_set (ps_set (i := 4) sc_made.nd rfl (.inl rfl) (PM.i_call (ok_grown T) (takes_of rfl rfl rfl rfl) (hr.mono (by decide)) (by rfl) (PM.a_cons (PM.i_pv (pv 0)) (PM.a_cons (PM.i_pv (pv 1)) (PM.a_cons (PM.i_callB (PM.cr_lenV) (by rfl) T.z_len WD.bt_len (PM.a_cons (PM.i_pv (pv 2)) PM.a_nil)) (PM.a_cons (PM.i_pv (pv 3)) PM.a_nil)))))))
      (PM.ss_cons (PM.s_if (ps_if (PM.t_cmp (PM.op_inV (WD.hu65 hr)) (PM.i_pv (pv 2)) (PM.i_fld (cs := ["Growing"]) (PM.i_pv (pv 4)) (PM.fa_cons ⟨T.cl_Growing, T.na_Growing_numbers⟩ PM.fa_nil)) (by rfl))
        (PM.ss_one (PM.s_ret (ps_ret (PM.i_tup (PM.a_cons PM.i_str (PM.a_cons PM.i_dead PM.a_nil))))))
        PM.ss_nil))
      (PM.ss_one (PM.s_ret (ps_ret (PM.i_tup (PM.a_cons PM.i_str (PM.a_cons PM.i_dead PM.a_nil))))))))))))
  exact h
theorem ok_made (T : Tx K mg) : WD.Cal P w K mg base (L2.CX P w) 5 "made" (He.ga K "made") (PM.SpF ⟨K, tb⟩ 4 fn_made) [] := by
  obtain ⟨fd, F⟩ := T.F_made
  obtain ⟨ds, hv, hb⟩ := F.binds1 (ps := ["house", "rows", "goal", "most"]) 4 1 (by simp) rfl (fun _ _ _ _ _ _ _ us its h1 h2 => match us, its, h1, h2 with | [_, _, _, _], [_], _, _ => ⟨_, rfl, rfl⟩)
  exact ⟨⟨fd, _, ds, fk_made T F, hb, hv⟩, F.kp, T.g_made⟩
theorem kc0_made (T : Tx K mg) : WD.CalN P w K mg base (L2.CX P w) 5 "made" (He.ga K "made") (PM.SpF ⟨K, tb⟩ 4 fn_made) 3 ["most"] (fun vs zs => WD.pickG [.pos 0, .pos 1, .pos 2, .kw 0] vs (([.int 200] : List PM.PV).map PM.dfV) zs) := by
  obtain ⟨fd, F⟩ := T.F_made
  obtain ⟨g, hb⟩ := WD.kbnD (ps := ["house", "rows", "goal", "most"]) F 3 ["most"] [.pos 0, .pos 1, .pos 2, .kw 0] (by simp) (fun _ _ _ _ _ _ _ us its ws h1 h2 h3 => match us, its, ws, h1, h2, h3 with | [_, _, _], [_], [_], _, _, _ => ⟨_, rfl, rfl⟩)
  exact ⟨⟨fd, _, g, fk_made T F, hb⟩, F.kp, T.g_made⟩
end
section
variable {P : Program} {w : World} {K : PySem.W.Frag} {tb : List (Addr × Str)} {mg : Str → Option Value} {base : Heap}
theorem ok_things_at (T : Tx K mg) : WD.Cal P w K mg base (L2.CX P w) 1 "things_at" (He.ga K "things_at") (PM.SpF ⟨K, tb⟩ 3 fn_things_at) [] := by
  obtain ⟨fd, F⟩ := T.F_things_at
  exact ⟨PM.fn_ok (K := ⟨K, tb⟩) (b := b_things_at) F sc_things_at (fun _ _ _ _ _ _ us hl => match us, hl with | [_, _, _], _ => rfl) (fun cdv A outer s H E hr =>
    (PM.ss_cons (PM.s_set (ps_set (i := 3) sc_things_at.nd rfl (.inl rfl) (PM.i_tup PM.a_nil)))
      (PM.ss_cons (PM.s_for (passes_of rfl) rfl (PM.ii_range1 (by rfl) T.z_range (PM.a_cons (PM.i_pv (pv 1)) PM.a_nil)) (PM.g_name (pg_name (i := 4) sc_things_at.nd rfl (.inl rfl)))
        (PM.ss_cons (PM.s_set (ps_set (i := 3) sc_things_at.nd rfl (.inl rfl) (PM.i_op PM.op_addV (PM.i_tup (PM.a_cons (PM.i_op PM.op_modV (PM.i_pv (pv 0)) (PM.i_pv (pv 2))) PM.a_nil)) (PM.i_pv (pv 3)))))
      (PM.ss_one (PM.s_set (ps_set (i := 0) sc_things_at.nd rfl (.inl rfl) (PM.i_op PM.op_fdivV (PM.i_pv (pv 0)) (PM.i_pv (pv 2))))))))
      (PM.ss_one (PM.s_ret (ps_ret (PM.i_pv (pv 3)))))))), F.kp, T.g_things_at⟩
end
section
variable {P : Program} {w : World} {K : PySem.W.Frag} {tb : List (Addr × Str)} {mg : Str → Option Value} {base : Heap}
theorem ok_argument_rows (T : Tx K mg) : WD.Cal P w K mg base (L2.CX P w) 2 "argument_rows" (He.ga K "argument_rows") (PM.SpF ⟨K, tb⟩ 2 fn_argument_rows) [] := by
  obtain ⟨fd, F⟩ := T.F_argument_rows
  exact ⟨PM.fn_ok (K := ⟨K, tb⟩) (b := b_argument_rows) F sc_argument_rows (fun _ _ _ _ _ _ us hl => match us, hl with | [_, _], _ => rfl) (fun cdv A outer s H E hr =>
    (PM.ss_cons (PM.s_set (ps_set (i := 2) sc_argument_rows.nd rfl (.inr rfl) (PM.i_ofF (PM.f_lc (pe_lc (own := [("spot", 3)]) rfl sc_argument_rows.nd (PM.ii_range1 (by rfl) T.z_range (PM.a_cons (PM.i_call (ok_cells T) (takes_of rfl rfl rfl rfl) (hr.mono (by decide)) (by rfl) (PM.a_cons (PM.i_pv (pv 0)) (PM.a_cons (PM.i_pv (pv 1)) PM.a_nil))) PM.a_nil)) (blkOk_by (N := ["size", "places", "some", "spot", "k", "things"]) (sc := defScope s_argument_rows) (by decide +kernel)) (fun _ _ _ _ _ => (PM.g_name (pg_name (i := 3) sc_argument_rows.nd rfl (.inl rfl)))) (fun _ _ _ _ _ => PM.ts_yes) (fun _ _ _ _ _ => (PM.i_call (ok_things_at T) takes0 (hr.mono (by decide)) (by rfl) (PM.a_cons (PM.i_pv (pv 3)) (PM.a_cons (PM.i_pv (pv 1)) (PM.a_cons (PM.i_pv (pv 0)) PM.a_nil))))))))))
      (PM.ss_one (PM.s_ret (ps_ret (PM.i_ofF (PM.f_lc (pe_lc (own := [("k", 4)]) rfl sc_argument_rows.nd (PM.ii_range1 (by rfl) T.z_range (PM.a_cons (PM.i_pv (pv 1)) PM.a_nil)) (blkOk_by (N := ["size", "places", "some", "spot", "k", "things"]) (sc := defScope s_argument_rows) (by decide +kernel)) (fun _ _ _ _ _ => (PM.g_name (pg_name (i := 4) sc_argument_rows.nd rfl (.inr rfl)))) (fun _ _ _ _ _ => PM.ts_yes) (fun _ _ _ _ _ => (PM.i_callTy PM.cr_tupleV (by rfl) T.z_tuple WD.bt_tuple (PM.a_cons (PM.i_ofF (PM.f_lc (pe_lc (own := [("things", 5)]) rfl sc_argument_rows.nd (PM.ii_val (PM.i_pv (pv 2))) (blkOk_by (by kernel_rfl)) (fun _ _ _ _ _ => (PM.g_name (pg_name (i := 5) sc_argument_rows.nd rfl (.inl rfl)))) (fun _ _ _ _ _ => PM.ts_yes) (fun _ _ _ _ _ => (PM.i_ix (WD.huD hr) (PM.i_pv (pv 5)) (PM.i_pv (pv 4)) (fun _ _ => rfl)))))) PM.a_nil))))))))))), F.kp, T.g_argument_rows⟩
end
section
variable {P : Program} {w : World} {K : PySem.W.Frag} {tb : List (Addr × Str)} {mg : Str → Option Value} {base : Heap}
theorem fk_term_deed (T : Tx K mg) {fd : FuncData} (F : FunD K "term_deed" "term_deed" (defArgs s_term_deed) (defBody s_term_deed) (defScope s_term_deed) [.int 200] [] (He.ga K "term_deed") fd) : FnOk P w K mg base (L2.CX P w) 6 (He.ga K "term_deed") fd ["house", "places", "table", "most"] (PM.SpF ⟨K, tb⟩ 4 fn_term_deed) := by
  have h := PM.fn_okF (P := P) (w := w) (mg := mg) (base := base) (k := 5) (K := ⟨K, tb⟩) (b := b_term_deed) F sc_term_deed (fun cdv A outer s H E hr =>
    (PM.ss_cons (PM.s_exp (PM.i_call (ok_check_table T) (takes_of rfl rfl rfl rfl) (hr.mono (by decide)) (by rfl) (PM.a_cons (PM.i_pv (pv 0)) (PM.a_cons (PM.i_pv (pv 1)) (PM.a_cons (PM.i_pv (pv 2)) PM.a_nil)))))
      (PM.ss_cons (PM.s_set (ps_set (i := 4) sc_term_deed.nd rfl (.inl rfl) (PM.i_callK (l := [.pos 0, .pos 1, .pos 2, .kw 0]) (dfs := [.int 200]) (kc0_made T) (takes_of rfl rfl rfl rfl) (hr.mono (by decide)) (by rfl) (PM.a_cons (PM.i_pv (pv 0)) (PM.a_cons (PM.i_call (ok_argument_rows T) (takes_of rfl rfl rfl rfl) (hr.mono (by decide)) (by rfl) (PM.a_cons (PM.i_meth0 (mt_House_things T) (takes_of rfl rfl rfl rfl) (hr.mono (by decide)) (PM.i_pv (pv 0))) (PM.a_cons (PM.i_pv (pv 1)) PM.a_nil))) (PM.a_cons (PM.i_pv (pv 2)) PM.a_nil))) (PM.k_cons (PM.i_pv (pv 3)) PM.k_nil))))
      (PM.ss_one (PM.s_ret (ps_ret PM.i_dead))))))
  exact h
theorem ok_term_deed (T : Tx K mg) : WD.Cal P w K mg base (L2.CX P w) 6 "term_deed" (He.ga K "term_deed") (PM.SpF ⟨K, tb⟩ 4 fn_term_deed) [] := by
  obtain ⟨fd, F⟩ := T.F_term_deed
  obtain ⟨ds, hv, hb⟩ := F.binds1 (ps := ["house", "places", "table", "most"]) 4 1 (by simp) rfl (fun _ _ _ _ _ _ _ us its h1 h2 => match us, its, h1, h2 with | [_, _, _, _], [_], _, _ => ⟨_, rfl, rfl⟩)
  exact ⟨⟨fd, _, ds, fk_term_deed T F, hb, hv⟩, F.kp, T.g_term_deed⟩
end
section
variable {P : Program} {w : World} {K : PySem.W.Frag} {tb : List (Addr × Str)} {mg : Str → Option Value} {base : Heap}
theorem ok_check_made (T : Tx K mg) : WD.Cal P w K mg base (L2.CX P w) 5 "check_made" (He.ga K "check_made") (PM.SpF ⟨K, tb⟩ 4 fn_check_made) [] := by
  obtain ⟨fd, F⟩ := T.F_check_made
  exact ⟨PM.fn_ok (K := ⟨K, tb⟩) (b := b_check_made) F sc_check_made (fun _ _ _ _ _ _ us hl => match us, hl with | [_, _, _, _], _ => rfl) (fun cdv A outer s H E hr =>
    (PM.ss_cons (PM.s_if (ps_if (PM.t_not (PM.t_val (PM.i_isT (PM.i_pv (pv 2)) (pe_bltn (v := .ty "tuple") (by rfl) T.z_tuple WD.bt_tuple rfl) (by decide) (by rfl) T.z_isinstance)))
        (PM.ss_one (PM.s_raise (ps_raise rfl (takes_of rfl rfl rfl rfl) (WD.pmk_x (xm_NoRow T) (hr.mono (by decide)) (by rfl) (PM.a_cons PM.i_int PM.a_nil)))))
        PM.ss_nil))
      (PM.ss_cons (PM.s_exp (PM.i_call (ok_check_rows T) (takes_of rfl rfl rfl rfl) (hr.mono (by decide)) (by rfl) (PM.a_cons (PM.i_pv (pv 1)) (PM.a_cons (PM.i_callB (PM.cr_lenV) (by rfl) T.z_len WD.bt_len (PM.a_cons (PM.i_pv (pv 2)) PM.a_nil)) (PM.a_cons (PM.i_meth0 (mt_House_things T) (takes_of rfl rfl rfl rfl) (hr.mono (by decide)) (PM.i_pv (pv 0))) PM.a_nil)))))
      (PM.ss_cons (PM.s_if (ps_if (PM.t_not (PM.t_val (PM.i_call (ok_is_row T) (takes_of rfl rfl rfl rfl) (hr.mono (by decide)) (by rfl) (PM.a_cons (PM.i_pv (pv 2)) (PM.a_cons (PM.i_callB (PM.cr_lenV) (by rfl) T.z_len WD.bt_len (PM.a_cons (PM.i_pv (pv 2)) PM.a_nil)) (PM.a_cons (PM.i_meth0 (mt_House_things T) (takes_of rfl rfl rfl rfl) (hr.mono (by decide)) (PM.i_pv (pv 0))) PM.a_nil))))))
        (PM.ss_one (PM.s_raise (ps_raise rfl (takes_of rfl rfl rfl rfl) (WD.pmk_x (xm_NoRow T) (hr.mono (by decide)) (by rfl) (PM.a_cons (PM.i_callB (PM.cr_lenV) (by rfl) T.z_len WD.bt_len (PM.a_cons (PM.i_pv (pv 1)) PM.a_nil)) PM.a_nil)))))
        PM.ss_nil))
      (PM.ss_cons (PM.s_if (ps_if (PW.pt (PM.w_or (PM.t_not (PM.t_val (PM.i_isT (PM.i_pv (pv 3)) (pe_bltn (v := .ty "tuple") (by rfl) T.z_tuple WD.bt_tuple rfl) (by decide) (by rfl) T.z_isinstance))) (PM.w_or (PM.t_cmp (PM.op_neV hr.units) (PM.i_callB (PM.cr_lenV) (by rfl) T.z_len WD.bt_len (PM.a_cons (PM.i_pv (pv 3)) PM.a_nil)) PM.i_int (nomark _)) (pw_or1 (PM.t_not (PM.t_val (PM.i_isT (PM.i_ix (WD.huD hr) (PM.i_pv (pv 3)) PM.i_int (fun _ _ => rfl)) (pe_bltn (v := .ty "list") (by rfl) T.z_list WD.bt_list rfl) (by decide) (by rfl) T.z_isinstance)))))))
        (PM.ss_one (PM.s_raise (ps_raise rfl (takes_of rfl rfl rfl rfl) (WD.pmk_x (xm_NoPaper T) (hr.mono (by decide)) (by rfl) (PM.a_cons (PM.i_un PM.un_negV PM.i_int) PM.a_nil)))))
        PM.ss_nil))
      (PM.ss_one (PM.s_if (ps_if (PM.t_cmp (PM.op_eqV hr.units) (PM.i_ix (WD.huD hr) (PM.i_pv (pv 3)) PM.i_int (fun _ _ => rfl)) PM.i_str (nomark _))
        (PM.ss_one (PM.s_exp PM.i_dead))
        (PM.ss_one (PM.s_if (ps_if (PM.t_cmp (PM.op_eqV hr.units) (PM.i_ix (WD.huD hr) (PM.i_pv (pv 3)) PM.i_int (fun _ _ => rfl)) PM.i_str (nomark _))
        (PM.ss_one (PM.s_exp PM.i_dead))
        (PM.ss_one (PM.s_raise (ps_raise rfl (takes_of rfl rfl rfl rfl) (WD.pmk_x (xm_NoPaper T) (hr.mono (by decide)) (by rfl) (PM.a_cons (PM.i_un PM.un_negV PM.i_int) PM.a_nil)))))))))))))))), F.kp, T.g_check_made⟩
end
section
variable {P : Program} {w : World} {K : PySem.W.Frag} {tb : List (Addr × Str)} {mg : Str → Option Value} {base : Heap}
theorem ok_check_term (T : Tx K mg) : WD.Cal P w K mg base (L2.CX P w) 6 "check_term" (He.ga K "check_term") (PM.SpF ⟨K, tb⟩ 4 fn_check_term) [] := by
  obtain ⟨fd, F⟩ := T.F_check_term
  exact ⟨PM.fn_ok (K := ⟨K, tb⟩) (b := b_check_term) F sc_check_term (fun _ _ _ _ _ _ us hl => match us, hl with | [_, _, _, _], _ => rfl) (fun cdv A outer s H E hr =>
    (PM.ss_cons (PM.s_exp (PM.i_call (ok_check_table T) (takes_of rfl rfl rfl rfl) (hr.mono (by decide)) (by rfl) (PM.a_cons (PM.i_pv (pv 0)) (PM.a_cons (PM.i_pv (pv 1)) (PM.a_cons (PM.i_pv (pv 2)) PM.a_nil)))))
      (PM.ss_cons (PM.s_if (ps_if (PW.pt (PM.w_or (PM.t_not (PM.t_val (PM.i_isT (PM.i_pv (pv 3)) (pe_bltn (v := .ty "tuple") (by rfl) T.z_tuple WD.bt_tuple rfl) (by decide) (by rfl) T.z_isinstance))) (PM.w_or (PM.t_cmp (PM.op_neV hr.units) (PM.i_callB (PM.cr_lenV) (by rfl) T.z_len WD.bt_len (PM.a_cons (PM.i_pv (pv 3)) PM.a_nil)) PM.i_int (nomark _)) (pw_or1 (PM.t_cmp (PM.op_notInV (WD.hu65 hr)) (PM.i_ix (WD.huD hr) (PM.i_pv (pv 3)) PM.i_int (fun _ _ => rfl)) (PM.i_tup (PM.a_cons PM.i_str (PM.a_cons PM.i_str PM.a_nil))) (by rfl))))))
        (PM.ss_one (PM.s_raise (ps_raise rfl (takes_of rfl rfl rfl rfl) (WD.pmk_x (xm_NoPaper T) (hr.mono (by decide)) (by rfl) (PM.a_cons (PM.i_un PM.un_negV PM.i_int) PM.a_nil)))))
        PM.ss_nil))
      (PM.ss_cons (PM.s_set (ps_set (i := 4) sc_check_term.nd rfl (.inl rfl) (PM.i_call (ok_argument_rows T) (takes_of rfl rfl rfl rfl) (hr.mono (by decide)) (by rfl) (PM.a_cons (PM.i_meth0 (mt_House_things T) (takes_of rfl rfl rfl rfl) (hr.mono (by decide)) (PM.i_pv (pv 0))) (PM.a_cons (PM.i_pv (pv 1)) PM.a_nil)))))
      (PM.ss_one (PM.s_exp (PM.i_call (ok_check_made T) (takes_of rfl rfl rfl rfl) (hr.mono (by decide)) (by rfl) (PM.a_cons (PM.i_pv (pv 0)) (PM.a_cons (PM.i_pv (pv 4)) (PM.a_cons (PM.i_pv (pv 2)) (PM.a_cons PM.i_dead PM.a_nil))))))))))), F.kp, T.g_check_term⟩
end
section
variable {P : Program} {w : World} {K : PySem.W.Frag} {tb : List (Addr × Str)} {mg : Str → Option Value} {base : Heap}
theorem fk_spread (T : Tx K mg) {fd : FuncData} (F : FunD K "spread" "spread" (defArgs s_spread) (defBody s_spread) (defScope s_spread) [.int 200] [] (He.ga K "spread") fd) : FnOk P w K mg base (L2.CX P w) 5 (He.ga K "spread") fd ["house", "rows", "wide", "most"] (PM.SpF ⟨K, tb⟩ 4 fn_spread) := by
  have h := PM.fn_okF (P := P) (w := w) (mg := mg) (base := base) (k := 4) (K := ⟨K, tb⟩) (b := b_spread) F sc_spread (fun cdv A outer s H E hr =>
    (PM.ss_cons (PM.s_exp (PM.i_call (ok_check_rows T) (takes_of rfl rfl rfl rfl) (hr.mono (by decide)) (by rfl) (PM.a_cons (PM.i_pv (pv 1)) (PM.a_cons (PM.i_pv (pv 2)) (PM.a_cons (PM.i_meth0 (mt_House_things T) (takes_of rfl rfl rfl rfl) (hr.mono (by decide)) (PM.i_pv (pv 0))) PM.a_nil)))))
      (PM.ss_one (PM.s_ret (ps_ret (PM.i_ofF (PM.f_callB PM.cr_sortedF (by rfl) T.z_sorted WD.bt_sorted (PM.a_cons (PM.i_fld (cs := ["Growing"]) (PM.i_call (ok_grown T) (takes_of rfl rfl rfl rfl) (hr.mono (by decide)) (by rfl) (PM.a_cons (PM.i_pv (pv 0)) (PM.a_cons (PM.i_pv (pv 1)) (PM.a_cons (PM.i_pv (pv 2)) (PM.a_cons (PM.i_pv (pv 3)) PM.a_nil))))) (PM.fa_cons ⟨T.cl_Growing, T.na_Growing_rows⟩ PM.fa_nil)) PM.a_nil))))))))
  exact h
theorem ok_spread (T : Tx K mg) : WD.Cal P w K mg base (L2.CX P w) 5 "spread" (He.ga K "spread") (PM.SpF ⟨K, tb⟩ 4 fn_spread) [] := by
  obtain ⟨fd, F⟩ := T.F_spread
  obtain ⟨ds, hv, hb⟩ := F.binds1 (ps := ["house", "rows", "wide", "most"]) 4 1 (by simp) rfl (fun _ _ _ _ _ _ _ us its h1 h2 => match us, its, h1, h2 with | [_, _, _, _], [_], _, _ => ⟨_, rfl, rfl⟩)
  exact ⟨⟨fd, _, ds, fk_spread T F, hb, hv⟩, F.kp, T.g_spread⟩
theorem kc1_spread (T : Tx K mg) : WD.CalN P w K mg base (L2.CX P w) 5 "spread" (He.ga K "spread") (PM.SpF ⟨K, tb⟩ 4 fn_spread) 3 ["most"] (fun vs zs => WD.pickG [.pos 0, .pos 1, .pos 2, .kw 0] vs (([.int 200] : List PM.PV).map PM.dfV) zs) := by
  obtain ⟨fd, F⟩ := T.F_spread
  obtain ⟨g, hb⟩ := WD.kbnD (ps := ["house", "rows", "wide", "most"]) F 3 ["most"] [.pos 0, .pos 1, .pos 2, .kw 0] (by simp) (fun _ _ _ _ _ _ _ us its ws h1 h2 h3 => match us, its, ws, h1, h2, h3 with | [_, _, _], [_], [_], _, _, _ => ⟨_, rfl, rfl⟩)
  exact ⟨⟨fd, _, g, fk_spread T F, hb⟩, F.kp, T.g_spread⟩
end
section
variable {P : Program} {w : World} {K : PySem.W.Frag} {tb : List (Addr × Str)} {mg : Str → Option Value} {base : Heap}
theorem fk_deeds_made (T : Tx K mg) {fd : FuncData} (F : FunD K "deeds_made" "deeds_made" (defArgs s_deeds_made) (defBody s_deeds_made) (defScope s_deeds_made) [.int 200] [] (He.ga K "deeds_made") fd) : FnOk P w K mg base (L2.CX P w) 6 (He.ga K "deeds_made") fd ["house", "places", "most"] (PM.SpF ⟨K, tb⟩ 3 fn_deeds_made) := by
  have h := PM.fn_okF (P := P) (w := w) (mg := mg) (base := base) (k := 5) (K := ⟨K, tb⟩) (b := b_deeds_made) F sc_deeds_made (fun cdv A outer s H E hr =>
    (PM.ss_cons (PM.s_exp (PM.i_call (ok_check_places T) (takes_of rfl rfl rfl rfl) (hr.mono (by decide)) (by rfl) (PM.a_cons (PM.i_pv (pv 0)) (PM.a_cons (PM.i_pv (pv 1)) PM.a_nil))))
      (PM.ss_cons (PM.s_set (ps_set (i := 3) sc_deeds_made.nd rfl (.inl rfl) (PM.i_call (ok_argument_rows T) (takes_of rfl rfl rfl rfl) (hr.mono (by decide)) (by rfl) (PM.a_cons (PM.i_meth0 (mt_House_things T) (takes_of rfl rfl rfl rfl) (hr.mono (by decide)) (PM.i_pv (pv 0))) (PM.a_cons (PM.i_pv (pv 1)) PM.a_nil)))))
      (PM.ss_one (PM.s_ret (ps_ret (PM.i_callK (l := [.pos 0, .pos 1, .pos 2, .kw 0]) (dfs := [.int 200]) (kc1_spread T) (takes_of rfl rfl rfl rfl) (hr.mono (by decide)) (by rfl) (PM.a_cons (PM.i_pv (pv 0)) (PM.a_cons (PM.i_pv (pv 3)) (PM.a_cons (PM.i_call (ok_cells T) (takes_of rfl rfl rfl rfl) (hr.mono (by decide)) (by rfl) (PM.a_cons (PM.i_meth0 (mt_House_things T) (takes_of rfl rfl rfl rfl) (hr.mono (by decide)) (PM.i_pv (pv 0))) (PM.a_cons (PM.i_pv (pv 1)) PM.a_nil))) PM.a_nil))) (PM.k_cons (PM.i_pv (pv 2)) PM.k_nil))))))))
  exact h
theorem ok_deeds_made (T : Tx K mg) : WD.Cal P w K mg base (L2.CX P w) 6 "deeds_made" (He.ga K "deeds_made") (PM.SpF ⟨K, tb⟩ 3 fn_deeds_made) [] := by
  obtain ⟨fd, F⟩ := T.F_deeds_made
  obtain ⟨ds, hv, hb⟩ := F.binds1 (ps := ["house", "places", "most"]) 3 1 (by simp) rfl (fun _ _ _ _ _ _ _ us its h1 h2 => match us, its, h1, h2 with | [_, _, _], [_], _, _ => ⟨_, rfl, rfl⟩)
  exact ⟨⟨fd, _, ds, fk_deeds_made T F, hb, hv⟩, F.kp, T.g_deeds_made⟩
end
section
variable {P : Program} {w : World} {K : PySem.W.Frag} {tb : List (Addr × Str)} {mg : Str → Option Value} {base : Heap}
theorem ok_is_given (T : Tx K mg) : WD.Cal P w K mg base (L2.CX P w) 2 "is_given" (He.ga K "is_given") (PM.SpF ⟨K, tb⟩ 2 fn_is_given) [] := by
  obtain ⟨fd, F⟩ := T.F_is_given
  exact ⟨PM.fn_ok (K := ⟨K, tb⟩) (b := b_is_given) F sc_is_given (fun _ _ _ _ _ _ us hl => match us, hl with | [_, _], _ => rfl) (fun cdv A outer s H E hr =>
    (PM.ss_one (PM.s_ret (ps_ret (PM.i_and (PM.i_isT (PM.i_pv (pv 0)) (pe_bltn (v := .ty "tuple") (by rfl) T.z_tuple WD.bt_tuple rfl) (by decide) (by rfl) T.z_isinstance) (PM.i_and (PM.i_cmp (PM.op_eqV hr.units) (PM.i_callB (PM.cr_lenV) (by rfl) T.z_len WD.bt_len (PM.a_cons (PM.i_pv (pv 0)) PM.a_nil)) PM.i_int (nomark _)) (PM.i_and (PM.i_call (ok_is_whole T) (takes_of rfl rfl rfl rfl) (hr.mono (by decide)) (by rfl) (PM.a_cons (PM.i_ix (WD.huD hr) (PM.i_pv (pv 0)) PM.i_int (fun _ _ => rfl)) PM.a_nil)) (pe_one (PM.i_chain (PM.op_leV) (PM.op_ltV hr.units0) PM.i_int (PM.i_ix (WD.huD hr) (PM.i_pv (pv 0)) PM.i_int (fun _ _ => rfl)) (PM.i_pv (pv 1))))))))))), F.kp, T.g_is_given⟩
end
section
variable {P : Program} {w : World} {K : PySem.W.Frag} {tb : List (Addr × Str)} {mg : Str → Option Value} {base : Heap}
theorem mt_House_names (T : Tx K mg) : WD.Met P w K mg base (L2.CX P w) 1 (He.ga K "House") "names" (He.ma K (He.ga K "House") "names") (PM.SpF ⟨K, tb⟩ 1 fn_House_names) [] := by
  obtain ⟨fd, F⟩ := T.F_House_names
  exact ⟨PM.fn_ok (K := ⟨K, tb⟩) (b := b_House_names) F sc_House_names (fun _ _ _ _ _ _ us hl => match us, hl with | [_], _ => rfl) (fun cdv A outer s H E hr =>
    (PM.ss_one (PM.s_ret (ps_ret (PM.i_ofF (PM.f_callTy (PM.cr_listF rfl) (by rfl) T.z_list WD.bt_list (PM.a_cons (PM.i_fld (cs := ["House"]) (PM.i_pv (pv 0)) (PM.fa_cons ⟨T.cl_House, T.na_House_by_name⟩ PM.fa_nil)) PM.a_nil))))))), T.cl_House, T.mt_House_names⟩
end
section
variable {P : Program} {w : World} {K : PySem.W.Frag} {tb : List (Addr × Str)} {mg : Str → Option Value} {base : Heap}
theorem mt_House_deed (T : Tx K mg) : WD.Met P w K mg base (L2.CX P w) 3 (He.ga K "House") "deed" (He.ma K (He.ga K "House") "deed") (PM.SpF ⟨K, tb⟩ 2 fn_House_deed) [] := by
  obtain ⟨fd, F⟩ := T.F_House_deed
  exact ⟨PM.fn_ok (K := ⟨K, tb⟩) (b := b_House_deed) F sc_House_deed (fun _ _ _ _ _ _ us hl => match us, hl with | [_, _], _ => rfl) (fun cdv A outer s H E hr =>
    (PM.ss_cons (PM.s_if (ps_if (PM.t_cmp (PM.op_notInV (WD.hu65 hr)) (PM.i_pv (pv 1)) (PM.i_fld (cs := ["House"]) (PM.i_pv (pv 0)) (PM.fa_cons ⟨T.cl_House, T.na_House_by_name⟩ PM.fa_nil)) (by rfl))
        (PM.ss_one (PM.s_raise (ps_raise rfl (takes_of rfl rfl rfl rfl) (WD.pmk_x (xm_NoName T) (hr.mono (by decide)) (by rfl) (PM.a_cons (PM.i_pv (pv 1)) PM.a_nil)))))
        PM.ss_nil))
      (PM.ss_one (PM.s_ret (ps_ret (PM.i_ix (WD.huD hr) (PM.i_fld (cs := ["House"]) (PM.i_pv (pv 0)) (PM.fa_cons ⟨T.cl_House, T.na_House_by_name⟩ PM.fa_nil)) (PM.i_pv (pv 1)) (fun _ _ => rfl))))))), T.cl_House, T.mt_House_deed⟩
end
section
variable {P : Program} {w : World} {K : PySem.W.Frag} {tb : List (Addr × Str)} {mg : Str → Option Value} {base : Heap}
theorem mt_House_places (T : Tx K mg) : WD.Met P w K mg base (L2.CX P w) 4 (He.ga K "House") "places" (He.ma K (He.ga K "House") "places") (PM.SpF ⟨K, tb⟩ 2 fn_House_places) [] := by
  obtain ⟨fd, F⟩ := T.F_House_places
  exact ⟨PM.fn_ok (K := ⟨K, tb⟩) (b := b_House_places) F sc_House_places (fun _ _ _ _ _ _ us hl => match us, hl with | [_, _], _ => rfl) (fun cdv A outer s H E hr =>
    (PM.ss_one (PM.s_ret (ps_ret (PM.i_ix (WD.huD hr) (PM.i_meth (mt_House_deed T) (takes_of rfl rfl rfl rfl) (hr.mono (by decide)) (PM.i_pv (pv 0)) (PM.a_cons (PM.i_pv (pv 1)) PM.a_nil)) PM.i_int (fun _ _ => rfl)))))), T.cl_House, T.mt_House_places⟩
end
section
variable {P : Program} {w : World} {K : PySem.W.Frag} {tb : List (Addr × Str)} {mg : Str → Option Value} {base : Heap}
theorem ok_is_step (T : Tx K mg) : WD.Cal P w K mg base (L2.CX P w) 5 "is_step" (He.ga K "is_step") (PM.SpF ⟨K, tb⟩ 4 fn_is_step) [] := by
  obtain ⟨fd, F⟩ := T.F_is_step
  exact ⟨PM.fn_ok (K := ⟨K, tb⟩) (b := b_is_step) F sc_is_step (fun _ _ _ _ _ _ us hl => match us, hl with | [_, _, _, _], _ => rfl) (fun cdv A outer s H E hr =>
    (PM.ss_cons (PM.s_if (ps_if (PM.t_val (PM.i_call (ok_is_given T) (takes_of rfl rfl rfl rfl) (hr.mono (by decide)) (by rfl) (PM.a_cons (PM.i_pv (pv 1)) (PM.a_cons (PM.i_pv (pv 3)) PM.a_nil))))
        (PM.ss_one (PM.s_ret (ps_ret PM.i_bl)))
        PM.ss_nil))
      (PM.ss_cons (PM.s_if (ps_if (PW.pt (PM.w_or (PM.t_not (PM.t_val (PM.i_isT (PM.i_pv (pv 1)) (pe_bltn (v := .ty "tuple") (by rfl) T.z_tuple WD.bt_tuple rfl) (by decide) (by rfl) T.z_isinstance))) (PM.w_or (PM.t_cmp (PM.op_eqV hr.units) (PM.i_pv (pv 1)) (PM.i_tup PM.a_nil) (nomark _)) (PM.w_or (PM.t_not (PM.t_val (PM.i_isT (PM.i_ix (WD.huD hr) (PM.i_pv (pv 1)) PM.i_int (fun _ _ => rfl)) (pe_bltn (v := .ty "str") (by rfl) T.z_str WD.bt_str rfl) (by decide) (by rfl) T.z_isinstance))) (pw_or1 (PM.t_cmp (PM.op_notInV (WD.hu65 hr)) (PM.i_ix (WD.huD hr) (PM.i_pv (pv 1)) PM.i_int (fun _ _ => rfl)) (PM.i_meth0 (mt_House_names T) (takes_of rfl rfl rfl rfl) (hr.mono (by decide)) (PM.i_pv (pv 0))) (by rfl)))))))
        (PM.ss_one (PM.s_ret (ps_ret PM.i_bl)))
        PM.ss_nil))
      (PM.ss_cons (PM.s_if (ps_if (PM.t_cmp (PM.op_neV hr.units) (PM.i_callB (PM.cr_lenV) (by rfl) T.z_len WD.bt_len (PM.a_cons (PM.i_pv (pv 1)) PM.a_nil)) (PM.i_op PM.op_addV (PM.i_meth (mt_House_places T) (takes_of rfl rfl rfl rfl) (hr.mono (by decide)) (PM.i_pv (pv 0)) (PM.a_cons (PM.i_ix (WD.huD hr) (PM.i_pv (pv 1)) PM.i_int (fun _ _ => rfl)) PM.a_nil)) PM.i_int) (nomark _))
        (PM.ss_one (PM.s_ret (ps_ret PM.i_bl)))
        PM.ss_nil))
      (PM.ss_one (PM.s_ret (ps_ret (PM.i_callB (PM.cr_allV rfl) (by rfl) T.z_all WD.bt_all (PM.a_cons (PM.i_ofF (PM.f_lc (pe_lc (own := [("one", 4)]) rfl sc_is_step.nd (PM.ii_val (PM.i_sl (PM.i_pv (pv 1)) (PM.o_some PM.i_int) PM.o_none)) (blkOk_by (N := ["house", "step", "at", "givens", "one"]) (sc := defScope s_is_step) (by decide +kernel)) (fun _ _ _ _ _ => (PM.g_name (pg_name (i := 4) sc_is_step.nd rfl (.inl rfl)))) (fun _ _ _ _ _ => PM.ts_yes) (fun _ _ _ _ _ => (PM.i_and (PM.i_call (ok_is_whole T) takes0 (hr.mono (by decide)) (by rfl) (PM.a_cons (PM.i_pv (pv 4)) PM.a_nil)) (pe_one (PM.i_chain (PM.op_leV) (PM.op_ltV hr.units0) PM.i_int (PM.i_pv (pv 4)) (PM.i_pv (pv 2))))))))) PM.a_nil))))))))), F.kp, T.g_is_step⟩
end
section
variable {P : Program} {w : World} {K : PySem.W.Frag} {tb : List (Addr × Str)} {mg : Str → Option Value} {base : Heap}
theorem ok_check_steps (T : Tx K mg) : WD.Cal P w K mg base (L2.CX P w) 6 "check_steps" (He.ga K "check_steps") (PM.SpF ⟨K, tb⟩ 3 fn_check_steps) [] := by
  obtain ⟨fd, F⟩ := T.F_check_steps
  exact ⟨PM.fn_ok (K := ⟨K, tb⟩) (b := b_check_steps) F sc_check_steps (fun _ _ _ _ _ _ us hl => match us, hl with | [_, _, _], _ => rfl) (fun cdv A outer s H E hr =>
    (PM.ss_cons (PM.s_if (ps_if (PM.t_not (PM.t_val (PM.i_isT (PM.i_pv (pv 1)) (pe_bltn (v := .ty "list") (by rfl) T.z_list WD.bt_list rfl) (by decide) (by rfl) T.z_isinstance)))
        (PM.ss_one (PM.s_raise (ps_raise rfl (takes_of rfl rfl rfl rfl) (WD.pmk_x (xm_NoSteps T) (hr.mono (by decide)) (by rfl) (PM.a_cons PM.i_int PM.a_nil)))))
        PM.ss_nil))
      (PM.ss_one (PM.s_for (passes_of rfl) rfl (PM.ii_enum (by rfl) T.z_enumerate (PM.a_cons (PM.i_pv (pv 1)) PM.a_nil)) (PM.g_tup (PM.gs_cons (PM.g_name (pg_name (i := 3) sc_check_steps.nd rfl (.inl rfl))) (PM.gs_cons (PM.g_name (pg_name (i := 4) sc_check_steps.nd rfl (.inl rfl))) PM.gs_nil)) rfl)
        (PM.ss_one (PM.s_if (ps_if (PM.t_not (PM.t_val (PM.i_call (ok_is_step T) (takes_of rfl rfl rfl rfl) (hr.mono (by decide)) (by rfl) (PM.a_cons (PM.i_pv (pv 0)) (PM.a_cons (PM.i_pv (pv 4)) (PM.a_cons (PM.i_pv (pv 3)) (PM.a_cons (PM.i_pv (pv 2)) PM.a_nil)))))))
        (PM.ss_one (PM.s_raise (ps_raise rfl (takes_of rfl rfl rfl rfl) (WD.pmk_x (xm_NoSteps T) (hr.mono (by decide)) (by rfl) (PM.a_cons (PM.i_pv (pv 3)) PM.a_nil)))))
        PM.ss_nil))))))), F.kp, T.g_check_steps⟩
end
section
variable {P : Program} {w : World} {K : PySem.W.Frag} {tb : List (Addr × Str)} {mg : Str → Option Value} {base : Heap}
theorem ok_spot_of (T : Tx K mg) : WD.Cal P w K mg base (L2.CX P w) 1 "spot_of" (He.ga K "spot_of") (PM.SpF ⟨K, tb⟩ 2 fn_spot_of) [] := by
  obtain ⟨fd, F⟩ := T.F_spot_of
  exact ⟨PM.fn_ok (K := ⟨K, tb⟩) (b := b_spot_of) F sc_spot_of (fun _ _ _ _ _ _ us hl => match us, hl with | [_, _], _ => rfl) (fun cdv A outer s H E hr =>
    (PM.ss_cons (PM.s_set (ps_set (i := 2) sc_spot_of.nd rfl (.inl rfl) PM.i_int))
      (PM.ss_cons (PM.s_for (passes_of rfl) rfl (PM.ii_val (PM.i_pv (pv 0))) (PM.g_name (pg_name (i := 3) sc_spot_of.nd rfl (.inl rfl)))
        (PM.ss_one (PM.s_set (ps_set (i := 2) sc_spot_of.nd rfl (.inl rfl) (PM.i_op PM.op_addV (PM.i_op PM.op_mulV (PM.i_pv (pv 2)) (PM.i_pv (pv 1))) (PM.i_pv (pv 3)))))))
      (PM.ss_one (PM.s_ret (ps_ret (PM.i_pv (pv 2)))))))), F.kp, T.g_spot_of⟩
end
section
variable {P : Program} {w : World} {K : PySem.W.Frag} {tb : List (Addr × Str)} {mg : Str → Option Value} {base : Heap}
theorem ok_put_together (T : Tx K mg) : WD.Cal P w K mg base (L2.CX P w) 2 "put_together" (He.ga K "put_together") (PM.SpF ⟨K, tb⟩ 4 fn_put_together) [] := by
  obtain ⟨fd, F⟩ := T.F_put_together
  exact ⟨PM.fn_ok (K := ⟨K, tb⟩) (b := b_put_together) F sc_put_together (fun _ _ _ _ _ _ us hl => match us, hl with | [_, _, _, _], _ => rfl) (fun cdv A outer s H E hr =>
    (PM.ss_cons (PM.s_if (ps_if (PM.t_cmp (PM.op_eqV hr.units) (PM.i_pv (pv 2)) (PM.i_ofF (PM.f_lst PM.a_nil)) (nomark _))
        (PM.ss_one (PM.s_ret (ps_ret (PM.i_op PM.op_mulV (PM.i_tup (PM.a_cons (PM.i_ix (WD.huD hr) (PM.i_pv (pv 0)) PM.i_int (fun _ _ => rfl)) PM.a_nil)) (PM.i_pv (pv 3))))))
        PM.ss_nil))
      (PM.ss_cons (PM.s_if (ps_if (PM.t_cmp (PM.op_eqV hr.units) (PM.i_callB (PM.cr_lenV) (by rfl) T.z_len WD.bt_len (PM.a_cons (PM.i_pv (pv 2)) PM.a_nil)) PM.i_int (nomark _))
        (PM.ss_one (PM.s_ret (ps_ret (PM.i_callTy PM.cr_tupleV (by rfl) T.z_tuple WD.bt_tuple (PM.a_cons (PM.i_ofF (PM.f_lc (pe_lc (own := [("one", 5)]) rfl sc_put_together.nd (PM.ii_val (PM.i_ix (WD.huD hr) (PM.i_pv (pv 2)) PM.i_int (fun _ _ => rfl))) (blkOk_by (N := ["table", "size", "rows", "wide", "things", "one", "other"]) (sc := defScope s_put_together) (by decide +kernel)) (fun _ _ _ _ _ => (PM.g_name (pg_name (i := 5) sc_put_together.nd rfl (.inl rfl)))) (fun _ _ _ _ _ => PM.ts_yes) (fun _ _ _ _ _ => (PM.i_ix (WD.huD hr) (PM.i_pv (pv 0)) (PM.i_pv (pv 5)) (fun _ _ => rfl)))))) PM.a_nil)))))
        PM.ss_nil))
      (PM.ss_cons (PM.s_if (ps_if (PM.t_cmp (PM.op_eqV hr.units) (PM.i_callB (PM.cr_lenV) (by rfl) T.z_len WD.bt_len (PM.a_cons (PM.i_pv (pv 2)) PM.a_nil)) PM.i_int (nomark _))
        (PM.ss_one (PM.s_ret (ps_ret (PM.i_callTy PM.cr_tupleV (by rfl) T.z_tuple WD.bt_tuple (PM.a_cons (PM.i_ofF (PM.f_lc (pe_lc (own := [("one", 5), ("other", 6)]) rfl sc_put_together.nd (PM.ii_zip (by rfl) T.z_zip (PM.a_cons (PM.i_ix (WD.huD hr) (PM.i_pv (pv 2)) PM.i_int (fun _ _ => rfl)) (PM.a_cons (PM.i_ix (WD.huD hr) (PM.i_pv (pv 2)) PM.i_int (fun _ _ => rfl)) PM.a_nil))) (blkOk_by (N := ["table", "size", "rows", "wide", "things", "one", "other"]) (sc := defScope s_put_together) (by decide +kernel)) (fun _ _ _ _ _ => (PM.g_tup (PM.gs_cons (PM.g_name (pg_name (i := 5) sc_put_together.nd rfl (.inl rfl))) (PM.gs_cons (PM.g_name (pg_name (i := 6) sc_put_together.nd rfl (.inl rfl))) PM.gs_nil)) rfl)) (fun _ _ _ _ _ => PM.ts_yes) (fun _ _ _ _ _ => (PM.i_ix (WD.huD hr) (PM.i_pv (pv 0)) (PM.i_op PM.op_addV (PM.i_op PM.op_mulV (PM.i_pv (pv 5)) (PM.i_pv (pv 1))) (PM.i_pv (pv 6))) (fun _ _ => rfl)))))) PM.a_nil)))))
        PM.ss_nil))
      (PM.ss_one (PM.s_ret (ps_ret (PM.i_callTy PM.cr_tupleV (by rfl) T.z_tuple WD.bt_tuple (PM.a_cons (PM.i_ofF (PM.f_lc (pe_lc (own := [("things", 4)]) rfl sc_put_together.nd (PM.ii_zip3 (by rfl) T.z_zip (PM.a_cons (PM.i_ix (WD.huD hr) (PM.i_pv (pv 2)) PM.i_int (fun _ _ => rfl)) (PM.a_cons (PM.i_ix (WD.huD hr) (PM.i_pv (pv 2)) PM.i_int (fun _ _ => rfl)) (PM.a_cons (PM.i_ix (WD.huD hr) (PM.i_pv (pv 2)) PM.i_int (fun _ _ => rfl)) PM.a_nil)))) (blkOk_by (N := ["table", "size", "rows", "wide", "things", "one", "other"]) (sc := defScope s_put_together) (by decide +kernel)) (fun _ _ _ _ _ => (PM.g_name (pg_name (i := 4) sc_put_together.nd rfl (.inl rfl)))) (fun _ _ _ _ _ => PM.ts_yes) (fun _ _ _ _ _ => (PM.i_ix (WD.huD hr) (PM.i_pv (pv 0)) (PM.i_call (ok_spot_of T) takes0 (hr.mono (by decide)) (by rfl) (PM.a_cons (PM.i_pv (pv 4)) (PM.a_cons (PM.i_pv (pv 1)) PM.a_nil))) (fun _ _ => rfl)))))) PM.a_nil))))))))), F.kp, T.g_put_together⟩
end
section
variable {P : Program} {w : World} {K : PySem.W.Frag} {tb : List (Addr × Str)} {mg : Str → Option Value} {base : Heap}
theorem ok_run (T : Tx K mg) : WD.Cal P w K mg base (L2.CX P w) 4 "run" (He.ga K "run") (PM.SpF ⟨K, tb⟩ 4 fn_run) [] := by
  obtain ⟨fd, F⟩ := T.F_run
  exact ⟨PM.fn_ok (K := ⟨K, tb⟩) (b := b_run) F sc_run (fun _ _ _ _ _ _ us hl => match us, hl with | [_, _, _, _], _ => rfl) (fun cdv A outer s H E hr =>
    (PM.ss_cons (PM.s_set (ps_set (i := 4) sc_run.nd rfl (.inr rfl) (PM.i_cellF (PM.f_lst PM.a_nil))))
      (PM.ss_cons (PM.s_for (passes_of rfl) rfl (PM.ii_val (PM.i_pv (pv 1))) (PM.g_name (pg_name (i := 5) sc_run.nd rfl (.inl rfl)))
        (PM.ss_one (PM.s_if (ps_if (PM.t_not (PM.t_val (PM.i_isT (PM.i_ix (WD.huD hr) (PM.i_pv (pv 5)) PM.i_int (fun _ _ => rfl)) (pe_bltn (v := .ty "str") (by rfl) T.z_str WD.bt_str rfl) (by decide) (by rfl) T.z_isinstance)))
        (PM.ss_one (PM.s_exp (PM.i_mut PySem.F.slot_list_append PySem.F.type_list_append PM.mt_appendM (PM.i_pv (pv 4)) (PM.a_cons (PM.i_ix (WD.huD hr) (PM.i_pv (pv 2)) (PM.i_ix (WD.huD hr) (PM.i_pv (pv 5)) PM.i_int (fun _ _ => rfl)) (fun _ _ => rfl)) PM.a_nil) (fun hm ho ha => WD.k_pe_bm K PySem.F.plainAttrs_list PySem.F.slot_list_append PySem.F.type_list_append hm ho ha))))
        (PM.ss_cons (PM.s_asg (ps_asg (PM.i_meth (mt_House_deed T) (takes_of rfl rfl rfl rfl) (hr.mono (by decide)) (PM.i_pv (pv 0)) (PM.a_cons (PM.i_ix (WD.huD hr) (PM.i_pv (pv 5)) PM.i_int (fun _ _ => rfl)) PM.a_nil)) (PM.g_tup (PM.gs_cons (PM.g_name (pg_name (i := 6) sc_run.nd rfl (.inl rfl))) (PM.gs_cons (PM.g_name (pg_name (i := 7) sc_run.nd rfl (.inl rfl))) (PM.gs_cons (PM.g_name (pg_name (i := 8) sc_run.nd rfl (.inl rfl))) PM.gs_nil))) rfl)))
      (PM.ss_one (PM.s_exp (PM.i_mut PySem.F.slot_list_append PySem.F.type_list_append PM.mt_appendM (PM.i_pv (pv 4)) (PM.a_cons (PM.i_call (ok_put_together T) (takes_of rfl rfl rfl rfl) (hr.mono (by decide)) (by rfl) (PM.a_cons (PM.i_pv (pv 8)) (PM.a_cons (PM.i_meth0 (mt_House_things T) (takes_of rfl rfl rfl rfl) (hr.mono (by decide)) (PM.i_pv (pv 0))) (PM.a_cons (PM.i_ofF (PM.f_lc (pe_lc (own := [("one", 9)]) rfl sc_run.nd (PM.ii_val (PM.i_sl (PM.i_pv (pv 5)) (PM.o_some PM.i_int) PM.o_none)) (blkOk_by (N := ["house", "steps", "rows", "wide", "found", "step", "name", "places", "table", "one"]) (sc := defScope s_run) (by decide +kernel)) (fun _ _ _ _ _ => (PM.g_name (pg_name (i := 9) sc_run.nd rfl (.inl rfl)))) (fun _ _ _ _ _ => PM.ts_yes) (fun _ _ _ _ _ => (PM.i_ix (WD.huD hr) (PM.i_pv (pv 4)) (PM.i_pv (pv 9)) (fun _ _ => rfl)))))) (PM.a_cons (PM.i_pv (pv 3)) PM.a_nil))))) PM.a_nil) (fun hm ho ha => WD.k_pe_bm K PySem.F.plainAttrs_list PySem.F.slot_list_append PySem.F.type_list_append hm ho ha)))))))))
      (PM.ss_frz (i := 4) (PM.ss_one (PM.s_ret (ps_ret (PM.i_pv (pv 4))))))))), F.kp, T.g_run⟩
end
section
variable {P : Program} {w : World} {K : PySem.W.Frag} {tb : List (Addr × Str)} {mg : Str → Option Value} {base : Heap}
theorem ok_table_of (T : Tx K mg) : WD.Cal P w K mg base (L2.CX P w) 7 "table_of" (He.ga K "table_of") (PM.SpF ⟨K, tb⟩ 3 fn_table_of) [] := by
  obtain ⟨fd, F⟩ := T.F_table_of
  exact ⟨PM.fn_ok (K := ⟨K, tb⟩) (b := b_table_of) F sc_table_of (fun _ _ _ _ _ _ us hl => match us, hl with | [_, _, _], _ => rfl) (fun cdv A outer s H E hr =>
    (PM.ss_cons (PM.s_exp (PM.i_call (ok_check_places T) (takes_of rfl rfl rfl rfl) (hr.mono (by decide)) (by rfl) (PM.a_cons (PM.i_pv (pv 0)) (PM.a_cons (PM.i_pv (pv 2)) PM.a_nil))))
      (PM.ss_cons (PM.s_exp (PM.i_call (ok_check_steps T) (takes_of rfl rfl rfl rfl) (hr.mono (by decide)) (by rfl) (PM.a_cons (PM.i_pv (pv 0)) (PM.a_cons (PM.i_pv (pv 1)) (PM.a_cons (PM.i_pv (pv 2)) PM.a_nil)))))
      (PM.ss_cons (PM.s_if (ps_if (PM.t_cmp (PM.op_eqV hr.units) (PM.i_pv (pv 1)) (PM.i_ofF (PM.f_lst PM.a_nil)) (nomark _))
        (PM.ss_one (PM.s_raise (ps_raise rfl (takes_of rfl rfl rfl rfl) (WD.pmk_x (xm_NoSteps T) (hr.mono (by decide)) (by rfl) (PM.a_cons PM.i_int PM.a_nil)))))
        PM.ss_nil))
      (PM.ss_cons (PM.s_set (ps_set (i := 3) sc_table_of.nd rfl (.inl rfl) (PM.i_call (ok_cells T) (takes_of rfl rfl rfl rfl) (hr.mono (by decide)) (by rfl) (PM.a_cons (PM.i_meth0 (mt_House_things T) (takes_of rfl rfl rfl rfl) (hr.mono (by decide)) (PM.i_pv (pv 0))) (PM.a_cons (PM.i_pv (pv 2)) PM.a_nil)))))
      (PM.ss_one (PM.s_ret (ps_ret (PM.i_ix (WD.huD hr) (PM.i_call (ok_run T) (takes_of rfl rfl rfl rfl) (hr.mono (by decide)) (by rfl) (PM.a_cons (PM.i_pv (pv 0)) (PM.a_cons (PM.i_pv (pv 1)) (PM.a_cons (PM.i_call (ok_argument_rows T) (takes_of rfl rfl rfl rfl) (hr.mono (by decide)) (by rfl) (PM.a_cons (PM.i_meth0 (mt_House_things T) (takes_of rfl rfl rfl rfl) (hr.mono (by decide)) (PM.i_pv (pv 0))) (PM.a_cons (PM.i_pv (pv 2)) PM.a_nil))) (PM.a_cons (PM.i_pv (pv 3)) PM.a_nil))))) (PM.i_un PM.un_negV PM.i_int) (fun _ _ => rfl)))))))))), F.kp, T.g_table_of⟩
end
section
variable {P : Program} {w : World} {K : PySem.W.Frag} {mg : Str → Option Value} {base : Heap}
theorem ok__law_right (T : Tx K mg) (B : PM.LamF K mks mg base) : WD.Cal P w K mg base (L2.CX P w) 10 "_law_right" (He.ga K "_law_right") (PM.SpF ⟨K, PM.tabsOf K mks⟩ 1 fn__law_right) [] := by
  obtain ⟨fd, F⟩ := T.F__law_right
  exact ⟨PM.fn_okC (K := ⟨K, PM.tabsOf K mks⟩) (b := b__law_right) F sc__law_right (fun _ _ _ _ _ _ us hl => match us, hl with | [_], _ => rfl) (fun A outer s H E hr =>
    (PM.ss_cons (PM.s_set (ps_set (i := 1) sc__law_right.nd rfl (.inr rfl) (PM.i_op PM.op_addV PM.i_int (PM.i_call (ok__law_draw T) (takes_of rfl rfl rfl rfl) (hr.mono (by decide)) (by rfl) (PM.a_cons (PM.i_pv (pv 0)) (PM.a_cons PM.i_int PM.a_nil))))))
      (PM.ss_cons (PM.s_set (ps_set (i := 2) sc__law_right.nd rfl (.inr rfl) (PM.i_call (ok__law_house T) (takes_of rfl rfl rfl rfl) (hr.mono (by decide)) (by rfl) (PM.a_cons (PM.i_pv (pv 0)) (PM.a_cons (PM.i_pv (pv 1)) (PM.a_cons (PM.i_ofF (PM.f_lc (pe_lc (own := [("_law_k", 11)]) rfl sc__law_right.nd (PM.ii_range1 (by rfl) T.z_range (PM.a_cons (PM.i_call (ok__law_draw T) (takes_of rfl rfl rfl rfl) (hr.mono (by decide)) (by rfl) (PM.a_cons (PM.i_pv (pv 0)) (PM.a_cons PM.i_int PM.a_nil))) PM.a_nil)) (blkOk_by (N := ["_law_well", "_law_size", "_law_house_here", "_law_places", "_law_due", "_law_odd", "_law_found", "_law_wide", "_law_table_here", "_law_x", "_law_bad", "_law_k", "_law_one"]) (sc := defScope s__law_right) (by decide +kernel)) (fun _ _ _ _ _ => (PM.g_name (pg_name (i := 11) sc__law_right.nd rfl (.inl rfl)))) (fun _ _ _ _ _ => PM.ts_yes) (fun _ _ _ _ _ => (PM.i_call (ok__law_draw T) takes0 (hr.mono (by decide)) (by rfl) (PM.a_cons (PM.i_pv (pv 0)) (PM.a_cons PM.i_int PM.a_nil))))))) PM.a_nil))))))
      (PM.ss_cons (PM.s_set (ps_set (i := 3) sc__law_right.nd rfl (.inr rfl) (PM.i_ix (WD.huD hr) (PM.i_ofF (PM.f_lst (PM.a_cons PM.i_int (PM.a_cons PM.i_int (PM.a_cons PM.i_int (PM.a_cons PM.i_int (PM.a_cons PM.i_int (PM.a_cons PM.i_int (PM.a_cons PM.i_bl (PM.a_cons PM.i_non (PM.a_cons (PM.i_un PM.un_negV PM.i_int) (PM.a_cons PM.i_int (PM.a_cons PM.i_str (PM.a_cons (PM.i_tup (PM.a_cons PM.i_int PM.a_nil)) PM.a_nil)))))))))))))) (PM.i_call (ok__law_draw T) (takes_of rfl rfl rfl rfl) (hr.mono (by decide)) (by rfl) (PM.a_cons (PM.i_pv (pv 0)) (PM.a_cons PM.i_int PM.a_nil))) (fun _ _ => rfl))))
      (PM.ss_cons (PM.s_set (ps_set (i := 4) sc__law_right.nd rfl (.inl rfl) (PM.i_call (ok__law_places_due T) (takes_of rfl rfl rfl rfl) (hr.mono (by decide)) (by rfl) (PM.a_cons (PM.i_pv (pv 1)) (PM.a_cons (PM.i_pv (pv 3)) PM.a_nil)))))
      (PM.ss_cons (PM.s_set (ps_set (i := 5) sc__law_right.nd rfl (.inr rfl) (PM.i_ix (WD.huD hr) (PM.i_ofF (PM.f_lst (PM.a_cons PM.i_non (PM.a_cons (PM.i_tup PM.a_nil) (PM.a_cons (PM.i_ofF (PM.f_lst (PM.a_cons PM.i_int PM.a_nil))) (PM.a_cons (PM.i_tup (PM.a_cons (PM.i_pv (pv 1)) PM.a_nil)) (PM.a_cons PM.i_str PM.a_nil))))))) (PM.i_call (ok__law_draw T) (takes_of rfl rfl rfl rfl) (hr.mono (by decide)) (by rfl) (PM.a_cons (PM.i_pv (pv 0)) (PM.a_cons PM.i_int PM.a_nil))) (fun _ _ => rfl))))
      (PM.ss_cons (PM.s_if (ps_if (PM.t_cmp (PM.op_isntV) (PM.i_pv (pv 4)) PM.i_non (nomark _))
        (PM.ss_cons (PM.s_set (ps_set (i := 6) sc__law_right.nd rfl (.inl rfl) (PM.i_cellF (PM.f_lst (PM.a_cons (PM.i_lam (bL := b__law_asked) (th := l1__law_right) (Ng := ["_law_ask", "_law_told", "e"]) (k := 6) (c := PM.cdA K "_law_right") (P := PM.tbA K "_law_right") (by rfl) T.g__law_asked T.F__law_asked sc__law_asked (fun _ _ _ _ _ _ us hl => match us, hl with | [_], _ => rfl) rfl (.inl rfl)
        (fun cdg L s H hr act => bd__law_asked T hr act) (B.tab "_law_right" (by decide)) (B.code "_law_right" (by decide)) (PM.tabs_mem (by decide)) (PM.tabs_uni B.nd (by decide)) (hr.mono (by decide)) (LamX.lamS_by (by kernel_rfl)) rfl (fun _ _ _ _ _ => rfl)
        (fun A outer s H E f c' hr => (PM.i_call (ok_term_deed T) (takes_of rfl rfl rfl rfl) (hr.mono (by decide)) (by rfl) (PM.a_cons (PM.i_pv (pv 2)) (PM.a_cons (PM.i_pv (pv 3)) (PM.a_cons (PM.i_pv (pv 5)) (PM.a_cons PM.i_int PM.a_nil))))))) PM.a_nil)))))
      (PM.ss_cons (PM.s_exp (PM.i_mut PySem.F.slot_list_append PySem.F.type_list_append PM.mt_appendM (PM.i_pv (pv 6)) (PM.a_cons (PM.i_lam (bL := b__law_asked) (th := l2__law_right) (Ng := ["_law_ask", "_law_told", "e"]) (k := 6) (c := PM.cdA K "_law_right") (P := PM.tbA K "_law_right") (by rfl) T.g__law_asked T.F__law_asked sc__law_asked (fun _ _ _ _ _ _ us hl => match us, hl with | [_], _ => rfl) rfl (.inl rfl)
        (fun cdg L s H hr act => bd__law_asked T hr act) (B.tab "_law_right" (by decide)) (B.code "_law_right" (by decide)) (PM.tabs_mem (by decide)) (PM.tabs_uni B.nd (by decide)) (hr.mono (by decide)) (LamX.lamS_by (by kernel_rfl)) rfl (fun _ _ _ _ _ => rfl)
        (fun A outer s H E f c' hr => (PM.i_call (ok_check_term T) (takes_of rfl rfl rfl rfl) (hr.mono (by decide)) (by rfl) (PM.a_cons (PM.i_pv (pv 2)) (PM.a_cons (PM.i_pv (pv 3)) (PM.a_cons (PM.i_pv (pv 5)) (PM.a_cons PM.i_non PM.a_nil))))))) PM.a_nil) (fun hm ho ha => WD.k_pe_bm K PySem.F.plainAttrs_list PySem.F.slot_list_append PySem.F.type_list_append hm ho ha)))
      (PM.ss_cons (PM.s_exp (PM.i_mut PySem.F.slot_list_append PySem.F.type_list_append PM.mt_appendM (PM.i_pv (pv 6)) (PM.a_cons (PM.i_lam (bL := b__law_asked) (th := l3__law_right) (Ng := ["_law_ask", "_law_told", "e"]) (k := 6) (c := PM.cdA K "_law_right") (P := PM.tbA K "_law_right") (by rfl) T.g__law_asked T.F__law_asked sc__law_asked (fun _ _ _ _ _ _ us hl => match us, hl with | [_], _ => rfl) rfl (.inl rfl)
        (fun cdg L s H hr act => bd__law_asked T hr act) (B.tab "_law_right" (by decide)) (B.code "_law_right" (by decide)) (PM.tabs_mem (by decide)) (PM.tabs_uni B.nd (by decide)) (hr.mono (by decide)) (LamX.lamS_by (by kernel_rfl)) rfl (fun _ _ _ _ _ => rfl)
        (fun A outer s H E f c' hr => (PM.i_call (ok_deeds_made T) (takes_of rfl rfl rfl rfl) (hr.mono (by decide)) (by rfl) (PM.a_cons (PM.i_pv (pv 2)) (PM.a_cons (PM.i_pv (pv 3)) (PM.a_cons PM.i_int PM.a_nil)))))) PM.a_nil) (fun hm ho ha => WD.k_pe_bm K PySem.F.plainAttrs_list PySem.F.slot_list_append PySem.F.type_list_append hm ho ha)))
      (PM.ss_cons (PM.s_exp (PM.i_mut PySem.F.slot_list_append PySem.F.type_list_append PM.mt_appendM (PM.i_pv (pv 6)) (PM.a_cons (PM.i_lam (bL := b__law_asked) (th := l4__law_right) (Ng := ["_law_ask", "_law_told", "e"]) (k := 7) (c := PM.cdA K "_law_right") (P := PM.tbA K "_law_right") (by rfl) T.g__law_asked T.F__law_asked sc__law_asked (fun _ _ _ _ _ _ us hl => match us, hl with | [_], _ => rfl) rfl (.inl rfl)
        (fun cdg L s H hr act => bd__law_asked T hr act) (B.tab "_law_right" (by decide)) (B.code "_law_right" (by decide)) (PM.tabs_mem (by decide)) (PM.tabs_uni B.nd (by decide)) (hr.mono (by decide)) (LamX.lamS_by (by kernel_rfl)) rfl (fun _ _ _ _ _ => rfl)
        (fun A outer s H E f c' hr => (PM.i_call (ok_table_of T) (takes_of rfl rfl rfl rfl) (hr.mono (by decide)) (by rfl) (PM.a_cons (PM.i_pv (pv 2)) (PM.a_cons (PM.i_ofF (PM.f_lst (PM.a_cons PM.i_non PM.a_nil))) (PM.a_cons (PM.i_pv (pv 3)) PM.a_nil)))))) PM.a_nil) (fun hm ho ha => WD.k_pe_bm K PySem.F.plainAttrs_list PySem.F.slot_list_append PySem.F.type_list_append hm ho ha)))
      (PM.ss_one (PM.s_ret (ps_ret (PM.i_cmp (PM.op_eqV hr.units) (PM.i_pv (pv 6)) (PM.i_ofF (PM.f_op PM.op_mulF (PM.i_ofF (PM.f_lst (PM.a_cons (PM.i_pv (pv 4)) PM.a_nil))) PM.i_int)) (nomark _)))))))))
        PM.ss_nil))
      (PM.ss_cons (PM.s_set (ps_set (i := 7) sc__law_right.nd rfl (.inl rfl) (PM.i_call (ok__law_cells T) (takes_of rfl rfl rfl rfl) (hr.mono (by decide)) (by rfl) (PM.a_cons (PM.i_pv (pv 1)) (PM.a_cons (PM.i_pv (pv 3)) PM.a_nil)))))
      (PM.ss_cons (PM.s_set (ps_set (i := 8) sc__law_right.nd rfl (.inr rfl) (PM.i_callTy PM.cr_tupleV (by rfl) T.z_tuple WD.bt_tuple (PM.a_cons (PM.i_ofF (PM.f_lc (pe_lc (own := [("_law_k", 11)]) rfl sc__law_right.nd (PM.ii_range1 (by rfl) T.z_range (PM.a_cons (PM.i_pv (pv 7)) PM.a_nil)) (blkOk_by (N := ["_law_well", "_law_size", "_law_house_here", "_law_places", "_law_due", "_law_odd", "_law_found", "_law_wide", "_law_table_here", "_law_x", "_law_bad", "_law_k", "_law_one"]) (sc := defScope s__law_right) (by decide +kernel)) (fun _ _ _ _ _ => (PM.g_name (pg_name (i := 11) sc__law_right.nd rfl (.inl rfl)))) (fun _ _ _ _ _ => PM.ts_yes) (fun _ _ _ _ _ => (PM.i_call (ok__law_draw T) takes0 (hr.mono (by decide)) (by rfl) (PM.a_cons (PM.i_pv (pv 0)) (PM.a_cons (PM.i_pv (pv 1)) PM.a_nil))))))) PM.a_nil))))
      (PM.ss_cons (PM.s_set (ps_set (i := 9) sc__law_right.nd rfl (.inr rfl) (PM.i_call (ok__law_draw T) (takes_of rfl rfl rfl rfl) (hr.mono (by decide)) (by rfl) (PM.a_cons (PM.i_pv (pv 0)) (PM.a_cons (PM.i_pv (pv 7)) PM.a_nil)))))
      (PM.ss_cons (PM.s_set (ps_set (i := 10) sc__law_right.nd rfl (.inr rfl) (PM.i_ofF (PM.f_lst (PM.a_cons (PM.i_op PM.op_addV (PM.i_pv (pv 8)) (PM.i_tup (PM.a_cons PM.i_int PM.a_nil))) (PM.a_cons (PM.i_sl (PM.i_pv (pv 8)) (PM.o_some PM.i_int) PM.o_none) (PM.a_cons (PM.i_ofF (PM.f_callTy (PM.cr_listF rfl) (by rfl) T.z_list WD.bt_list (PM.a_cons (PM.i_pv (pv 8)) PM.a_nil))) (PM.a_cons PM.i_non PM.a_nil))))))))
      (PM.ss_cons (PM.s_set (ps_set (i := 10) sc__law_right.nd rfl (.inr rfl) (PM.i_ofF (PM.f_op PM.op_addF (PM.i_pv (pv 10)) (PM.i_ofF (PM.f_lc (pe_lc (own := [("_law_one", 12)]) rfl sc__law_right.nd (PM.ii_val (PM.i_ofF (PM.f_lst (PM.a_cons (PM.i_pv (pv 1)) (PM.a_cons (PM.i_un PM.un_negV PM.i_int) (PM.a_cons PM.i_bl (PM.a_cons PM.i_str PM.a_nil))))))) (blkOk_by (N := ["_law_well", "_law_size", "_law_house_here", "_law_places", "_law_due", "_law_odd", "_law_found", "_law_wide", "_law_table_here", "_law_x", "_law_bad", "_law_k", "_law_one"]) (sc := defScope s__law_right) (by decide +kernel)) (fun _ _ _ _ _ => (PM.g_name (pg_name (i := 12) sc__law_right.nd rfl (.inl rfl)))) (fun _ _ _ _ _ => PM.ts_yes) (fun _ _ _ _ _ => (PM.i_op PM.op_addV (PM.i_op PM.op_addV (PM.i_sl (PM.i_pv (pv 8)) PM.o_none (PM.o_some (PM.i_pv (pv 9)))) (PM.i_tup (PM.a_cons (PM.i_pv (pv 12)) PM.a_nil))) (PM.i_sl (PM.i_pv (pv 8)) (PM.o_some (PM.i_op PM.op_addV (PM.i_pv (pv 9)) PM.i_int)) PM.o_none))))))))))
      (PM.ss_cons (PM.s_set (ps_set (i := 10) sc__law_right.nd rfl (.inr rfl) (PM.i_ix (WD.huD hr) (PM.i_pv (pv 10)) (PM.i_call (ok__law_draw T) (takes_of rfl rfl rfl rfl) (hr.mono (by decide)) (by rfl) (PM.a_cons (PM.i_pv (pv 0)) (PM.a_cons PM.i_int PM.a_nil))) (fun _ _ => rfl))))
      (PM.ss_cons (PM.s_if (ps_if (PM.t_cmp (PM.op_neV hr.units) (PM.i_lam (bL := b__law_asked) (th := l5__law_right) (Ng := ["_law_ask", "_law_told", "e"]) (k := 6) (c := PM.cdA K "_law_right") (P := PM.tbA K "_law_right") (by rfl) T.g__law_asked T.F__law_asked sc__law_asked (fun _ _ _ _ _ _ us hl => match us, hl with | [_], _ => rfl) rfl (.inl rfl)
        (fun cdg L s H hr act => bd__law_asked T hr act) (B.tab "_law_right" (by decide)) (B.code "_law_right" (by decide)) (PM.tabs_mem (by decide)) (PM.tabs_uni B.nd (by decide)) (hr.mono (by decide)) (LamX.lamS_by (by kernel_rfl)) rfl (fun _ _ _ _ _ => rfl)
        (fun A outer s H E f c' hr => (PM.i_call (ok_term_deed T) (takes_of rfl rfl rfl rfl) (hr.mono (by decide)) (by rfl) (PM.a_cons (PM.i_pv (pv 2)) (PM.a_cons (PM.i_pv (pv 3)) (PM.a_cons (PM.i_pv (pv 10)) (PM.a_cons PM.i_int PM.a_nil))))))) (PM.i_tup (PM.a_cons PM.i_str (PM.a_cons PM.i_int PM.a_nil))) (nomark _))
        (PM.ss_one (PM.s_ret (ps_ret PM.i_bl)))
        PM.ss_nil))
      (PM.ss_cons (PM.s_if (ps_if (PM.t_cmp (PM.op_neV hr.units) (PM.i_lam (bL := b__law_asked) (th := l6__law_right) (Ng := ["_law_ask", "_law_told", "e"]) (k := 6) (c := PM.cdA K "_law_right") (P := PM.tbA K "_law_right") (by rfl) T.g__law_asked T.F__law_asked sc__law_asked (fun _ _ _ _ _ _ us hl => match us, hl with | [_], _ => rfl) rfl (.inl rfl)
        (fun cdg L s H hr act => bd__law_asked T hr act) (B.tab "_law_right" (by decide)) (B.code "_law_right" (by decide)) (PM.tabs_mem (by decide)) (PM.tabs_uni B.nd (by decide)) (hr.mono (by decide)) (LamX.lamS_by (by kernel_rfl)) rfl (fun _ _ _ _ _ => rfl)
        (fun A outer s H E f c' hr => (PM.i_call (ok_check_term T) (takes_of rfl rfl rfl rfl) (hr.mono (by decide)) (by rfl) (PM.a_cons (PM.i_pv (pv 2)) (PM.a_cons (PM.i_pv (pv 3)) (PM.a_cons (PM.i_pv (pv 10)) (PM.a_cons PM.i_non PM.a_nil))))))) (PM.i_tup (PM.a_cons PM.i_str (PM.a_cons PM.i_int PM.a_nil))) (nomark _))
        (PM.ss_one (PM.s_ret (ps_ret PM.i_bl)))
        PM.ss_nil))
      (PM.ss_cons (PM.s_if (ps_if (PW.pt (PM.w_and (PM.t_cmp (PM.op_gtV) (PM.i_pv (pv 3)) PM.i_int (nomark _)) (pw_and1 (PM.t_cmp (PM.op_neV hr.units) (PM.i_lam (bL := b__law_asked) (th := l7__law_right) (Ng := ["_law_ask", "_law_told", "e"]) (k := 6) (c := PM.cdA K "_law_right") (P := PM.tbA K "_law_right") (by rfl) T.g__law_asked T.F__law_asked sc__law_asked (fun _ _ _ _ _ _ us hl => match us, hl with | [_], _ => rfl) rfl (.inl rfl)
        (fun cdg L s H hr act => bd__law_asked T hr act) (B.tab "_law_right" (by decide)) (B.code "_law_right" (by decide)) (PM.tabs_mem (by decide)) (PM.tabs_uni B.nd (by decide)) (hr.mono (by decide)) (LamX.lamS_by (by kernel_rfl)) rfl (fun _ _ _ _ _ => rfl)
        (fun A outer s H E f c' hr => (PM.i_call (ok_term_deed T) (takes_of rfl rfl rfl rfl) (hr.mono (by decide)) (by rfl) (PM.a_cons (PM.i_pv (pv 2)) (PM.a_cons (PM.i_pv (pv 3)) (PM.a_cons (PM.i_pv (pv 8)) (PM.a_cons PM.i_int PM.a_nil))))))) (PM.i_tup (PM.a_cons PM.i_str (PM.a_cons PM.i_int PM.a_nil))) (nomark _)))))
        (PM.ss_one (PM.s_ret (ps_ret PM.i_bl)))
        PM.ss_nil))
      (PM.ss_cons (PM.s_if (ps_if (PW.pt (PM.w_and (PM.t_cmp (PM.op_gtV) (PM.i_pv (pv 3)) PM.i_int (nomark _)) (pw_and1 (PM.t_cmp (PM.op_neV hr.units) (PM.i_lam (bL := b__law_asked) (th := l8__law_right) (Ng := ["_law_ask", "_law_told", "e"]) (k := 6) (c := PM.cdA K "_law_right") (P := PM.tbA K "_law_right") (by rfl) T.g__law_asked T.F__law_asked sc__law_asked (fun _ _ _ _ _ _ us hl => match us, hl with | [_], _ => rfl) rfl (.inl rfl)
        (fun cdg L s H hr act => bd__law_asked T hr act) (B.tab "_law_right" (by decide)) (B.code "_law_right" (by decide)) (PM.tabs_mem (by decide)) (PM.tabs_uni B.nd (by decide)) (hr.mono (by decide)) (LamX.lamS_by (by kernel_rfl)) rfl (fun _ _ _ _ _ => rfl)
        (fun A outer s H E f c' hr => (PM.i_call (ok_deeds_made T) (takes_of rfl rfl rfl rfl) (hr.mono (by decide)) (by rfl) (PM.a_cons (PM.i_pv (pv 2)) (PM.a_cons (PM.i_pv (pv 3)) (PM.a_cons PM.i_int PM.a_nil)))))) (PM.i_tup (PM.a_cons PM.i_str (PM.a_cons PM.i_int PM.a_nil))) (nomark _)))))
        (PM.ss_one (PM.s_ret (ps_ret PM.i_bl)))
        PM.ss_nil))
      (PM.ss_one (PM.s_ret (ps_ret (PM.i_cmp (PM.op_eqV hr.units) (PM.i_lam (bL := b__law_asked) (th := l9__law_right) (Ng := ["_law_ask", "_law_told", "e"]) (k := 6) (c := PM.cdA K "_law_right") (P := PM.tbA K "_law_right") (by rfl) T.g__law_asked T.F__law_asked sc__law_asked (fun _ _ _ _ _ _ us hl => match us, hl with | [_], _ => rfl) rfl (.inl rfl)
        (fun cdg L s H hr act => bd__law_asked T hr act) (B.tab "_law_right" (by decide)) (B.code "_law_right" (by decide)) (PM.tabs_mem (by decide)) (PM.tabs_uni B.nd (by decide)) (hr.mono (by decide)) (LamX.lamS_by (by kernel_rfl)) rfl (fun _ _ _ _ _ => rfl)
        (fun A outer s H E f c' hr => (PM.i_call (ok_check_term T) (takes_of rfl rfl rfl rfl) (hr.mono (by decide)) (by rfl) (PM.a_cons (PM.i_pv (pv 2)) (PM.a_cons (PM.i_pv (pv 3)) (PM.a_cons (PM.i_pv (pv 8)) (PM.a_cons PM.i_non PM.a_nil))))))) (PM.i_tup (PM.a_cons PM.i_str (PM.a_cons PM.i_non PM.a_nil))) (nomark _)))))))))))))))))))))), F.kp, T.g__law_right⟩
end
section
variable {P : Program} {w : World} {K : PySem.W.Frag} {mg : Str → Option Value} {base : Heap}
theorem law_fn {fd : FuncData} (T : Tx K mg) (B : PM.LamF K mks mg base) (hb : ∀ ns : List Int, ns.length ≤ 63 → fn_law [.s ns] [] = .ok (.t (.bl true)) []) (F : FunD K "law" "law" (defArgs s_law) (defBody s_law) (defScope s_law) [] [] (He.ga K "law") fd) : FnOk P w K mg base CX0 11 (He.ga K "law") fd ["_law_script"] (PM.spLaw ⟨K, PM.tabsOf K mks⟩) := by
  have h := PM.law_okC (P := P) (w := w) (mg := mg) (base := base) (k := 10) (K := ⟨K, PM.tabsOf K mks⟩) (Nm := ["_law_script", "_law_k", "_law_cell"]) (b := b_law) F sc_law hb (fun A outer s H E hr => (PM.ss_cons (PM.s_for PassesOwn.never rfl (PM.ii_enum (by rfl) T.z_enumerate (PM.a_cons (PM.i_ofF (PM.f_sl (PM.i_ofF (PM.f_scr (PM.i_pv (pv 0)) (PM.i_ofF (PM.f_lst (PM.a_cons PM.i_int PM.a_nil))))) PM.o_none (PM.o_some PM.i_int))) PM.a_nil)) (PM.g_tup (PM.gs_cons (PM.g_name (pg_name (i := 1) sc_law.nd rfl (.inl rfl))) (PM.gs_cons (PM.g_name (pg_name (i := 2) sc_law.nd rfl (.inl rfl))) PM.gs_nil)) rfl)
        (PM.s_scope (PM.ss_one (PM.s_if (ps_if (PM.t_not (PM.t_val (PM.i_call (ok__law_right T B) takes0 (hr.mono (by decide)) (by rfl) (PM.a_cons (PM.i_cellF (PM.f_lst (PM.a_cons (PM.i_op PM.op_mulV (PM.i_pv (pv 2)) (PM.i_callTy PM.cr_intV (by rfl) T.z_int WD.bt_int (PM.a_cons (PM.i_cmp (PM.op_geV) (PM.i_pv (pv 2)) (PM.i_op PM.op_powV PM.i_int PM.i_int) (nomark _)) PM.a_nil))) (PM.a_cons (PM.i_op PM.op_addV (PM.i_op PM.op_modV (PM.i_pv (pv 2)) PM.i_int) (PM.i_op PM.op_mulV PM.i_int (PM.i_pv (pv 1)))) (PM.a_cons PM.i_int PM.a_nil))))) PM.a_nil))))
        (PM.ss_one (PM.s_ret (ps_ret PM.i_bl)))
        PM.ss_nil)))))
      (PM.ss_one (PM.s_ret (ps_ret (PM.i_cmp (PM.op_eqV hr.units) (PM.i_lam (bL := b__law_asked) (th := l1_law) (Ng := ["_law_ask", "_law_told", "e"]) (k := 7) (c := PM.cdA K "law") (P := PM.tbA K "law") (by rfl) T.g__law_asked T.F__law_asked sc__law_asked (fun _ _ _ _ _ _ us hl => match us, hl with | [_], _ => rfl) rfl (.inl rfl)
        (fun cdg L s H hr act => bd__law_asked T hr act) (B.tab "law" (by decide)) (B.code "law" (by decide)) (PM.tabs_mem (by decide)) (PM.tabs_uni B.nd (by decide)) (hr.mono (by decide)) (LamX.lamS_by (by kernel_rfl)) rfl (fun _ _ _ _ _ => rfl)
        (fun A outer s H E f c' hr => (PM.i_call (ok_table_of T) (takes_of rfl rfl rfl rfl) (hr.mono (by decide)) (by rfl) (PM.a_cons (PM.i_make (mk_House T) (takes_of rfl rfl rfl rfl) (hr.mono (by decide)) (by rfl) (PM.a_cons PM.i_int (PM.a_cons (PM.i_ofF (PM.f_lst PM.a_nil)) PM.a_nil))) (PM.a_cons (PM.i_ofF (PM.f_lst (PM.a_cons (PM.i_tup (PM.a_cons PM.i_int PM.a_nil)) PM.a_nil))) (PM.a_cons PM.i_int PM.a_nil)))))) (PM.i_tup (PM.a_cons PM.i_str (PM.a_cons PM.i_non PM.a_nil))) (nomark _)))))))
  exact h
end
end K29
namespace K29
open PySem PySem.Spec PyProof.Rows L2
abbrev R : PySem.W.OpenRow := PySem.W.OpenLaw.row PySem.Challenge.rw_wishdeeds_k29_deeds_refused
abbrev hk : PySem.W.Hook := PM.hookL 5 fa fn fx mks
def ob (s : PySem.W.SharedT) : He.AlD   := PM.obsLG 5 fa fn fx mks (HandSHeadRun.getT s)
theorem ob_eq (s : PySem.W.SharedT) : ob s = hk.obs s.abs := PM.obsLG_eq (HandSHeadRun.getT_eq s)
def loose : List PySem.Str := (["_wall", "WishError", "NoHouse", "NoName", "NoRow", "NoSteps", "NoPaper", "TooMany", "MOST_THINGS", "MOST_DEEDS", "MOST_PLACES", "SMALL", "is_whole", "is_thing", "is_name", "is_row", "cells", "spot_of", "things_at", "is_deed", "House", "is_given", "is_step", "check_steps", "check_rows", "put_together", "run", "needed", "moved", "trimmed"] : List PySem.Str) ++ (["Growing", "grown", "spread", "made", "is_lot", "leads_out", "first_out", "check_steps_to", "check_lot_against", "check_made", "MOST_WIDE", "argument_rows", "check_places", "check_table", "turned", "term_deed", "check_term", "deeds_made", "table_of", "_law_draw", "_law_names", "_law_all", "_law_table", "_law_house", "_law_asked", "_law_cells", "_law_places_due", "_law_right"] : List PySem.Str)
theorem run (w : World) : HandSHeadRun.RunEq R (PySem.W.view R.prog [64]) hk ob 6000 loose w := by
  intro os
  kernel_rfl
theorem facts {P : Program} {w : World} {K : PySem.W.Frag} {h : Heap} {mg : Str → Option Value} {f : Addr} (X : K.In h) (G : h.Ns mainGlobals mg) (hfa : mg ("law" : Str) = some (.ref f)) (c : WD.SaysE fa fn fx K) :
    ∃ fd : FuncData, (∀ (s : Shared) (v : Value), BindsTo s fd ⟨[v], []⟩ [("_law_script", v)]) ∧ ∀ base : Heap, K.In base → base.Ns mainGlobals mg → PM.LamF K mks mg base → FnOk P w K mg base CX0 11 f fd ["_law_script"] (PM.spLaw ⟨K, PM.tabsOf K mks⟩) := by
  have T := mkTx X G c
  obtain ⟨fd, F⟩ := T.F_law
  have e := hfa.symm.trans T.g_law
  cases e
  have b := FunD.bindsA (ps := ["_law_script"]) F fun _ _ _ _ _ _ us hl => match us, hl with | [_], _ => rfl
  exact ⟨fd, fun s v => b s [v] rfl, fun base _ _ B => law_fn T B law_true F⟩
end K29
open PySem PySem.W PySem.Calls PyProof.Rows
set_option maxHeartbeats 0 in
theorem PySem.Challenge.cw_wishdeeds_k29_deeds_refused_holds : PySem.Challenge.rw_wishdeeds_k29_deeds_refused.Holds := by
  w_on; o_law
  refine HandSHeadRun.head_any (r := OpenLaw.row PySem.Challenge.rw_wishdeeds_k29_deeds_refused) (q := view (OpenLaw.row PySem.Challenge.rw_wishdeeds_k29_deeds_refused).prog [64]) (H := K29.hk) (ob := K29.ob) (M := 6000) (loose := K29.loose) (d := HandSHeadRun.topDef (OpenLaw.row PySem.Challenge.rw_wishdeeds_k29_deeds_refused).prog 64) (kwd := []) K29.ob_eq
    (by kernel_rfl) (fun s => by kernel_rfl) K29.run (by kernel_rfl) (by kernel_rfl) (by kernel_rfl) (by rfl) (by first | assumption | decide +kernel) (by decide +kernel) ⟨rfl, rfl, rfl, rfl, rfl, by decide +kernel⟩ ?hw ?hc
  case hw => w_witness2
  case hc =>
    refine LamX.walk_ofTsE (l := PySem.Challenge.rw_wishdeeds_k29_deeds_refused) (n := 63) (k := 11) (x := "_law_script") (CX := fun _ => L2.CX0) rfl (by decide) (by kernel_rfl) ⟨rfl, by decide, by decide⟩ ?F (fun _ _ _ _ _ z => z)
    intro w mg fa h Y G hmg0
    obtain ⟨K, KX, c⟩ := Y
    have hmg : mg ("law" : PySem.Str) = some (.ref fa) := by
      have e : (HandSHeadRun.topDef (OpenLaw.row PySem.Challenge.rw_wishdeeds_k29_deeds_refused).prog 64).name = ("law" : PySem.Str) := by kernel_rfl
      rw [← e]
      exact hmg0
    obtain ⟨fd, hb, hF⟩ := K29.facts (P := (PySem.Challenge.rw_wishdeeds_k29_deeds_refused).prog) (w := w) KX G hmg c.says
    exact ⟨K, KX, PM.law_at c hb (fun base h1 h2 h3 => hF base h1 h2 h3)⟩
