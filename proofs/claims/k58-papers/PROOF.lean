import PyProof.Rows.All
import Wide.All
import OpenK.AllK
import Wide.FinOn
import KE.KStateDown
import KE.KTupSum
import KE.DataMinMax
import HandS.ForMost
import HandS.IsInst
import HandS.Walk
import HandS.Conv
import HandS.Zip
import HandS.TupLe
import HandS.TupAny
import HandS.Evl
import HandS.Deep
import HandS.Defaults
import HandS.HeadHook1
import HandS.HeadHook2
import HandS.Head0
import HandS.Head1
import HandS.Head2
import HandS.HeadEnd
import HandS.WordsExc
import HandS.Steps
import KE.KDictList
import HandS.ListItems
import HandS.Codes
import KE.KExcIs
import HandS.ExcInit
import HandS.ExcIs
import HandS.ExcField
import HandS.TryMany
import KE.DataFind
import HandS.Style
import HandS.TupMul
import HandS.SortInts
import HandS.SortRule
import PySem.Challenge.RW_wishdeeds_k58_papers_of_permuting_checke
set_option Elab.async false
set_option linter.all false
set_option maxRecDepth 100000
set_option maxHeartbeats 4000000
namespace WD
open PySem PySem.Spec PyProof.Rows L2

/-! ### frames -/
abbrev MS := Addr → Prop
structure Fr (M : MS) (H H' : Hp) : Prop where
  keep : ∀ a o, ¬ M a → H a = some o → H' a = some o
  dom : ∀ a, H' a = none → H a = none
abbrev M0 : MS := fun _ => False
abbrev plus (M : MS) (D : Addr) : MS := fun x => M x ∨ x = D
theorem Fr.refl {M : MS} (H : Hp) : Fr M H H := ⟨fun _ _ _ h => h, fun _ h => h⟩
theorem Fr.trans {M : MS} {H H1 H2 : Hp} (a : Fr M H H1) (b : Fr M H1 H2) : Fr M H H2 :=
  ⟨fun x o n h => b.keep x o n (a.keep x o n h), fun x h => a.dom x (b.dom x h)⟩
theorem Fr.mono {M M' : MS} {H H' : Hp} (a : Fr M H H') (s : ∀ x, M x → M' x) : Fr M' H H' :=
  ⟨fun x o n h => a.keep x o (fun z => n (s x z)) h, a.dom⟩
theorem upd_none {H : Hp} {p a : Addr} {o : HO} (h : upd H p o a = none) : a ≠ p ∧ H a = none := by
  by_cases e : a = p
  · subst e; rw [upd_same] at h; cases h
  · rw [upd_ne e] at h; exact ⟨e, h⟩
theorem Fr.new {M : MS} {H : Hp} {p : Addr} {o : HO} (h : H p = none) : Fr M H (upd H p o) :=
  ⟨fun a u _ e => by rw [upd_ne (ne_of_none e h)]; exact e, fun a e => (upd_none e).2⟩
theorem Fr.mutNew {M : MS} {H H' : Hp} {p : Addr} {o : HO} (f : Fr M H H') (h : H p = none) : Fr M H (upd H' p o) :=
  ⟨fun a u n e => by rw [upd_ne (ne_of_none e h)]; exact f.keep a u n e, fun a e => f.dom a (upd_none e).2⟩
theorem Fr.mut {M : MS} {H : Hp} {p : Addr} {o : HO} (h : M p) : Fr M H (upd H p o) :=
  ⟨fun a u n e => by rw [upd_ne (fun z : a = p => n (by rw [z]; exact h))]; exact e, fun a e => (upd_none e).2⟩
theorem Fr.of_plus {M : MS} {H H' : Hp} {D : Addr} (f : Fr (plus M D) H H') (h : H D = none) : Fr M H H' :=
  ⟨fun a o n e => f.keep a o (fun z => z.elim n (fun q => by rw [q, h] at e; cases e)) e, f.dom⟩
def MIn (M : MS) (H : Hp) : Prop := ∀ a, M a → H a ≠ none
theorem MIn.to {M M' : MS} {H H' : Hp} (m : MIn M H) (f : Fr M' H H') : MIn M H' := fun a h z => m a h (f.dom a z)
theorem MIn.no {M : MS} {H : Hp} {p : Addr} (m : MIn M H) (h : H p = none) : ¬ M p := fun z => m p z h
theorem MIn.plus {M : MS} {H : Hp} {D : Addr} {o : HO} (m : MIn M H) (h : H D = some o) : MIn (plus M D) H := fun a z => z.elim (m a) (fun q => by rw [q, h]; exact fun e => nomatch e)
theorem MIn.zero {H : Hp} : MIn M0 H := fun _ h => h.elim

/-! ### relations: a value in a heap and the datum that it is -/
abbrev Rl (α : Type) := MS → Hp → V → α → Prop
class Rep {α : Type} (R : Rl α) : Prop where
  st : ∀ {M : MS} {H H' : Hp} {v : V} {a : α}, Fr M H H' → R M H v a → R M H' v a
  wk : ∀ {M M' : MS} {H : Hp} {v : V} {a : α}, (∀ x, M x → M' x) → R M' H v a → R M H v a
  ad : ∀ {M : MS} {H : Hp} {v : V} {a : α} {D : Addr}, H D = none → R M H v a → R (plus M D) H v a
/-- what was known there is known here -/
def Tr (M : MS) (H : Hp) (M' : MS) (H' : Hp) : Prop := ∀ {α : Type} {R : Rl α} [Rep R] {v : V} {a : α}, R M H v a → R M' H' v a
theorem Fr.tr {M : MS} {H H' : Hp} (f : Fr M H H') : Tr M H M H' := fun h => Rep.st f h
theorem Tr.refl {M : MS} {H : Hp} : Tr M H M H := fun h => h
theorem Tr.trans {M M1 M2 : MS} {H H1 H2 : Hp} (a : Tr M H M1 H1) (b : Tr M1 H1 M2 H2) : Tr M H M2 H2 := fun h => b (a h)
theorem Tr.ad {M : MS} {H : Hp} {D : Addr} (h : H D = none) : Tr M H (plus M D) H := fun x => Rep.ad h x
theorem Tr.wk {M M' : MS} {H : Hp} (s : ∀ x, M x → M' x) : Tr M' H M H := fun x => Rep.wk s x
theorem Tr.of_plus {M : MS} {H : Hp} {D : Addr} : Tr (plus M D) H M H := Tr.wk fun _ h => .inl h

def All2 {α : Type} (R : V → α → Prop) : List V → List α → Prop
  | [], [] => True
  | v :: vs, a :: as => R v a ∧ All2 R vs as
  | _, _ => False
section
variable {α β : Type} {R : V → α → Prop}
theorem All2.len : ∀ {vs : List V} {as : List α}, All2 R vs as → vs.length = as.length
  | [], [], _ => rfl
  | _ :: _, _ :: _, h => congrArg Nat.succ h.2.len
  | [], _ :: _, h => h.elim
  | _ :: _, [], h => h.elim
theorem All2.imp {R' : V → α → Prop} (f : ∀ v a, R v a → R' v a) : ∀ {vs : List V} {as : List α}, All2 R vs as → All2 R' vs as
  | [], [], _ => trivial
  | _ :: _, _ :: _, h => ⟨f _ _ h.1, h.2.imp f⟩
  | [], _ :: _, h => h.elim
  | _ :: _, [], h => h.elim
theorem All2.app : ∀ {vs ws : List V} {as bs : List α}, All2 R vs as → All2 R ws bs → All2 R (vs ++ ws) (as ++ bs)
  | [], _, [], _, _, h => h
  | _ :: _, _, _ :: _, _, g, h => ⟨g.1, g.2.app h⟩
  | [], _, _ :: _, _, g, _ => g.elim
  | _ :: _, _, [], _, g, _ => g.elim
theorem All2.one {v : V} {a : α} (h : R v a) : All2 R [v] [a] := ⟨h, trivial⟩
theorem All2.get : ∀ {vs : List V} {as : List α} {i : Nat} {v : V}, All2 R vs as → vs[i]? = some v → ∃ a, as[i]? = some a ∧ R v a
  | [], [], _, _, _, e => by simp at e
  | x :: _, a :: _, 0, v, h, e => ⟨a, rfl, by
      have z : x = v := Option.some.inj e
      rw [← z]; exact h.1⟩
  | _ :: _, _ :: _, i + 1, v, h, e => All2.get (i := i) h.2 e
  | [], _ :: _, _, _, h, _ => h.elim
  | _ :: _, [], _, _, h, _ => h.elim
theorem All2.at_ : ∀ {vs : List V} {as : List α} {i : Nat} {a : α}, All2 R vs as → as[i]? = some a → ∃ v, vs[i]? = some v ∧ R v a
  | [], [], _, _, _, e => by simp at e
  | v :: _, x :: _, 0, a, h, e => ⟨v, rfl, by
      have z : x = a := Option.some.inj e
      rw [← z]; exact h.1⟩
  | _ :: _, _ :: _, i + 1, v, h, e => All2.at_ (i := i) h.2 e
  | [], _ :: _, _, _, h, _ => h.elim
  | _ :: _, [], _, _, h, _ => h.elim
theorem All2.take : ∀ {vs : List V} {as : List α} (n : Nat), All2 R vs as → All2 R (vs.take n) (as.take n)
  | [], [], n, _ => by cases n <;> exact trivial
  | _ :: _, _ :: _, 0, _ => trivial
  | _ :: _, _ :: _, n + 1, h => ⟨h.1, h.2.take n⟩
  | [], _ :: _, _, h => h.elim
  | _ :: _, [], _, h => h.elim
theorem All2.drop : ∀ {vs : List V} {as : List α} (n : Nat), All2 R vs as → All2 R (vs.drop n) (as.drop n)
  | [], [], n, _ => by cases n <;> exact trivial
  | _ :: _, _ :: _, 0, h => h
  | _ :: _, _ :: _, n + 1, h => h.2.drop n
  | [], _ :: _, _, h => h.elim
  | _ :: _, [], _, h => h.elim
theorem All2.of_map {f : α → V} (h : ∀ a, R (f a) a) : ∀ (as : List α), All2 R (as.map f) as
  | [] => trivial
  | a :: as => ⟨h a, All2.of_map h as⟩
theorem All2.eq_map {f : α → V} (h : ∀ v a, R v a → v = f a) : ∀ {vs : List V} {as : List α}, All2 R vs as → vs = as.map f
  | [], [], _ => rfl
  | _ :: _, _ :: _, g => by rw [List.map_cons, ← h _ _ g.1, ← g.2.eq_map h]
  | [], _ :: _, g => g.elim
  | _ :: _, [], g => g.elim
end

def rI : Rl Int := fun _ _ v i => v = .int i
def rB : Rl Bool := fun _ _ v b => v = .bl b
def rS : Rl Str := fun _ _ v x => v = .str x ∧ PyData.strOk x = true
def rN : Rl Unit := fun _ _ v _ => v = .non
instance : Rep rI := ⟨fun _ h => h, fun _ h => h, fun _ h => h⟩
instance : Rep rB := ⟨fun _ h => h, fun _ h => h, fun _ h => h⟩
instance : Rep rS := ⟨fun _ h => h, fun _ h => h, fun _ h => h⟩
instance : Rep rN := ⟨fun _ h => h, fun _ h => h, fun _ h => h⟩
section
variable {α β γ : Type}
def rL (R : Rl α) : Rl (List α) := fun M H v l => ∃ a vs, v = .ref a ∧ ¬ M a ∧ H a = some (.lst vs) ∧ All2 (R M H) vs l
def rT (R : Rl α) : Rl (List α) := fun M H v l => ∃ a vs, v = .ref a ∧ ¬ M a ∧ H a = some (.tup vs) ∧ All2 (R M H) vs l
def rP (R : Rl α) (S : Rl β) : Rl (α × β) := fun M H v p => ∃ a v1 v2, v = .ref a ∧ ¬ M a ∧ H a = some (.tup [v1, v2]) ∧ R M H v1 p.1 ∧ S M H v2 p.2
def rP3 (R : Rl α) (S : Rl β) (T : Rl γ) : Rl (α × β × γ) := fun M H v p => ∃ a v1 v2 v3, v = .ref a ∧ ¬ M a ∧ H a = some (.tup [v1, v2, v3]) ∧ R M H v1 p.1 ∧ S M H v2 p.2.1 ∧ T M H v3 p.2.2
theorem ad_ne {M : MS} {H : Hp} {a D : Addr} {o : HO} (h : H a = some o) (n : ¬ M a) (hD : H D = none) : ¬ plus M D a := fun z => z.elim n (fun e => by rw [e, hD] at h; cases h)
instance {R : Rl α} [Rep R] : Rep (rL R) := ⟨fun f ⟨a, vs, e, n, h, g⟩ => ⟨a, vs, e, n, f.keep a _ n h, g.imp fun _ _ x => Rep.st f x⟩,
  fun s ⟨a, vs, e, n, h, g⟩ => ⟨a, vs, e, fun z => n (s a z), h, g.imp fun _ _ x => Rep.wk s x⟩, fun hD ⟨a, vs, e, n, h, g⟩ => ⟨a, vs, e, ad_ne h n hD, h, g.imp fun _ _ x => Rep.ad hD x⟩⟩
instance {R : Rl α} [Rep R] : Rep (rT R) := ⟨fun f ⟨a, vs, e, n, h, g⟩ => ⟨a, vs, e, n, f.keep a _ n h, g.imp fun _ _ x => Rep.st f x⟩,
  fun s ⟨a, vs, e, n, h, g⟩ => ⟨a, vs, e, fun z => n (s a z), h, g.imp fun _ _ x => Rep.wk s x⟩, fun hD ⟨a, vs, e, n, h, g⟩ => ⟨a, vs, e, ad_ne h n hD, h, g.imp fun _ _ x => Rep.ad hD x⟩⟩
instance {R : Rl α} {S : Rl β} [Rep R] [Rep S] : Rep (rP R S) := ⟨fun f ⟨a, v1, v2, e, n, h, g1, g2⟩ => ⟨a, v1, v2, e, n, f.keep a _ n h, Rep.st f g1, Rep.st f g2⟩,
  fun s ⟨a, v1, v2, e, n, h, g1, g2⟩ => ⟨a, v1, v2, e, fun z => n (s a z), h, Rep.wk s g1, Rep.wk s g2⟩, fun hD ⟨a, v1, v2, e, n, h, g1, g2⟩ => ⟨a, v1, v2, e, ad_ne h n hD, h, Rep.ad hD g1, Rep.ad hD g2⟩⟩
instance {R : Rl α} {S : Rl β} {T : Rl γ} [Rep R] [Rep S] [Rep T] : Rep (rP3 R S T) := ⟨fun f ⟨a, v1, v2, v3, e, n, h, g1, g2, g3⟩ => ⟨a, v1, v2, v3, e, n, f.keep a _ n h, Rep.st f g1, Rep.st f g2, Rep.st f g3⟩,
  fun s ⟨a, v1, v2, v3, e, n, h, g1, g2, g3⟩ => ⟨a, v1, v2, v3, e, fun z => n (s a z), h, Rep.wk s g1, Rep.wk s g2, Rep.wk s g3⟩, fun hD ⟨a, v1, v2, v3, e, n, h, g1, g2, g3⟩ => ⟨a, v1, v2, v3, e, ad_ne h n hD, h, Rep.ad hD g1, Rep.ad hD g2, Rep.ad hD g3⟩⟩
theorem ints_of {M : MS} {H : Hp} {vs : List V} {l : List Int} (h : All2 (rI M H) vs l) : vs = l.map V.int := h.eq_map fun _ _ e => e
theorem of_ints {M : MS} {H : Hp} (l : List Int) : All2 (rI M H) (l.map V.int) l := All2.of_map (f := V.int) (fun _ => rfl) l
/-- a tuple of ints | a list of ints, written out -/
theorem tupI {M : MS} {H : Hp} {v : V} {l : List Int} (h : rT rI M H v l) : ∃ a, v = .ref a ∧ ¬ M a ∧ H a = some (.tup (l.map V.int)) := by
  obtain ⟨a, vs, e, n, h, g⟩ := h
  rw [ints_of g] at h
  exact ⟨a, e, n, h⟩
theorem lstI {M : MS} {H : Hp} {v : V} {l : List Int} (h : rL rI M H v l) : ∃ a, v = .ref a ∧ ¬ M a ∧ H a = some (.lst (l.map V.int)) := by
  obtain ⟨a, vs, e, n, h, g⟩ := h
  rw [ints_of g] at h
  exact ⟨a, e, n, h⟩
theorem mkTupI {M : MS} {H : Hp} {a : Addr} {l : List Int} (n : ¬ M a) (h : H a = some (.tup (l.map V.int))) : rT rI M H (.ref a) l := ⟨a, _, rfl, n, h, of_ints l⟩
theorem mkLstI {M : MS} {H : Hp} {a : Addr} {l : List Int} (n : ¬ M a) (h : H a = some (.lst (l.map V.int))) : rL rI M H (.ref a) l := ⟨a, _, rfl, n, h, of_ints l⟩
end

/-! ### == of data -/
structure EncOk {α : Type} [DecidableEq α] (R : Rl α) (enc : α → PyData) (n : Nat) : Prop where
  dp : ∀ {K : PySem.W.Frag} {M : MS} {H : Hp} {v : V} {a : α}, R M H v a → Dp K H v (enc a) ∧ (enc a).canLay0 = true
  dep : ∀ a, (enc a).depth ≤ n
  eq : ∀ a b, PyData.eqv (enc a) (enc b) = decide (a = b)
section
variable {α β γ : Type} [DecidableEq α] [DecidableEq β] [DecidableEq γ] {R : Rl α} {S : Rl β} {T : Rl γ} {e1 : α → PyData} {e2 : β → PyData} {e3 : γ → PyData} {n : Nat}
theorem shaped_of {d : PyData} {n : Nat} (h1 : d.canLay0 = true) (h2 : d.depth ≤ n) (hn : n ≤ 64) : SeqAt.shaped d = true := by
  show (d.canLay0 && decide (d.depth ≤ 64)) = true
  rw [h1, decide_eq_true (Nat.le_trans h2 hn)]; rfl
theorem encI : EncOk rI PyData.int 0 := ⟨fun h => by cases h; exact ⟨.int _, rfl⟩, fun _ => Nat.le_refl _, fun a b => by
  show (a == b) = decide (a = b)
  exact Bool.beq_eq_decide_eq a b⟩
theorem encB : EncOk rB PyData.bool 0 := ⟨fun h => by cases h; exact ⟨.bl _, rfl⟩, fun _ => Nat.le_refl _, fun a b => by
  show (a == b) = decide (a = b)
  exact Bool.beq_eq_decide_eq a b⟩
theorem encS : EncOk rS PyData.str 0 := ⟨fun h => by obtain ⟨rfl, h⟩ := h; exact ⟨.str _, h⟩, fun _ => Nat.le_refl _, fun a b => by
  show (a == b) = decide (a = b)
  exact Bool.beq_eq_decide_eq a b⟩
theorem encAll {K : PySem.W.Frag} {M : MS} {H : Hp} (E : EncOk R e1 n) : ∀ {vs : List V} {as : List α}, All2 (R M H) vs as → DpAll K H vs (as.map e1) ∧ PyData.canLayAll0 (as.map e1) = true
  | [], [], _ => ⟨.nil, rfl⟩
  | v :: vs, a :: as, h => by
    obtain ⟨h1, h2⟩ := E.dp (K := K) h.1
    obtain ⟨h3, h4⟩ := encAll (K := K) E h.2
    exact ⟨.cons h1 h3, by show ((e1 a).canLay0 && PyData.canLayAll0 (as.map e1)) = true; rw [h2, h4]; rfl⟩
  | [], _ :: _, h => h.elim
  | _ :: _, [], h => h.elim
theorem encDep (E : EncOk R e1 n) : ∀ (as : List α), PyData.depthAll (as.map e1) ≤ n
  | [] => Nat.zero_le _
  | a :: as => by
    show max (e1 a).depth (PyData.depthAll (as.map e1)) ≤ n
    exact Nat.max_le.mpr ⟨E.dep a, encDep E as⟩
theorem encEqAll (E : EncOk R e1 n) : ∀ (as bs : List α), PyData.eqvAll (as.map e1) (bs.map e1) = decide (as = bs)
  | [], [] => by simp [PyData.eqvAll]
  | [], _ :: _ => by simp [PyData.eqvAll]
  | _ :: _, [] => by simp [PyData.eqvAll]
  | a :: as, b :: bs => by
    show (PyData.eqv (e1 a) (e1 b) && PyData.eqvAll (as.map e1) (bs.map e1)) = _
    rw [E.eq, encEqAll E as bs]
    by_cases h1 : a = b <;> by_cases h2 : as = bs <;> simp [h1, h2]
theorem encL (E : EncOk R e1 n) : EncOk (rL R) (fun l => .list (l.map e1)) (n + 1) := ⟨fun h => by
    obtain ⟨a, vs, rfl, _, h, g⟩ := h
    obtain ⟨g1, g2⟩ := encAll E g
    exact ⟨.lst (SqL.of h) g1, g2⟩, fun l => Nat.succ_le_succ (encDep E l), fun a b => encEqAll E a b⟩
theorem encT (E : EncOk R e1 n) : EncOk (rT R) (fun l => .tuple (l.map e1)) (n + 1) := ⟨fun h => by
    obtain ⟨a, vs, rfl, _, h, g⟩ := h
    obtain ⟨g1, g2⟩ := encAll E g
    exact ⟨.tup (SqT.of h) g1, g2⟩, fun l => Nat.succ_le_succ (encDep E l), fun a b => encEqAll E a b⟩
theorem encP (E : EncOk R e1 n) (F : EncOk S e2 n) : EncOk (rP R S) (fun p => .tuple [e1 p.1, e2 p.2]) (n + 1) := ⟨fun {K _ _ _ _} h => by
    obtain ⟨a, v1, v2, rfl, _, h, g1, g2⟩ := h
    obtain ⟨h1, h2⟩ := E.dp (K := K) g1
    obtain ⟨h3, h4⟩ := F.dp (K := K) g2
    exact ⟨.tup (SqT.of h) (.cons h1 (.cons h3 .nil)), by
      show ((e1 _).canLay0 && ((e2 _).canLay0 && true)) = true
      rw [h2, h4]; rfl⟩, fun p => by
    show max (e1 p.1).depth (max (e2 p.2).depth 0) + 1 ≤ n + 1
    have := E.dep p.1; have := F.dep p.2; omega, fun p q => by
    show (PyData.eqv (e1 p.1) (e1 q.1) && (PyData.eqv (e2 p.2) (e2 q.2) && true)) = _
    obtain ⟨a, b⟩ := p; obtain ⟨c, d⟩ := q
    rw [E.eq, F.eq]
    by_cases h1 : a = c <;> by_cases h2 : b = d <;> simp [h1, h2]⟩
theorem encP3 (E : EncOk R e1 n) (F : EncOk S e2 n) (G : EncOk T e3 n) : EncOk (rP3 R S T) (fun p => .tuple [e1 p.1, e2 p.2.1, e3 p.2.2]) (n + 1) := ⟨fun {K _ _ _ _} h => by
    obtain ⟨a, v1, v2, v3, rfl, _, h, g1, g2, g3⟩ := h
    obtain ⟨h1, h2⟩ := E.dp (K := K) g1
    obtain ⟨h3, h4⟩ := F.dp (K := K) g2
    obtain ⟨h5, h6⟩ := G.dp (K := K) g3
    exact ⟨.tup (SqT.of h) (.cons h1 (.cons h3 (.cons h5 .nil))), by
      show ((e1 _).canLay0 && ((e2 _).canLay0 && ((e3 _).canLay0 && true))) = true
      rw [h2, h4, h6]; rfl⟩, fun p => by
    show max (e1 p.1).depth (max (e2 p.2.1).depth (max (e3 p.2.2).depth 0)) + 1 ≤ n + 1
    have := E.dep p.1; have := F.dep p.2.1; have := G.dep p.2.2; omega, fun p q => by
    show (PyData.eqv (e1 p.1) (e1 q.1) && (PyData.eqv (e2 p.2.1) (e2 q.2.1) && (PyData.eqv (e3 p.2.2) (e3 q.2.2) && true))) = _
    obtain ⟨a, b, c⟩ := p; obtain ⟨a', b', c'⟩ := q
    rw [E.eq, F.eq, G.eq]
    by_cases h1 : a = a' <;> by_cases h2 : b = b' <;> by_cases h3 : c = c' <;> simp [h1, h2, h3]⟩
theorem EncOk.up {m : Nat} (E : EncOk R e1 n) (h : n ≤ m) : EncOk R e1 m := ⟨E.dp, fun a => Nat.le_trans (E.dep a) h, E.eq⟩
theorem eqD_of {K : PySem.W.Frag} {M M' : MS} {H : Hp} {x y : V} {a b : α} {Q : VK} (E : EncOk R e1 n) (h1 : R M H x a) (h2 : R M' H y b) (q : Q (.bl (decide (a = b))) H) (hn : n ≤ 64 := by decide) : rEqD K x y H Q := by
  obtain ⟨d1, l1⟩ := E.dp (K := K) h1
  obtain ⟨d2, l2⟩ := E.dp (K := K) h2
  exact ⟨_, _, d1, d2, shaped_of l1 (E.dep a) hn, shaped_of l2 (E.dep b) hn, by rw [E.eq]; exact q⟩
theorem neD_of {K : PySem.W.Frag} {M M' : MS} {H : Hp} {x y : V} {a b : α} {Q : VK} (E : EncOk R e1 n) (h1 : R M H x a) (h2 : R M' H y b) (q : Q (.bl (!decide (a = b))) H) (hn : n ≤ 64 := by decide) : rNeD K x y H Q := by
  obtain ⟨d1, l1⟩ := E.dp (K := K) h1
  obtain ⟨d2, l2⟩ := E.dp (K := K) h2
  exact ⟨_, _, d1, d2, shaped_of l1 (E.dep a) hn, shaped_of l2 (E.dep b) hn, by rw [E.eq]; exact q⟩
end
end WD
namespace WD
open PySem PySem.Spec PyProof.Rows L2

/-! ### what holds of the changing objects -/
def JOk (M : MS) (J : Hp → Prop) : Prop := ∀ H H', (∀ x, M x → H' x = H x) → J H → J H'
abbrev J0 : Hp → Prop := fun _ => True
theorem jok0 {M : MS} : JOk M J0 := fun _ _ _ _ => trivial
/-- the well: a list of three ints -/
def Well (w : Addr) (H : Hp) : Prop := ∃ a b c : Int, H w = some (.lst [.int a, .int b, .int c])
theorem jokW {M : MS} {w : Addr} (h : M w) : JOk M (Well w) := fun H H' e ⟨a, b, c, q⟩ => ⟨a, b, c, by rw [e w h]; exact q⟩
abbrev only (w : Addr) : MS := fun x => x = w
theorem Well.ne {w : Addr} {H : Hp} (h : Well w H) : H w ≠ none := fun z => by
  obtain ⟨a, b, c, e⟩ := h
  rw [z] at e; cases e
theorem Well.in_ {w : Addr} {H : Hp} (h : Well w H) : MIn (only w) H := fun a e => by rw [e]; exact h.ne
theorem Well.upd {w p : Addr} {H : Hp} {o : HO} (h : Well w H) (n : H p = none) : Well w (upd H p o) := by
  obtain ⟨a, b, c, e⟩ := h
  exact ⟨a, b, c, by rw [upd_ne (ne_of_none e n)]; exact e⟩
theorem Well.fr {M : MS} {w : Addr} {H H' : Hp} (h : Well w H) (n : ¬ M w) (f : Fr M H H') : Well w H' := by
  obtain ⟨a, b, c, e⟩ := h
  exact ⟨a, b, c, f.keep _ _ n e⟩

/-! ### comprehensions -/
theorem filterMap_snoc {α : Type} (l : List (Option α)) (o : Option α) : (l ++ [o]).filterMap id = l.filterMap id ++ (match o with | some a => [a] | none => []) := by
  rw [List.filterMap_append]
  cases o <;> rfl
theorem lc_gen {α : Type} {R : Rl α} [Rep R] {W : It} {n : Nat} {G : Hp → Prop} {Y : Nat → Hp → V → Hp → Prop} (w : Walk W n G Y) {g : TG} {tt : TT} {te : TE} {vs : List Nat} {σ : L2.St} {H1 : Hp} {Q : Addr → Hp → Prop}
    {M Mf : MS} {J : Hp → Prop} (hMf : ∀ x, Mf x → M x) (hJm : JOk Mf J) (hn : n ≤ 1000000) (hM : MIn M H1) (hJ : J H1) (P : Nat → Option α → Prop)
    (hG : ∀ M' H', Tr M H1 M' H' → Fr Mf H1 H' → G H')
    (hb : ∀ i M' H', i < n → Tr M H1 M' H' → Fr Mf H1 H' → MIn M' H' → (∀ x, M x → M' x) → J H' → ∀ (Ky : V → Hp → Prop) (Kn : Hp → Prop),
      (∀ y H4 a, P i (some a) → Fr Mf H' H4 → J H4 → R M' H4 y a → Ky y H4) → (∀ H3, P i none → Fr Mf H' H3 → J H3 → Kn H3) →
      ∀ x H'', Y i H' x H'' → g x (wipe σ vs) H'' fun σ2 H2 => wipe σ2 vs = wipe σ vs ∧ tt σ2 H2 fun b H3 => if b = true then te σ2 H3 Ky else Kn H3)
    (k : ∀ (D : Addr) (l : List (Option α)) (H' : Hp), H1 D = none → l.length = n → (∀ i o, l[i]? = some o → P i o) → Fr Mf H1 H' → J H' → rL R M H' (.ref D) (l.filterMap id) → Q D H') :
    ∀ D, H1 D = none → ∃ W' : Nat → Nat → Hp → Prop, (∃ m, W' 0 m (upd H1 D (.lst []))) ∧ ∀ i m H, W' i m H →
      (W.stop i H ∧ Q D H) ∨ (W.go i H ∧ ∃ Nx : Hp → Prop, (∀ H', Nx H' → ∃ m', m' < m ∧ W' (i + 1) m' H') ∧ ∀ x H', W.yld i H x H' → g x (wipe σ vs) H' fun σ2 H2 => wipe σ2 vs = wipe σ vs ∧ tt σ2 H2 fun b H3 =>
        if b = true then te σ2 H3 fun y H4 => ∃ acc, H4 D = some (.lst acc) ∧ acc.length < sizeLine ∧ Nx (upd H4 D (.lst (acc ++ [y]))) else Nx H3) := by
  intro D hD
  have nD : ¬ M D := hM.no hD
  have nDf : ¬ Mf D := fun z => nD (hMf D z)
  have jup : ∀ {H : Hp} {o : HO}, J H → J (upd H D o) := fun {H o} h => hJm H _ (fun x hx => upd_ne (fun z => nDf (z ▸ hx))) h
  have base : Tr M H1 (plus M D) (upd H1 D (.lst [])) := fun {_ _ _ _ _} h => Rep.st (Fr.new hD) (Rep.ad hD h)
  have up : ∀ {H H' : Hp}, Fr Mf H H' → Fr (plus M D) H H' := fun f => f.mono fun x z => .inl (hMf x z)
  refine lc_it w (fun i H => ∃ l : List (Option α), l.length = i ∧ (∀ j o, l[j]? = some o → P j o) ∧ Fr Mf H1 H ∧ J H ∧ Tr M H1 (plus M D) H ∧ MIn (plus M D) H ∧ ∃ acc, H D = some (.lst acc) ∧ All2 (R (plus M D) H) acc (l.filterMap id))
    ⟨[], rfl, fun j o e => by simp at e, Fr.new hD, jup hJ, base, (hM.to (M' := M) (Fr.new hD)).plus upd_same, [], upd_same, trivial⟩ (fun i H _ ⟨l, _, _, f, _, t, _⟩ => hG _ _ t f) (fun i x H H' hi ⟨l, ll, lP, f, j, t, mi, acc, ha, al⟩ hy => ?_) (fun H ⟨l, ll, lP, f, j, t, mi, acc, ha, al⟩ => ?_)
  · refine hb i (plus M D) H hi t f mi (fun x h => .inl h) j _ _ (fun y H4 a pa f4 j4 r4 => ?_) (fun H3 pn f3 j3 => ?_) x H' hy
    · have hD4 : H4 D = some (.lst acc) := f4.keep D _ nDf ha
      have sz : acc.length < sizeLine := by
        have h1 := al.len
        have h2 : (l.filterMap id).length ≤ l.length := List.length_filterMap_le _ _
        have h3 := sizeLine_eq
        omega
      refine ⟨acc, hD4, sz, l ++ [some a], by rw [List.length_append, ll]; rfl, fun j o e => ?_, (f.trans f4).mutNew hD, jup j4, ?_, ?_, acc ++ [y], upd_same, ?_⟩
      · by_cases hj : j < l.length
        · rw [List.getElem?_append_left hj] at e; exact lP j o e
        · rw [List.getElem?_append_right (by omega)] at e
          have hj2 : j - l.length = 0 := by
            have := (List.getElem?_eq_some_iff.mp e).1
            simp at this; omega
          rw [hj2] at e
          have ej : j = i := by omega
          rw [ej, ← Option.some.inj e]
          exact pa
      · intro β S _ v b h
        exact Rep.st (M := plus M D) (Fr.mut (.inr rfl)) (Rep.st (up f4) (t h))
      · exact (mi.to f4).to (M' := plus M D) (Fr.mut (.inr rfl))
      · rw [filterMap_snoc]
        refine All2.app (al.imp fun v b z => ?_) (All2.one ?_)
        · exact Rep.st (M := plus M D) (Fr.mut (.inr rfl)) (Rep.st (up f4) z)
        · exact Rep.st (M := plus M D) (Fr.mut (.inr rfl)) r4
    · have hD3 : H3 D = some (.lst acc) := f3.keep D _ nDf ha
      refine ⟨l ++ [none], by rw [List.length_append, ll]; rfl, fun j o e => ?_, f.trans f3, j3, ?_, mi.to f3, acc, hD3, ?_⟩
      · by_cases hj : j < l.length
        · rw [List.getElem?_append_left hj] at e; exact lP j o e
        · rw [List.getElem?_append_right (by omega)] at e
          have hj2 : j - l.length = 0 := by
            have := (List.getElem?_eq_some_iff.mp e).1
            simp at this; omega
          rw [hj2] at e
          have ej : j = i := by omega
          rw [ej, ← Option.some.inj e]
          exact pn
      · intro β S _ v b h
        exact Rep.st (up f3) (t h)
      · rw [filterMap_snoc]
        show All2 _ _ (l.filterMap id ++ [])
        rw [List.append_nil]
        exact al.imp fun v b z => Rep.st (up f3) z
  · exact k D l H hD ll lP f j ⟨D, acc, rfl, nD, ha, al.imp fun v b z => Rep.wk (fun _ q => .inl q) z⟩
/-- no test, what comes at turn i is f i -/
theorem all_some {α : Type} {n : Nat} {l : List (Option α)} {f : Nat → α} (h1 : l.length = n) (h2 : ∀ i o, l[i]? = some o → o = some (f i)) : l.filterMap id = (List.range n).map f := by
  have e : l = (List.range n).map fun i => some (f i) := by
    refine List.ext_getElem? fun i => ?_
    by_cases hi : i < n
    · have hi2 : i < l.length := by omega
      rw [List.getElem?_eq_getElem hi2, h2 i _ (List.getElem?_eq_getElem hi2)]
      simp [hi]
    · rw [List.getElem?_eq_none (by omega), List.getElem?_eq_none (by simp; omega)]
  rw [e, List.filterMap_map]
  exact congrFun (List.filterMap_eq_map (f := f)) _
theorem all_opt {α : Type} {n : Nat} {l : List (Option α)} {f : Nat → Option α} (h1 : l.length = n) (h2 : ∀ i o, l[i]? = some o → o = f i) : l.filterMap id = (List.range n).filterMap f := by
  have e : l = (List.range n).map f := by
    refine List.ext_getElem? fun i => ?_
    by_cases hi : i < n
    · have hi2 : i < l.length := by omega
      rw [List.getElem?_eq_getElem hi2, h2 i _ (List.getElem?_eq_getElem hi2)]
      simp [hi]
    · rw [List.getElem?_eq_none (by omega), List.getElem?_eq_none (by simp; omega)]
  rw [e, List.filterMap_map]
  rfl
/-- no test, something of which P i -/
theorem all_of {α : Type} {n : Nat} {l : List (Option α)} {P : Nat → α → Prop} (h1 : l.length = n) (h2 : ∀ i o, l[i]? = some o → ∃ a, o = some a ∧ P i a) : (l.filterMap id).length = n ∧ ∀ i a, (l.filterMap id)[i]? = some a → P i a := by
  have key : ∀ (l : List (Option α)) (P : Nat → α → Prop), (∀ i o, l[i]? = some o → ∃ a, o = some a ∧ P i a) → (l.filterMap id).length = l.length ∧ ∀ i a, (l.filterMap id)[i]? = some a → P i a := by
    intro l
    induction l with
    | nil => intro P _; exact ⟨rfl, fun i a e => by simp at e⟩
    | cons o l ih =>
      intro P h
      obtain ⟨a, rfl, pa⟩ := h 0 o rfl
      obtain ⟨h3, h4⟩ := ih (fun i => P (i + 1)) fun i o e => h (i + 1) o e
      have z : (some a :: l).filterMap id = a :: l.filterMap id := rfl
      rw [z]
      refine ⟨congrArg Nat.succ h3, fun i b e => ?_⟩
      cases i with
      | zero =>
        have e2 : a = b := Option.some.inj e
        rw [← e2]; exact pa
      | succ i => exact h4 i b e
  obtain ⟨h3, h4⟩ := key l P h2
  exact ⟨h3.trans h1, h4⟩

theorem mapRange {α β : Type} (f : α → β) (d : α) (l : List α) {n : Nat} (hn : n = l.length) : (List.range n).map (fun i => f (l.getD i d)) = l.map f := by
  subst hn
  refine List.ext_getElem (by simp) fun j h1 h2 => ?_
  have hj : j < l.length := by simpa using h2
  rw [List.getElem_map, List.getElem_map, List.getElem_range, List.getD_eq_getElem?_getD, List.getElem?_eq_getElem hj]
  rfl
/-- a comprehension without a test, what comes at turn i is f i, nothing changes -/
theorem lc_map {α : Type} {R : Rl α} [Rep R] {W : It} {n : Nat} {G : Hp → Prop} {Y : Nat → Hp → V → Hp → Prop} (w : Walk W n G Y) (f : Nat → α) {g : TG} {te : TE} {vs : List Nat} {σ : L2.St} {H1 : Hp} {Q : Addr → Hp → Prop}
    {M : MS} (hM : MIn M H1) (hn : n ≤ 1000000) (hG : ∀ H', Fr M0 H1 H' → G H')
    (hb : ∀ i M' H', i < n → Tr M H1 M' H' → Fr M0 H1 H' → MIn M' H' → ∀ Ky : V → Hp → Prop, (∀ y H4, Fr M0 H' H4 → R M' H4 y (f i) → Ky y H4) →
      ∀ x H'', Y i H' x H'' → g x (wipe σ vs) H'' fun σ2 H2 => wipe σ2 vs = wipe σ vs ∧ te σ2 H2 Ky)
    (k : ∀ (D : Addr) (H' : Hp), H1 D = none → Fr M0 H1 H' → rL R M H' (.ref D) ((List.range n).map f) → Q D H') :
    ∀ D, H1 D = none → ∃ W' : Nat → Nat → Hp → Prop, (∃ m, W' 0 m (upd H1 D (.lst []))) ∧ ∀ i m H, W' i m H →
      (W.stop i H ∧ Q D H) ∨ (W.go i H ∧ ∃ Nx : Hp → Prop, (∀ H', Nx H' → ∃ m', m' < m ∧ W' (i + 1) m' H') ∧ ∀ x H', W.yld i H x H' → g x (wipe σ vs) H' fun σ2 H2 => wipe σ2 vs = wipe σ vs ∧ tYes σ2 H2 fun b H3 =>
        if b = true then te σ2 H3 fun y H4 => ∃ acc, H4 D = some (.lst acc) ∧ acc.length < sizeLine ∧ Nx (upd H4 D (.lst (acc ++ [y]))) else Nx H3) :=
  lc_gen w (Mf := M0) (fun _ h => h.elim) jok0 hn hM trivial (fun i o => o = some (f i)) (fun _ H' _ fr => hG H' fr) (fun i M' H' hi t fr mi _ _ Ky Kn ky _ x H'' hy =>
      hb i M' H' hi t fr mi Ky (fun y H4 f4 r4 => ky y H4 (f i) rfl f4 trivial r4) x H'' hy)
    (fun D l H' hD ll lP fr _ r => k D H' hD fr (by rw [all_some ll lP] at r; exact r))
/-- .. with a test: what comes at turn i is f i, or nothing -/
theorem lc_sift {α : Type} {R : Rl α} [Rep R] {W : It} {n : Nat} {G : Hp → Prop} {Y : Nat → Hp → V → Hp → Prop} (w : Walk W n G Y) (f : Nat → Option α) {g : TG} {tt : TT} {te : TE} {vs : List Nat} {σ : L2.St} {H1 : Hp} {Q : Addr → Hp → Prop}
    {M : MS} (hM : MIn M H1) (hn : n ≤ 1000000) (hG : ∀ H', Fr M0 H1 H' → G H')
    (hb : ∀ i M' H', i < n → Tr M H1 M' H' → Fr M0 H1 H' → MIn M' H' → ∀ (Ky : V → Hp → Prop) (Kn : Hp → Prop), (∀ y H4 a, f i = some a → Fr M0 H' H4 → R M' H4 y a → Ky y H4) → (∀ H3, f i = none → Fr M0 H' H3 → Kn H3) →
      ∀ x H'', Y i H' x H'' → g x (wipe σ vs) H'' fun σ2 H2 => wipe σ2 vs = wipe σ vs ∧ tt σ2 H2 fun b H3 => if b = true then te σ2 H3 Ky else Kn H3)
    (k : ∀ (D : Addr) (H' : Hp), H1 D = none → Fr M0 H1 H' → rL R M H' (.ref D) ((List.range n).filterMap f) → Q D H') :
    ∀ D, H1 D = none → ∃ W' : Nat → Nat → Hp → Prop, (∃ m, W' 0 m (upd H1 D (.lst []))) ∧ ∀ i m H, W' i m H →
      (W.stop i H ∧ Q D H) ∨ (W.go i H ∧ ∃ Nx : Hp → Prop, (∀ H', Nx H' → ∃ m', m' < m ∧ W' (i + 1) m' H') ∧ ∀ x H', W.yld i H x H' → g x (wipe σ vs) H' fun σ2 H2 => wipe σ2 vs = wipe σ vs ∧ tt σ2 H2 fun b H3 =>
        if b = true then te σ2 H3 fun y H4 => ∃ acc, H4 D = some (.lst acc) ∧ acc.length < sizeLine ∧ Nx (upd H4 D (.lst (acc ++ [y]))) else Nx H3) :=
  lc_gen w (Mf := M0) (fun _ h => h.elim) jok0 hn hM trivial (fun i o => o = f i) (fun _ H' _ fr => hG H' fr) (fun i M' H' hi t fr mi _ _ Ky Kn ky kn x H'' hy =>
      hb i M' H' hi t fr mi Ky Kn (fun y H4 a e f4 r4 => ky y H4 a e.symm f4 trivial r4) (fun H3 e f3 => kn H3 e.symm f3 trivial) x H'' hy)
    (fun D l H' hD ll lP fr _ r => k D H' hD fr (by rw [all_opt ll lP] at r; exact r))
/-! ### the draw -/
def spDraw : Sp := fun vs H Q _ => ∃ (w : Addr) (m : Int), vs = [.ref w, .int m] ∧ Well w H ∧ 0 < m ∧ m < 1073741824 ∧ ∀ r H', 0 ≤ r → r < m → Fr (only w) H H' → Well w H' → (∀ x, x ≠ w → H' x = H x) → Q (.int r) H'

/-! ### further rules -/
section
variable {X : Cx}
/-- xs + ys of lists, each to be read -/
def rCatL (K : PySem.W.Frag) : R2 := fun x y H Q => ∃ l b xs zs, x = .ref l ∧ y = .ref b ∧ SqL K H l xs ∧ SqL K H b zs ∧ xs.length + zs.length ≤ sizeLine ∧ ∀ p, H p = none → Q (.ref p) (upd H p (.lst (xs ++ zs)))
theorem op_catL : OpR X (binaryOp .Add) (rCatL X.K) := by
  intro pins s σ H x y v u Q I rx ry h
  obtain ⟨l, b, xs, zs, rfl, rfl, hH, hB, hz, q⟩ := h
  cases rx
  cases ry
  obtain ⟨its, r, ⟨⟨cls, dd, data, sl⟩, n, ho, hc, _, hd⟩, _⟩ := I.list hH
  obtain ⟨its2, r2, ⟨⟨cls2, dd2, data2, sl2⟩, n2, ho2, hc2, _, hd2⟩, _⟩ := I.list hB
  simp only at hc hd hc2 hd2
  subst hc hd hc2 hd2
  have h1 := r.length
  have h2 := r2.length
  have e : its.toArray ++ its2.toArray = (its ++ its2).toArray := by simp
  refine concat_meets ⟨_, ho, rfl⟩ ⟨_, ho2, rfl⟩ noFill_list_add seq_list_add PySem.F.slot_list_add PySem.F.entry_list_add (PySem.F.args_list_add_2 _ _) (list_addW l b its.toArray its2.toArray n n2 dd dd2 sl sl2 (by simp; omega)) ⟨ho, ho2, ?_⟩
  rw [e]
  exact ⟨.ref _, _, I.lnew (t' := s.toks) (r.append r2) (by rw [List.length_append]; omega), rfl, q _ I.fresh⟩
/-- sum of a tuple of ints; min, max: one of them -/
def rSumT (K : PySem.W.Frag) : List V → Hp → VK → Prop := fun vs H Q => ∃ (a : Addr) (ns : List Int), vs = [V.ref a] ∧ SqT K H a (ns.map V.int) ∧ Q (.int ns.sum) H
def rOneT (K : PySem.W.Frag) : List V → Hp → VK → Prop := fun vs H Q => ∃ (a : Addr) (ns : List Int), vs = [V.ref a] ∧ SqT K H a (ns.map V.int) ∧ ns ≠ [] ∧ ∀ m, m ∈ ns → Q (.int m) H
theorem cr_sumT (hc : X.calm = true) : CallR X (.builtin "sum") (rSumT X.K) := by
  intro pins s σ H vs us Q I r h
  obtain ⟨a, ns, rfl, hs, q⟩ := h
  obtain ⟨its, rv, hl, _⟩ := I.tuple hs
  rw [Vals.ref1 r]
  have hi := rv.ints
  obtain ⟨xs, e⟩ := hi.allInts.items
  have hn : numsOf (intItems xs).toList = ns := by rw [← e]; exact hi.numsOf
  rw [nums_intItems] at hn
  have hl2 : s.heap.IsTuple a its.toArray := hl
  rw [e] at hl2
  refine PySem.W.ktm_sumG (I.ok.hd hc) hl2 fun h' tk t' hk => ?_
  rw [PySem.preSum_eq, List.take_of_length_le (by simp), hn]
  exact ⟨.int _, H, I.kept hk, ⟨_, rfl⟩, q⟩
theorem dpInts {K : PySem.W.Frag} {H : Hp} : ∀ ns : List Int, DpAll K H (ns.map V.int) (ns.map PyData.int)
  | [] => .nil
  | n :: ns => .cons (.int n) (dpInts ns)
theorem alike_ints (ns : List Int) : PySem.W.AlikeAll (ns.map PyData.int) := by
  refine ⟨fun x hx y hy => ?_, fun x hx => ?_⟩
  · obtain ⟨i, _, rfl⟩ := List.mem_map.mp hx
    obtain ⟨j, _, rfl⟩ := List.mem_map.mp hy
    rfl
  · obtain ⟨i, _, rfl⟩ := List.mem_map.mp hx
    exact fun z => nomatch z
theorem depth_ints : ∀ ns : List Int, PyData.depthAll (ns.map PyData.int) = 0
  | [] => rfl
  | n :: ns => by
    show max 0 (PyData.depthAll (ns.map PyData.int)) = 0
    rw [depth_ints ns]; rfl
theorem cr_minT (hc : X.calm = true) (hu : X.A.units + 1 < cLine) : CallR X (.builtin "min") (rOneT X.K) := by
  intro pins s σ H vs us Q I r h
  obtain ⟨a, ns, rfl, hs, hne, q⟩ := h
  obtain ⟨its, rv, hl, _⟩ := I.tuple hs
  rw [Vals.ref1 r]
  obtain ⟨as, hr⟩ := Dp.readsAll I _ _ its (dpInts ns) rv
  cases ns with
  | nil => exact absurd rfl hne
  | cons n ns =>
    refine PySem.W.min_tuple_data (x := .int n) (xs := ns.map PyData.int) (as := as) (I.ok.hd hc) hl hr (alike_ints (n :: ns)) (by rw [show PyData.depthAll (.int n :: ns.map PyData.int) = 0 from depth_ints (n :: ns)]; omega) fun i v h' tk bs hv _ hk => ?_
    have hv2 : its[i]? = some v := by simpa using hv
    obtain ⟨hi, _⟩ := List.getElem?_eq_some_iff.mp hv2
    have hlen := rv.length
    have hx : ((n :: ns).map V.int)[i]? = some (V.int (n :: ns)[i]!) := by
      have : i < (n :: ns).length := by simpa using (by omega : i < ((n :: ns).map V.int).length)
      rw [List.getElem?_map, List.getElem?_eq_getElem this, getElem!_pos (n :: ns) i this]; rfl
    obtain ⟨u, e1, e2⟩ := rv.get hx
    rw [hv2] at e1
    cases e1
    refine ⟨.int _, H, I.kept hk, e2, q _ ?_⟩
    have : i < (n :: ns).length := by simpa using (by omega : i < ((n :: ns).map V.int).length)
    rw [getElem!_pos (n :: ns) i this]
    exact List.getElem_mem _
theorem cr_maxT (hc : X.calm = true) (hu : X.A.units + 1 < cLine) : CallR X (.builtin "max") (rOneT X.K) := by
  intro pins s σ H vs us Q I r h
  obtain ⟨a, ns, rfl, hs, hne, q⟩ := h
  obtain ⟨its, rv, hl, _⟩ := I.tuple hs
  rw [Vals.ref1 r]
  obtain ⟨as, hr⟩ := Dp.readsAll I _ _ its (dpInts ns) rv
  cases ns with
  | nil => exact absurd rfl hne
  | cons n ns =>
    refine PySem.W.max_tuple_data (x := .int n) (xs := ns.map PyData.int) (as := as) (I.ok.hd hc) hl hr (alike_ints (n :: ns)) (by rw [show PyData.depthAll (.int n :: ns.map PyData.int) = 0 from depth_ints (n :: ns)]; omega) fun i v h' tk bs hv _ hk => ?_
    have hv2 : its[i]? = some v := by simpa using hv
    obtain ⟨hi, _⟩ := List.getElem?_eq_some_iff.mp hv2
    have hlen := rv.length
    have hx : ((n :: ns).map V.int)[i]? = some (V.int (n :: ns)[i]!) := by
      have : i < (n :: ns).length := by simpa using (by omega : i < ((n :: ns).map V.int).length)
      rw [List.getElem?_map, List.getElem?_eq_getElem this, getElem!_pos (n :: ns) i this]; rfl
    obtain ⟨u, e1, e2⟩ := rv.get hx
    rw [hv2] at e1
    cases e1
    refine ⟨.int _, H, I.kept hk, e2, q _ ?_⟩
    have : i < (n :: ns).length := by simpa using (by omega : i < ((n :: ns).map V.int).length)
    rw [getElem!_pos (n :: ns) i this]
    exact List.getElem_mem _
end
end WD
namespace WD
open PySem PySem.Spec PyProof.Rows L2

/-! ### defs as callables -/
structure Cal (P : Program) (w : World) (K : PySem.W.Frag) (mg : Str → Option Value) (base : Heap) (CX : CXT) (k : Nat) (x : Str) (f : Addr) (sp : Sp) (dvs : List V) : Prop where
  ex : ∃ (fd : FuncData) (ps : List Str) (ds : List Value), FnOk P w K mg base CX k f fd ps sp ∧ Binds K fd ps ds ∧ Vals dvs ds
  kp : PySem.W.keepIn K (.ref f) = true
  g : mg x = some (.ref f)
structure Met (P : Program) (w : World) (K : PySem.W.Frag) (mg : Str → Option Value) (base : Heap) (CX : CXT) (k : Nat) (C : Addr) (m : Str) (f : Addr) (sp : Sp) (dvs : List V) : Prop where
  ex : ∃ (fd : FuncData) (ps : List Str) (ds : List Value), FnOk P w K mg base CX k f fd ps sp ∧ Binds K fd ps ds ∧ Vals dvs ds
  cl : Cls K C
  mt : Meth K C m f
structure Mak (P : Program) (w : World) (K : PySem.W.Frag) (mg : Str → Option Value) (base : Heap) (CX : CXT) (k : Nat) (x : Str) (C f : Addr) (sp : Sp) (dvs : List V) : Prop where
  ex : ∃ (fd : FuncData) (ps : List Str) (ds : List Value), FnOk P w K mg base CX k f fd ps sp ∧ Binds K fd ps ds ∧ Vals dvs ds
  made : Mk K C f
  g : mg x = some (.ref C)
section
variable {P : Program} {w : World} {K : PySem.W.Frag} {mg : Str → Option Value} {base : Heap} {x qual : Str} {params : Arguments} {body : List Stmt} {scope : Scope} {f C : Addr} {fd : FuncData} {N ps : List Str} {k : Nat} {sp : Sp}
theorem fn0_of (F : FunD K x qual params body scope [] [] f fd) (S : FnScope N ps scope) (len : ∀ vs H Q E, sp vs H Q E → vs.length = ps.length)
    (bind : ∀ (kV doc pm : Value) (an : Option Addr) (cdv ct : Value) (us : List Value), us.length = ps.length → bindArgs (PySem.W.fnOf x qual params body scope .none kV doc pm an cdv ct) ⟨us, []⟩ = pure (ps.zip us))
    (hbody : ∀ (cdv : Value) (A : Around) (outer : List Env) (s : Shared) (H : Hp) (vs : List V) (Q : VK) (E : XK), Room k (A.deeper (envOfC qual scope s.heap.objs.size f cdv)) → sp vs H Q E →
      ∃ t, PSs (cxOf CX0 P w K mg base N qual scope f cdv A outer s H E).nox body t ∧ t { nx := fun _ H' => Q .non H', rt := Q } (start N vs) H) :
    ∃ (fd : FuncData) (ps : List Str) (ds : List Value), FnOk P w K mg base CX0 (k + 1) f fd ps sp ∧ Binds K fd ps ds ∧ Vals [] ds :=
  ⟨fd, ps, [], F.ok S len fun cdv A outer s H vs Q E hr h => by
    obtain ⟨t, h1, h2⟩ := hbody cdv A outer s H vs Q E hr h
    exact ⟨t, h1.nox, h2⟩, F.bindsN bind, .nil⟩
theorem fnX_of (F : FunD K x qual params body scope [] [] f fd) (S : FnScope N ps scope) (len : ∀ vs H Q E, sp vs H Q E → vs.length = ps.length)
    (bind : ∀ (kV doc pm : Value) (an : Option Addr) (cdv ct : Value) (us : List Value), us.length = ps.length → bindArgs (PySem.W.fnOf x qual params body scope .none kV doc pm an cdv ct) ⟨us, []⟩ = pure (ps.zip us))
    (hbody : ∀ (cdv : Value) (A : Around) (outer : List Env) (s : Shared) (H : Hp) (vs : List V) (Q : VK) (E : XK), Room k (A.deeper (envOfC qual scope s.heap.objs.size f cdv)) → sp vs H Q E →
      ∃ t, PSs (cxOf (L2.CX P w) P w K mg base N qual scope f cdv A outer s H E) body t ∧ t { nx := fun _ H' => Q .non H', rt := Q } (start N vs) H) :
    ∃ (fd : FuncData) (ps : List Str) (ds : List Value), FnOk P w K mg base (L2.CX P w) (k + 1) f fd ps sp ∧ Binds K fd ps ds ∧ Vals [] ds :=
  ⟨fd, ps, [], F.ok S len hbody, F.bindsN bind, .nil⟩
end
section
variable {X : Cx} {k j : Nat} {x : Str} {f C : Addr} {sp : Sp} {dvs : List V} {p pos apos : Pos} {e o : Expr} {es : List Expr} {t : TA} {ta : TE} {m : Str}
theorem pe_cal (c : Cal X.prog X.w X.K X.mg X.base CX0 k x f sp dvs) (hr : Room k X.A) (hg : Gl X x) (ha : PA X (e :: es) t) (hdb : (x == ("__debug__" : Str)) = false := by decide)
    (he : starEach (e :: es) X.env = (false, eval e X.env) :: starEach es X.env := by rfl) (hpl : (backTo pos (starEach es X.env)).any (·.1) = false := by rfl) : PE X (.Call (.Name x p) (e :: es) [] pos) (tCall sp dvs E0 t) := by
  obtain ⟨fd, ps, ds, h1, h2, h3⟩ := c.ex
  exact pe_call h1 hr hg c.g c.kp h2 h3 pass0 ha hdb he hpl
theorem pe_cal0 (c : Cal X.prog X.w X.K X.mg X.base CX0 k x f sp dvs) (hr : Room k X.A) (hg : Gl X x) (hdb : (x == ("__debug__" : Str)) = false := by decide) : PE X (.Call (.Name x p) [] [] pos) (tCall sp dvs E0 tNil) := by
  obtain ⟨fd, ps, ds, h1, h2, h3⟩ := c.ex
  exact pe_call0 h1 hr hg c.g c.kp h2 h3 pass0 hdb
theorem pe_mak (c : Mak X.prog X.w X.K X.mg X.base CX0 k x C f sp dvs) (hr : Room (k + 1) X.A) (hg : Gl X x) (ha : PA X (e :: es) t) (hdb : (x == ("__debug__" : Str)) = false := by decide)
    (he : starEach (e :: es) X.env = (false, eval e X.env) :: starEach es X.env := by rfl) (hpl : (backTo pos (starEach es X.env)).any (·.1) = false := by rfl) : PE X (.Call (.Name x p) (e :: es) [] pos) (tMake C sp dvs E0 t) := by
  obtain ⟨fd, ps, ds, h1, h2, h3⟩ := c.ex
  exact pe_make c.made h1 hr hg c.g h2 h3 pass0 ha hdb he hpl
theorem pe_met {pl : Sem Bool} (c : Met X.prog X.w X.K X.mg X.base CX0 k C m f sp dvs) (hr : Room k X.A) (he : PE X o ta) (ha : PA X (e :: es) t)
    (hst : starEach (e :: es) X.env = (false, eval e X.env) :: starEach es X.env := by rfl) (hpl : (backTo pos (starEach es X.env)).any (·.1) = false := by rfl)
    (ht : eval (.Call (.Attribute o m apos) (e :: es) [] pos) X.env = (do
      let ov ← eval o X.env
      standAt apos.atName
      let (f, first) ← holding [ov] (getMethod ov m pl)
      callWith pos f first (backTo pos (starEach (e :: es) X.env)) (backToKw pos (keywordEach [] X.env))) := by rfl) : PE X (.Call (.Attribute o m apos) (e :: es) [] pos) (tMeth C m sp dvs E0 ta t) := by
  obtain ⟨fd, ps, ds, h1, h2, h3⟩ := c.ex
  exact pe_meth he c.cl c.mt h1 hr h2 h3 pass0 ha hst hpl ht
theorem pe_met0 {pl : Sem Bool} (c : Met X.prog X.w X.K X.mg X.base CX0 k C m f sp dvs) (hr : Room k X.A) (he : PE X o ta)
    (ht : eval (.Call (.Attribute o m apos) [] [] pos) X.env = (do
      let ov ← eval o X.env
      standAt apos.atName
      let (f, first) ← holding [ov] (getMethod ov m pl)
      callWith pos f first (backTo pos (starEach [] X.env)) (backToKw pos (keywordEach [] X.env))) := by rfl) : PE X (.Call (.Attribute o m apos) [] [] pos) (tMeth C m sp dvs E0 ta tNil) := by
  obtain ⟨fd, ps, ds, h1, h2, h3⟩ := c.ex
  exact pe_meth0 he c.cl c.mt h1 hr h2 h3 pass0 ht
theorem pe_gi {x : Str} {i : Int} {pos : Pos} (hg : Gl X x) (h : ∃ t, X.mg x = some (.int i t)) (hd : (x == ("__debug__" : Str)) = false := by decide) : PE X (.Name x pos) (tC (.int i)) := by
  obtain ⟨t, e⟩ := h
  exact pe_glob hg e ⟨t, rfl⟩ hd
theorem pe_gs {x z : Str} {pos : Pos} (hg : Gl X x) (h : ∃ t, X.mg x = some (.str z t)) (hd : (x == ("__debug__" : Str)) = false := by decide) : PE X (.Name x pos) (tC (.str z)) := by
  obtain ⟨t, e⟩ := h
  exact pe_glob hg e ⟨t, rfl⟩ hd
end
theorem iteD {c A B : Prop} {_ : Decidable c} (h1 : c → A) (h2 : ¬ c → B) : if decide c = true then A else B := by
  by_cases h : c
  · rw [decide_eq_true h]; exact iteT (h1 h)
  · rw [decide_eq_false h]; exact iteF (h2 h)
theorem iteN {c A B : Prop} {_ : Decidable c} (h1 : ¬ c → A) (h2 : c → B) : if (!decide c) = true then A else B := by
  by_cases h : c
  · rw [decide_eq_true h]; exact iteF (h2 h)
  · rw [decide_eq_false h]; exact iteT (h1 h)
theorem huD {k : Nat} {A : Around} (hr : Room k A) : A.units + 1 < cLine := hu_of hr
theorem hu65 {k : Nat} {A : Around} (hr : Room k A) : A.units + 65 < cLine := by have := hr.un; omega
theorem bt_len : bootBuiltins "len" = some (.builtin "len") := by decide +kernel
theorem bt_isinstance : bootBuiltins "isinstance" = some (.builtin "isinstance") := by decide +kernel
theorem bt_all : bootBuiltins "all" = some (.builtin "all") := by decide +kernel
theorem bt_any : bootBuiltins "any" = some (.builtin "any") := by decide +kernel
theorem bt_sum : bootBuiltins "sum" = some (.builtin "sum") := by decide +kernel
theorem bt_min : bootBuiltins "min" = some (.builtin "min") := by decide +kernel
theorem bt_max : bootBuiltins "max" = some (.builtin "max") := by decide +kernel
theorem bt_sorted : bootBuiltins "sorted" = some (.builtin "sorted") := by decide +kernel
theorem bt_repr : bootBuiltins "repr" = some (.builtin "repr") := by decide +kernel
theorem bt_int : bootBuiltins "int" = some (.type "int") := by decide +kernel
theorem bt_bool : bootBuiltins "bool" = some (.type "bool") := by decide +kernel
theorem bt_str : bootBuiltins "str" = some (.type "str") := by decide +kernel
theorem bt_tuple : bootBuiltins "tuple" = some (.type "tuple") := by decide +kernel
theorem bt_list : bootBuiltins "list" = some (.type "list") := by decide +kernel
theorem bt_dict : bootBuiltins "dict" = some (.type "dict") := by decide +kernel
theorem bt_set : bootBuiltins "set" = some (.type "set") := by decide +kernel
theorem bt_ValueError : bootBuiltins "ValueError" = some (.type "ValueError") := by decide +kernel
end WD
namespace WD
open PySem PySem.Spec PyProof.Rows L2
section
variable {X : Cx} {e : Expr} {te : TE} {p apos cpos pos : Pos}
/-- list(e.values()) -/
def tListVals (te : TE) : TE := fun σ H Q => te σ H fun x H1 => ∃ (d : Addr) (kvs : List (Key × V)), x = .ref d ∧ H1 d = some (.dK kvs) ∧ ∀ q, H1 q = none → Q (.ref q) (upd H1 q (.lst (kvs.map (·.2))))
theorem pe_listVals (hc : X.calm = true) (hg : Gl X "list") (hm : X.mg "list" = none) (he : PE X e te) (hbase : attributeBase e "values" X.env (eval e X.env) = eval e X.env := by rfl) (hline : (apos.endLine == cpos.line) = true := by rfl)
    (hs : starEach [.Call (.Attribute e "values" apos) [] [] cpos] X.env = (false, eval (.Call (.Attribute e "values" apos) [] [] cpos) X.env) :: starEach [] X.env := by rfl) :
    PE X (.Call (.Name "list" p) [.Call (.Attribute e "values" apos) [] [] cpos] [] pos) (tListVals te) := by
  refine ⟨fun pins s σ H Q I hq => ?_⟩
  refine wpAny_Call_Name_kw (ld_blt I hg hm bt_list ?_)
  refine PyProof.Rows.callWith_type1 ?_ hs rfl
  rw [hs]
  show wpAny _ _ (spliced ((false, eval (.Call (.Attribute e "values" apos) [] [] cpos) X.env) :: backTo pos (starEach [] X.env))) _ _ s
  refine Calls.spliced_cons ?_
  refine wpAny_Call_method (T := "dict") (id := "dict.values") hbase rfl hline F.plainAttrs_dict F.slot_dict_values F.type_dict_values (thn (he.run pins s σ H _ I hq) fun u s1 ⟨x, H1, I1, rx, d, kvs, ex, hd, q⟩ => ?_)
  subst ex
  obtain rfl : u = Value.ref d := rx
  obtain ⟨hz, hs0, vs, kv, hdo⟩ := I1.hok d _ hd
  obtain ⟨ep, hat⟩ := hdo.dictAt
  have lk : kvs.length = vs.length := Paired.length kv
  have I2 : Inv X pins σ H1 { s1 with heap := s1.heap.push { cls := .type "dict_values", data := .fields #[.ref d] } } := I1.kept (t' := s1.toks) fun b ob q => Heap.get?_push_of_some _ q
  refine ⟨hdo.typeIs, hdo.mapOf.noDict, ?_⟩
  show wpAny _ _ (callWith cpos (.builtin "dict.values") [.ref d] [] []) _ X.xe s1
  refine method_meetsIn F.slot_dict_values F.entry_dict_values rfl (PySem.evalArgs_none ⟨rfl, hdo.typeIs, F.args_dict_values_1 _, _, meets_dict_values (mixKind X.prog X.w) d hs0, ⟨vs, hdo⟩, ?_⟩)
  refine Calls.spliced_nil ?_
  refine PySem.W.kdl_call (PySem.W.kdl_values (knd := mixKind X.prog X.w) (kvs := vs) (ep := ep)) (I1.ok.hd hc) ⟨⟨_, Heap.get?_push_size _ rfl, rfl, rfl⟩, hat.push _⟩ (by omega) fun h' tk acc c hkeep hS hacc => ?_
  refine ⟨.ref _, _, I2.laid hkeep (Nat.le_refl _) (show ObjOk X.prog X.w _ _ _ (.lst (kvs.map (·.2))) from ⟨by rw [List.length_map]; exact hz, acc.toList, c, ?_, by rw [Array.toArray_toList]; exact hS⟩), rfl, q _ (I2.hok.fresh (Nat.le_refl _))⟩
  have el : acc.toList.length = acc.size := by simp
  refine vals_of_at (by rw [List.length_map, el, hacc.1, lk]) fun j x w h1 h2 => ?_
  obtain ⟨k, hky⟩ := hacc.2 j w (by rw [← Array.getElem?_toList]; exact h2)
  rw [List.getElem?_map] at h1
  obtain ⟨kx, e1, e2⟩ := Option.map_eq_some_iff.mp h1
  obtain ⟨y, g1, g2, g3⟩ := LiI.paired_get kv e1
  rw [hky] at g1
  cases g1
  rw [← e2]
  exact g3
end
end WD
namespace WD
open PySem PySem.Spec PyProof.Rows L2

/-! ### houses: data -/
def SMALL : Str := "abcdefghijklmnopqrstuvwxyz"
def nameOk (z : Str) : Bool := decide (2 ≤ z.length) && (decide (z.length ≤ 8) && z.cps.toList.all fun c => decide (c ∈ SMALL.cps.toList))
abbrev Deed := Str × Int × List Int
def inR (n x : Int) : Bool := decide (0 ≤ x) && decide (x < n)
def rowOk (ns : List Int) (wide size : Int) : Bool := decide ((ns.length : Int) = wide) && ns.all (inR size)
def deedOk (d : Deed) (n : Int) : Bool := nameOk d.1 && (decide (0 ≤ d.2.1) && (decide (d.2.1 ≤ 3) && rowOk d.2.2 (n ^ d.2.1.toNat) n))
abbrev rD : Rl Deed := rP3 rS rI (rT rI)
abbrev Hs := Int × List Deed
def kvsOf : List Deed → List V → List (Key × V)
  | d :: ds, v :: vs => (Sum.inr d.1, v) :: kvsOf ds vs
  | _, _ => []
def rH (C : Addr) : Rl Hs := fun M H v h => ∃ a dx d vs, v = .ref a ∧ ¬ M a ∧ ¬ M dx ∧ ¬ M d ∧ H a = some (.ins C dx [("size", .int h.1), ("by_name", .ref d)]) ∧ H dx = some (.own a) ∧ H d = some (.dK (kvsOf h.2 vs)) ∧ All2 (rD M H) vs h.2
instance {C : Addr} : Rep (rH C) := ⟨fun f ⟨a, dx, d, vs, e, n1, n2, n3, h1, h2, h3, g⟩ => ⟨a, dx, d, vs, e, n1, n2, n3, f.keep _ _ n1 h1, f.keep _ _ n2 h2, f.keep _ _ n3 h3, g.imp fun _ _ x => Rep.st f x⟩,
  fun s ⟨a, dx, d, vs, e, n1, n2, n3, h1, h2, h3, g⟩ => ⟨a, dx, d, vs, e, fun z => n1 (s a z), fun z => n2 (s _ z), fun z => n3 (s _ z), h1, h2, h3, g.imp fun _ _ x => Rep.wk s x⟩,
  fun hD ⟨a, dx, d, vs, e, n1, n2, n3, h1, h2, h3, g⟩ => ⟨a, dx, d, vs, e, ad_ne h1 n1 hD, ad_ne h2 n2 hD, ad_ne h3 n3 hD, h1, h2, h3, g.imp fun _ _ x => Rep.ad hD x⟩⟩
/-- whether a value is a whole number -/
inductive Whole (K : PySem.W.Frag) (H : Hp) : V → Bool → Prop
  | int (i : Int) : Whole K H (.int i) true
  | bl (b : Bool) : Whole K H (.bl b) false
  | oth {v : V} {t : String} (h : TyX K H v (.type t)) (e : kitB t "int" = some false) : Whole K H v false
/-- whether a value is a thing of n -/
inductive Thing (K : PySem.W.Frag) (H : Hp) (n : Int) : V → Bool → Prop
  | int (i : Int) : Thing K H n (.int i) (inR n i)
  | bl (b : Bool) : Thing K H n (.bl b) false
  | oth {v : V} {t : String} (h : TyX K H v (.type t)) (e : kitB t "int" = some false) : Thing K H n v false
/-- a right house -/
structure HsOk (h : Hs) : Prop where
  lo : 1 ≤ h.1
  hi : h.1 ≤ 9
  few : h.2.length ≤ 6
  ok : ∀ d ∈ h.2, deedOk d h.1 = true
  nd : (h.2.map (·.1)).Nodup
theorem kvs_vals : ∀ {ds : List Deed} {vs : List V}, vs.length = ds.length → (kvsOf ds vs).map (·.2) = vs
  | [], [], _ => rfl
  | _ :: ds, v :: vs, h => by
    show v :: (kvsOf ds vs).map (·.2) = v :: vs
    rw [kvs_vals (Nat.succ.inj h)]
  | [], _ :: _, h => by cases h
  | _ :: _, [], h => by cases h
theorem kvs_len : ∀ {ds : List Deed} {vs : List V}, vs.length = ds.length → (kvsOf ds vs).length = ds.length
  | [], [], _ => rfl
  | _ :: ds, v :: vs, h => congrArg Nat.succ (kvs_len (Nat.succ.inj h))
  | [], _ :: _, h => by cases h
  | _ :: _, [], h => by cases h
theorem kvs_snoc {d : Deed} {v : V} : ∀ {ds : List Deed} {vs : List V}, vs.length = ds.length → kvsOf (ds ++ [d]) (vs ++ [v]) = kvsOf ds vs ++ [(Sum.inr d.1, v)]
  | [], [], _ => rfl
  | e :: ds, u :: vs, h => by
    show (Sum.inr e.1, u) :: kvsOf (ds ++ [d]) (vs ++ [v]) = (Sum.inr e.1, u) :: (kvsOf ds vs ++ [(Sum.inr d.1, v)])
    rw [kvs_snoc (Nat.succ.inj h)]
  | [], _ :: _, h => by cases h
  | _ :: _, [], h => by cases h
theorem kvs_none {z : Str} : ∀ {ds : List Deed} {vs : List V}, z ∉ ds.map (·.1) → valV (kvsOf ds vs) (Sum.inr z) = none
  | [], _, _ => rfl
  | _ :: _, [], _ => rfl
  | d :: ds, v :: vs, h => by
    have h1 : ¬ ((Sum.inr d.1 : Key) = Sum.inr z) := fun e => h (List.mem_cons.mpr (.inl (Sum.inr.inj e).symm))
    show valV ((Sum.inr d.1, v) :: kvsOf ds vs) (Sum.inr z) = none
    rw [valV_neg h1]
    exact kvs_none fun m => h (List.mem_cons_of_mem _ m)
theorem kvs_some {z : Str} : ∀ {ds : List Deed} {vs : List V}, vs.length = ds.length → z ∈ ds.map (·.1) → ∃ (i : Nat) (d : Deed) (v : V), ds[i]? = some d ∧ vs[i]? = some v ∧ d.1 = z ∧ valV (kvsOf ds vs) (Sum.inr z) = some v
  | [], _, _, h => by simp at h
  | _ :: _, [], h, _ => by cases h
  | d :: ds, v :: vs, l, h => by
    by_cases e : d.1 = z
    · exact ⟨0, d, v, rfl, rfl, e, valV_pos (p := ((Sum.inr d.1 : Key), v)) (by rw [e])⟩
    · have h2 : z ∈ ds.map (·.1) := (List.mem_cons.mp h).elim (fun q => absurd q.symm e) id
      obtain ⟨i, d', v', h3, h4, h5, h6⟩ := kvs_some (Nat.succ.inj l) h2
      refine ⟨i + 1, d', v', h3, h4, h5, ?_⟩
      show valV ((Sum.inr d.1, v) :: kvsOf ds vs) (Sum.inr z) = some v'
      rw [valV_neg (fun q => e (Sum.inr.inj q))]
      exact h6
theorem put_none {kvs : List (Key × V)} {k : Key} {v : V} (h : valV kvs k = none) : putK kvs k v = kvs ++ [(k, v)] := by
  unfold putK
  rw [valV_any, h]
  rfl
/-- what a deed's size tells -/
theorem deedOk_name {d : Deed} {n : Int} (h : deedOk d n = true) : nameOk d.1 = true ∧ 0 ≤ d.2.1 ∧ d.2.1 ≤ 3 ∧ rowOk d.2.2 (n ^ d.2.1.toNat) n = true := by
  unfold deedOk at h
  simp only [Bool.and_eq_true, decide_eq_true_eq] at h
  exact ⟨h.1, h.2.1, h.2.2.1, h.2.2.2⟩
theorem nameOk_len {z : Str} (h : nameOk z = true) : z.length ≤ 8 := by
  unfold nameOk at h
  simp only [Bool.and_eq_true, decide_eq_true_eq] at h
  exact h.2.1
theorem rowOk_len {ns : List Int} {m n : Int} (h : rowOk ns m n = true) : (ns.length : Int) = m := by
  unfold rowOk at h
  simp only [Bool.and_eq_true, decide_eq_true_eq] at h
  exact h.1
theorem pow_le3 {n : Int} {k : Nat} (h1 : 1 ≤ n) (h9 : n ≤ 9) (hk : k ≤ 3) : n ^ k ≤ 729 := by
  have h : k = 0 ∨ k = 1 ∨ k = 2 ∨ k = 3 := by omega
  have hc : n = 1 ∨ n = 2 ∨ n = 3 ∨ n = 4 ∨ n = 5 ∨ n = 6 ∨ n = 7 ∨ n = 8 ∨ n = 9 := by omega
  rcases hc with e | e | e | e | e | e | e | e | e <;> subst e <;> (rcases h with e | e | e | e <;> subst e <;> decide)
theorem HsOk.deed {h : Hs} (k : HsOk h) {d : Deed} (m : d ∈ h.2) : d.1.length ≤ 8 ∧ d.2.2.length ≤ 729 ∧ 0 ≤ d.2.1 ∧ d.2.1 ≤ 3 := by
  obtain ⟨h1, h2, h3, h4⟩ := deedOk_name (k.ok d m)
  have e := rowOk_len h4
  have := pow_le3 (k := d.2.1.toNat) k.lo k.hi (by omega)
  exact ⟨nameOk_len h1, by omega, h2, h3⟩
/-- House(size, deeds), where it is one -/
def spHouse (C : Addr) : Sp := fun vs H Q _ => ∃ (M : MS) (x dx l : Addr) (n : Int) (ds : List Deed) (dvs : List V), vs = [.ref x, .int n, .ref l] ∧ H x = some (.ins C dx []) ∧ H dx = some (.own x) ∧ H l = some (.lst dvs) ∧ All2 (rD M H) dvs ds ∧ HsOk (n, ds) ∧ MIn M H ∧ ¬ M x ∧
  ∀ (H' : Hp) (d : Addr), Fr (only x) H H' → H d = none → H' x = some (.ins C dx [("size", .int n), ("by_name", .ref d)]) → H' d = some (.dK (kvsOf ds dvs)) → Q .non H'
theorem make_house {C : Addr} {M : MS} {H : Hp} {v : V} {n : Int} {ds : List Deed} {Q : Addr → Hp → Prop} {E : XK} (hM : MIn M H) (hl : rL rD M H v ds) (hk : HsOk (n, ds)) (k : ∀ (a : Addr) (H' : Hp), H a = none → Fr M0 H H' → rH C M H' (.ref a) (n, ds) → Q a H') :
    ∀ x dx, H x = none → H dx = none → dx ≠ x → spHouse C (.ref x :: ([.int n, v] ++ [])) (upd (upd H dx (.own x)) x (.ins C dx [])) (fun u H2 => u = .non ∧ Q x H2) E := by
  intro x dx nx ndx nex
  obtain ⟨l, dvs, rfl, nl, hl1, hl2⟩ := hl
  have f1 : Fr M0 H (upd (upd H dx (.own x)) x (.ins C dx [])) := (Fr.new ndx).mutNew nx
  have e1 : (upd (upd H dx (.own x)) x (.ins C dx [])) dx = some (.own x) := by rw [upd_ne nex, upd_same]
  refine ⟨M, x, dx, l, n, ds, dvs, rfl, upd_same, e1, f1.keep _ _ (fun z => z) hl1, hl2.imp fun _ _ z => Rep.st (f1.mono fun _ z => z.elim) z, hk, hM.to f1, hM.no nx, fun H' d f hd h1 h2 => ⟨rfl, ?_⟩⟩
  have nd : H d = none := f1.dom d hd
  have f2 : Fr M0 H H' := ⟨fun a o _ e => f.keep a o (fun z => by rw [show a = x from z, nx] at e; cases e) (f1.keep a o (fun z => z) e), fun a e => f1.dom a (f.dom a e)⟩
  refine k x H' nx f2 ⟨x, dx, d, dvs, rfl, hM.no nx, hM.no ndx, hM.no nd, h1, f.keep _ _ nex e1, h2, ?_⟩
  exact hl2.imp fun _ _ z => Rep.st (f2.mono fun _ z => z.elim) z
theorem nodup_of_map {α β : Type} {f : α → β} : ∀ {l : List α}, (l.map f).Nodup → l.Nodup
  | [], _ => List.nodup_nil
  | a :: l, h => by
    rw [List.map_cons, List.nodup_cons] at h
    exact List.nodup_cons.mpr ⟨fun m => h.1 (List.mem_map_of_mem m), nodup_of_map h.2⟩
def hdOf (d : Deed) : Str × Int := (d.1, d.2.1)
end WD
/-! rules with the written part named: within a comprehension's block the reading must not hang on the block -/
namespace WD
open PySem PySem.Spec PyProof.Rows L2
section
variable {X : Cx} (K : PySem.W.Frag)

theorem k_ix_list  (h : X.K = K := by rfl) : IxR X (rIxL K) := by
  subst h
  exact ix_list 
theorem k_ix_tup  (h : X.K = K := by rfl) : IxR X (rIxT K) := by
  subst h
  exact ix_tup 
theorem k_sl_list  (h : X.K = K := by rfl) : SlR X (rSlL K) := by
  subst h
  exact sl_list 
theorem k_sl_tupA  (h : X.K = K := by rfl) : SlR X (rSlA K) := by
  subst h
  exact sl_tupA 
theorem k_op_catA  (h : X.K = K := by rfl) : OpR X (binaryOp .Add) (rCatA K) := by
  subst h
  exact op_catA 
theorem k_op_catL  (h : X.K = K := by rfl) : OpR X (binaryOp .Add) (rCatL K) := by
  subst h
  exact op_catL 
theorem k_op_eqD (hu : X.A.units + 64 < cLine) (h : X.K = K := by rfl) : OpR X (compareOp .Eq) (rEqD K) := by
  subst h
  exact op_eqD hu
theorem k_op_neD (hu : X.A.units + 64 < cLine) (h : X.K = K := by rfl) : OpR X (compareOp .NotEq) (rNeD K) := by
  subst h
  exact op_neD hu
theorem k_op_inD (hu : X.A.units + 65 < cLine) (h : X.K = K := by rfl) : OpR X (compareOp .In) (rInD K) := by
  subst h
  exact op_inD hu
theorem k_op_notInD (hu : X.A.units + 65 < cLine) (h : X.K = K := by rfl) : OpR X (compareOp .NotIn) (rNotInD K) := by
  subst h
  exact op_notInD hu
theorem k_op_in_seq  (h : X.K = K := by rfl) : OpR X (compareOp .In) (rIn K false) := by
  subst h
  exact op_in_seq 
theorem k_op_notIn_seq  (h : X.K = K := by rfl) : OpR X (compareOp .NotIn) (rIn K true) := by
  subst h
  exact op_notIn_seq 
theorem k_op_ltT (hu : X.A.units < cLine) (h : X.K = K := by rfl) : OpR X (compareOp .Lt) (rLtT K) := by
  subst h
  exact op_ltT hu
theorem k_cr_all (hc : X.calm = true) (h : X.K = K := by rfl) : CallR X (.builtin "all") (rAll K) := by
  subst h
  exact cr_all hc
theorem k_cr_any (hc : X.calm = true) (h : X.K = K := by rfl) : CallR X (.builtin "any") (rAny K) := by
  subst h
  exact cr_any hc
theorem k_cr_sum (hc : X.calm = true) (h : X.K = K := by rfl) : CallR X (.builtin "sum") (rSum K) := by
  subst h
  exact cr_sum hc
theorem k_cr_min (hc : X.calm = true) (h : X.K = K := by rfl) : CallR X (.builtin "min") (rMin K) := by
  subst h
  exact cr_min hc
theorem k_cr_max (hc : X.calm = true) (h : X.K = K := by rfl) : CallR X (.builtin "max") (rMax K) := by
  subst h
  exact cr_max hc
theorem k_cr_sumT (hc : X.calm = true) (h : X.K = K := by rfl) : CallR X (.builtin "sum") (rSumT K) := by
  subst h
  exact cr_sumT hc
theorem k_cr_minT (hc : X.calm = true) (hu : X.A.units + 1 < cLine) (h : X.K = K := by rfl) : CallR X (.builtin "min") (rOneT K) := by
  subst h
  exact cr_minT hc hu
theorem k_cr_maxT (hc : X.calm = true) (hu : X.A.units + 1 < cLine) (h : X.K = K := by rfl) : CallR X (.builtin "max") (rOneT K) := by
  subst h
  exact cr_maxT hc hu
theorem k_call_isi  (h : X.K = K := by rfl) : CallR X (.builtin "isinstance") (rIsi K) := by
  subst h
  exact call_isi 
theorem k_call_isiT  (h : X.K = K := by rfl) : CallR X (.builtin "isinstance") (rIsiT K) := by
  subst h
  exact call_isiT 
theorem k_mt_index  (h : X.K = K := by rfl) : MtR X "list.index" (rIndex K) := by
  subst h
  exact mt_index 
theorem k_mt_indexD (hu : X.A.units + 65 < cLine) (h : X.K = K := by rfl) : MtR X "list.index" (rIndexD K) := by
  subst h
  exact mt_indexD hu
theorem k_call_len_seq  (h : X.K = K := by rfl) : CallR X (.builtin "len") (fun xs H Q => ∃ p ys, xs = [.ref p] ∧ (SqL K H p ys ∨ SqT K H p ys) ∧ Q (.int ys.length) H) := by
  subst h
  exact call_len_seq 
theorem k_call_list_of  (h : X.K = K := by rfl) : CallR X (.type "list") (fun xs H Q => ∃ p ys, xs = [.ref p] ∧ (SqL K H p ys ∨ SqT K H p ys) ∧ ∀ l, H l = none → Q (.ref l) (upd H l (.lst ys))) := by
  subst h
  exact call_list_of 
theorem k_call_dictP (hc : X.calm = true) (h : X.K = K := by rfl) : CallR X (.type "dict") (fun xs H Q => ∃ (a : Addr) (ps : List Addr) (kvs : List (Key × V)), xs = [.ref a] ∧ SqL K H a (ps.map V.ref) ∧ Paired (fun p kv => SqT K H p [kV kv.1, kv.2]) ps kvs ∧ ∀ p, H p = none → Q (.ref p) (upd H p (.dK (mergeK [] kvs)))) := by
  subst h
  exact call_dictP hc

variable {tg l e o : Expr} {es elts : List Expr} {tl te to ta : TE} {t : TA} {p pos apos cpos tpos : Pos} {kk n : Nat} {ts : TGs} {f : Str}
theorem k_pi_list (hl : PE X l tl) (h : X.K = K := by rfl) : PI X tg l (iList K tl) := by subst h; exact pi_list hl
theorem k_pi_tup (hl : PE X l tl) (h : X.K = K := by rfl) : PI X tg l (iTup K tl) := by subst h; exact pi_tup hl
theorem k_pi_enum (hg : Gl X "enumerate") (hm : X.mg "enumerate" = none) (ha : PA X [e] t) (hs : starEach [e] X.env = [(false, eval e X.env)] := by rfl) (h : X.K = K := by rfl) :
    PI X (.Tuple elts kk tpos) (.Call (.Name "enumerate" p) [e] [] pos) (iEnum K t) := by subst h; exact pi_enum hg hm ha hs
theorem k_pi_zipA {e2 : Expr} (hg : Gl X "zip") (hm : X.mg "zip" = none) (ha : PA X [e, e2] t)
    (hs : starEach [e, e2] X.env = (false, eval e X.env) :: starEach [e2] X.env := by rfl) (hpl : (backTo pos (starEach [e2] X.env)).any (·.1) = false := by rfl) (h : X.K = K := by rfl) :
    PI X (.Tuple elts kk tpos) (.Call (.Name "zip" p) [e, e2] [] pos) (RZ.iZipA K t) := by subst h; exact RZ.pi_zipA hg hm ha hs hpl
theorem k_pe_fld (he : PE X e ta) (hb : attributeBase e f X.env (eval e X.env) = eval e X.env := by rfl) (h : X.K = K := by rfl) : PE X (.Attribute e f pos) (tFld K ta f) := by subst h; exact pe_fld he hb
theorem k_ps_fld {value : Expr} {tv : TE} {pos' : Pos} (ha : PE X o ta) (hv : PE X value tv) (hs : swapsWith value (some (.Attribute o f pos')) pos.line X.env = pure false := by rfl) (h : X.K = K := by rfl) : PS X (.Assign [.Attribute o f pos'] value pos) (sFld K ta tv f) := by subst h; exact ps_fld ha hv hs
theorem k_pg_tup (hc : X.calm = true) (hp : PGs X es ts) (hn : (assignEach es X.env).length = n := by rfl) (hst : (assignEach es X.env).findIdx? (·.1) = none := by rfl) (h : X.K = K := by rfl) : PG X (.Tuple es kk pos) (gTup K n ts) := by subst h; exact pg_tup hc hp hn hst
theorem k_pe_tupleOf (hg : Gl X "tuple") (hm : X.mg "tuple" = none) (ha : PE X e ta) (na : starEach [e] X.env = (false, eval e X.env) :: starEach [] X.env := by rfl) (h : X.K = K := by rfl) :
    PE X (.Call (.Name "tuple" p) [e] [] pos) (tThen ta (kTup K)) := by subst h; exact pe_tupleOf hg hm ha na
theorem k_pe_bm0 {T : String} {name : Str} {id : String} {r : V → List V → Hp → VK → Prop} (pa : PlainAttrs T) (slot : Slot T name id) (hty : typeOf (.builtin id) = pure (.type "method_descriptor")) (hm : MtR X id r) (ho : PE X o to)
    (hbase : attributeBase o name X.env (eval o X.env) = eval o X.env := by rfl) (hline : (apos.endLine == cpos.line) = true := by rfl) (h : X.K = K := by rfl) : PE X (.Call (.Attribute o name apos) [] [] cpos) (tBM0 K T r to) := by subst h; exact pe_bm0 pa slot hty hm ho hbase hline
theorem k_pe_bm {T : String} {name : Str} {id : String} {r : V → List V → Hp → VK → Prop} (pa : PlainAttrs T) (slot : Slot T name id) (hty : typeOf (.builtin id) = pure (.type "method_descriptor")) (hm : MtR X id r) (ho : PE X o to) (ha : PA X (e :: es) t)
    (hbase : attributeBase o name X.env (eval o X.env) = eval o X.env := by rfl)
    (hfew : ((backTo cpos (starEach (e :: es) X.env)).all (fun x => !x.1) && (backToKw cpos (keywordEach [] X.env)).all (fun x => x.1.isSome)
      && decide ((e :: es).length + ([] : List Keyword).length + (if ([] : List Keyword).isEmpty then 0 else 1) < 30)) = true := by rfl)
    (hline : (apos.endLine == cpos.line) = true := by rfl) (hs : starEach (e :: es) X.env = (false, eval e X.env) :: starEach es X.env := by rfl) (hplain : (backTo cpos (starEach es X.env)).any (·.1) = false := by rfl) (h : X.K = K := by rfl) :
    PE X (.Call (.Attribute o name apos) (e :: es) [] cpos) (tBM K T r to t) := by subst h; exact pe_bm pa slot hty hm ho ha hbase hfew hline hs hplain
/-- sep.join(xs) -/
def rJoin (K : PySem.W.Frag) : V → List V → Hp → VK → Prop := fun x xs H Q => ∃ a p, ∃ ys : List Str, x = .str a ∧ xs = [.ref p] ∧ (SqL K H p (ys.map V.str) ∨ SqT K H p (ys.map V.str)) ∧ (ys.map (·.length)).sum + ys.length * a.length ≤ 16777216 ∧ Q (.str (Txt.join a ys)) H
theorem k_pe_join (ho : PE X o to) (he : PE X e te) (hs : starEach [e] X.env = [(false, eval e X.env)] := by rfl) (hbase : attributeBase o "join" X.env (eval o X.env) = eval o X.env := by rfl) (hline : (apos.endLine == pos.line) = true := by rfl) (h : X.K = K := by rfl) :
    PE X (.Call (.Attribute o "join" apos) [e] [] pos) (tM1 (rJoin K) to te) := by subst h; exact pe_join ho he hs hbase hline
end
end WD
namespace WD
open PySem PySem.Spec PyProof.Rows L2
theorem ext_tl {x y : Str} (h : TL.tl x = TL.tl y) : x = y := TL.ext_tl h
theorem joinL_nil : ∀ ys : List (List Nat), TL.joinL [] ys = ys.flatten
  | [] => rfl
  | [p] => by show p = p ++ []; rw [List.append_nil]
  | p :: q :: r => by
    show p ++ ([] ++ TL.joinL [] (q :: r)) = p ++ (q :: r).flatten
    rw [joinL_nil (q :: r)]; rfl
theorem flat_one (l : List Nat) : (l.map fun c => [c]).flatten = l := by
  induction l with
  | nil => rfl
  | cons a l ih =>
    show a :: (l.map fun c => [c]).flatten = a :: l
    rw [ih]
theorem join_chars (l : List Nat) : Txt.join (Str.ofString "") (l.map fun c => (⟨#[c]⟩ : Str)) = ⟨l.toArray⟩ := by
  have e := SX.join_S [] (l.map fun c => [c])
  rw [List.map_map, joinL_nil, flat_one] at e
  exact e
def lets : List Nat := TL.tl SMALL
theorem lets_len : lets.length = 26 := by decide +kernel
theorem lets_nd : lets.Nodup := by decide +kernel
theorem lets_ok : ∀ c ∈ lets, c < 0x110000 := by decide +kernel
theorem small_len : SMALL.length = 26 := by decide +kernel
def mkName (s : List Nat) (at_ : Nat) (c : Nat) : Str := ⟨(s.take at_ ++ ([c] ++ s.drop at_)).toArray⟩
theorem strOk_of {z : Str} (h : ∀ c ∈ TL.tl z, c ∈ lets) : PyData.strOk z = true := by
  unfold PyData.strOk
  rw [← Array.all_toList, List.all_eq_true]
  intro c hc
  exact decide_eq_true (lets_ok c (h c hc))
theorem nameOk_of {z : Str} (h1 : 2 ≤ z.length) (h2 : z.length ≤ 8) (h : ∀ c ∈ TL.tl z, c ∈ lets) : nameOk z = true := by
  unfold nameOk
  rw [decide_eq_true h1, decide_eq_true h2]
  show ((TL.tl z).all fun c => decide (c ∈ lets)) = true
  exact List.all_eq_true.mpr fun c hc => decide_eq_true (h c hc)
theorem nameOk_str {z : Str} (h : nameOk z = true) : PyData.strOk z = true := by
  unfold nameOk at h
  simp only [Bool.and_eq_true] at h
  refine strOk_of fun c hc => ?_
  exact of_decide_eq_true (List.all_eq_true.mp h.2.2 c hc)
theorem mk_tl (s : List Nat) (a c : Nat) : TL.tl (mkName s a c) = s.take a ++ ([c] ++ s.drop a) := rfl
theorem mk_len (s : List Nat) (a c : Nat) : (mkName s a c).length = s.length + 1 := by
  show (s.take a ++ ([c] ++ s.drop a)).toArray.size = s.length + 1
  simp; omega
theorem mk_ok {s : List Nat} {a c : Nat} (h1 : 1 ≤ s.length) (h2 : s.length ≤ 7) (hs : ∀ x ∈ s, x ∈ lets) (hc : c ∈ lets) : nameOk (mkName s a c) = true := by
  refine nameOk_of (by rw [mk_len]; omega) (by rw [mk_len]; omega) fun x hx => ?_
  rw [mk_tl] at hx
  rcases List.mem_append.mp hx with h | h
  · exact hs x (List.mem_of_mem_take h)
  · rcases List.mem_append.mp h with h | h
    · rw [List.mem_singleton.mp h]; exact hc
    · exact hs x (List.mem_of_mem_drop h)
theorem mk_inj {s : List Nat} {a c d : Nat} (ha : a ≤ s.length) (h : mkName s a c = mkName s a d) : c = d := by
  have e : TL.tl (mkName s a c) = TL.tl (mkName s a d) := by rw [h]
  rw [mk_tl, mk_tl] at e
  have e2 := List.append_cancel_left e
  exact (List.cons.inj e2).1
theorem cutS_take (l : List Nat) (n : Nat) (h : n ≤ l.length) : cutS ⟨l.toArray⟩ none (some (n : Int)) = ⟨(l.take n).toArray⟩ := by
  have hsl : (⟨l.toArray⟩ : Str).length = l.length := by simp [Str.length]
  refine TL.ext_tl ?_
  show (l.drop (HT.sIx _ 0 none)).take _ = l.take n
  rw [HT.sIx_none, hsl, HT.sIx_nat, Nat.min_eq_left h]
  rfl
theorem cutS_drop (l : List Nat) (n : Nat) (h : n ≤ l.length) : cutS ⟨l.toArray⟩ (some (n : Int)) none = ⟨(l.drop n).toArray⟩ := by
  have hsl : (⟨l.toArray⟩ : Str).length = l.length := by simp [Str.length]
  refine TL.ext_tl ?_
  show (l.drop (HT.sIx _ 0 (some (n : Int)))).take (HT.sIx _ _ none - _) = l.drop n
  rw [HT.sIx_none, hsl, HT.sIx_nat, Nat.min_eq_left h]
  exact List.take_of_length_le (by rw [List.length_drop]; exact Nat.le_refl _)
theorem S_len (l : List Nat) : (⟨l.toArray⟩ : Str).length = l.length := by simp [Str.length]
/-- the names: c i by the letters' numbers -/
def letAt (i : Int) : Nat := lets.getD i.toNat 0
theorem letAt_mem {i : Int} (h0 : 0 ≤ i) (h1 : i < 26) : letAt i ∈ lets := by
  unfold letAt
  have hl := lets_len
  have : i.toNat < lets.length := by omega
  rw [List.getD_eq_getElem?_getD, List.getElem?_eq_getElem this]
  exact List.getElem_mem _
theorem letAt_inj {i j : Int} (h0 : 0 ≤ i) (h1 : i < 26) (g0 : 0 ≤ j) (g1 : j < 26) (e : letAt i = letAt j) : i = j := by
  unfold letAt at e
  have hl := lets_len
  have hi : i.toNat < lets.length := by omega
  have hj : j.toNat < lets.length := by omega
  rw [List.getD_eq_getElem?_getD, List.getElem?_eq_getElem hi, List.getD_eq_getElem?_getD, List.getElem?_eq_getElem hj] at e
  have := (List.getElem_inj lets_nd).mp e
  omega
theorem at_small {i : Int} (h0 : 0 ≤ i) (h1 : i < 26) : atI (TL.tl SMALL) i = some (letAt i) := by
  have hl := lets_len
  have hi : i.toNat < lets.length := by omega
  have e : i = ((i.toNat : Nat) : Int) := by omega
  have : (TL.tl SMALL)[i.toNat]? = some (letAt i) := by
    unfold letAt
    rw [List.getD_eq_getElem?_getD, show lets = TL.tl SMALL from rfl]
    have hi2 : i.toNat < (TL.tl SMALL).length := hi
    rw [List.getElem?_eq_getElem hi2]; rfl
  rw [e]
  exact atI_nat this
def namesOf (s : List Nat) (a : Nat) (f : Int) (m : Nat) : List Str := (List.range m).map fun (k : Nat) => mkName s a (letAt ((f + 5 * (k : Int)) % 26))
theorem namesOf_nd {s : List Nat} {a : Nat} {f : Int} {m : Nat} (ha : a ≤ s.length) (hm : m ≤ 26) : (namesOf s a f m).Nodup := by
  unfold namesOf
  rw [List.nodup_iff_pairwise_ne, List.pairwise_map]
  refine List.Pairwise.imp_of_mem (R := fun i j => i ≠ j) (fun {i j} hi hj hne e => ?_) (List.nodup_iff_pairwise_ne.mp List.nodup_range)
  have hi := List.mem_range.mp hi
  have hj := List.mem_range.mp hj
  have e2 := letAt_inj (by omega) (by omega) (by omega) (by omega) (mk_inj ha e)
  omega
theorem namesOf_ok {s : List Nat} {a : Nat} {f : Int} {m : Nat} (h1 : 1 ≤ s.length) (h2 : s.length ≤ 7) (hs : ∀ x ∈ s, x ∈ lets) : ∀ z ∈ namesOf s a f m, nameOk z = true := fun z hz => by
  obtain ⟨k, _, rfl⟩ := List.mem_map.mp hz
  exact mk_ok h1 h2 hs (letAt_mem (by omega) (by omega))
theorem atI_ok {α : Type} {xs : List α} {i : Int} (h0 : 0 ≤ i) (h : i.toNat < xs.length) : atI xs i = some (xs[i.toNat]'h) := by
  have e : atI xs ((i.toNat : Nat) : Int) = some (xs[i.toNat]'h) := atI_nat (List.getElem?_eq_getElem h)
  rw [show ((i.toNat : Nat) : Int) = i by omega] at e
  exact e
theorem atI_int {l : List Int} {i : Int} (h0 : 0 ≤ i) (h : i.toNat < l.length) : atI (l.map V.int) i = some (.int (l[i.toNat]'h)) := by
  rw [atI_ok h0 (by rw [List.length_map]; exact h), List.getElem_map]
/-! ### tuples put together, all rows -/
theorem catT {α : Type} {R : Rl α} [Rep R] {K : PySem.W.Frag} {M : MS} {H : Hp} {x y : V} {l l2 : List α} {Q : VK} (hM : MIn M H) (h1 : rT R M H x l) (h2 : rT R M H y l2) (hz : l.length + l2.length ≤ sizeLine)
    (k : ∀ v H', Fr M0 H H' → rT R M H' v (l ++ l2) → Q v H') : rCatA K x y H Q := by
  obtain ⟨a, vs, rfl, na, ha, al⟩ := h1
  obtain ⟨b, ws, rfl, nb, hb, bl⟩ := h2
  have e1 := al.len
  have e2 := bl.len
  refine ⟨a, b, vs, ws, rfl, rfl, SqT.of ha, SqT.of hb, by omega, fun e => ?_, fun _ e => ?_, fun _ _ p hp => ?_⟩
  · subst e
    have : l = [] := List.length_eq_zero_iff.mp e1.symm
    subst this
    exact k _ _ (Fr.refl _) ⟨b, ws, rfl, nb, hb, bl⟩
  · subst e
    have : l2 = [] := List.length_eq_zero_iff.mp e2.symm
    subst this
    exact k _ _ (Fr.refl _) ⟨a, vs, rfl, na, ha, by rw [List.append_nil]; exact al⟩
  · refine k _ _ (Fr.new hp) ⟨p, vs ++ ws, rfl, hM.no hp, upd_same, ?_⟩
    exact (al.imp fun _ _ z => Rep.st (Fr.new hp) z).app (bl.imp fun _ _ z => Rep.st (Fr.new hp) z)
theorem tup1 {α : Type} {R : Rl α} [Rep R] {M : MS} {H : Hp} {p : Addr} {v : V} {a : α} (hM : MIn M H) (hp : H p = none) (h : R M H v a) : rT R M (upd H p (.tup [v])) (.ref p) [a] :=
  ⟨p, [v], rfl, hM.no hp, upd_same, All2.one (Rep.st (Fr.new hp) h)⟩
def nexts (s : Nat) (r : List Int) : List (List Int) := (List.range s).map fun (i : Nat) => r ++ [(i : Int)]
def allRows (s : Nat) : Nat → List (List Int)
  | 0 => [[]]
  | p + 1 => (allRows s p).flatMap (nexts s)
theorem flat_len {β γ : Type} {g : β → List γ} {m : Nat} (h : ∀ b, (g b).length = m) : ∀ l : List β, (l.flatMap g).length = l.length * m
  | [] => by simp
  | b :: l => by
    rw [List.flatMap_cons, List.length_append, h b, flat_len h l, List.length_cons, Nat.succ_mul]
    omega
theorem nexts_len (s : Nat) (r : List Int) : (nexts s r).length = s := by simp [nexts]
theorem allRows_len (s : Nat) : ∀ p, (allRows s p).length = s ^ p
  | 0 => rfl
  | p + 1 => by
    show ((allRows s p).flatMap (nexts s)).length = s ^ (p + 1)
    rw [flat_len (nexts_len s), allRows_len s p, Nat.pow_succ]
theorem allRows_row {s : Nat} : ∀ {p : Nat} {r : List Int}, r ∈ allRows s p → r.length = p ∧ ∀ x ∈ r, 0 ≤ x ∧ x < s
  | 0, r, h => by
    rw [List.mem_singleton.mp h]
    exact ⟨rfl, fun x hx => by cases hx⟩
  | p + 1, r, h => by
    obtain ⟨q, hq, hr⟩ := List.mem_flatMap.mp h
    obtain ⟨i, hi, rfl⟩ := List.mem_map.mp hr
    obtain ⟨h1, h2⟩ := allRows_row hq
    refine ⟨by rw [List.length_append, h1]; rfl, fun x hx => ?_⟩
    rcases List.mem_append.mp hx with z | z
    · exact h2 x z
    · rw [List.mem_singleton.mp z]
      have := List.mem_range.mp hi
      omega
theorem flat_snoc {β γ : Type} (g : β → List γ) (l : List β) (b : β) : (l ++ [b]).flatMap g = l.flatMap g ++ g b := by
  rw [List.flatMap_append]
  simp
/-! ### slices of lists -/
def cutL {α : Type} (xs : List α) (lo hi : Option Int) : List α := (xs.drop (HT.sIx xs.length 0 lo)).take (HT.sIx xs.length xs.length hi - HT.sIx xs.length 0 lo)
theorem All2.cut {α : Type} {R : V → α → Prop} {vs : List V} {l : List α} (h : All2 R vs l) (lo hi : Option Int) : All2 R (cutV vs lo hi) (cutL l lo hi) := by
  unfold cutV cutL
  rw [h.len]
  exact (h.drop _).take _
theorem cutL_take {α : Type} (l : List α) (n : Nat) : cutL l none (some (n : Int)) = l.take n := by
  unfold cutL
  rw [HT.sIx_none, HT.sIx_nat, List.drop_zero, Nat.sub_zero]
  by_cases h : n ≤ l.length
  · rw [Nat.min_eq_left h]
  · rw [Nat.min_eq_right (by omega), List.take_of_length_le (Nat.le_refl _), List.take_of_length_le (by omega)]
theorem cutL_drop {α : Type} (l : List α) (n : Nat) : cutL l (some (n : Int)) none = l.drop n := by
  unfold cutL
  rw [HT.sIx_none, HT.sIx_nat]
  by_cases h : n ≤ l.length
  · rw [Nat.min_eq_left h]
    exact List.take_of_length_le (by rw [List.length_drop]; exact Nat.le_refl _)
  · rw [Nat.min_eq_right (by omega), List.drop_of_length_le (Nat.le_refl _), List.drop_of_length_le (by omega)]
    simp
/-- xs[lo:hi] of a list; xs + ys -/
theorem sliceL {α : Type} {R : Rl α} [Rep R] {K : PySem.W.Frag} {M : MS} {H : Hp} {x : V} {l : List α} {lo hi : Option Int} {Q : VK} (hM : MIn M H) (h : rL R M H x l)
    (k : ∀ a H', H a = none → Fr M0 H H' → rL R M H' (.ref a) (cutL l lo hi) → Q (.ref a) H') : rSlL K x lo hi H Q := by
  obtain ⟨a, vs, rfl, na, ha, al⟩ := h
  exact ⟨a, vs, rfl, SqL.of ha, fun p hp => k p _ hp (Fr.new hp) ⟨p, _, rfl, hM.no hp, upd_same, (al.cut lo hi).imp fun _ _ z => Rep.st (Fr.new hp) z⟩⟩
theorem catL {α : Type} {R : Rl α} [Rep R] {K : PySem.W.Frag} {M : MS} {H : Hp} {x y : V} {l l2 : List α} {Q : VK} (hM : MIn M H) (h1 : rL R M H x l) (h2 : rL R M H y l2) (hz : l.length + l2.length ≤ sizeLine)
    (k : ∀ a H', H a = none → Fr M0 H H' → rL R M H' (.ref a) (l ++ l2) → Q (.ref a) H') : rCatL K x y H Q := by
  obtain ⟨a, vs, rfl, na, ha, al⟩ := h1
  obtain ⟨b, ws, rfl, nb, hb, bl⟩ := h2
  have e1 := al.len
  have e2 := bl.len
  exact ⟨a, b, vs, ws, rfl, rfl, SqL.of ha, SqL.of hb, by omega, fun p hp => k p _ hp (Fr.new hp) ⟨p, _, rfl, hM.no hp, upd_same, (al.imp fun _ _ z => Rep.st (Fr.new hp) z).app (bl.imp fun _ _ z => Rep.st (Fr.new hp) z)⟩⟩
/-- [v] -/
theorem lst1 {α : Type} {R : Rl α} [Rep R] {M : MS} {H : Hp} {p : Addr} {v : V} {a : α} (hM : MIn M H) (hp : H p = none) (h : R M H v a) : rL R M (upd H p (.lst [v])) (.ref p) [a] :=
  ⟨p, [v], rfl, hM.no hp, upd_same, All2.one (Rep.st (Fr.new hp) h)⟩
theorem pair1 {α β : Type} {R : Rl α} {S : Rl β} [Rep R] [Rep S] {M : MS} {H : Hp} {p : Addr} {v u : V} {a : α} {b : β} (hM : MIn M H) (hp : H p = none) (h : R M H v a) (g : S M H u b) : rP R S M (upd H p (.tup [v, u])) (.ref p) (a, b) :=
  ⟨p, v, u, rfl, hM.no hp, upd_same, Rep.st (Fr.new hp) h, Rep.st (Fr.new hp) g⟩
theorem trip1 {α β γ : Type} {R : Rl α} {S : Rl β} {T : Rl γ} [Rep R] [Rep S] [Rep T] {M : MS} {H : Hp} {p : Addr} {v u t : V} {a : α} {b : β} {c : γ} (hM : MIn M H) (hp : H p = none) (h : R M H v a) (g : S M H u b) (j : T M H t c) :
    rP3 R S T M (upd H p (.tup [v, u, t])) (.ref p) (a, b, c) := ⟨p, v, u, t, rfl, hM.no hp, upd_same, Rep.st (Fr.new hp) h, Rep.st (Fr.new hp) g, Rep.st (Fr.new hp) j⟩
/-! ### dict(pairs) -/
theorem putK_len {kvs : List (Key × V)} {k : Key} {v : V} : (putK kvs k v).length = if (valV kvs k).isSome then kvs.length else kvs.length + 1 := by
  unfold putK
  rw [valV_any]
  by_cases h : (valV kvs k).isSome = true
  · rw [if_pos h, if_pos h, List.length_map]
  · rw [if_neg h, if_neg h, List.length_append]; rfl
theorem merge_len : ∀ (more acc : List (Key × V)), (mergeK acc more).length ≤ acc.length + more.length ∧ ((mergeK acc more).length = acc.length + more.length → (more.map (·.1)).Nodup ∧ ∀ k ∈ more.map (·.1), valV acc k = none)
  | [], acc => ⟨Nat.le_refl _, fun _ => ⟨List.nodup_nil, fun k h => by cases h⟩⟩
  | m :: more, acc => by
    have e : mergeK acc (m :: more) = mergeK (putK acc m.1 m.2) more := rfl
    obtain ⟨h1, h2⟩ := merge_len more (putK acc m.1 m.2)
    have hl := putK_len (kvs := acc) (k := m.1) (v := m.2)
    rw [e]
    cases hs : valV acc m.1 with
    | some x =>
      rw [hs] at hl
      simp only [Option.isSome_some, if_true] at hl
      refine ⟨by rw [List.length_cons]; omega, fun z => ?_⟩
      rw [List.length_cons] at z
      omega
    | none =>
      rw [hs] at hl
      have hl2 : (putK acc m.1 m.2).length = acc.length + 1 := hl
      refine ⟨by rw [List.length_cons]; omega, fun z => ?_⟩
      rw [List.length_cons] at z
      obtain ⟨n1, n2⟩ := h2 (by omega)
      rw [put_none hs] at n2
      have key : ∀ k, valV (acc ++ [(m.1, m.2)]) k = none → valV acc k = none ∧ m.1 ≠ k := fun k hk => by
        have h3 := valV_not hk
        rw [List.map_append, List.mem_append] at h3
        constructor
        · cases q : valV acc k with
          | none => rfl
          | some v => exact absurd (.inl (valV_in q)) h3
        · exact fun q => h3 (.inr (by rw [q]; exact List.mem_singleton.mpr rfl))
      refine ⟨?_, fun k hk => ?_⟩
      · rw [List.map_cons, List.nodup_cons]
        exact ⟨fun hm => (key _ (n2 _ hm)).2 rfl, n1⟩
      · rw [List.map_cons] at hk
        rcases List.mem_cons.mp hk with q | q
        · rw [q]; exact hs
        · exact (key k (n2 k q)).1
/-- pairs of a name and a number, for dict(..) -/
theorem pairs_dict {K : PySem.W.Frag} {M : MS} {H : Hp} : ∀ {vs : List V} {l : List (Str × Int)}, All2 (rP rS rI M H) vs l → ∃ ps : List Addr, vs = ps.map V.ref ∧ Paired (fun p (kv : Key × V) => SqT K H p [kV kv.1, kv.2]) ps (l.map fun z => ((Sum.inr z.1 : Key), V.int z.2))
  | [], [], _ => ⟨[], rfl, .nil⟩
  | v :: vs, z :: l, h => by
    obtain ⟨ps, e, r⟩ := pairs_dict (K := K) h.2
    obtain ⟨a, v1, v2, rfl, _, ha, ⟨rfl, _⟩, rfl⟩ := h.1
    exact ⟨a :: ps, by rw [e]; rfl, .cons (SqT.of ha) r⟩
  | [], _ :: _, h => h.elim
  | _ :: _, [], h => h.elim
theorem nameOk_iff {z : Str} : nameOk z = true ↔ 2 ≤ z.length ∧ z.length ≤ 8 ∧ ∀ c ∈ TL.tl z, c ∈ lets := by
  unfold nameOk
  simp only [Bool.and_eq_true, decide_eq_true_eq, List.all_eq_true]
  exact Iff.rfl
theorem name7 {z : Str} (h : nameOk z = true) : ∃ s1 : Str, cutS z none (some 7) = s1 ∧ nameOk (s1 ++ "z") = true ∧ s1.length ≤ 7 := by
  obtain ⟨h1, h2, h3⟩ := nameOk_iff.mp h
  have e : cutS z none (some 7) = ⟨((TL.tl z).take 7).toArray⟩ := by
    refine TL.ext_tl ?_
    show ((TL.tl z).drop (HT.sIx _ 0 none)).take _ = (TL.tl z).take 7
    rw [HT.sIx_none, show (some (7 : Int)) = some ((7 : Nat) : Int) from rfl, HT.sIx_nat, List.drop_zero, Nat.sub_zero]
    by_cases hl : 7 ≤ z.length
    · rw [Nat.min_eq_left hl]
    · rw [Nat.min_eq_right (by omega), List.take_of_length_le (by rw [← TL.len_tl]; exact Nat.le_refl _), List.take_of_length_le (by rw [← TL.len_tl]; omega)]
  have hl : (⟨((TL.tl z).take 7).toArray⟩ : Str).length = min 7 z.length := by rw [S_len, List.length_take, ← TL.len_tl]
  refine ⟨_, e, nameOk_iff.mpr ?_, by rw [hl]; omega⟩
  have hl2 : (⟨((TL.tl z).take 7).toArray⟩ ++ ("z" : Str) : Str).length = min 7 z.length + 1 := by
    rw [TL.len_tl, TL.tl_append, List.length_append, ← TL.len_tl, hl]; rfl
  refine ⟨by rw [hl2]; omega, by rw [hl2]; omega, fun c hc => ?_⟩
  rw [TL.tl_append] at hc
  rcases List.mem_append.mp hc with q | q
  · exact h3 c (List.mem_of_mem_take q)
  · have : TL.tl ("z" : Str) = [122] := by decide +kernel
    rw [this] at q
    rw [List.mem_singleton.mp q]
    decide +kernel
end WD
/-! own exceptions: made, raised, caught, asked -/
namespace WD
open PySem PySem.Spec PyProof.Rows L2

/-! ### what the written part says of an exception class, by a Bool -/
def oexObjB (C : Addr) : Option Obj → Bool
  | some ⟨.type t, _, .cls cd, sl⟩ => decide (t = "type") && ((match cd.mro with
    | .ref C' :: bm => decide (C' = C) && PySem.HandSPX.refsVE bm
    | _ => false) && ((match sl.toList with
    | [_, _, _, _, some (.builtin n), _] => decide (n = "ValueError.__new__")
    | _ => false) && (cd.hasDict && !cd.hasDel)))
  | _ => false
theorem oexObjB_ok {K : PySem.W.Frag} {C : Addr} (h : oexObjB C (K.lookup C) = true) : ∃ nm q N bs bm sn sub ab col dd k0 k1 k2 k3 k5, K.lookup C = some (excClassObj nm q C N bs bm true sn sub ab col dd k0 k1 k2 k3 k5 "ValueError.__new__") ∧ PySem.HandSPX.refsVE bm = true := by
  generalize K.lookup C = o at h ⊢
  unfold oexObjB at h
  split at h
  · rename_i t dd cd sl
    simp only [Bool.and_eq_true, decide_eq_true_eq, Bool.not_eq_true'] at h
    obtain ⟨h1, h2, h3, h4, h5⟩ := h
    obtain ⟨nm, bs, mro, ns, qn, hd, sn, sb, ab, col, del⟩ := cd
    dsimp only at h2 h4 h5
    subst h1 h4 h5
    split at h2
    · rename_i C' bm
      obtain ⟨e1, e2⟩ := Bool.and_eq_true_iff.mp h2
      have e1 := of_decide_eq_true e1
      subst e1
      split at h3
      · rename_i k0 k1 k2 k3 n k5 e3
        have e4 := of_decide_eq_true h3
        subst e4
        have e5 : sl = #[k0, k1, k2, k3, some (.builtin "ValueError.__new__"), k5] := by
          rw [← Array.toArray_toList (xs := sl), e3]
        subst e5
        exact ⟨_, _, _, _, bm, _, _, _, _, _, _, _, _, _, _, rfl, e2⟩
      · cases h3
    · cases h2
  · cases h
/-- how a value's class answers isinstance: what is asked of the class -/
structure ExD (K : PySem.W.Frag) (C : Addr) : Prop where
  cl : (PySem.W.clsIn K C).isSome = true
  ga : PySem.W.findIn K (.ref C) "__getattribute__" = some (some (.builtin "BaseException.__getattribute__"))
  gg : PySem.W.findIn K (.ref C) "__getattr__" = some none
  sb : PySem.W.subIn K (.ref C) (.type "BaseException") = some true
  cc : PySem.W.findIn K (.ref C) "__class__" = some (some (.builtin "object.__class__"))
  sp : PySem.W.specialIn K (.builtin "object.__class__") "__get__" = some (some (.builtin "getset_descriptor.__get__"))
  tk : PySem.W.takesIn K (.builtin "object.__class__") = some true
  mr : PySem.W.mroIn K C (.type "object") = some true
  hd : PySem.W.hasDictIn K C = true
/-- facts of my own -/
inductive Fx where
  | oex (x : Str)
  | exd (x : Str)
  | ini (x : Str)
  | par (x : Str)
  | noa (x f : Str)
  | kit (x y : Str) (b : Bool)
  | kiv (x : Str) (t : String) (b : Bool)
def Fx.ok (K : PySem.W.Frag) : Fx → Bool
  | .oex x => oexObjB (He.ga K x) (K.lookup (He.ga K x)) && (He.eqO (PySem.W.findIn K (.ref (He.ga K x)) "__setattr__") (some (some (.builtin "object.__setattr__"))) && (decide (PySem.W.subIn K (.ref (He.ga K x)) (.type "BaseException") = some true) &&
      (decide (PySem.W.typeIn K (.ref (He.ga K x)) = some (.type "type")) && PySem.W.keepIn K (.ref (He.ga K x)))))
  | .exd x => (PySem.W.clsIn K (He.ga K x)).isSome && (He.eqO (PySem.W.findIn K (.ref (He.ga K x)) "__getattribute__") (some (some (.builtin "BaseException.__getattribute__"))) && (He.eqO (PySem.W.findIn K (.ref (He.ga K x)) "__getattr__") (some none) &&
      (decide (PySem.W.subIn K (.ref (He.ga K x)) (.type "BaseException") = some true) && (He.eqO (PySem.W.findIn K (.ref (He.ga K x)) "__class__") (some (some (.builtin "object.__class__"))) &&
      (He.eqO (PySem.W.specialIn K (.builtin "object.__class__") "__get__") (some (some (.builtin "getset_descriptor.__get__"))) && (decide (PySem.W.takesIn K (.builtin "object.__class__") = some true) &&
      (decide (PySem.W.mroIn K (He.ga K x) (.type "object") = some true) && PySem.W.hasDictIn K (He.ga K x))))))))
  | .ini x => He.eqO (PySem.W.findIn K (.ref (He.ga K x)) "__init__") (some (some (.ref (He.ma K (He.ga K x) "__init__")))) && decide (PySem.W.typeIn K (.ref (He.ma K (He.ga K x) "__init__")) = some (.type "function"))
  | .par x => PySem.W.readsIn K (He.ga K x) (.type "type") && (He.eqO (PySem.W.specialIn K (.ref (He.ga K x)) "__getattribute__") (some (some (.builtin "type.__getattribute__"))) &&
      (match PySem.W.findCls K (.ref (He.ga K x)) (.type "type") "__init__" with
        | some (.val (.builtin n)) => decide (n = "ValueError.__init__")
        | _ => false))
  | .noa x f => He.eqO (PySem.W.findIn K (.ref (He.ga K x)) f) (some none)
  | .kit x y b => decide (PySem.W.kitOne K (.ref (He.ga K x)) (.ref (He.ga K y)) = some b)
  | .kiv x t b => decide (PySem.W.kitOne K (.ref (He.ga K x)) (.type t) = some b)
section
variable {K : PySem.W.Frag} {x y f : Str} {t : String} {b : Bool}
theorem oex_ok (c : (Fx.oex x).ok K = true) : OexC K (He.ga K x) := by
  obtain ⟨c1, c⟩ := He.ba c
  obtain ⟨c2, c⟩ := He.ba c
  obtain ⟨c3, c⟩ := He.ba c
  obtain ⟨c4, c5⟩ := He.ba c
  exact ⟨oexObjB_ok c1, He.eqO_ok c2, of_decide_eq_true c3, of_decide_eq_true c4, c5⟩
theorem exd_ok' (c : (Fx.exd x).ok K = true) : ExD K (He.ga K x) := by
  obtain ⟨c1, c⟩ := He.ba c
  obtain ⟨c2, c⟩ := He.ba c
  obtain ⟨c3, c⟩ := He.ba c
  obtain ⟨c4, c⟩ := He.ba c
  obtain ⟨c5, c⟩ := He.ba c
  obtain ⟨c6, c⟩ := He.ba c
  obtain ⟨c7, c⟩ := He.ba c
  obtain ⟨c8, c9⟩ := He.ba c
  exact ⟨c1, He.eqO_ok c2, He.eqO_ok c3, of_decide_eq_true c4, He.eqO_ok c5, He.eqO_ok c6, of_decide_eq_true c7, of_decide_eq_true c8, c9⟩
theorem ini_ok (c : (Fx.ini x).ok K = true) : PySem.W.findIn K (.ref (He.ga K x)) "__init__" = some (some (.ref (He.ma K (He.ga K x) "__init__"))) ∧ PySem.W.typeIn K (.ref (He.ma K (He.ga K x) "__init__")) = some (.type "function") := by
  obtain ⟨c1, c2⟩ := He.ba c
  exact ⟨He.eqO_ok c1, of_decide_eq_true c2⟩
/-- an exception class whose __init__ is called by its name -/
structure Par (K : PySem.W.Frag) (C : Addr) : Prop where
  rd : PySem.W.readsIn K C (.type "type") = true
  ga : PySem.W.specialIn K (.ref C) "__getattribute__" = some (some (.builtin "type.__getattribute__"))
  at_ : PySem.W.findCls K (.ref C) (.type "type") "__init__" = some (.val (.builtin "ValueError.__init__"))
theorem par_ok (c : (Fx.par x).ok K = true) : Par K (He.ga K x) := by
  obtain ⟨c1, c⟩ := He.ba c
  obtain ⟨c2, c3⟩ := He.ba c
  refine ⟨c1, He.eqO_ok c2, ?_⟩
  split at c3
  · rename_i n e
    rw [e, of_decide_eq_true c3]
  · cases c3
theorem noa_ok (c : (Fx.noa x f).ok K = true) : PySem.W.findIn K (.ref (He.ga K x)) f = some none := He.eqO_ok c
theorem kit_ok (c : (Fx.kit x y b).ok K = true) : PySem.W.kitOne K (.ref (He.ga K x)) (.ref (He.ga K y)) = some b := of_decide_eq_true c
theorem kiv_ok (c : (Fx.kiv x t b).ok K = true) : PySem.W.kitOne K (.ref (He.ga K x)) (.type t) = some b := of_decide_eq_true c
end
/-! ### the Hook, with these facts -/
def asE (g : Addr → Option Obj) : Nat → List Addr
  | 0 => [mainGlobals, cStatics]
  | n + 1 => He.growD g (asE g n)
def obsE (fa : List He.Fa) (fn : List He.DefD) (fx : List Fx) (K : PySem.W.Frag) : He.AlD := ((He.obsD fa fn K).1 && fx.all fun f => f.ok K, (He.obsD fa fn K).2)
def SaysE (fa : List He.Fa) (fn : List He.DefD) (fx : List Fx) (K : PySem.W.Frag) : Prop := obsE fa fn fx K = He.valD fn
def obsEG (n : Nat) (fa : List He.Fa) (fn : List He.DefD) (fx : List Fx) (g : Addr → Option Obj) : He.AlD := obsE fa fn fx (He.frG g (asE g n))
def hookE (n : Nat) (fa : List He.Fa) (fn : List He.DefD) (fx : List Fx) : PySem.W.Hook where
  α := He.AlD
  obs := fun s => obsEG n fa fn fx s.heap.get?
  val := fun _ => He.valD fn
  says := fun _ h => ∃ K : PySem.W.Frag, K.In h ∧ SaysE fa fn fx K
  of := fun _ _ e => ⟨_, He.frG_in, e⟩
  keeps := fun _ _ _ ⟨K, hK, c⟩ k => ⟨K, PySem.W.Frag.In.keeps hK k, c⟩
theorem obsEG_eq {n : Nat} {fa : List He.Fa} {fn : List He.DefD} {fx : List Fx} {g : Addr → Option Obj} {s : Shared} (h : ∀ a, g a = s.heap.get? a) : obsEG n fa fn fx g = (hookE n fa fn fx).obs s := by
  rw [show g = s.heap.get? from funext h]; rfl
theorem SaysE.says {fa : List He.Fa} {fn : List He.DefD} {fx : List Fx} {K : PySem.W.Frag} (c : SaysE fa fn fx K) : He.SaysD fa fn K := by
  have h1 : ((He.obsD fa fn K).1 && fx.all fun f => f.ok K) = true := congrArg (fun z : He.AlD => z.1) c
  have h2 : (He.obsD fa fn K).2 = fn.map He.DefD.val := congrArg (fun z : He.AlD => z.2) c
  exact Prod.ext (He.ba h1).1 h2
theorem SaysE.own {fa : List He.Fa} {fn : List He.DefD} {fx : List Fx} {K : PySem.W.Frag} (c : SaysE fa fn fx K) (i : Nat) {f : Fx} (h : fx[i]? = some f := by rfl) : f.ok K = true := by
  have h1 : ((He.obsD fa fn K).1 && fx.all fun f => f.ok K) = true := congrArg (fun z : He.AlD => z.1) c
  exact List.all_eq_true.mp (He.ba h1).2 f (List.mem_of_getElem? h)

/-! ### C.__init__(self, ..), C an own exception class -/
section
variable {X : Cx} {e : Expr} {es : List Expr} {ta : TA} {p1 p2 pos : Pos} {x : Str} {C : Addr}
theorem pe_oinit {pl : Sem Bool} (hg : Gl X x) (hm : X.mg x = some (.ref C)) (T : Par X.K C) (ha : PA X (e :: es) ta) (hdb : (x == ("__debug__" : Str)) = false := by decide)
    (hc : eval (.Call (.Attribute (.Name x p1) "__init__" p2) (e :: es) [] pos) X.env = (do
      let ov ← eval (.Name x p1) X.env
      standAt p2.atName
      let (f, first) ← holding [ov] (getMethod ov "__init__" pl)
      callWith pos f first (backTo pos (starEach (e :: es) X.env)) (backToKw pos (keywordEach [] X.env))) := by rfl)
    (he : starEach (e :: es) X.env = (false, eval e X.env) :: starEach es X.env := by rfl) (hpl : (backTo pos (starEach es X.env)).any (·.1) = false := by rfl) :
    PE X (.Call (.Attribute (.Name x p1) "__init__" p2) (e :: es) [] pos) (tVeI X.K ta) := by
  refine ⟨fun pins s σ H Q I h => ?_⟩
  refine PySem.W.methodCall_KW (ld_glob I hg hm ?_ hdb) hc
  refine PySem.W.method_cls I.kIn T.ga (PySem.W.cls_value I.kIn T.rd T.at_ (by decide +kernel) ?_)
  refine PyProof.Rows.callWith_method1 (thn (ha.run pos pins _ σ H _ (I.tok _) h) fun us s1 ⟨vs, H1, I1, r1, a, C1, ws, ev, hl, T1, ea, q⟩ => ?_) he hpl
  subst ev
  cases r1 with
  | @cons _ u0 _ ur ra rw' =>
    obtain rfl : u0 = Value.ref a := ra
    have hlen : ur.length ≤ sizeLine := by
      have e1 := Paired.length rw'
      have e2 := sizeLine_eq
      omega
    exact oinit_ok T1 I1 ea hlen fun s' J => ⟨.non, H1, J, rfl, q⟩
end
/-! ### C(v), C an own exception class with one field, to be raised -/
def spExc (C : Addr) (f : Str) : Sp := fun vs H Q _ => ∃ (a : Addr) (v : V), vs = [.ref a, v] ∧ H a = some (exo a C none) ∧ ∀ dx, H dx = none → dx ≠ a → Q .non (upd (upd H dx (exd dx [(f, v)])) a (exo a C (some dx)))
structure Xmk (P : Program) (w : World) (K : PySem.W.Frag) (mg : Str → Option Value) (base : Heap) (k : Nat) (x : Str) (C fI : Addr) (f : Str) : Prop where
  ex : ∃ (fd : FuncData) (ps : List Str) (ds : List Value), FnOk P w K mg base CX0 k fI fd ps (spExc C f) ∧ Binds K fd ps ds ∧ Vals [] ds
  oe : OexC K C
  ini : PySem.W.findIn K (.ref C) "__init__" = some (some (.ref fI)) ∧ PySem.W.typeIn K (.ref fI) = some (.type "function")
  g : mg x = some (.ref C)
def tExc (C : Addr) (f : Str) (ta : TA) : L2.St → Hp → XK → Prop := fun σ H Q => ta σ H fun vs H1 => ∃ v, vs = [v] ∧ ∀ d, H1 d = none → Q (.ref C) (some d) (upd H1 d (.xd [(f, v)]))
section
variable {X : Cx} {k : Nat} {x : Str} {C fI : Addr} {f : Str} {e : Expr} {es : List Expr} {ta : TA} {te : TE} {p pos : Pos}
/-- a reading made monotone -/
def clo (ta : TA) : TA := fun σ H Q => ∃ R : List V → Hp → Prop, ta σ H R ∧ ∀ vs H1, R vs H1 → Q vs H1
theorem pa_clo (h : PA X es ta) : PA X es (clo ta) := by
  refine ⟨fun pos pins s σ H Q I hh => ?_⟩
  obtain ⟨R, h1, h2⟩ := hh
  exact thn (h.run pos pins s σ H R I h1) fun us s1 ⟨vs, H1, I1, r, q⟩ => ⟨vs, H1, I1, r, h2 vs H1 q⟩
theorem pmk_x (c : Xmk X.prog X.w X.K X.mg X.base k x C fI f) (hr : Room (k + 1) X.A) (hg : Gl X x) (ha : PA X (e :: es) ta) (hdb : (x == ("__debug__" : Str)) = false := by decide)
    (he : starEach (e :: es) X.env = (false, eval e X.env) :: starEach es X.env := by rfl) (hpl : (backTo pos (starEach es X.env)).any (·.1) = false := by rfl) : PMk X (.Call (.Name x p) (e :: es) [] pos) (tExc C f ta) := by
  obtain ⟨fd, ps, ds, h1, h2, h3⟩ := c.ex
  have P := pmk_oex (pos := pos) (p := p) c.oe c.ini.1 c.ini.2 h1 hr h2 h3 pass0 hg c.g (pa_clo ha) hdb he hpl
  intro pins s σ H Q I h
  refine P pins s σ H Q I ⟨_, h, fun vs H1 q => ?_⟩
  obtain ⟨v, rfl, q⟩ := q
  refine ⟨by show 1 ≤ 1000; decide, fun a na => ⟨a, v, rfl, upd_same, fun dx nd ne => ⟨rfl, dx, [(f, v)], upd_same, ?_, ?_, ?_⟩⟩⟩
  · rw [upd_ne ne, upd_same]
  · rw [upd_ne ne] at nd
    exact nd
  · have nd' : H1 dx = none := by rw [upd_ne ne] at nd; exact nd
    have e2 : upd (del (upd (upd (upd H1 a (exo a C none)) dx (exd dx [(f, v)])) a (exo a C (some dx))) a) dx (.xd [(f, v)]) = upd H1 dx (.xd [(f, v)]) := by
      funext b
      by_cases hb : b = dx
      · rw [hb, upd_same, upd_same]
      · rw [upd_ne hb, upd_ne hb]
        by_cases ha : b = a
        · rw [ha, del_same, na]
        · rw [del_ne ha, upd_ne ha, upd_ne hb, upd_ne ha]
    rw [e2]
    exact q dx nd'
end
/-! ### calls that may raise -/
section
variable {X : Cx} {CX : CXT} {k : Nat} {f C : Addr} {fd : FuncData} {ps : List Str} {sp : Sp} {E : L2.St → XK} {x m : Str} {p pos apos : Pos} {e o : Expr} {es : List Expr} {ta : TE} {t : TA} {W : WX} {ds : List Value}
theorem binds0 {K : PySem.W.Frag} (h : Binds K fd ps ds) (hd : Vals [] ds) : Binds K fd ps [] := by
  cases hd
  exact h
/-- f(e, ..) -/
theorem pe_calX (c : Cal X.prog X.w X.K X.mg X.base (L2.CX X.prog X.w) k x f sp []) (tk : Takes X W) (hr : Room k X.A) (hg : Gl X x) (ha : PA X (e :: es) t) (hdb : (x == ("__debug__" : Str)) = false := by decide)
    (he : starEach (e :: es) X.env = (false, eval e X.env) :: starEach es X.env := by rfl) (hpl : (backTo pos (starEach es X.env)).any (·.1) = false := by rfl) : PE X (.Call (.Name x p) (e :: es) [] pos) (tCallS sp (WE W) t) := by
  obtain ⟨fd, ps, ds, h1, h2, h3⟩ := c.ex
  exact pe_callS h1 hr hg c.g c.kp (binds0 h2 h3) (fun σ => passAt tk σ) ha hdb he hpl
def tMethS (C : Addr) (m : Str) (sp : Sp) (E : L2.St → XK) (te : TE) (t : TA) : TE := fun σ H Q => te σ H fun x H1 => ∃ (a dx : Addr) (fs : List (Str × V)), x = .ref a ∧ H1 a = some (.ins C dx fs) ∧ fs.lookup m = none ∧ t σ H1 fun vs H2 => sp (.ref a :: vs) H2 Q (E σ)
theorem pe_metX {pl : Sem Bool} (c : Met X.prog X.w X.K X.mg X.base (L2.CX X.prog X.w) k C m f sp []) (tk : Takes X W) (hr : Room k X.A) (he : PE X o ta) (ha : PA X (e :: es) t)
    (hst : starEach (e :: es) X.env = (false, eval e X.env) :: starEach es X.env := by rfl) (hpl : (backTo pos (starEach es X.env)).any (·.1) = false := by rfl)
    (ht : eval (.Call (.Attribute o m apos) (e :: es) [] pos) X.env = (do
      let ov ← eval o X.env
      standAt apos.atName
      let (f, first) ← holding [ov] (getMethod ov m pl)
      callWith pos f first (backTo pos (starEach (e :: es) X.env)) (backToKw pos (keywordEach [] X.env))) := by rfl) : PE X (.Call (.Attribute o m apos) (e :: es) [] pos) (tMethS C m sp (WE W) ta t) := by
  obtain ⟨fd, ps, ds, h1, h2, h3⟩ := c.ex
  have hb := binds0 h2 h3
  refine ⟨fun pins s σ H Q I h => ?_⟩
  refine PySem.W.methodCall_KW (pl := pl) (thn (he.run pins s σ H _ I h) fun u s1 hh => ?_) ht
  obtain ⟨x, H1, I1, rx, a, dx, fs, ex, ea, l, q⟩ := hh
  subst ex
  cases (show u = Value.ref a from rx)
  refine getmeth_ok I1 ea c.cl c.mt l (PySem.W.callWith_K (first := [.ref a]) (h₀ := X.base) I.ok.mod.kin c.mt.kp (thn (ha.run pos pins s1 σ H1 _ I1 q) fun us s2 hh2 => ?_) hst hpl)
  obtain ⟨vs, H2, I2, r, q2⟩ := hh2
  exact ⟨I2.kIn, run_fnS (us := .ref a :: us) (vs := .ref a :: vs) (E := WE W) h1 hr hb (passAt tk σ) I2 (.cons rfl r) q2⟩
end
/-! ### in an except suite -/
/-- e.f, the class told by the reading -/
def tXfA (K : PySem.W.Frag) (a : Addr) (cls : Value) (d : Option Addr) (f : Str) (te : TE) : TE := fun σ H Q => te σ H fun x H1 => ∃ C : Addr, x = .ref a ∧ cls = .ref C ∧ ExD K C ∧ PySem.W.findIn K (.ref C) f = some none ∧ ∃ (dd : Addr) (fs : List (Str × V)) (v : V), d = some dd ∧ H1 dd = some (.xd fs) ∧ fs.lookup f = some v ∧ Q v H1
/-- isinstance(e, c) -/
def rIsX (K : PySem.W.Frag) (a : Addr) (cls : Value) (d : Option Addr) : List V → Hp → VK → Prop := fun xs H Q => ∃ (D : Addr) (c : V) (cv : Value) (b : Bool), cls = .ref D ∧ ExD K D ∧ (∀ dd, d = some dd → ∃ fs, H dd = some (.xd fs)) ∧ xs = [.ref a, c] ∧ (∀ u, RelV c u → u = cv) ∧ PySem.W.kitOne K (.ref D) cv = some b ∧ Q (.bl b) H
section
variable {X : Cx} {a : Addr} {oe : Obj} {cls : Value} {d : Option Addr} {pn : List (Addr × Obj)} {e : Expr} {te : TE} {pos : Pos} {n : Str}
theorem pe_xfA (hz : Zc cls d oe) (hf : ∃ vs, oe.data = .fields vs) (he : PE (X.suite a ((a, oe) :: pn)) e te) (hb : attributeBase e n X.env (eval e X.env) = eval e X.env := by rfl) : PE (X.suite a ((a, oe) :: pn)) (.Attribute e n pos) (tXfA X.K a cls d n te) := by
  refine ⟨fun pins s σ H Q I h => ?_⟩
  refine attr_of hb (thn (he.run pins s σ H _ I h) fun u s1 hh => ?_)
  obtain ⟨x, H1, I1, rx, C, ex, ec, T, hno, dd, fs, v, ed, ea, l, q⟩ := hh
  subst ex ec ed
  cases (show u = Value.ref a from rx)
  obtain ⟨ha, _⟩ := I1.pin (a, oe) (List.mem_append_left _ List.mem_cons_self)
  obtain ⟨vs, hd⟩ := hf
  obtain ⟨mA, hns, hr⟩ := (show ObjOk X.prog X.w H1 s1.heap dd (.xd fs) from I1.hok dd _ ea)
  obtain ⟨od, ho, hl⟩ := lookIn_ns hns
  obtain ⟨u, hu, ru⟩ := RelO.some_of (v := v) (o := mA n) (by rw [← l]; exact hr n)
  have J : PySem.W.InstAt s1.heap a oe C (some od) := ⟨ha, hz.1, by unfold PySem.W.notCls; rw [hd], by rw [hz.2]; exact ho⟩
  exact HandSPX.exc_get I1.kIn J T.ga T.gg T.sb (PySem.W.findObj_own T.hd hno rfl (by rw [hl, hu])) (handed_of ru) ⟨v, H1, I1.tok _, ru, q⟩
theorem call_isX (hz : Zc cls d oe) (hf : ∃ vs, oe.data = .fields vs) : CallR (X.suite a ((a, oe) :: pn)) (.builtin "isinstance") (rIsX X.K a cls d) := by
  intro pins s σ H xs us Q I r h
  obtain ⟨D, c, cv, b, ec, C, hd, rfl, hcv, e, q⟩ := h
  subst ec
  cases r with
  | cons rx rr =>
    cases rr with
    | cons rt rr =>
      cases rr
      cases rx
      cases hcv _ rt
      obtain ⟨hget, _⟩ := I.pin (a, oe) (List.mem_append.mpr (.inl List.mem_cons_self))
      obtain ⟨vs, hv⟩ := hf
      have J : ∃ od, PySem.W.InstAt s.heap a oe D od := by
        cases d with
        | none => exact ⟨none, hget, hz.1, by unfold PySem.W.notCls; rw [hv], by rw [hz.2]; exact trivial⟩
        | some dd =>
          obtain ⟨fs, hfs⟩ := hd dd rfl
          obtain ⟨mA, ⟨o, _, _, ho, _⟩, _⟩ := (show ObjOk X.prog X.w H s.heap dd (.xd fs) from I.hok dd _ hfs)
          exact ⟨some o, hget, hz.1, by unfold PySem.W.notCls; rw [hv], by rw [hz.2]; exact ho⟩
      obtain ⟨od, J⟩ := J
      exact PySem.W.kia_one (PySem.W.kitx_exc C.cl C.ga C.gg C.sb C.cc C.sp C.tk C.mr) I.kIn J e (fun z => nomatch z) fun tk => ⟨.bl b, H, I.kept (t' := tk) fun _ _ z => z, rfl, q⟩
end
/-! ### try with clauses `except x as n` -/
abbrev Su := Addr → Value → Option Addr → TS
def wClauses (K : PySem.W.Frag) (Wout : WX) (D : Ends) : List (Value × Nat × Su) → WX
  | [] => Wout
  | (c, i, ts) :: r => fun cls d σ H => ∃ b, PySem.W.exmOne K cls c = some b ∧
      (b = true → ∀ a, H a = none → ts a cls d { nx := fun σ' H' => D.nx (σ'.set i none) H', rt := D.rt, bk := fun σ' H' => D.bk (σ'.set i none) H', ct := fun σ' H' => D.ct (σ'.set i none) H' } (σ.set i (some (.ref a))) H) ∧ (b = false → wClauses K Wout D r cls d σ H)
inductive Clauses (X : Cx) : List ExceptHandler → List (Value × Nat × Su) → Prop
  | nil : Clauses X [] []
  | cons {x n : Str} {c : Value} {i : Nat} {ts : Su} {st : Stmt} {suite : List Stmt} {np hp : Pos} {hds : List ExceptHandler} {l : List (Value × Nat × Su)} (names : Names X x c) (slot : X.N[i]? = some n) (loc : X.env.kindOf n = some .local)
      (body : ∀ (a : Addr) (oe : Obj) (cls : Value) (d : Option Addr) (pn : List (Addr × Obj)), Zc cls d oe → (∃ vs, oe.data = .fields vs) → PSs (X.suite a ((a, oe) :: pn)) (st :: suite) (ts a cls d)) (more : Clauses X hds l) :
      Clauses X (.ExceptHandler (some (.Name x np)) (some n) (st :: suite) hp :: hds) ((c, i, ts) :: l)
section
variable {X : Cx} {body : List Stmt} {hd0 : ExceptHandler} {hds : List ExceptHandler} {l : List (Value × Nat × Su)} {pos : Pos} {tb : WX → TS} {Wout : WX}
theorem ps_try_clauses (hs : X.stack = X.env :: X.outer) (hf : X.env.frame = some X.env.locals) (hN : X.N.Nodup) (tk : Takes X Wout)
    (bd : ∀ (W : WX) (pn : List (Addr × Obj)) (xe : Value → Shared → Prop), Takes (X.tr pn xe) W → PSs (X.tr pn xe) body (tb W)) (cl : Clauses X (hd0 :: hds) l) : PS X (.Try body (hd0 :: hds) [] [] pos) (fun D σ H => tb (wClauses X.K Wout D l) D σ H) := by
  refine ⟨fun pins s σ H D I h => ?_⟩
  have ok := I.ok; have frm : X.A.frames = some (X.env :: X.outer) := ok.frames.trans (congrArg some hs)
  refine wpAny_Try_except (wpAny_mono ((bd (wClauses X.K Wout D l) (X.pn ++ pins) (fun e s₁ => wpAny (model X.prog X.w) X.A (noteFrame e X.env) (fun _ s₂ => wpAny (model X.prog X.w) X.A (setFlight e none) (fun _ s₃ => wpAny (model X.prog X.w) X.A (handleBy e X.env (hd0 :: hds)) (SP X pins D) X.xe s₃) X.xe s₂) X.xe s₁) (fun u s' xx => ?_)).run [] s σ H D (I.toTry _) h) (fun f s1 hsp => ?_) (fun e s1 he => he))
  · obtain ⟨a, B, sI, pins', σ', H', cls, d, rfl, J', nb, up, sky, na, os, ag, wish⟩ := xx
    have J : Inv X pins σ' H' sI := J'.ofTry ok; rw [hs] at sky
    show wpAny (model X.prog X.w) X.A (noteFrame (.ref a) X.env) _ _ _
    refine Sky.land Zc.steady frm hf sky fun h3 fl up3 => ?_
    have J3 : Inv X pins σ' H' { s' with heap := h3 } := J.landed nb fl.1 (up.trans up3) os ag; obtain ⟨oe3, vs3, he3, hz3, hd3⟩ := fl.there
    have outs : a ∉ frs (X.env :: X.outer) := fun hm => by
      obtain ⟨_, o', e', hnf⟩ := fl.2.2.1.mem hm; rw [he3] at e'; cases e'; exact hnf _ hd3
    have nL : a ≠ X.env.locals := fun z => outs (List.mem_filterMap.mpr ⟨X.env, List.mem_cons_self, hf.trans (congrArg some z.symm)⟩)
    have nF : a ∉ X.fs := fun hm => by
      obtain ⟨e, he, q⟩ := List.mem_filterMap.mp hm; exact outs (List.mem_filterMap.mpr ⟨e, List.mem_cons_of_mem _ he, q⟩)
    have S3 := J3.suite he3 hd3 na nL nF
    have walk : ∀ {hds' : List ExceptHandler} {l' : List (Value × Nat × Su)}, Clauses X hds' l' → wClauses X.K Wout D l' cls d σ' H' → wpAny (model X.prog X.w) X.A (handleBy (.ref a) X.env hds') (SP X pins D) X.xe { s' with heap := h3 } := by
      intro hds' l' hk
      induction hk with
      | nil =>
        intro wish; refine wpAny_handleBy_nil ?_
        obtain ⟨k1, k2, k3, oe, vs, T, oT, ts', he, hz, hd, h1, hr⟩ := id fl; unfold PySem.passOn
        refine wpAny_bind (wpAny_field he hd h1 ?_); rw [if_neg (show ¬ ((Value.ref T == Value.none) = true) from fun z => by simp at z)]
        have fin : wpAny (model X.prog X.w) X.A (setFlight (.ref a) X.env.frame) (fun _ s4 => wpAny (model X.prog X.w) X.A (throw (.ref a) : Sem Flow) (SP X pins D) X.xe s4) X.xe { s' with heap := h3 } := by
          rw [hf]; refine HandSPX.setFlight_upZ fl fun h4 hh4 up4 => wpAny_throw (tk _ _ ⟨a, B, sI, pins, σ', H', cls, d, rfl, J, nb, (up.trans up3).trans up4, .inr (.inr ?_), na, os, ag, wish⟩); rw [hs]; exact hh4
        first | exact wpAny_bind (wpAny_pure (wpAny_bind fin)) | exact wpAny_bind fin
      | @cons x n c i ts st suite np hp hds2 l2 names slot loc body more ih =>
        intro wish; obtain ⟨b, hb1, hyes, hno⟩ := wish
        refine wpAny_handleBy_cons (codeAny_handlers_test ?_) (by intro q; cases q)
        have LT : PySem.W.Looks (model X.prog X.w) h3 (typeOf (.ref a)) cls := fun A Q E s k q => wpAny_typeOf_ref (k _ _ he3) (by rw [hz3.1]; exact q)
        have LM := PySem.W.exm_one (M := model X.prog X.w) (J3.kIn) LT hb1
        have test : ∀ {Q : Value → Shared → Prop} {E : Value → Shared → Prop}, Q c { s' with heap := h3 } → wpAny (model X.prog X.w) (X.A.mark (some (.ref a))) (eval (.Name x np) X.env) Q E { s' with heap := h3 } := fun {Q E} q => by
          obtain ⟨hg, hdbg, hm | ⟨hm, hv, hnn⟩⟩ := names
          · exact ld_glob (X := X.suite a ((a, oe3) :: (X.pn ++ pins))) S3 hg hm q hdbg
          · exact ld_blt (X := X.suite a ((a, oe3) :: (X.pn ++ pins))) S3 hg hm hv q hnn hdbg
        refine test (LM.here ?_)
        cases b with
        | true =>
          refine codeAny_handlers_suite_as (HandSPX.lands_againZ fl fun h4 fl4 up4 => ?_)
          have J4 : Inv X pins σ' H' { s' with heap := h4 } := J.landed nb fl4.1 ((up.trans up3).trans up4) os ag; obtain ⟨oe4, vs4, he4, hz4, hd4⟩ := fl4.there
          refine store_ok (X := X.suite a ((a, oe4) :: (X.pn ++ pins))) (v := .ref a) (J4.suite he4 hd4 na nL nF) hN slot (.inl loc) rfl (fun s5 S5 => ?_) (.inr loc)
          refine wpAny_mono ((body a oe4 cls d (X.pn ++ pins) hz4 ⟨_, hd4⟩).run [] s5 _ H' _ S5 (hyes rfl a na)) (fun f s6 hsp => ?_) (fun _ _ z => False.elim z)
          have goes : ∀ {σ6 : L2.St} {H6 : Hp} {Q : Shared → Prop}, Inv (X.suite a ((a, oe4) :: (X.pn ++ pins))) [] σ6 H6 s6 → (∀ s7, Inv X pins (σ6.set i none) H6 s7 → Q s7) → wpAny (model X.prog X.w) X.A (do bindName X.env n .none; unbindBehindTheSuite X.env n hp) (fun _ s7 => Q s7) X.xe s6 := fun {σ6 H6 Q} S6 hq => gone_ok (S6.unsuite ok) hN slot loc hq
          cases f with
          | next => obtain ⟨σ6, H6, S6, q6⟩ := hsp; exact goes S6 fun s7 J7 => ⟨_, _, J7, q6⟩
          | brk => obtain ⟨σ6, H6, S6, q6⟩ := hsp; exact goes S6 fun s7 J7 => ⟨_, _, J7, q6⟩
          | cont => obtain ⟨σ6, H6, S6, q6⟩ := hsp; exact goes S6 fun s7 J7 => ⟨_, _, J7, q6⟩
          | ret u => obtain ⟨v6, σ6, H6, S6, r6, q6⟩ := hsp; exact goes S6 fun s7 J7 => ⟨_, _, _, J7, r6, q6⟩
        | false =>
          show wpAny _ X.A (handleBy (.ref a) X.env hds2) _ _ _
          exact ih (hno rfl)
    exact walk cl wish
  · cases f with
    | next => obtain ⟨σ', H', J', q⟩ := hsp; exact wpAny_execs_nil ⟨σ', H', J'.ofTry ok, q⟩
    | brk => obtain ⟨σ', H', J', q⟩ := hsp; exact ⟨σ', H', J'.ofTry ok, q⟩
    | cont => obtain ⟨σ', H', J', q⟩ := hsp; exact ⟨σ', H', J'.ofTry ok, q⟩
    | ret u => obtain ⟨v, σ', H', J', r, q⟩ := hsp; exact ⟨v, σ', H', J'.ofTry ok, r, q⟩
end
end WD
namespace WD
open PySem PySem.Spec PyProof.Rows L2
theorem lc_genJ {α : Type} {R : Rl α} [Rep R] {W : It} {n : Nat} {G : Hp → Prop} {Y : Nat → Hp → V → Hp → Prop} (w : Walk W n G Y) {g : TG} {tt : TT} {te : TE} {vs : List Nat} {σ : L2.St} {H1 : Hp} {Q : Addr → Hp → Prop}
    {M Mf : MS} {J : Nat → Hp → Prop} (hMf : ∀ x, Mf x → M x) (hJm : ∀ i, JOk Mf (J i)) (hn : n ≤ 1000000) (hM : MIn M H1) (hJ : J 0 H1) (P : Nat → Option α → Prop)
    (hG : ∀ M' H', Tr M H1 M' H' → Fr Mf H1 H' → G H')
    (hb : ∀ i M' H', i < n → Tr M H1 M' H' → Fr Mf H1 H' → MIn M' H' → (∀ x, M x → M' x) → J i H' → ∀ (Ky : V → Hp → Prop) (Kn : Hp → Prop),
      (∀ y H4 a, P i (some a) → Fr Mf H' H4 → J (i + 1) H4 → R M' H4 y a → Ky y H4) → (∀ H3, P i none → Fr Mf H' H3 → J (i + 1) H3 → Kn H3) →
      ∀ x H'', Y i H' x H'' → g x (wipe σ vs) H'' fun σ2 H2 => wipe σ2 vs = wipe σ vs ∧ tt σ2 H2 fun b H3 => if b = true then te σ2 H3 Ky else Kn H3)
    (k : ∀ (D : Addr) (l : List (Option α)) (H' : Hp), H1 D = none → l.length = n → (∀ i o, l[i]? = some o → P i o) → Fr Mf H1 H' → J n H' → rL R M H' (.ref D) (l.filterMap id) → Q D H') :
    ∀ D, H1 D = none → ∃ W' : Nat → Nat → Hp → Prop, (∃ m, W' 0 m (upd H1 D (.lst []))) ∧ ∀ i m H, W' i m H →
      (W.stop i H ∧ Q D H) ∨ (W.go i H ∧ ∃ Nx : Hp → Prop, (∀ H', Nx H' → ∃ m', m' < m ∧ W' (i + 1) m' H') ∧ ∀ x H', W.yld i H x H' → g x (wipe σ vs) H' fun σ2 H2 => wipe σ2 vs = wipe σ vs ∧ tt σ2 H2 fun b H3 =>
        if b = true then te σ2 H3 fun y H4 => ∃ acc, H4 D = some (.lst acc) ∧ acc.length < sizeLine ∧ Nx (upd H4 D (.lst (acc ++ [y]))) else Nx H3) := by
  intro D hD
  have nD : ¬ M D := hM.no hD
  have nDf : ¬ Mf D := fun z => nD (hMf D z)
  have jup : ∀ {i : Nat} {H : Hp} {o : HO}, J i H → J i (upd H D o) := fun {i H o} h => hJm i H _ (fun x hx => upd_ne (fun z => nDf (z ▸ hx))) h
  have base : Tr M H1 (plus M D) (upd H1 D (.lst [])) := fun {_ _ _ _ _} h => Rep.st (Fr.new hD) (Rep.ad hD h)
  have up : ∀ {H H' : Hp}, Fr Mf H H' → Fr (plus M D) H H' := fun f => f.mono fun x z => .inl (hMf x z)
  refine lc_it w (fun i H => ∃ l : List (Option α), l.length = i ∧ (∀ j o, l[j]? = some o → P j o) ∧ Fr Mf H1 H ∧ J i H ∧ Tr M H1 (plus M D) H ∧ MIn (plus M D) H ∧ ∃ acc, H D = some (.lst acc) ∧ All2 (R (plus M D) H) acc (l.filterMap id))
    ⟨[], rfl, fun j o e => by simp at e, Fr.new hD, jup hJ, base, (hM.to (M' := M) (Fr.new hD)).plus upd_same, [], upd_same, trivial⟩ (fun i H _ ⟨l, _, _, f, _, t, _⟩ => hG _ _ t f) (fun i x H H' hi ⟨l, ll, lP, f, j, t, mi, acc, ha, al⟩ hy => ?_) (fun H ⟨l, ll, lP, f, j, t, mi, acc, ha, al⟩ => ?_)
  · refine hb i (plus M D) H hi t f mi (fun x h => .inl h) j _ _ (fun y H4 a pa f4 j4 r4 => ?_) (fun H3 pn f3 j3 => ?_) x H' hy
    · have hD4 : H4 D = some (.lst acc) := f4.keep D _ nDf ha
      have sz : acc.length < sizeLine := by
        have h1 := al.len
        have h2 : (l.filterMap id).length ≤ l.length := List.length_filterMap_le _ _
        have h3 := sizeLine_eq
        omega
      refine ⟨acc, hD4, sz, l ++ [some a], by rw [List.length_append, ll]; rfl, fun j o e => ?_, (f.trans f4).mutNew hD, jup j4, ?_, ?_, acc ++ [y], upd_same, ?_⟩
      · by_cases hj : j < l.length
        · rw [List.getElem?_append_left hj] at e; exact lP j o e
        · rw [List.getElem?_append_right (by omega)] at e
          have hj2 : j - l.length = 0 := by
            have := (List.getElem?_eq_some_iff.mp e).1
            simp at this; omega
          rw [hj2] at e
          have ej : j = i := by omega
          rw [ej, ← Option.some.inj e]
          exact pa
      · intro β S _ v b h
        exact Rep.st (M := plus M D) (Fr.mut (.inr rfl)) (Rep.st (up f4) (t h))
      · exact (mi.to f4).to (M' := plus M D) (Fr.mut (.inr rfl))
      · rw [filterMap_snoc]
        refine All2.app (al.imp fun v b z => ?_) (All2.one ?_)
        · exact Rep.st (M := plus M D) (Fr.mut (.inr rfl)) (Rep.st (up f4) z)
        · exact Rep.st (M := plus M D) (Fr.mut (.inr rfl)) r4
    · have hD3 : H3 D = some (.lst acc) := f3.keep D _ nDf ha
      refine ⟨l ++ [none], by rw [List.length_append, ll]; rfl, fun j o e => ?_, f.trans f3, j3, ?_, mi.to f3, acc, hD3, ?_⟩
      · by_cases hj : j < l.length
        · rw [List.getElem?_append_left hj] at e; exact lP j o e
        · rw [List.getElem?_append_right (by omega)] at e
          have hj2 : j - l.length = 0 := by
            have := (List.getElem?_eq_some_iff.mp e).1
            simp at this; omega
          rw [hj2] at e
          have ej : j = i := by omega
          rw [ej, ← Option.some.inj e]
          exact pn
      · intro β S _ v b h
        exact Rep.st (up f3) (t h)
      · rw [filterMap_snoc]
        show All2 _ _ (l.filterMap id ++ [])
        rw [List.append_nil]
        exact al.imp fun v b z => Rep.st (up f3) z
  · exact k D l H hD ll lP f j ⟨D, acc, rfl, nD, ha, al.imp fun v b z => Rep.wk (fun _ q => .inl q) z⟩

/-! ### any data -/
mutual
def rJ (M : MS) (H : Hp) : V → PyData → Prop
  | v, .none => v = .non
  | v, .bool b => v = .bl b
  | v, .int i => v = .int i
  | v, .str x => v = .str x ∧ PyData.strOk x = true
  | v, .list l => ∃ a vs, v = .ref a ∧ ¬ M a ∧ H a = some (.lst vs) ∧ rJs M H vs l
  | v, .tuple l => ∃ a vs, v = .ref a ∧ ¬ M a ∧ H a = some (.tup vs) ∧ rJs M H vs l
  | _, .dict _ => False
def rJs (M : MS) (H : Hp) : List V → List PyData → Prop
  | [], [] => True
  | v :: vs, d :: ds => rJ M H v d ∧ rJs M H vs ds
  | _, _ => False
end
abbrev rX : Rl PyData := rJ
theorem rJs_all {M : MS} {H : Hp} : ∀ {vs : List V} {ds : List PyData}, rJs M H vs ds ↔ All2 (rJ M H) vs ds
  | [], [] => by unfold rJs All2; exact Iff.rfl
  | v :: vs, d :: ds => by
    unfold rJs All2
    exact and_congr Iff.rfl rJs_all
  | [], _ :: _ => by unfold rJs All2; exact Iff.rfl
  | _ :: _, [] => by unfold rJs All2; exact Iff.rfl
theorem rJ_list {M : MS} {H : Hp} {v : V} {l : List PyData} : rJ M H v (.list l) ↔ rL rX M H v l := by
  unfold rJ rL
  exact ⟨fun ⟨a, vs, h1, h2, h3, h4⟩ => ⟨a, vs, h1, h2, h3, rJs_all.mp h4⟩, fun ⟨a, vs, h1, h2, h3, h4⟩ => ⟨a, vs, h1, h2, h3, rJs_all.mpr h4⟩⟩
theorem rJ_tuple {M : MS} {H : Hp} {v : V} {l : List PyData} : rJ M H v (.tuple l) ↔ rT rX M H v l := by
  unfold rJ rT
  exact ⟨fun ⟨a, vs, h1, h2, h3, h4⟩ => ⟨a, vs, h1, h2, h3, rJs_all.mp h4⟩, fun ⟨a, vs, h1, h2, h3, h4⟩ => ⟨a, vs, h1, h2, h3, rJs_all.mpr h4⟩⟩
theorem rJ_int {M : MS} {H : Hp} {v : V} {i : Int} : rJ M H v (.int i) ↔ v = .int i := by unfold rJ; exact Iff.rfl
theorem rJ_bool {M : MS} {H : Hp} {v : V} {i : Bool} : rJ M H v (.bool i) ↔ v = .bl i := by unfold rJ; exact Iff.rfl
theorem rJ_none {M : MS} {H : Hp} {v : V} : rJ M H v .none ↔ v = .non := by unfold rJ; exact Iff.rfl
theorem rJ_str {M : MS} {H : Hp} {v : V} {x : Str} : rJ M H v (.str x) ↔ rS M H v x := by unfold rJ; exact Iff.rfl
mutual
theorem rJ_st {M M' : MS} {H H' : Hp} (na : ∀ a, ¬ M a → H a ≠ none → ¬ M' a) (f : ∀ a o, ¬ M a → H a = some o → H' a = some o) : ∀ (d : PyData) (v : V), rJ M H v d → rJ M' H' v d
  | .none, v, h => by unfold rJ at h ⊢; exact h
  | .bool b, v, h => by unfold rJ at h ⊢; exact h
  | .int i, v, h => by unfold rJ at h ⊢; exact h
  | .str x, v, h => by unfold rJ at h ⊢; exact h
  | .list l, v, h => by
    unfold rJ at h ⊢
    obtain ⟨a, vs, h1, h2, h3, h4⟩ := h
    exact ⟨a, vs, h1, na a h2 (by rw [h3]; exact fun z => nomatch z), f a _ h2 h3, rJs_st na f l vs h4⟩
  | .tuple l, v, h => by
    unfold rJ at h ⊢
    obtain ⟨a, vs, h1, h2, h3, h4⟩ := h
    exact ⟨a, vs, h1, na a h2 (by rw [h3]; exact fun z => nomatch z), f a _ h2 h3, rJs_st na f l vs h4⟩
  | .dict _, v, h => by unfold rJ at h; exact h.elim
theorem rJs_st {M M' : MS} {H H' : Hp} (na : ∀ a, ¬ M a → H a ≠ none → ¬ M' a) (f : ∀ a o, ¬ M a → H a = some o → H' a = some o) : ∀ (ds : List PyData) (vs : List V), rJs M H vs ds → rJs M' H' vs ds
  | [], [], _ => by unfold rJs; trivial
  | d :: ds, v :: vs, h => by
    unfold rJs at h ⊢
    exact ⟨rJ_st na f d v h.1, rJs_st na f ds vs h.2⟩
  | [], _ :: _, h => by unfold rJs at h; exact h.elim
  | _ :: _, [], h => by unfold rJs at h; exact h.elim
end
instance : Rep rX := ⟨fun f h => rJ_st (fun _ n _ => n) f.keep _ _ h, fun s h => rJ_st (fun a n _ z => n (s a z)) (fun _ _ _ e => e) _ _ h,
  fun hD h => rJ_st (fun a n ne z => z.elim n (fun e => ne (by rw [e]; exact hD))) (fun _ _ _ e => e) _ _ h⟩
mutual
theorem rJ_dp {K : PySem.W.Frag} {M : MS} {H : Hp} : ∀ (d : PyData) (v : V), rJ M H v d → Dp K H v d ∧ d.canLay0 = true
  | .none, v, h => by unfold rJ at h; subst h; exact ⟨.non, rfl⟩
  | .bool b, v, h => by unfold rJ at h; subst h; exact ⟨.bl b, rfl⟩
  | .int i, v, h => by unfold rJ at h; subst h; exact ⟨.int i, rfl⟩
  | .str x, v, h => by unfold rJ at h; obtain ⟨rfl, h⟩ := h; exact ⟨.str x, h⟩
  | .list l, v, h => by
    unfold rJ at h
    obtain ⟨a, vs, rfl, h2, h3, h4⟩ := h
    obtain ⟨g1, g2⟩ := rJs_dp (K := K) l vs h4
    exact ⟨.lst (SqL.of h3) g1, g2⟩
  | .tuple l, v, h => by
    unfold rJ at h
    obtain ⟨a, vs, rfl, h2, h3, h4⟩ := h
    obtain ⟨g1, g2⟩ := rJs_dp (K := K) l vs h4
    exact ⟨.tup (SqT.of h3) g1, g2⟩
  | .dict _, v, h => by unfold rJ at h; exact h.elim
theorem rJs_dp {K : PySem.W.Frag} {M : MS} {H : Hp} : ∀ (ds : List PyData) (vs : List V), rJs M H vs ds → DpAll K H vs ds ∧ PyData.canLayAll0 ds = true
  | [], [], _ => ⟨.nil, rfl⟩
  | d :: ds, v :: vs, h => by
    unfold rJs at h
    obtain ⟨h1, h2⟩ := rJ_dp (K := K) d v h.1
    obtain ⟨h3, h4⟩ := rJs_dp (K := K) ds vs h.2
    exact ⟨.cons h1 h3, by show (d.canLay0 && PyData.canLayAll0 ds) = true; rw [h2, h4]; rfl⟩
  | [], _ :: _, h => by unfold rJs at h; exact h.elim
  | _ :: _, [], h => by unfold rJs at h; exact h.elim
end
/-- == and != of any data -/
theorem eqJ {K : PySem.W.Frag} {M M' : MS} {H : Hp} {x y : V} {d e : PyData} {Q : VK} (h1 : rJ M H x d) (h2 : rJ M' H y e) (n1 : d.depth ≤ 64) (n2 : e.depth ≤ 64) (k : Q (.bl (PyData.eqv d e)) H) : rEqD K x y H Q := by
  obtain ⟨a1, a2⟩ := rJ_dp (K := K) d x h1
  obtain ⟨b1, b2⟩ := rJ_dp (K := K) e y h2
  exact ⟨d, e, a1, b1, shaped_of a2 n1 (Nat.le_refl _), shaped_of b2 n2 (Nat.le_refl _), k⟩
theorem neJ {K : PySem.W.Frag} {M M' : MS} {H : Hp} {x y : V} {d e : PyData} {Q : VK} (h1 : rJ M H x d) (h2 : rJ M' H y e) (n1 : d.depth ≤ 64) (n2 : e.depth ≤ 64) (k : Q (.bl (!PyData.eqv d e)) H) : rNeD K x y H Q := by
  obtain ⟨a1, a2⟩ := rJ_dp (K := K) d x h1
  obtain ⟨b1, b2⟩ := rJ_dp (K := K) e y h2
  exact ⟨d, e, a1, b1, shaped_of a2 n1 (Nat.le_refl _), shaped_of b2 n2 (Nat.le_refl _), k⟩
/-! ints as data -/
theorem all_ints {M : MS} {H : Hp} : ∀ {vs : List V} {l : List Int}, All2 (rI M H) vs l → All2 (rJ M H) vs (l.map .int)
  | [], [], _ => trivial
  | _ :: _, _ :: _, h => ⟨rJ_int.mpr h.1, all_ints h.2⟩
  | [], _ :: _, h => h.elim
  | _ :: _, [], h => h.elim
theorem ints_all {M : MS} {H : Hp} : ∀ {vs : List V} {l : List Int}, All2 (rJ M H) vs (l.map .int) → All2 (rI M H) vs l
  | [], [], _ => trivial
  | _ :: _, _ :: _, h => ⟨rJ_int.mp h.1, ints_all h.2⟩
  | [], _ :: _, h => h.elim
  | _ :: _, [], h => h.elim
theorem tupJ {M : MS} {H : Hp} {v : V} {l : List Int} : rJ M H v (.tuple (l.map .int)) ↔ rT rI M H v l :=
  ⟨fun h => by
    obtain ⟨a, vs, h1, h2, h3, h4⟩ := rJ_tuple.mp h
    exact ⟨a, vs, h1, h2, h3, ints_all h4⟩, fun ⟨a, vs, h1, h2, h3, h4⟩ => rJ_tuple.mpr ⟨a, vs, h1, h2, h3, all_ints h4⟩⟩
theorem lstJ {M : MS} {H : Hp} {v : V} {l : List Int} : rJ M H v (.list (l.map .int)) ↔ rL rI M H v l :=
  ⟨fun h => by
    obtain ⟨a, vs, h1, h2, h3, h4⟩ := rJ_list.mp h
    exact ⟨a, vs, h1, h2, h3, ints_all h4⟩, fun ⟨a, vs, h1, h2, h3, h4⟩ => rJ_list.mpr ⟨a, vs, h1, h2, h3, all_ints h4⟩⟩
/-! ### things, rows of any data -/
def wholeD : PyData → Bool
  | .int _ => true
  | _ => false
def thingD (n : Int) : PyData → Bool
  | .int i => inR n i
  | _ => false
def tupD : PyData → Bool
  | .tuple _ => true
  | _ => false
def lstD : PyData → Bool
  | .list _ => true
  | _ => false
def itemsD : PyData → List PyData
  | .tuple l => l
  | .list l => l
  | _ => []
def rowD (d : PyData) (m n : Int) : Bool := match d with
  | .tuple l => decide ((l.length : Int) = m) && l.all (thingD n)
  | _ => false
def tyD : PyData → String
  | .none => "NoneType"
  | .bool _ => "bool"
  | .int _ => "int"
  | .str _ => "str"
  | .list _ => "list"
  | .tuple _ => "tuple"
  | .dict _ => "dict"
theorem tyJ {K : PySem.W.Frag} {M : MS} {H : Hp} {v : V} {d : PyData} (h : rJ M H v d) : TyX K H v (.type (tyD d)) := by
  cases d with
  | none => cases rJ_none.mp h; exact .base .non
  | bool b => cases rJ_bool.mp h; exact .base (.bl b)
  | int i => cases rJ_int.mp h; exact .base (.int i)
  | str x => obtain ⟨rfl, _⟩ := rJ_str.mp h; exact .base (.str x)
  | list l => obtain ⟨a, vs, rfl, _, h3, _⟩ := rJ_list.mp h; exact .base (.lst h3)
  | tuple l => obtain ⟨a, vs, rfl, _, h3, _⟩ := rJ_tuple.mp h; exact .base (.tup h3)
  | dict l => unfold rJ at h; exact h.elim
theorem kitTup (d : PyData) : kitB (tyD d) "tuple" = some (tupD d) := by
  cases d with
  | none => show kitB "NoneType" "tuple" = some false; decide +kernel
  | bool b => show kitB "bool" "tuple" = some false; decide +kernel
  | int i => show kitB "int" "tuple" = some false; decide +kernel
  | str x => show kitB "str" "tuple" = some false; decide +kernel
  | list l => show kitB "list" "tuple" = some false; decide +kernel
  | tuple l => show kitB "tuple" "tuple" = some true; decide +kernel
  | dict l => show kitB "dict" "tuple" = some false; decide +kernel
theorem kitLst (d : PyData) : kitB (tyD d) "list" = some (lstD d) := by
  cases d with
  | none => show kitB "NoneType" "list" = some false; decide +kernel
  | bool b => show kitB "bool" "list" = some false; decide +kernel
  | int i => show kitB "int" "list" = some false; decide +kernel
  | str x => show kitB "str" "list" = some false; decide +kernel
  | list l => show kitB "list" "list" = some true; decide +kernel
  | tuple l => show kitB "tuple" "list" = some false; decide +kernel
  | dict l => show kitB "dict" "list" = some false; decide +kernel
theorem wholeJ {K : PySem.W.Frag} {M : MS} {H : Hp} {v : V} {d : PyData} (h : rJ M H v d) : Whole K H v (wholeD d) := by
  have ty := tyJ (K := K) h
  cases d with
  | none => exact .oth ty (show kitB "NoneType" "int" = some false by decide +kernel)
  | bool b => cases rJ_bool.mp h; exact .bl b
  | int i => cases rJ_int.mp h; exact .int i
  | str x => exact .oth ty (show kitB "str" "int" = some false by decide +kernel)
  | list l => exact .oth ty (show kitB "list" "int" = some false by decide +kernel)
  | tuple l => exact .oth ty (show kitB "tuple" "int" = some false by decide +kernel)
  | dict l => exact .oth ty (show kitB "dict" "int" = some false by decide +kernel)
theorem thingJ {K : PySem.W.Frag} {M : MS} {H : Hp} {v : V} {d : PyData} {n : Int} (h : rJ M H v d) : Thing K H n v (thingD n d) := by
  have ty := tyJ (K := K) h
  cases d with
  | none => exact .oth ty (show kitB "NoneType" "int" = some false by decide +kernel)
  | bool b => cases rJ_bool.mp h; exact .bl b
  | int i => cases rJ_int.mp h; exact .int i
  | str x => exact .oth ty (show kitB "str" "int" = some false by decide +kernel)
  | list l => exact .oth ty (show kitB "list" "int" = some false by decide +kernel)
  | tuple l => exact .oth ty (show kitB "tuple" "int" = some false by decide +kernel)
  | dict l => exact .oth ty (show kitB "dict" "int" = some false by decide +kernel)
/-- l.count(x), ints -/
def rCountI (K : PySem.W.Frag) : V → List V → Hp → VK → Prop := fun x xs H Q => ∃ (a : Addr) (ns : List Int) (i : Int), x = .ref a ∧ xs = [.int i] ∧ SqL K H a (ns.map V.int) ∧ Q (.int (ns.countP fun y => decide (y = i) : Nat)) H
theorem plain_ints : ∀ ns : List Int, PyData.plainAll (ns.map PyData.int) = true
  | [] => rfl
  | n :: ns => by
    show (true && PyData.plainAll (ns.map PyData.int)) = true
    rw [plain_ints ns]; rfl
theorem mt_countI {X : Cx} (hu : X.A.units + 1 < cLine) : MtR X "list.count" (rCountI X.K) := by
  intro pins s σ H x xs v us Q I rx rxs h
  obtain ⟨a, ns, i, rfl, rfl, hs, q⟩ := h
  cases rx
  cases rxs with
  | cons ry rt =>
    cases rt
    obtain ⟨t, rfl⟩ := (show ∃ t, _ = Value.int i t from ry)
    obtain ⟨its, rv, ⟨⟨cls, dd, data, sls⟩, n, ho, hc, hdn, hdt⟩, hlen⟩ := I.list hs
    simp only at hc hdt
    obtain ⟨as, hr⟩ := Dp.readsAll I _ _ its (dpInts ns) rv
    obtain ⟨bs, r1⟩ := Dp.reads I (.int i) (.int i) (.int i t) (.int i) ⟨t, rfl⟩
    refine PySem.SeqAt.count_list_data (vs := its.toArray) ⟨_, ho, hc, n, hdt⟩ hr r1 (plain_ints ns) rfl (by
      show X.A.units + 1 + min _ 0 < cLine
      rw [Nat.min_zero]; exact hu) ?_
    have e : (ns.map PyData.int).countP (fun y => PyData.eqv y (.int i)) = ns.countP fun y => decide (y = i) := by
      rw [List.countP_map]
      refine List.countP_congr fun y _ => ?_
      show (y == i) = true ↔ decide (y = i) = true
      rw [Bool.beq_eq_decide_eq]
    rw [e]
    exact ⟨.int _, H, I.tok _, ⟨_, rfl⟩, q⟩
theorem rowD_ints {d : PyData} {m n : Int} (h : rowD d m n = true) : ∃ l : List Int, d = .tuple (l.map .int) ∧ (l.length : Int) = m ∧ ∀ x ∈ l, 0 ≤ x ∧ x < n := by
  cases d with
  | tuple l =>
    have h' : (decide ((l.length : Int) = m) && l.all (thingD n)) = true := h
    simp only [Bool.and_eq_true, decide_eq_true_eq] at h'
    obtain ⟨h1, h2⟩ := h'
    have key : ∀ l : List PyData, l.all (thingD n) = true → ∃ k : List Int, l = k.map .int ∧ ∀ x ∈ k, 0 ≤ x ∧ x < n := by
      intro l
      induction l with
      | nil => intro _; exact ⟨[], rfl, fun x h => by cases h⟩
      | cons e l ih =>
        intro h
        rw [List.all_cons, Bool.and_eq_true] at h
        obtain ⟨k, e1, e2⟩ := ih h.2
        cases e with
        | int i =>
          have h3 : inR n i = true := h.1
          unfold inR at h3
          simp only [Bool.and_eq_true, decide_eq_true_eq] at h3
          refine ⟨i :: k, by rw [e1]; rfl, fun x hx => ?_⟩
          rcases List.mem_cons.mp hx with q | q
          · rw [q]; exact h3
          · exact e2 x q
        | _ => exact absurd h.1 (fun z => nomatch z)
    obtain ⟨k, e1, e2⟩ := key l h2
    exact ⟨k, by rw [e1], by rw [e1, List.length_map] at h1; exact h1, e2⟩
  | _ => cases h
end WD
/-! enumerate of a tuple -/
namespace WD
open PySem PySem.Spec PyProof.Rows L2
open AutoSeq1 (wpAny_loadPart')
section
variable {prog : Program} {w : World} {A : Around} {E : Value → Shared → Prop}
/-- a turn of an enumerate whose inner iterator gives x and then stands as P says -/
theorem enum_turn {s : Shared} {e it : Addr} {i : Nat} {x old : Value} {P : Heap → Prop} {Q : Value → Shared → Prop} (he : IsEnum s.heap e it i old) (hne : e ≠ it)
    (next : ∀ {Q' : Value → Shared → Prop}, (∀ h', P h' → Heap.SameBut it s.heap h' → Q' x { s with heap := h' }) → wpAny (model prog w) A (Builtin.SmallTypes.nextOf (.ref it)) Q' E s)
    (st : ∀ {h h'}, P h → Heap.ExtBut e h h' → P h')
    (hQ : ∀ h', IsEnumOut h' e it ((i : Int) + 1) x s.heap.objs.size → P h' → h'.get? s.heap.objs.size = some { cls := .type "tuple", data := .seq #[.int i s.toks, x] } →
      (∀ b o, b ≠ e → b ≠ it → s.heap.get? b = some o → h'.get? b = some o) → Q (.ref s.heap.objs.size) { s with heap := h', toks := s.toks + 1 }) :
    wpAny (model prog w) A (Builtin.«enumerate.__next__» ⟨[.ref e], []⟩) (fun fin s' => ∃ v, fin = .done (.ret v) ∧ Q v s') E s := by
  obtain ⟨hp, g, d, tk, os⟩ := s
  dsimp only at he next hQ
  have lt : e < hp.objs.size := Heap.lt_size he
  show wpAny _ _ (field (.ref e) 2 >>= _) _ _ ⟨hp, g, d, tk, os⟩
  refine wpAny_bind (wpAny_field he rfl (x := .ref it) rfl (wpAny_bind (next fun h1 p1 s1 => ?_)))
  have e1 : IsEnum h1 e it i old := (s1.2 e hne).trans he
  show wpAny _ _ (field (.ref e) 3 >>= _) _ _ _
  refine wpAny_bind (wpAny_field e1 rfl (x := rawInt i) rfl ?_)
  show wpAny _ _ (field (.ref e) 4 >>= _) _ _ _
  refine wpAny_bind (wpAny_field e1 rfl (x := .none) rfl ?_)
  show wpAny _ _ (mkInt i >>= _) _ _ _
  refine wpAny_bind (wpAny_mkInt ?_)
  show wpAny _ _ (setField (.ref e) 3 (rawInt ((i : Int) + 1)) >>= _) _ _ _
  refine wpAny_bind (wpAny_setField_rec e1 (by simp) fun h2 e2 s2 => ?_)
  have e2' : IsEnum h2 e it ((i : Int) + 1) old := e2
  show wpAny _ _ (setField (.ref e) 4 .none >>= _) _ _ _
  refine wpAny_bind (wpAny_setField_rec e2' (by simp) fun h3 e3 s3 => ?_)
  have e3' : IsEnum h3 e it ((i : Int) + 1) old := e3
  have p3 : P h3 := st (st p1 (Heap.SameBut.extBut s2)) (Heap.SameBut.extBut s3)
  have sz : h3.objs.size = hp.objs.size := s3.1.trans (s2.1.trans s1.1)
  have k3 : ∀ b o, b ≠ e → b ≠ it → hp.get? b = some o → h3.get? b = some o := fun b o n1 n2 q => (s3.2 b n1).trans ((s2.2 b n1).trans ((s1.2 b n2).trans q))
  show wpAny _ _ (newTuple [.int i tk, x] >>= _) _ _ _
  refine wpAny_bind (wpAny_newTuple ?_)
  have e4 : IsEnum (h3.push { cls := .type "tuple", data := .seq #[.int i tk, x] }) e it ((i : Int) + 1) old := Heap.get?_push_of_some _ e3'
  have t4 : (h3.push { cls := .type "tuple", data := .seq #[.int i tk, x] }).get? hp.objs.size = some { cls := .type "tuple", data := .seq #[.int i tk, x] } := sz ▸ Heap.get?_push_size _ rfl
  have p4 : P (h3.push { cls := .type "tuple", data := .seq #[.int i tk, x] }) := st p3 fun b o _ q => Heap.get?_push_of_some _ q
  have k4 : ∀ b o, b ≠ e → b ≠ it → hp.get? b = some o → (h3.push { cls := .type "tuple", data := .seq #[.int i tk, x] }).get? b = some o := fun b o n1 n2 q => Heap.get?_push_of_some _ (k3 b o n1 n2 q)
  generalize h3.push { cls := .type "tuple", data := .seq #[.int i tk, x] } = h4 at e4 t4 p4 k4
  show wpAny _ _ (Builtin.SmallTypes.ownedTupleIsFree (.ref e) >>= _) _ _ ⟨h4, g, d, tk + 1, os⟩
  rw [sz]
  refine wpAny_bind ?_
  unfold Builtin.SmallTypes.ownedTupleIsFree
  refine wpAny_bind (wpAny_field e4 rfl (x := .none) rfl (wpAny_pure ?_))
  simp only [if_true]
  refine wpAny_bind (wpAny_rule (wpAny_bind (wpAny_field e4 rfl (x := old) rfl (wpAny_bind (wpAny_setField_rec e4 (by simp) fun h5 e5 s5 => ?_)))))
  have e5' : IsEnum h5 e it ((i : Int) + 1) x := e5
  show wpAny _ _ (Builtin.SmallTypes.ownedTupleHandOut (.ref e) (.ref hp.objs.size) >>= _) _ _ _
  refine wpAny_bind ?_
  unfold Builtin.SmallTypes.ownedTupleHandOut
  refine wpAny_bind (wpAny_setField_rec e5' (by simp) fun h6 e6 s6 => ?_)
  have e6' : IsEnumOut h6 e it ((i : Int) + 1) x hp.objs.size := e6
  refine wpAny_setField_rec e6' (by simp) fun h7 e7 s7 => ?_
  refine wpAny_bind (wpAny_letGo (wpAny_pure ⟨_, rfl, hQ h7 e7 ?_ ?_ ?_⟩))
  · exact st (st (st p4 (Heap.SameBut.extBut s5)) (Heap.SameBut.extBut s6)) (Heap.SameBut.extBut s7)
  · exact (s7.2 _ (Nat.ne_of_gt lt)).trans ((s6.2 _ (Nat.ne_of_gt lt)).trans ((s5.2 _ (Nat.ne_of_gt lt)).trans t4))
  · exact fun b o n1 n2 q => (s7.2 b n1).trans ((s6.2 b n1).trans ((s5.2 b n1).trans (k4 b o n1 n2 q)))
theorem enumT_item {s : Shared} {e it l : Addr} {i : Nat} {items : Array Value} {x old : Value} {Q : Option Value → Shared → Prop} (he : IsEnum s.heap e it i old) (hit : s.heap.IsTupleIter it l i) (hl : s.heap.IsTuple l items) (hx : items[i]? = some x) (hne : e ≠ it)
    (hQ : ∀ h', IsEnumOut h' e it ((i : Int) + 1) x s.heap.objs.size → h'.IsTupleIter it l (i + 1) → h'.get? s.heap.objs.size = some { cls := .type "tuple", data := .seq #[.int i s.toks, x] } →
      (∀ b o, b ≠ e → b ≠ it → s.heap.get? b = some o → h'.get? b = some o) → Q (some (.ref s.heap.objs.size)) { s with heap := h', toks := s.toks + 1 }) : wpAny (model prog w) A (pyNext (.ref e)) Q E s := by
  have hT : s.TypeIs (.ref e) "enumerate" := ⟨_, he, rfl⟩
  unfold pyNext
  refine wpAny_bind (wpAny_attempt (wpAny_callSpecial?_slot (name := Str.ofString "__next__") hT F.slot_enumerate_next (wpAny_call_entry F.slot_enumerate_next hT F.entry_enumerate_next (enum_turn (x := x) (P := fun h => h.IsTupleIter it l (i + 1)) he hne ?_ ?_ ?_) (F.args_enumerate_next_1 _))))
  · exact fun q => RZ.nextOf_tuple_item hit hl hx q
  · exact fun {h h'} p k => p.extBut k (Ne.symm hne)
  · exact fun h' a b c k => wpAny_pure (hQ h' a b c k)
theorem enumT_end {s : Shared} {e it l : Addr} {i : Nat} {items : Array Value} {old : Value} {Q : Option Value → Shared → Prop} (hh : A.handled = none) (he : IsEnum s.heap e it i old) (hit : s.heap.IsTupleIter it l i) (hl : s.heap.IsTuple l items) (hx : items[i]? = none)
    (hQ : ∀ h', Heap.ExtBut it s.heap h' → Q none { s with heap := h' }) : wpAny (model prog w) A (pyNext (.ref e)) Q E s := by
  have hT : s.TypeIs (.ref e) "enumerate" := ⟨_, he, rfl⟩
  unfold pyNext
  refine wpAny_bind (wpAny_attempt (wpAny_callSpecial?_slot (name := Str.ofString "__next__") hT F.slot_enumerate_next (wpAny_call_entry F.slot_enumerate_next hT F.entry_enumerate_next ?_ (F.args_enumerate_next_1 _))))
  show wpAny _ _ (field (.ref e) 2 >>= _) _ _ _
  refine wpAny_bind (wpAny_field he rfl (x := .ref it) rfl (wpAny_bind (RZ.nextOf_tuple_end hh hit hl hx fun h' x he' hx' => ?_)))
  obtain ⟨o, ho, hc⟩ := hx'
  exact wpAny_bind (wpAny_isInstance (T := "StopIteration") (b := true) ⟨o, ho, hc⟩ isSubtype_stop (wpAny_pure (hQ _ he')))
theorem enumT_new (l : Addr) (items : Array Value) (n : Nat) (dct : Option Addr) (sl : Array (Option Value)) :
    Meets (Builtin.«enumerate.__new__» ⟨[.type "enumerate", .ref l], []⟩) (fun _ R s => s.heap.get? l = some { cls := .type "tuple", dict := dct, data := .seq items n, slots := sl } ∧
      R (.ok (.ret (.ref (s.heap.push { cls := .type "tuple_iterator", data := .fields #[.ref l, .int 0 0] }).objs.size)))
        { s with heap := (s.heap.push { cls := .type "tuple_iterator", data := .fields #[.ref l, .int 0 0] }).push { cls := .type "enumerate", data := .fields #[.none, .bool false, .ref s.heap.objs.size, rawInt 0, .none, .none] } }) :=
  .of_wp fun prog w A R s h => by
    obtain ⟨hp, g, d, tk, os⟩ := s
    obtain ⟨hl, h⟩ := h
    have hsub := sub_enumerate
    have hL : Heap.IsTuple (Shared.heap ⟨hp, g, d, tk, os⟩) l items := ⟨_, hl, rfl, n, rfl⟩
    wp_walk using wpAny_loadPart' hl
    refine wpAny_stack_any fun st => wpAny_pure ?_
    split
    · rename_i c _ _ _ _ _
      cases (c == Value.type "enumerate") <;> (wp_walk using wpAny_loadPart' hl, wpAny_pyIter_tuple hL; exact ⟨_, rfl, h⟩)
    · wp_walk using wpAny_loadPart' hl, wpAny_pyIter_tuple hL
      exact ⟨_, rfl, h⟩
theorem call_enumT {s : Shared} {l : Addr} {items : Array Value} {Q : Value → Shared → Prop} (hL : s.heap.IsTuple l items)
    (h : ∀ h', IsEnum h' (s.heap.objs.size + 1) s.heap.objs.size 0 .none → h'.IsTupleIter s.heap.objs.size l 0 → (∀ b o, s.heap.get? b = some o → h'.get? b = some o) → Q (.ref (s.heap.objs.size + 1)) { s with heap := h' }) :
    wpAny (model prog w) A (call (.type "enumerate") [.ref l]) Q E s := by
  obtain ⟨⟨c, dct, dt, sl⟩, hl, hc, n, hd⟩ := hL
  simp only at hc hd
  subst hc hd
  refine callType_new F.called_enumerate (by decide) (F.typeCall_enumerate_1 _) (F.newCall_enumerate_1 _) (fun obj => F.args_object_init_2 obj _) F.entry_enumerate_new (enumT_new l items n dct sl) ⟨hl, ?_⟩
  have hz : (s.heap.push { cls := .type "tuple_iterator", data := .fields #[.ref l, .int 0 0] }).objs.size = s.heap.objs.size + 1 := Heap.size_push ..
  show _ ∧ _
  rw [hz]
  have he : IsEnum ((s.heap.push { cls := .type "tuple_iterator", data := .fields #[.ref l, .int 0 0] }).push { cls := .type "enumerate", data := .fields #[.none, .bool false, .ref s.heap.objs.size, rawInt 0, .none, .none] }) (s.heap.objs.size + 1) s.heap.objs.size 0 .none := by
    have q := Heap.get?_push_size (s.heap.push { cls := .type "tuple_iterator", data := .fields #[.ref l, .int 0 0] }) (o := { cls := .type "enumerate", data := .fields #[.none, .bool false, .ref s.heap.objs.size, rawInt 0, .none, .none] }) rfl
    rw [hz] at q
    exact q
  exact ⟨⟨_, he, rfl⟩, h _ he ⟨_, Heap.get?_push_of_some _ (Heap.get?_push_size _ rfl), rfl, rfl⟩ fun b o x => Heap.get?_push_of_some _ (Heap.get?_push_of_some _ x)⟩
end
/-- the tuple at a, each item in a new pair -/
def ItEnT (K : PySem.W.Frag) (a : Addr) : It :=
  ⟨fun i H => ∃ (xs : List V) (x : V), SqT K H a xs ∧ xs[i]? = some x, fun i H v H' => ∃ T x, v = .ref T ∧ H T = none ∧ H' = upd H T (.tup [.int (i : Nat), x]) ∧ ∀ xs, SqT K H a xs → xs[i]? = some x, fun i H => ∃ xs : List V, SqT K H a xs ∧ xs.length ≤ i⟩
theorem turn_enT {P : Program} {w : World} {K : PySem.W.Frag} {elts : List Expr} {kk : Nat} {tpos : Pos} (a e it : Addr) : Turn P w K (.Tuple elts kk tpos) (ItEnT K a) [e, it] e (fun i h => (∃ old, IsEnum h e it ((i : Nat) : Int) old) ∧ h.IsTupleIter it a i ∧ e ≠ it) where
  mem := List.mem_cons_self
  obj := fun i h st b hb => by
    obtain ⟨⟨old, he⟩, ⟨o, ho, hc, hd⟩, _⟩ := st
    rcases List.mem_cons.mp hb with z | z
    · subst z; exact ⟨_, he, nofun⟩
    · exact ⟨o, (List.mem_singleton.mp z) ▸ ho, fun v q => by rw [hd] at q; cases q⟩
  keep := fun i h h' st k => ⟨st.1.imp fun old he => k e List.mem_cons_self _ he, st.2.1.at fun o q => k it (List.mem_cons_of_mem _ List.mem_cons_self) o q, st.2.2⟩
  item := by
    intro X hP hw hK hc i pins s σ H E I hf st hg
    subst hP hw hK
    obtain ⟨⟨old, he⟩, hit, hne⟩ := st
    obtain ⟨xs, x, hq, hx⟩ := hg
    obtain ⟨its, rv, p, hz⟩ := I.tuple hq
    obtain ⟨u, hu, ru⟩ := rv.get hx
    have le : e < s.heap.objs.size := Heap.lt_size he
    have li : it < s.heap.objs.size := let ⟨_, q, _⟩ := hit; Heap.lt_size q
    refine enumT_item he hit (show s.heap.IsTuple a its.toArray from p) (x := u) (by simpa using hu) hne fun h' ho hit' hT hk => ⟨_, rfl, wpAny_letOwnedTupleGo_enum (s := { s with heap := h', toks := s.toks + 1 }) ho fun h'' he' sb => ?_⟩
    have new : ObjOk X.prog X.w (upd H s.heap.objs.size (.tup [.int (i : Nat), x])) h'' s.heap.objs.size (.tup [.int (i : Nat), x]) := ⟨by show 2 ≤ sizeLine; decide, [.int i s.toks, u], .cons ⟨_, rfl⟩ (.cons ru .nil), ⟨_, (sb.2 _ (Nat.ne_of_gt le)).trans hT, rfl, _, rfl⟩⟩
    have no : ∀ {b : Addr}, b ∉ [e, it] → b ≠ e ∧ b ≠ it := fun {b} hb => ⟨fun z => hb (z ▸ List.mem_cons_self), fun z => hb (z ▸ List.mem_cons_of_mem _ List.mem_cons_self)⟩
    have I1 : Inv X pins σ (upd H s.heap.objs.size (.tup [.int (i : Nat), x])) { s with heap := h'', toks := s.toks + 1 } :=
      I.turnedNew (ch := [e, it]) (fun b ob hb q => (sb.2 b (no hb).1).trans (hk b ob (no hb).1 (no hb).2 q)) hf (Nat.le_refl _) new
    refine ⟨.ref s.heap.objs.size, _, I1, rfl, ⟨_, x, rfl, I.hok.fresh (Nat.le_refl _), rfl, fun ys hy => by rw [I.tuple_inj hy hq]; exact hx⟩, ⟨⟨u, ?_⟩, hit'.at fun o q => (sb.2 it (Ne.symm hne)).trans q, hne⟩, fun b hb => ?_⟩
    · rw [Int.natCast_add]; exact he'
    · have hb' : b < s.heap.objs.size := (List.mem_cons.mp hb).elim (fun z => z ▸ le) fun z => (List.mem_singleton.mp z) ▸ li
      rw [upd_ne (Nat.ne_of_lt hb')]
      exact (hf b hb).1
  done := by
    intro X hP hw hK hc i pins s σ H E I hf st hg
    subst hP hw hK
    obtain ⟨⟨old, he⟩, hit, hne⟩ := st
    obtain ⟨xs, hq, hx⟩ := hg
    obtain ⟨its, rv, p, hz⟩ := I.tuple hq
    obtain ⟨f0, f1, f2, f3, f4, f5⟩ := hf it (List.mem_cons_of_mem _ List.mem_cons_self)
    have hl := rv.length
    exact enumT_end (I.ok.hd hc) he hit (show s.heap.IsTuple a its.toArray from p) (by simp; omega) fun h' eb => ⟨rfl, I.turned (t' := s.toks) (fun b o hb q => eb b o hb q) f0 f1 f3 f4 f5⟩
  self := fun A i s Q E st h => let ⟨⟨_, he⟩, _⟩ := st; wpAny_pyIter_enum he h
def iEnT (K : PySem.W.Frag) (ta : TA) : TI := fun σ H R => ta σ H fun vs H1 => ∃ a xs, vs = [.ref a] ∧ SqT K H1 a xs ∧ R (ItEnT K a) H1
theorem pi_enumT {X : Cx} (K : PySem.W.Frag) {e : Expr} {ta : TA} {p pos tpos : Pos} {elts : List Expr} {kk : Nat} (hg : Gl X "enumerate") (hm : X.mg "enumerate" = none) (ha : PA X [e] ta) (hs : starEach [e] X.env = [(false, eval e X.env)] := by rfl) (hK : X.K = K := by rfl) :
    PI X (.Tuple elts kk tpos) (.Call (.Name "enumerate" p) [e] [] pos) (iEnT K ta) := by
  subst hK
  refine ⟨fun pins s σ H R I h => Call_ (ld_blt I hg hm boot_enumerate (PyProof.Rows.callWith_type1 (thn (ha.run pos pins s σ H _ I h) fun us s1 hh => ?_) hs rfl))⟩
  obtain ⟨vs, H1, I1, r1, a, xs, ex, hq, q⟩ := hh
  subst ex
  rw [Vals.ref1 r1]
  obtain ⟨its, rv, p', hz⟩ := I1.tuple hq
  refine call_enumT (show s1.heap.IsTuple a its.toArray from p') fun h' he hit hk => wpAny_pyIter_enum he ?_
  refine ⟨s1.heap.objs.size + 1, [s1.heap.objs.size + 1, s1.heap.objs.size], _, _, H1, rfl, I1.kept (t' := s1.toks) hk, turn_enT a (s1.heap.objs.size + 1) s1.heap.objs.size, ⟨⟨.none, he⟩, hit, Nat.succ_ne_self _⟩, fun b hb => ?_, q⟩
  have hle : s1.heap.objs.size ≤ b := (List.mem_cons.mp hb).elim (fun z => z ▸ Nat.le_succ _) fun z => (List.mem_singleton.mp z) ▸ Nat.le_refl _
  exact I1.fpOk hle (I1.hok.fresh hle)
theorem walk_enT {K : PySem.W.Frag} {a : Addr} {xs : List V} : Walk (ItEnT K a) xs.length (fun H => SqT K H a xs) (YPair (fun i => some (.int (i : Nat))) (fun i => xs[i]?)) := by
  refine ⟨fun i _ hi q => ⟨xs, xs[i], q, by simp [hi]⟩, fun _ q => ⟨xs, q, Nat.le_refl _⟩, fun i H v H' _ q y => ?_⟩
  obtain ⟨T, x, h1, h2, h3, h4⟩ := y
  exact ⟨T, .int (i : Nat), x, h1, h2, h3, rfl, h4 xs q⟩
theorem walk_rg {n : Nat} : Walk (Itr 0 n) n (fun _ => True) (YFn fun i => .int (i : Int)) :=
  walk_range.mono (fun _ h => h) fun i H x H' _ _ y => ⟨y.1, y.2.trans (by show V.int (0 + (i : Int)) = V.int (i : Int); rw [Int.zero_add])⟩
theorem k_mt_countI {X : Cx} (K : PySem.W.Frag) (hu : X.A.units + 1 < cLine) (h : X.K = K := by rfl) : MtR X "list.count" (rCountI K) := by
  subst h
  exact mt_countI hu
end WD
/-! isinstance(e, (C, ..)) in an except suite -/
namespace WD
open PySem PySem.Spec PyProof.Rows L2
def rIsXT (K : PySem.W.Frag) (a : Addr) (cls : Value) (d : Option Addr) : List V → Hp → VK → Prop := fun xs H Q => ∃ (D tp : Addr) (cs : List V) (us : List Value) (b : Bool), cls = .ref D ∧ ExD K D ∧ (∀ dd, d = some dd → ∃ fs, H dd = some (.xd fs)) ∧ xs = [.ref a, .ref tp] ∧ H tp = some (.tup cs) ∧ Paired ClsV cs us ∧ PySem.W.kitAny K (.ref D) us = some b ∧ Q (.bl b) H
theorem call_isXT {X : Cx} {a : Addr} {oe : Obj} {cls : Value} {d : Option Addr} {pn : List (Addr × Obj)} (hz : Zc cls d oe) (hf : ∃ vs, oe.data = .fields vs) : CallR (X.suite a ((a, oe) :: pn)) (.builtin "isinstance") (rIsXT X.K a cls d) := by
  intro pins s σ H xs us Q I r h
  obtain ⟨D, tp, cs, ws, b, ec, C, hd, rfl, hT, pc, e, q⟩ := h
  subst ec
  obtain ⟨u1, u2, rfl, r1, r2⟩ := vals2 r
  cases (show u1 = Value.ref a from r1)
  cases (show u2 = Value.ref tp from r2)
  obtain ⟨hget, _⟩ := I.pin (a, oe) (List.mem_append.mpr (.inl List.mem_cons_self))
  obtain ⟨vs, hv⟩ := hf
  have J : ∃ od, PySem.W.InstAt s.heap a oe D od := by
    cases d with
    | none => exact ⟨none, hget, hz.1, by unfold PySem.W.notCls; rw [hv], by rw [hz.2]; exact trivial⟩
    | some dd =>
      obtain ⟨fs, hfs⟩ := hd dd rfl
      obtain ⟨mA, ⟨o, _, _, ho, _⟩, _⟩ := (show ObjOk X.prog X.w H s.heap dd (.xd fs) from I.hok dd _ hfs)
      exact ⟨some o, hget, hz.1, by unfold PySem.W.notCls; rw [hv], by rw [hz.2]; exact ho⟩
  obtain ⟨od, J⟩ := J
  obtain ⟨_, its, rv, ⟨oc, odd, dt, sl⟩, h1, h2, n, h3⟩ := (show ObjOk X.prog X.w H s.heap tp (.tup cs) from I.hok tp _ hT)
  have e3 := ClsV.all pc rv
  simp only at h2 h3
  subst e3 h2 h3
  exact PySem.W.kia_tup (PySem.W.kitx_exc C.cl C.ga C.gg C.sb C.cc C.sp C.tk C.mr) I.kIn J h1 e (fun z => nomatch z) fun tk => ⟨.bl b, H, I.tok tk, rfl, q⟩
/-! ### t[::-1] of a tuple -/
theorem fm_congr {α β : Type} {f g : α → Option β} : ∀ L : List α, (∀ x ∈ L, f x = g x) → L.filterMap f = L.filterMap g
  | [], _ => rfl
  | a :: L, h => by
    have ih := fm_congr L fun x hx => h x (List.mem_cons_of_mem _ hx)
    rw [List.filterMap_cons, List.filterMap_cons, h a List.mem_cons_self, ih]
theorem pick_rev (xs : List Value) : ((List.range xs.toArray.size).filterMap fun (k : Nat) => xs.toArray[((xs.toArray.size : Int) - 1 + (k : Int) * (-1)).toNat]?) = xs.reverse := by
  have e : ((List.range xs.toArray.size).filterMap fun (k : Nat) => xs.toArray[((xs.toArray.size : Int) - 1 + (k : Int) * (-1)).toNat]?) = (List.range xs.length).map fun k => xs.reverse.getD k .none := by
    rw [List.size_toArray]
    rw [← List.filterMap_eq_map]
    refine fm_congr _ fun k hk => ?_
    have hk := List.mem_range.mp hk
    have e1 : ((xs.length : Int) - 1 + (k : Int) * (-1)).toNat = xs.length - 1 - k := by omega
    rw [e1]
    have h2 : k < xs.reverse.length := by rw [List.length_reverse]; exact hk
    show xs.toArray[xs.length - 1 - k]? = some (xs.reverse.getD k .none)
    rw [List.getD_eq_getElem?_getD, List.getElem?_eq_getElem h2, List.getElem_reverse]
    have h3 : xs.length - 1 - k < xs.length := by omega
    simp [h3]
  rw [e]
  have := mapRange (fun x : Value => x) .none xs.reverse (n := xs.length) (by rw [List.length_reverse])
  rw [List.map_id'' (fun _ => rfl)] at this
  exact this
theorem places_rev (n : Nat) : Builtin.Slice.slicePlaces ((n : Int) - 1) (-1) (-1) = n := by
  unfold Builtin.Slice.slicePlaces
  simp only [show ¬ ((-1 : Int) > 0) by omega, if_false, Int.neg_neg, Int.ediv_one]
  split <;> omega
theorem adjust_rev (n : Nat) : Builtin.Slice.sliceAdjust none none (-1) (n : Int) = ((n : Int) - 1, -1) := by
  unfold Builtin.Slice.sliceAdjust
  simp only [show ((-1 : Int) < 0) by omega, if_true]
section
variable {prog : Program} {w : World} {A : Around} {E : Value → Shared → Prop} {s : Shared}
theorem applied_rev {sl : Addr} {u : Tok} {n : Nat} {Q : Int × Int × Nat → Shared → Prop} (hs : s.heap.IsSliceOf sl .none .none (.int (-1) u)) (h : Q ((n : Int) - 1, -1, n) s) : wpAny (model prog w) A (Builtin.Slice.sliceApplied (.ref sl) (pure (n : Int))) Q E s := by
  obtain ⟨os, hos, hcs, hds⟩ := id hs
  unfold Builtin.Slice.sliceApplied Builtin.Slice.sliceFields
  refine wpAny_bind (wpAny_bind (wpAny_field hos hds (x := .none) rfl (wpAny_bind (wpAny_field hos hds (x := .none) rfl (wpAny_bind (wpAny_field hos hds (x := .int (-1) u) rfl (wpAny_pure ?_)))))))
  refine wpAny_bind (HT.slicePart_ (.int (-1) u) ?_)
  show wpAny _ _ (if ((-1 : Int) == 0) = true then _ else _) _ _ s
  rw [if_neg (by decide)]
  refine wpAny_bind (HT.slicePart_ .none (wpAny_bind (HT.slicePart_ .none (wpAny_bind (wpAny_pure ?_)))))
  show wpAny _ _ (match Builtin.Slice.sliceAdjust none none (-1) (n : Int) with | (lo, hi) => pure (lo, (-1 : Int), Builtin.Slice.slicePlaces lo hi (-1))) _ _ s
  rw [adjust_rev n]
  show wpAny _ _ (pure ((n : Int) - 1, (-1 : Int), Builtin.Slice.slicePlaces ((n : Int) - 1) (-1) (-1))) _ _ s
  rw [places_rev]
  exact wpAny_pure h
theorem item_rev {t sl : Addr} {xs : List Value} {u : Tok} {Q : Value → Shared → Prop} (ht : IsTup s.heap t xs.toArray) (hs : s.heap.IsSliceOf sl .none .none (.int (-1) u))
    (h : Q (.ref s.heap.objs.size) { s with heap := s.heap.push { cls := .type "tuple", data := .seq xs.reverse.toArray } }) (hsz : xs.length ≤ sizeLine) : wpAny (model prog w) A (getItem (.ref t) (.ref sl)) Q E s := by
  have room : sizeOk (.seq xs.reverse.toArray) := by
    show xs.reverse.toArray.size ≤ sizeLine
    rw [List.size_toArray, List.length_reverse]
    exact hsz
  obtain ⟨os, hos, hcs, hds⟩ := id hs
  have hTs : s.TypeIs (.ref sl) "slice" := ⟨os, hos, hcs⟩
  unfold getItem
  try with_reducible refine wpAny_holding ?_
  first | refine wpAny_bind (wpAny_pure ?_) | skip
  refine wpAny_bind (wpAny_sequenceKey ht.typeIs (by decide) (wpAny_bind (wpAny_callSpecial?_slot (name := Str.ofString "__getitem__") ht.typeIs PyProof.Rows.slot_tuple_getitem (wpAny_call_entry PyProof.Rows.slot_tuple_getitem ht.typeIs entry_tuple_getitem ?_ (args_tuple_getitem _ _)))))
  show wpAny _ _ (Builtin.Tuple.tupleItemsOf (.ref t) >>= _) _ _ s
  refine wpAny_bind (tupleItemsOf_ ht (wpAny_bind (wpAny_typeOf hTs ?_)))
  rw [if_pos (by decide)]
  refine wpAny_bind (applied_rev hs ?_)
  show wpAny _ _ (if (((xs.toArray.size : Int) - 1) == 0 && (-1 : Int) == 1 && xs.toArray.size == xs.toArray.size) = true then _ else _) _ _ s
  rw [if_neg (by rw [show ((-1 : Int) == 1) = false from rfl, Bool.and_false, Bool.false_and]; exact Bool.false_ne_true), pick_rev]
  first
    | exact wpAny_bind (m := Builtin.Tuple.tupleExact _) (wpAny_newObj_type (wpAny_pure ⟨_, rfl, wpAny_pure h⟩) room)
    | exact wpAny_bind (wpAny_bind (m := Builtin.Tuple.tupleExact _) (wpAny_newObj_type (wpAny_pure (wpAny_pure ⟨_, rfl, wpAny_pure h⟩)) room))
    | exact wpAny_bind (wpAny_bind (m := Builtin.Tuple.tupleExact _) (wpAny_newObj_type (wpAny_pure ⟨_, rfl, wpAny_pure h⟩) room))
end
def tRevT (K : PySem.W.Frag) (te : TE) : TE := fun σ H Q => te σ H fun x H1 => ∃ a xs, x = .ref a ∧ SqT K H1 a xs ∧ ∀ p, H1 p = none → Q (.ref p) (upd H1 p (.tup xs.reverse))
theorem pe_revT {X : Cx} {e : Expr} {te : TE} {k : Nat} {p1 p2 p3 pos : Pos} (he : PE X e te) : PE X (.Subscript e (.Slice none none (some (.UnaryOp .USub (.Constant (.int 1) k p1) p2)) p3) pos) (tRevT X.K te) := by
  refine ⟨fun pins s σ H Q I h => Subscript_ (thn (he.run pins s σ H _ I h) fun v s1 hh => ?_)⟩
  obtain ⟨x, H1, I1, r1, a, xs, ex, hx, q⟩ := hh
  subst ex
  cases (show v = Value.ref a from r1)
  have step : PO X (some (.UnaryOp .USub (.Constant (.int 1) k p1) p2)) (tPart (tUn (rU fun i => .int (-i)) (tC (.int 1)))) := po_some (pe_un un_neg pe_int)
  refine wpAny_Slice (thn (po_none.run pins s1 σ H1 (fun o H2 => o = none ∧ H2 = H1) I1 ⟨rfl, rfl⟩) fun vl s2 h2 => ?_)
  obtain ⟨l, H2, I2, pl, rfl, rfl⟩ := h2
  refine thn (po_none.run pins s2 σ H2 (fun o H3 => o = none ∧ H3 = H2) I2 ⟨rfl, rfl⟩) fun vu s3 h3 => ?_
  obtain ⟨u, H3, I3, pu, rfl, rfl⟩ := h3
  refine thn (step.run pins s3 σ H3 (fun o H4 => o = some (-1) ∧ H4 = H3) I3 ⟨1, rfl, -1, rfl, rfl, rfl⟩) fun vs s4 h4 => ?_
  obtain ⟨o, H4, I4, ps, rfl, rfl⟩ := h4
  cases pl
  cases pu
  cases ps with
  | int i tk =>
    have I5 : Inv X pins σ H4 { s4 with heap := s4.heap.push { cls := .type "slice", data := .fields #[.none, .none, .int (-1) tk] } } := I4.kept (t' := s4.toks) fun b ob q => Heap.get?_push_of_some _ q
    obtain ⟨its, r, ht, hz⟩ := I5.tuple hx
    have hlen := r.length
    show wpAny (model X.prog X.w) X.A (subscriptTail e (.Slice none none (some (.UnaryOp .USub (.Constant (.int 1) k p1) p2)) p3) (.ref a) (.ref s4.heap.objs.size)) (EP X pins σ Q) X.xe { s4 with heap := s4.heap.push { cls := .type "slice", data := .fields #[.none, .none, .int (-1) tk] } }
    refine tail_any (ops := [.ref a, .ref s4.heap.objs.size]) ht.typeIs (PyProof.Rows.slot_tuple_getitem.lookup) (item_rev (xs := its) ht (Heap.IsSliceOf.new _ .none .none (.int (-1) tk)) ?_ (by omega)) (by with_unfolding_all rfl)
    refine ⟨.ref _, _, I5.laid (t' := s4.toks) (o := .tup xs.reverse) (fun b ob q => Heap.get?_push_of_some _ q) (Nat.le_refl _) ?_, rfl, q _ (I5.hok.fresh (Nat.le_refl _))⟩
    exact ⟨by rw [List.length_reverse]; exact hz, _, r.reverse, IsTup.new _ _⟩
end WD
/-! PM: a machine over plain values, and what holds of the model's heap when it runs -/
namespace PM
open PySem PySem.Spec PyProof.Rows L2
open WD (MS Fr upd_none)

/-- a datum: a tree without names -/
inductive PV where
  | non
  | bl (b : Bool)
  | int (i : Int)
  | str (x : Str)
  | tup (xs : List PV)
  | lst (xs : List PV)
  | dic (ks vs : List PV)
  | obj (C : Str) (ns : List Str) (vs : List PV)
/-- a thing that changes -/
inductive Cell where
  | lst (xs : List PV)
  | dic (ks vs : List PV)
  | ob (C : Str) (ns : List Str) (vs : List PV)
abbrev Store := List (Option Cell)
/-- what a name holds: a datum, a thing that changes (by its number), a caught exception -/
inductive Val where
  | t (d : PV)
  | c (k : Nat)
  | x (cls : Str) (f : Option (Str × PV))
  | s (ns : List Int)
inductive R (α : Type) where
  | ok (a : α) (μ : Store)
  | ex (c : Str) (f : Option (Str × PV)) (μ : Store)
  | stuck
abbrev Sl := List (Option Val)
abbrev ME := Sl → Store → R Val
inductive RS where
  | nx (σ : Sl) (μ : Store)
  | rt (w : Val) (μ : Store)
  | bk (σ : Sl) (μ : Store)
  | ct (σ : Sl) (μ : Store)
  | ex (c : Str) (f : Option (Str × PV)) (σ : Sl) (μ : Store)
  | stuck
abbrev MSt := Sl → Store → RS

/-! ### a datum in the heap -/
def kPV : Key → PV
  | .inl i => .int i
  | .inr x => .str x
def kOk : Key → Prop
  | .inl _ => True
  | .inr x => PyData.strOk x = true
def DicR (H : Hp) (a : Addr) (ks : List PV) (vs : List V) : Prop :=
  (∃ kl : List Key, ks = kl.map kPV ∧ kl.length = vs.length ∧ (∀ k ∈ kl, kOk k) ∧ H a = some (.dK (kl.zip vs))) ∨
  (∃ kl : List (List Key), ks = kl.map (fun k => PV.tup (k.map kPV)) ∧ kl.length = vs.length ∧ (∀ k ∈ kl, ∀ z ∈ k, kOk z) ∧ H a = some (.dT (kl.zip vs)))
theorem DicR.has {H : Hp} {a : Addr} {ks : List PV} {vs : List V} (h : DicR H a ks vs) : ∃ o, H a = some o := by
  rcases h with ⟨_, _, _, _, h⟩ | ⟨_, _, _, _, h⟩ <;> exact ⟨_, h⟩
theorem DicR.to {H H' : Hp} {a : Addr} {ks : List PV} {vs : List V} (h : DicR H a ks vs) (k : ∀ o, H a = some o → H' a = some o) : DicR H' a ks vs := by
  rcases h with ⟨kl, h1, h2, h3, h4⟩ | ⟨kl, h1, h2, h3, h4⟩
  · exact .inl ⟨kl, h1, h2, h3, k _ h4⟩
  · exact .inr ⟨kl, h1, h2, h3, k _ h4⟩
theorem DicR.len {H : Hp} {a : Addr} {ks : List PV} {vs : List V} (h : DicR H a ks vs) : ks.length = vs.length := by
  rcases h with ⟨kl, h1, h2, h3, h4⟩ | ⟨kl, h1, h2, h3, h4⟩ <;> rw [h1, List.length_map, h2]
mutual
def rv (K : PySem.W.Frag) (M : MS) (H : Hp) : V → PV → Prop
  | v, .non => v = .non
  | v, .bl b => v = .bl b
  | v, .int i => v = .int i
  | v, .str x => v = .str x ∧ PyData.strOk x = true
  | v, .tup l => ∃ a vs, v = .ref a ∧ ¬ M a ∧ H a = some (.tup vs) ∧ rvs K M H vs l
  | v, .lst l => ∃ a vs, v = .ref a ∧ ¬ M a ∧ H a = some (.lst vs) ∧ rvs K M H vs l
  | v, .dic ks l => ∃ a vs, v = .ref a ∧ ¬ M a ∧ DicR H a ks vs ∧ rvs K M H vs l
  | v, .obj C ns l => ∃ a dx vs, v = .ref a ∧ ¬ M a ∧ ¬ M dx ∧ H a = some (.ins (He.ga K C) dx (ns.zip vs)) ∧ H dx = some (.own a) ∧ vs.length = ns.length ∧ rvs K M H vs l
def rvs (K : PySem.W.Frag) (M : MS) (H : Hp) : List V → List PV → Prop
  | [], [] => True
  | v :: vs, d :: ds => rv K M H v d ∧ rvs K M H vs ds
  | _, _ => False
end
section
variable {K : PySem.W.Frag} {M M' : MS} {H H' : Hp} {v : V} {vs : List V}
theorem rv_non : rv K M H v .non ↔ v = .non := by unfold rv; exact Iff.rfl
theorem rv_bl {b : Bool} : rv K M H v (.bl b) ↔ v = .bl b := by unfold rv; exact Iff.rfl
theorem rv_int {i : Int} : rv K M H v (.int i) ↔ v = .int i := by unfold rv; exact Iff.rfl
theorem rv_str {x : Str} : rv K M H v (.str x) ↔ v = .str x ∧ PyData.strOk x = true := by unfold rv; exact Iff.rfl
theorem rv_tup {l : List PV} : rv K M H v (.tup l) ↔ ∃ a vs, v = .ref a ∧ ¬ M a ∧ H a = some (.tup vs) ∧ rvs K M H vs l := by rw [rv]
theorem rv_lst {l : List PV} : rv K M H v (.lst l) ↔ ∃ a vs, v = .ref a ∧ ¬ M a ∧ H a = some (.lst vs) ∧ rvs K M H vs l := by rw [rv]
theorem rv_dic {ks l : List PV} : rv K M H v (.dic ks l) ↔ ∃ a vs, v = .ref a ∧ ¬ M a ∧ DicR H a ks vs ∧ rvs K M H vs l := by rw [rv]
theorem rv_obj {C : Str} {ns : List Str} {l : List PV} : rv K M H v (.obj C ns l) ↔ ∃ a dx vs, v = .ref a ∧ ¬ M a ∧ ¬ M dx ∧ H a = some (.ins (He.ga K C) dx (ns.zip vs)) ∧ H dx = some (.own a) ∧ vs.length = ns.length ∧ rvs K M H vs l := by rw [rv]
theorem rvs_nil : rvs K M H [] [] := by unfold rvs; trivial
theorem rvs_cons {d : PV} {ds : List PV} : rvs K M H (v :: vs) (d :: ds) ↔ rv K M H v d ∧ rvs K M H vs ds := by rw [rvs]
mutual
theorem rv_st (na : ∀ a, ¬ M a → H a ≠ none → ¬ M' a) (f : ∀ a o, ¬ M a → H a = some o → H' a = some o) : ∀ (d : PV) (v : V), rv K M H v d → rv K M' H' v d
  | .non, v, h => by rw [rv_non] at h ⊢; exact h
  | .bl b, v, h => by rw [rv_bl] at h ⊢; exact h
  | .int i, v, h => by rw [rv_int] at h ⊢; exact h
  | .str x, v, h => by rw [rv_str] at h ⊢; exact h
  | .tup l, v, h => by
    rw [rv_tup] at h ⊢
    obtain ⟨a, vs, h1, h2, h3, h4⟩ := h
    exact ⟨a, vs, h1, na a h2 (by rw [h3]; exact fun z => nomatch z), f a _ h2 h3, rvs_st na f l vs h4⟩
  | .lst l, v, h => by
    rw [rv_lst] at h ⊢
    obtain ⟨a, vs, h1, h2, h3, h4⟩ := h
    exact ⟨a, vs, h1, na a h2 (by rw [h3]; exact fun z => nomatch z), f a _ h2 h3, rvs_st na f l vs h4⟩
  | .dic ks l, v, h => by
    rw [rv_dic] at h ⊢
    obtain ⟨a, vs, h1, h2, h3, h4⟩ := h
    obtain ⟨o, ho⟩ := h3.has
    exact ⟨a, vs, h1, na a h2 (by rw [ho]; exact fun z => nomatch z), h3.to fun o e => f a o h2 e, rvs_st na f l vs h4⟩
  | .obj C ns l, v, h => by
    rw [rv_obj] at h ⊢
    obtain ⟨a, dx, vs, h1, h2, h3, h4, h5, h6, h7⟩ := h
    exact ⟨a, dx, vs, h1, na a h2 (by rw [h4]; exact fun z => nomatch z), na dx h3 (by rw [h5]; exact fun z => nomatch z), f a _ h2 h4, f dx _ h3 h5, h6, rvs_st na f l vs h7⟩
theorem rvs_st (na : ∀ a, ¬ M a → H a ≠ none → ¬ M' a) (f : ∀ a o, ¬ M a → H a = some o → H' a = some o) : ∀ (ds : List PV) (vs : List V), rvs K M H vs ds → rvs K M' H' vs ds
  | [], [], _ => rvs_nil
  | d :: ds, v :: vs, h => by
    rw [rvs_cons] at h ⊢
    exact ⟨rv_st na f d v h.1, rvs_st na f ds vs h.2⟩
  | [], _ :: _, h => by unfold rvs at h; exact h.elim
  | _ :: _, [], h => by unfold rvs at h; exact h.elim
end
theorem rvs_len : ∀ {vs : List V} {ds : List PV}, rvs K M H vs ds → vs.length = ds.length
  | [], [], _ => rfl
  | _ :: _, _ :: _, h => by rw [rvs_cons] at h; exact congrArg Nat.succ (rvs_len h.2)
  | [], _ :: _, h => by unfold rvs at h; exact h.elim
  | _ :: _, [], h => by unfold rvs at h; exact h.elim
theorem rvs_app : ∀ {vs ws : List V} {ds es : List PV}, rvs K M H vs ds → rvs K M H ws es → rvs K M H (vs ++ ws) (ds ++ es)
  | [], _, [], _, _, h => h
  | _ :: _, _, _ :: _, _, g, h => by rw [rvs_cons] at g; exact rvs_cons.mpr ⟨g.1, rvs_app g.2 h⟩
  | [], _, _ :: _, _, g, _ => by unfold rvs at g; exact g.elim
  | _ :: _, _, [], _, g, _ => by unfold rvs at g; exact g.elim
theorem rvs_get : ∀ {vs : List V} {ds : List PV} {i : Nat} {v : V}, rvs K M H vs ds → vs[i]? = some v → ∃ d, ds[i]? = some d ∧ rv K M H v d
  | [], [], _, _, _, e => by simp at e
  | x :: _, a :: _, 0, v, h, e => by
    rw [rvs_cons] at h
    obtain rfl : x = v := Option.some.inj e
    exact ⟨a, rfl, h.1⟩
  | _ :: _, _ :: _, i + 1, v, h, e => by rw [rvs_cons] at h; exact rvs_get (i := i) h.2 e
  | [], _ :: _, _, _, h, _ => by unfold rvs at h; exact h.elim
  | _ :: _, [], _, _, h, _ => by unfold rvs at h; exact h.elim
theorem rvs_at : ∀ {vs : List V} {ds : List PV} {i : Nat} {d : PV}, rvs K M H vs ds → ds[i]? = some d → ∃ v, vs[i]? = some v ∧ rv K M H v d
  | [], [], _, _, _, e => by simp at e
  | x :: _, a :: _, 0, d, h, e => by
    rw [rvs_cons] at h
    obtain rfl : a = d := Option.some.inj e
    exact ⟨x, rfl, h.1⟩
  | _ :: _, _ :: _, i + 1, v, h, e => by rw [rvs_cons] at h; exact rvs_at (i := i) h.2 e
  | [], _ :: _, _, _, h, _ => by unfold rvs at h; exact h.elim
  | _ :: _, [], _, _, h, _ => by unfold rvs at h; exact h.elim
theorem rvs_take : ∀ {vs : List V} {ds : List PV} (n : Nat), rvs K M H vs ds → rvs K M H (vs.take n) (ds.take n)
  | [], [], n, _ => by cases n <;> exact rvs_nil
  | _ :: _, _ :: _, 0, _ => rvs_nil
  | _ :: _, _ :: _, n + 1, h => by rw [rvs_cons] at h; exact rvs_cons.mpr ⟨h.1, rvs_take n h.2⟩
  | [], _ :: _, _, h => by unfold rvs at h; exact h.elim
  | _ :: _, [], _, h => by unfold rvs at h; exact h.elim
theorem rvs_drop : ∀ {vs : List V} {ds : List PV} (n : Nat), rvs K M H vs ds → rvs K M H (vs.drop n) (ds.drop n)
  | [], [], n, _ => by cases n <;> exact rvs_nil
  | _ :: _, _ :: _, 0, h => h
  | _ :: _, _ :: _, n + 1, h => by rw [rvs_cons] at h; exact rvs_drop n h.2
  | [], _ :: _, _, h => by unfold rvs at h; exact h.elim
  | _ :: _, [], _, h => by unfold rvs at h; exact h.elim
theorem rvs_set {v : V} {d : PV} (h : rv K M H v d) : ∀ {vs : List V} {ds : List PV} (j : Nat), rvs K M H vs ds → rvs K M H (vs.set j v) (ds.set j d)
  | [], [], _, _ => rvs_nil
  | _ :: _, _ :: _, 0, g => by rw [rvs_cons] at g; exact rvs_cons.mpr ⟨h, g.2⟩
  | _ :: _, _ :: _, j + 1, g => by rw [rvs_cons] at g; exact rvs_cons.mpr ⟨g.1, rvs_set h j g.2⟩
  | [], _ :: _, _, g => by unfold rvs at g; exact g.elim
  | _ :: _, [], _, g => by unfold rvs at g; exact g.elim
theorem rvs_erase : ∀ {vs : List V} {ds : List PV} (j : Nat), rvs K M H vs ds → rvs K M H (vs.eraseIdx j) (ds.eraseIdx j)
  | [], [], _, _ => rvs_nil
  | _ :: _, _ :: _, 0, g => by rw [rvs_cons] at g; exact g.2
  | _ :: _, _ :: _, j + 1, g => by rw [rvs_cons] at g; exact rvs_cons.mpr ⟨g.1, rvs_erase j g.2⟩
  | [], _ :: _, _, g => by unfold rvs at g; exact g.elim
  | _ :: _, [], _, g => by unfold rvs at g; exact g.elim
theorem rvs_rev : ∀ {vs : List V} {ds : List PV}, rvs K M H vs ds → rvs K M H vs.reverse ds.reverse
  | [], [], _ => rvs_nil
  | _ :: _, _ :: _, h => by
    rw [rvs_cons] at h
    rw [List.reverse_cons, List.reverse_cons]
    exact rvs_app (rvs_rev h.2) (rvs_cons.mpr ⟨h.1, rvs_nil⟩)
  | [], _ :: _, h => by unfold rvs at h; exact h.elim
  | _ :: _, [], h => by unfold rvs at h; exact h.elim
theorem rv_ad {D : Addr} {d : PV} (hD : H D = none) (h : rv K M H v d) : rv K (WD.plus M D) H v d := rv_st (fun a n ne z => z.elim n fun e => ne (by rw [e]; exact hD)) (fun _ _ _ e => e) d v h
theorem rvs_ad {D : Addr} {ds : List PV} (hD : H D = none) (h : rvs K M H vs ds) : rvs K (WD.plus M D) H vs ds := rvs_st (fun a n ne z => z.elim n fun e => ne (by rw [e]; exact hD)) (fun _ _ _ e => e) ds vs h
theorem rv_wk {d : PV} (s : ∀ a, M' a → M a) (h : rv K M H v d) : rv K M' H v d := rv_st (fun a n _ z => n (s a z)) (fun _ _ _ e => e) d v h
theorem rvs_wk {ds : List PV} (s : ∀ a, M' a → M a) (h : rvs K M H vs ds) : rvs K M' H vs ds := rvs_st (fun a n _ z => n (s a z)) (fun _ _ _ e => e) ds vs h
theorem rv_fr {d : PV} (f : Fr M H H') (h : rv K M H v d) : rv K M H' v d := rv_st (fun a n _ => n) f.keep d v h
theorem rvs_fr {ds : List PV} (f : Fr M H H') (h : rvs K M H vs ds) : rvs K M H' vs ds := rvs_st (fun a n _ => n) f.keep ds vs h
end

/-! ### the world: the things that change -/
def Mof (ζ : List Addr) (μ : Store) : MS := fun a => ∃ (k : Nat) (c : Cell), ζ[k]? = some a ∧ μ[k]? = some (some c)
/-- .. with those that are set aside -/
def MM (N : MS) (ζ : List Addr) (μ : Store) : MS := fun a => Mof ζ μ a ∨ N a
def cellR (K : PySem.W.Frag) (M : MS) (H : Hp) (a : Addr) : Cell → Prop
  | .lst ds => ∃ vs, H a = some (.lst vs) ∧ rvs K M H vs ds
  | .dic ks ds => ∃ vs, DicR H a ks vs ∧ rvs K M H vs ds
  | .ob C ns ds => ∃ dx vs, ¬ M dx ∧ H a = some (.ins (He.ga K C) dx (ns.zip vs)) ∧ H dx = some (.own a) ∧ vs.length = ns.length ∧ rvs K M H vs ds
theorem cellR.has {K : PySem.W.Frag} {M : MS} {H : Hp} {a : Addr} {c : Cell} (h : cellR K M H a c) : ∃ o, H a = some o := by
  cases c with
  | lst ds => obtain ⟨vs, e, _⟩ := h; exact ⟨_, e⟩
  | dic ks ds => obtain ⟨vs, e, _⟩ := h; exact e.has
  | ob C ns ds => obtain ⟨dx, vs, _, e, _⟩ := h; exact ⟨_, e⟩
theorem cellR.st {K : PySem.W.Frag} {M M' : MS} {H H' : Hp} {a : Addr} {c : Cell} (na : ∀ a, ¬ M a → H a ≠ none → ¬ M' a) (f : ∀ a o, ¬ M a → H a = some o → H' a = some o) (fa : ∀ o, H a = some o → H' a = some o) (h : cellR K M H a c) : cellR K M' H' a c := by
  cases c with
  | lst ds => obtain ⟨vs, e, r⟩ := h; exact ⟨vs, fa _ e, rvs_st na f _ _ r⟩
  | dic ks ds => obtain ⟨vs, e, r⟩ := h; exact ⟨vs, e.to fa, rvs_st na f _ _ r⟩
  | ob C ns ds => obtain ⟨dx, vs, nd, e, e2, l, r⟩ := h; exact ⟨dx, vs, na dx nd (by rw [e2]; exact fun z => nomatch z), fa _ e, f _ _ nd e2, l, rvs_st na f _ _ r⟩
structure Wd (K : PySem.W.Frag) (N : MS) (ζ : List Addr) (μ : Store) (H : Hp) : Prop where
  len : ζ.length = μ.length
  inj : ∀ (i j : Nat) (a : Addr) (c c' : Cell), ζ[i]? = some a → ζ[j]? = some a → μ[i]? = some (some c) → μ[j]? = some (some c') → i = j
  cell : ∀ (k : Nat) (c : Cell) (a : Addr), μ[k]? = some (some c) → ζ[k]? = some a → cellR K (MM N ζ μ) H a c
  nd : ∀ a, N a → ¬ Mof ζ μ a ∧ H a ≠ none
structure Ev (ζ : List Addr) (μ : Store) (H : Hp) (ζ' : List Addr) (μ' : Store) (H' : Hp) : Prop where
  pre : ∀ (k : Nat) (a : Addr), ζ[k]? = some a → ζ'[k]? = some a
  fr : Fr (Mof ζ μ) H H'
  ml : ∀ a, Mof ζ' μ' a → Mof ζ μ a ∨ H a = none
section
variable {K : PySem.W.Frag} {N : MS} {ζ ζ1 ζ2 : List Addr} {μ μ1 μ2 : Store} {H H1 H2 : Hp} {v : V} {d : PV} {vs : List V} {ds : List PV}
theorem Ev.refl : Ev ζ μ H ζ μ H := ⟨fun _ _ h => h, Fr.refl _, fun _ h => .inl h⟩
theorem Ev.trans (a : Ev ζ μ H ζ1 μ1 H1) (b : Ev ζ1 μ1 H1 ζ2 μ2 H2) : Ev ζ μ H ζ2 μ2 H2 := by
  refine ⟨fun k x h => b.pre k x (a.pre k x h), ⟨fun x o n h => b.fr.keep x o (fun z => (a.ml x z).elim n fun q => by rw [q] at h; cases h) (a.fr.keep x o n h), fun x h => a.fr.dom x (b.fr.dom x h)⟩, fun x h => ?_⟩
  rcases b.ml x h with h | h
  · exact a.ml x h
  · exact .inr (a.fr.dom x h)
theorem Ev.na (e : Ev ζ μ H ζ1 μ1 H1) : ∀ a, ¬ MM N ζ μ a → H a ≠ none → ¬ MM N ζ1 μ1 a := fun a n ne z => z.elim (fun z => (e.ml a z).elim (fun q => n (.inl q)) ne) fun q => n (.inr q)
theorem Ev.keep (e : Ev ζ μ H ζ1 μ1 H1) : ∀ a o, ¬ MM N ζ μ a → H a = some o → H1 a = some o := fun a o n h => e.fr.keep a o (fun z => n (.inl z)) h
theorem Ev.rv (e : Ev ζ μ H ζ1 μ1 H1) (h : rv K (MM N ζ μ) H v d) : rv K (MM N ζ1 μ1) H1 v d := rv_st e.na e.keep d v h
theorem Ev.rvs (e : Ev ζ μ H ζ1 μ1 H1) (h : rvs K (MM N ζ μ) H vs ds) : rvs K (MM N ζ1 μ1) H1 vs ds := rvs_st e.na e.keep ds vs h
theorem Wd.min (w : Wd K N ζ μ H) : ∀ a, MM N ζ μ a → H a ≠ none := fun a h z => by
  rcases h with ⟨k, c, h1, h2⟩ | h
  case inr => exact (w.nd a h).2 z
  obtain ⟨o, e⟩ := (w.cell k c a h2 h1).has
  rw [z] at e; cases e
theorem Wd.no (w : Wd K N ζ μ H) {p : Addr} (h : H p = none) : ¬ MM N ζ μ p := fun z => w.min p z h
/-- something new is laid -/
theorem Ev.new {p : Addr} {o : HO} (h : H p = none) : Ev ζ μ H ζ μ (upd H p o) := ⟨fun _ _ e => e, Fr.new h, fun _ e => .inl e⟩
theorem Wd.new (w : Wd K N ζ μ H) {p : Addr} {o : HO} (h : H p = none) : Wd K N ζ μ (upd H p o) := by
  refine ⟨w.len, w.inj, fun k c a h1 h2 => ?_, fun a h => ⟨(w.nd a h).1, fun z => (w.nd a h).2 (upd_none z).2⟩⟩
  exact (w.cell k c a h1 h2).st (fun _ n _ => n) (fun b u _ e => by rw [upd_ne (ne_of_none e h)]; exact e) (fun u e => by rw [upd_ne (ne_of_none e h)]; exact e)
/-- the heap may grow -/
theorem Wd.fr0 (w : Wd K N ζ μ H) (f : ∀ a o, H a = some o → H1 a = some o) : Wd K N ζ μ H1 :=
  ⟨w.len, w.inj, fun k c a h1 h2 => (w.cell k c a h1 h2).st (fun _ n _ => n) (fun b u _ e => f b u e) (f a), fun a h => ⟨(w.nd a h).1, fun z => (w.nd a h).2 (by
    cases e : H a with
    | none => rfl
    | some o => rw [f a o e] at z; cases z)⟩⟩
end

/-! ### values, slots -/
abbrev Xi := Option (Addr × Value × Option Addr)
def XR (K : PySem.W.Frag) (M : MS) (H : Hp) (d : Option Addr) : Option (Str × PV) → Prop
  | none => d = none
  | some (n, p) => ∃ dd v, d = some dd ∧ ¬ M dd ∧ H dd = some (.xd [(n, v)]) ∧ rv K M H v p
def RV (K : PySem.W.Frag) (ξ : Xi) (ζ : List Addr) (M : MS) (H : Hp) (v : V) : Val → Prop
  | .t d => rv K M H v d
  | .c k => ∃ a, ζ[k]? = some a ∧ v = .ref a
  | .x c f => ∃ a d, ξ = some (a, .ref (He.ga K c), d) ∧ v = .ref a ∧ XR K M H d f
  | .s ns => ∃ a, v = .ref a ∧ ((¬ M a ∧ Rd H a (.lst (ns.map V.int))) ∨ ∀ H', SqL K H' a (ns.map V.int))
def RVs (K : PySem.W.Frag) (ξ : Xi) (ζ : List Addr) (M : MS) (H : Hp) : List V → List Val → Prop
  | [], [] => True
  | v :: vs, w :: ws => RV K ξ ζ M H v w ∧ RVs K ξ ζ M H vs ws
  | _, _ => False
def Sok (K : PySem.W.Frag) (ξ : Xi) (ζ : List Addr) (M : MS) (H : Hp) (σr : L2.St) (σ : Sl) : Prop :=
  σr.length = σ.length ∧ ∀ (i : Nat) (w : Val), σ[i]? = some (some w) → ∃ v, σr[i]? = some (some v) ∧ RV K ξ ζ M H v w
section
variable {K : PySem.W.Frag} {ξ : Xi} {N : MS} {ζ ζ1 : List Addr} {μ μ1 : Store} {M : MS} {H H1 : Hp} {v : V} {w : Val} {vs : List V} {ws : List Val} {σr : L2.St} {σ : Sl}
theorem XR.ev {d : Option Addr} : ∀ {f : Option (Str × PV)}, Ev ζ μ H ζ1 μ1 H1 → XR K (MM N ζ μ) H d f → XR K (MM N ζ1 μ1) H1 d f
  | none, _, h => h
  | some (n, p), e, ⟨dd, v, h1, h2, h3, h4⟩ => ⟨dd, v, h1, e.na dd h2 (by rw [h3]; exact fun z => nomatch z), e.keep _ _ h2 h3, e.rv h4⟩
theorem RV.ev (e : Ev ζ μ H ζ1 μ1 H1) : ∀ {w : Val}, RV K ξ ζ (MM N ζ μ) H v w → RV K ξ ζ1 (MM N ζ1 μ1) H1 v w
  | .t _, h => e.rv h
  | .c _, ⟨a, h1, h2⟩ => ⟨a, e.pre _ _ h1, h2⟩
  | .x _ _, ⟨a, d, h1, h2, h3⟩ => ⟨a, d, h1, h2, h3.ev e⟩
  | .s _, ⟨a, h1, .inr h⟩ => ⟨a, h1, .inr h⟩
  | .s _, ⟨a, h1, .inl ⟨h2, h3⟩⟩ => by
    refine ⟨a, h1, .inl ⟨?_, ?_⟩⟩
    · rcases h3 with h3 | ⟨o, h3⟩ <;> exact e.na a h2 (by rw [h3]; exact fun z => nomatch z)
    · rcases h3 with h3 | ⟨o, h3⟩
      · exact .inl (e.keep a _ h2 h3)
      · exact .inr ⟨o, e.keep a _ h2 h3⟩
theorem RVs.ev (e : Ev ζ μ H ζ1 μ1 H1) : ∀ {vs : List V} {ws : List Val}, RVs K ξ ζ (MM N ζ μ) H vs ws → RVs K ξ ζ1 (MM N ζ1 μ1) H1 vs ws
  | [], [], _ => trivial
  | _ :: _, _ :: _, h => ⟨RV.ev e h.1, RVs.ev e h.2⟩
  | [], _ :: _, h => h.elim
  | _ :: _, [], h => h.elim
theorem RVs.len : ∀ {vs : List V} {ws : List Val}, RVs K ξ ζ M H vs ws → vs.length = ws.length
  | [], [], _ => rfl
  | _ :: _, _ :: _, h => congrArg Nat.succ (RVs.len h.2)
  | [], _ :: _, h => h.elim
  | _ :: _, [], h => h.elim
theorem Sok.ev (e : Ev ζ μ H ζ1 μ1 H1) (h : Sok K ξ ζ (MM N ζ μ) H σr σ) : Sok K ξ ζ1 (MM N ζ1 μ1) H1 σr σ :=
  ⟨h.1, fun i w hw => let ⟨v, h1, h2⟩ := h.2 i w hw; ⟨v, h1, h2.ev e⟩⟩
theorem Sok.set {i : Nat} (h : Sok K ξ ζ M H σr σ) (r : RV K ξ ζ M H v w) : Sok K ξ ζ M H (σr.set i (some v)) (σ.set i (some w)) := by
  refine ⟨by rw [List.length_set, List.length_set]; exact h.1, fun j u hu => ?_⟩
  by_cases e : i = j
  · subst e
    have hl : i < σ.length := by
      have := (List.getElem?_eq_some_iff.mp hu).1
      rwa [List.length_set] at this
    rw [List.getElem?_set_self hl] at hu
    cases hu
    exact ⟨v, by rw [List.getElem?_set_self (by rw [h.1]; exact hl)], r⟩
  · rw [List.getElem?_set_ne e] at hu
    rw [List.getElem?_set_ne e]
    exact h.2 j u hu
theorem Sok.drop {i : Nat} (h : Sok K ξ ζ M H σr σ) : Sok K ξ ζ M H (σr.set i none) (σ.set i none) := by
  refine ⟨by rw [List.length_set, List.length_set]; exact h.1, fun j u hu => ?_⟩
  by_cases e : i = j
  · subst e
    have hl : i < σ.length := by
      have := (List.getElem?_eq_some_iff.mp hu).1
      rwa [List.length_set] at this
    rw [List.getElem?_set_self hl] at hu
    cases hu
  · rw [List.getElem?_set_ne e] at hu
    rw [List.getElem?_set_ne e]
    exact h.2 j u hu
end

/-! ### readings -/
def PostE (K : PySem.W.Frag) (ξ : Xi) (W : WX) (N : MS) (ζ : List Addr) (μ : Store) (H : Hp) (σr : L2.St) (Q : VK) : R Val → Prop
  | .ok w μ' => ∀ ζ' H' v, Ev ζ μ H ζ' μ' H' → Wd K N ζ' μ' H' → RV K ξ ζ' (MM N ζ' μ') H' v w → Q v H'
  | .ex c f μ' => ∀ ζ' H' d, Ev ζ μ H ζ' μ' H' → Wd K N ζ' μ' H' → XR K (MM N ζ' μ') H' d f → W (.ref (He.ga K c)) d σr H'
  | .stuck => False
def tE (K : PySem.W.Frag) (ξ : Xi) (W : WX) (f : ME) : TE := fun σr H Q => ∃ N ζ μ σ, Wd K N ζ μ H ∧ Sok K ξ ζ (MM N ζ μ) H σr σ ∧ PostE K ξ W N ζ μ H σr Q (f σ μ)
def PostT {α : Type} (K : PySem.W.Frag) (W : WX) (N : MS) (ζ : List Addr) (μ : Store) (H : Hp) (σr : L2.St) (Q : α → Hp → Prop) : R α → Prop
  | .ok b μ' => ∀ ζ' H', Ev ζ μ H ζ' μ' H' → Wd K N ζ' μ' H' → Q b H'
  | .ex c f μ' => ∀ ζ' H' d, Ev ζ μ H ζ' μ' H' → Wd K N ζ' μ' H' → XR K (MM N ζ' μ') H' d f → W (.ref (He.ga K c)) d σr H'
  | .stuck => False
def tT (K : PySem.W.Frag) (ξ : Xi) (W : WX) (f : Sl → Store → R Bool) : TT := fun σr H Q => ∃ N ζ μ σ, Wd K N ζ μ H ∧ Sok K ξ ζ (MM N ζ μ) H σr σ ∧ PostT K W N ζ μ H σr Q (f σ μ)
def PostA (K : PySem.W.Frag) (ξ : Xi) (W : WX) (N : MS) (ζ : List Addr) (μ : Store) (H : Hp) (σr : L2.St) (Q : List V → Hp → Prop) : R (List Val) → Prop
  | .ok ws μ' => ∀ ζ' H' vs, Ev ζ μ H ζ' μ' H' → Wd K N ζ' μ' H' → RVs K ξ ζ' (MM N ζ' μ') H' vs ws → Q vs H'
  | .ex c f μ' => ∀ ζ' H' d, Ev ζ μ H ζ' μ' H' → Wd K N ζ' μ' H' → XR K (MM N ζ' μ') H' d f → W (.ref (He.ga K c)) d σr H'
  | .stuck => False
def tA (K : PySem.W.Frag) (ξ : Xi) (W : WX) (f : Sl → Store → R (List Val)) : TA := fun σr H Q => ∃ N ζ μ σ, Wd K N ζ μ H ∧ Sok K ξ ζ (MM N ζ μ) H σr σ ∧ PostA K ξ W N ζ μ H σr Q (f σ μ)
/-- a new list -/
def PostF (K : PySem.W.Frag) (W : WX) (N : MS) (ζ : List Addr) (μ : Store) (H : Hp) (σr : L2.St) (Q : VK) : R (List PV) → Prop
  | .ok ds μ' => ∀ ζ' H' a vs, Ev ζ μ H ζ' μ' H' → Wd K (WD.plus N a) ζ' μ' H' → H a = none → H' a = some (.lst vs) → rvs K (MM (WD.plus N a) ζ' μ') H' vs ds → Q (.ref a) H'
  | .ex c f μ' => ∀ ζ' H' d, Ev ζ μ H ζ' μ' H' → Wd K N ζ' μ' H' → XR K (MM N ζ' μ') H' d f → W (.ref (He.ga K c)) d σr H'
  | .stuck => False
def tF (K : PySem.W.Frag) (ξ : Xi) (W : WX) (f : Sl → Store → R (List PV)) : TE := fun σr H Q => ∃ N ζ μ σ, Wd K N ζ μ H ∧ Sok K ξ ζ (MM N ζ μ) H σr σ ∧ PostF K W N ζ μ H σr Q (f σ μ)
def PostS (K : PySem.W.Frag) (ξ : Xi) (W : WX) (N : MS) (ζ : List Addr) (μ : Store) (H : Hp) (D : Ends) : RS → Prop
  | .nx σ' μ' => ∀ ζ' H' σr', Ev ζ μ H ζ' μ' H' → Wd K N ζ' μ' H' → Sok K ξ ζ' (MM N ζ' μ') H' σr' σ' → D.nx σr' H'
  | .bk σ' μ' => ∀ ζ' H' σr', Ev ζ μ H ζ' μ' H' → Wd K N ζ' μ' H' → Sok K ξ ζ' (MM N ζ' μ') H' σr' σ' → D.bk σr' H'
  | .ct σ' μ' => ∀ ζ' H' σr', Ev ζ μ H ζ' μ' H' → Wd K N ζ' μ' H' → Sok K ξ ζ' (MM N ζ' μ') H' σr' σ' → D.ct σr' H'
  | .rt w μ' => ∀ ζ' H' v, Ev ζ μ H ζ' μ' H' → Wd K N ζ' μ' H' → RV K ξ ζ' (MM N ζ' μ') H' v w → D.rt v H'
  | .ex c f σ' μ' => ∀ ζ' H' d σr', Ev ζ μ H ζ' μ' H' → Wd K N ζ' μ' H' → XR K (MM N ζ' μ') H' d f → Sok K ξ ζ' (MM N ζ' μ') H' σr' σ' → W (.ref (He.ga K c)) d σr' H'
  | .stuck => False
def tS (K : PySem.W.Frag) (ξ : Xi) (W : WX) (F : MSt) : TS := fun D σr H => ∃ N ζ μ σ, Wd K N ζ μ H ∧ Sok K ξ ζ (MM N ζ μ) H σr σ ∧ PostS K ξ W N ζ μ H D (F σ μ)

/-! ### judgements -/
abbrev IE (K : PySem.W.Frag) (ξ : Xi) (W : WX) (X : Cx) (e : Expr) (f : ME) : Prop := PE X e (tE K ξ W f)
abbrev IT (K : PySem.W.Frag) (ξ : Xi) (W : WX) (X : Cx) (e : Expr) (f : Sl → Store → R Bool) : Prop := PT X e (tT K ξ W f)
abbrev IA (K : PySem.W.Frag) (ξ : Xi) (W : WX) (X : Cx) (es : List Expr) (f : Sl → Store → R (List Val)) : Prop := PA X es (tA K ξ W f)
abbrev IF (K : PySem.W.Frag) (ξ : Xi) (W : WX) (X : Cx) (e : Expr) (f : Sl → Store → R (List PV)) : Prop := PE X e (tF K ξ W f)
abbrev IS (K : PySem.W.Frag) (ξ : Xi) (W : WX) (X : Cx) (s : Stmt) (F : MSt) : Prop := PS X s (tS K ξ W F)
abbrev ISs (K : PySem.W.Frag) (ξ : Xi) (W : WX) (X : Cx) (ss : List Stmt) (F : MSt) : Prop := PSs X ss (tS K ξ W F)
theorem PE.of {X : Cx} {e : Expr} {t t' : TE} (h : PE X e t) (k : ∀ σ H Q, t' σ H Q → t σ H Q) : PE X e t' := ⟨fun pins s σ H Q I q => h.run pins s σ H Q I (k σ H Q q)⟩
theorem PT.of {X : Cx} {e : Expr} {t t' : TT} (h : PT X e t) (k : ∀ σ H Q, t' σ H Q → t σ H Q) : PT X e t' := ⟨fun pins s σ H Q I q => h.run pins s σ H Q I (k σ H Q q)⟩
theorem PW.of {X : Cx} {e : Expr} {t t' : TT} (h : PW X e t) (k : ∀ σ H Q, t' σ H Q → t σ H Q) : PW X e t' := ⟨fun wh pins s σ H Q I q => h.run wh pins s σ H Q I (k σ H Q q)⟩
theorem PA.of {X : Cx} {e : List Expr} {t t' : TA} (h : PA X e t) (k : ∀ σ H Q, t' σ H Q → t σ H Q) : PA X e t' := ⟨fun p pins s σ H Q I q => h.run p pins s σ H Q I (k σ H Q q)⟩
theorem PS.of {X : Cx} {e : Stmt} {t t' : TS} (h : PS X e t) (k : ∀ D σ H, t' D σ H → t D σ H) : PS X e t' := ⟨fun pins s σ H D I q => h.run pins s σ H D I (k D σ H q)⟩
theorem PSs.of {X : Cx} {e : List Stmt} {t t' : TS} (h : PSs X e t) (k : ∀ D σ H, t' D σ H → t D σ H) : PSs X e t' := ⟨fun pins s σ H D I q => h.run pins s σ H D I (k D σ H q)⟩
/-- a rule chosen by what is read -/
theorem PE.pick {X : Cx} {e : Expr} {t' : TE} (k : ∀ σ H Q, t' σ H Q → ∃ t, PE X e t ∧ t σ H Q) : PE X e t' := ⟨fun pins s σ H Q I q => let ⟨_, h, q'⟩ := k σ H Q q; h.run pins s σ H Q I q'⟩
end PM
namespace PM
open PySem PySem.Spec PyProof.Rows L2
open WD (MS Fr upd_none)

/-! ### what is written out of readings -/
section
variable {K : PySem.W.Frag} {ξ : Xi} {W : WX} {N : MS} {ζ ζ1 : List Addr} {μ μ1 : Store} {H H1 : Hp} {σr : L2.St}
theorem PostE.ev {Q : VK} (e : Ev ζ μ H ζ1 μ1 H1) : ∀ {r : R Val}, PostE K ξ W N ζ μ H σr Q r → PostE K ξ W N ζ1 μ1 H1 σr Q r
  | .ok _ _, h => fun ζ' H' v a b c => h ζ' H' v (e.trans a) b c
  | .ex _ _ _, h => fun ζ' H' d a b c => h ζ' H' d (e.trans a) b c
  | .stuck, h => h
theorem PostT.ev {α : Type} {Q : α → Hp → Prop} (e : Ev ζ μ H ζ1 μ1 H1) : ∀ {r : R α}, PostT K W N ζ μ H σr Q r → PostT K W N ζ1 μ1 H1 σr Q r
  | .ok _ _, h => fun ζ' H' a b => h ζ' H' (e.trans a) b
  | .ex _ _ _, h => fun ζ' H' d a b c => h ζ' H' d (e.trans a) b c
  | .stuck, h => h
theorem PostA.ev {Q : List V → Hp → Prop} (e : Ev ζ μ H ζ1 μ1 H1) : ∀ {r : R (List Val)}, PostA K ξ W N ζ μ H σr Q r → PostA K ξ W N ζ1 μ1 H1 σr Q r
  | .ok _ _, h => fun ζ' H' v a b c => h ζ' H' v (e.trans a) b c
  | .ex _ _ _, h => fun ζ' H' d a b c => h ζ' H' d (e.trans a) b c
  | .stuck, h => h
theorem PostF.ev {Q : VK} (e : Ev ζ μ H ζ1 μ1 H1) : ∀ {r : R (List PV)}, PostF K W N ζ μ H σr Q r → PostF K W N ζ1 μ1 H1 σr Q r
  | .ok _ _, h => fun ζ' H' a vs e' b c d f => h ζ' H' a vs (e.trans e') b (e.fr.dom a c) d f
  | .ex _ _ _, h => fun ζ' H' d a b c => h ζ' H' d (e.trans a) b c
  | .stuck, h => h
theorem PostS.ev {D : Ends} (e : Ev ζ μ H ζ1 μ1 H1) : ∀ {r : RS}, PostS K ξ W N ζ μ H D r → PostS K ξ W N ζ1 μ1 H1 D r
  | .nx _ _, h => fun ζ' H' v a b c => h ζ' H' v (e.trans a) b c
  | .bk _ _, h => fun ζ' H' v a b c => h ζ' H' v (e.trans a) b c
  | .ct _ _, h => fun ζ' H' v a b c => h ζ' H' v (e.trans a) b c
  | .rt _ _, h => fun ζ' H' v a b c => h ζ' H' v (e.trans a) b c
  | .ex _ _ _ _, h => fun ζ' H' d s a b c f => h ζ' H' d s (e.trans a) b c f
  | .stuck, h => h
end

def R.bind {α β : Type} : R α → (α → Store → R β) → R β
  | .ok a μ, k => k a μ
  | .ex c f μ, _ => .ex c f μ
  | .stuck, _ => .stuck
/-- what of a value is to be read -/
def view (μ : Store) : Val → Option PV
  | .t d => some d
  | .c k => match μ[k]? with
    | some (some (.lst ds)) => some (.lst ds)
    | some (some (.dic ks vs)) => some (.dic ks vs)
    | some (some (.ob C ns vs)) => some (.obj C ns vs)
    | _ => none
  | .x _ _ => none
  | .s _ => none
def vv (K : PySem.W.Frag) (M : MS) (H : Hp) (v : V) : PV → Prop
  | .lst l => ∃ a vs, v = .ref a ∧ H a = some (.lst vs) ∧ rvs K M H vs l
  | .dic ks l => ∃ a vs, v = .ref a ∧ DicR H a ks vs ∧ rvs K M H vs l
  | .obj C ns l => ∃ a dx vs, v = .ref a ∧ H a = some (.ins (He.ga K C) dx (ns.zip vs)) ∧ vs.length = ns.length ∧ rvs K M H vs l
  | d => rv K M H v d
section
variable {K : PySem.W.Frag} {ξ : Xi} {N : MS} {ζ : List Addr} {μ : Store} {M : MS} {H : Hp} {v : V}
theorem vv_of : ∀ {d : PV}, rv K M H v d → vv K M H v d
  | .lst l, h => let ⟨a, vs, h1, _, h3, h4⟩ := rv_lst.mp h; ⟨a, vs, h1, h3, h4⟩
  | .dic ks l, h => let ⟨a, vs, h1, _, h3, h4⟩ := rv_dic.mp h; ⟨a, vs, h1, h3, h4⟩
  | .obj C ns l, h => let ⟨a, dx, vs, h1, _, _, h3, _, h5, h6⟩ := rv_obj.mp h; ⟨a, dx, vs, h1, h3, h5, h6⟩
  | .non, h => h
  | .bl _, h => h
  | .int _, h => h
  | .str _, h => h
  | .tup _, h => h
theorem RV.view {w : Val} {d : PV} (wd : Wd K N ζ μ H) (h : RV K ξ ζ (MM N ζ μ) H v w) (e : view μ w = some d) : vv K (MM N ζ μ) H v d := by
  cases w with
  | t d' => cases e; exact vv_of h
  | c k =>
    obtain ⟨a, ha, rfl⟩ := h
    simp only [PM.view] at e
    split at e
    · rename_i ds hk
      cases e
      obtain ⟨vs, h1, h2⟩ := wd.cell k _ a hk ha
      exact ⟨a, vs, rfl, h1, h2⟩
    · rename_i ks ds hk
      cases e
      obtain ⟨vs, h1, h2⟩ := wd.cell k _ a hk ha
      exact ⟨a, vs, rfl, h1, h2⟩
    · rename_i C ns ds hk
      cases e
      obtain ⟨dx, vs, h1, h2, h3, h4, h5⟩ := wd.cell k _ a hk ha
      exact ⟨a, dx, vs, rfl, h2, h4, h5⟩
    · cases e
  | x _ _ => cases e
  | s _ => cases e
/-- the heap grows -/
def Grow (H H' : Hp) : Prop := ∀ a o, H a = some o → H' a = some o
theorem Grow.refl : Grow H H := fun _ _ h => h
theorem Grow.upd {p : Addr} {o : HO} (h : H p = none) : Grow H (upd H p o) := fun a u e => by rw [upd_ne (ne_of_none e h)]; exact e
theorem Grow.trans {H1 H2 : Hp} (a : Grow H H1) (b : Grow H1 H2) : Grow H H2 := fun x o h => b x o (a x o h)
theorem Grow.dom {H' : Hp} (g : Grow H H') {a : Addr} (h : H' a = none) : H a = none := by
  cases e : H a with
  | none => rfl
  | some o => rw [g a o e] at h; cases h
theorem Grow.ev {H' : Hp} (g : Grow H H') : Ev ζ μ H ζ μ H' := ⟨fun _ _ h => h, ⟨fun a o _ h => g a o h, fun _ h => g.dom h⟩, fun _ h => .inl h⟩
theorem Grow.rv {H' : Hp} {d : PV} (g : Grow H H') (h : rv K M H v d) : rv K M H' v d := rv_st (fun _ n _ => n) (fun a o _ e => g a o e) d v h
theorem Grow.rvs {H' : Hp} {vs : List V} {ds : List PV} (g : Grow H H') (h : rvs K M H vs ds) : rvs K M H' vs ds := rvs_st (fun _ n _ => n) (fun a o _ e => g a o e) ds vs h
end
def Fre (M : MS) (H : Hp) : Prop := ∀ p, H p = none → ¬ M p
/-- what a pure answer is to give -/
def Gives (K : PySem.W.Frag) (M : MS) (H : Hp) (Q : VK) (d : PV) : Prop := ∀ H' v, Grow H H' → rv K M H' v d → Q v H'
def GivesF (K : PySem.W.Frag) (M : MS) (H : Hp) (Q : VK) (ds : List PV) : Prop := ∀ H' a vs, Grow H H' → H a = none → H' a = some (.lst vs) → rvs K (WD.plus M a) H' vs ds → Q (.ref a) H'
section
variable {K : PySem.W.Frag} {M : MS} {H : Hp} {Q : VK}
theorem Gives.int {i : Int} (g : Gives K M H Q (.int i)) : Q (.int i) H := g H _ Grow.refl (rv_int.mpr rfl)
theorem Gives.bl {i : Bool} (g : Gives K M H Q (.bl i)) : Q (.bl i) H := g H _ Grow.refl (rv_bl.mpr rfl)
theorem Gives.str {i : Str} (g : Gives K M H Q (.str i)) (h : PyData.strOk i = true) : Q (.str i) H := g H _ Grow.refl (rv_str.mpr ⟨rfl, h⟩)
theorem Gives.tup {vs : List V} {ds : List PV} {p : Addr} (g : Gives K M H Q (.tup ds)) (f : Fre M H) (r : rvs K M H vs ds) (hp : H p = none) : Q (.ref p) (upd H p (.tup vs)) :=
  g _ _ (Grow.upd hp) (rv_tup.mpr ⟨p, vs, rfl, f p hp, upd_same, (Grow.upd hp).rvs r⟩)
theorem Gives.lst {vs : List V} {ds : List PV} {p : Addr} (g : Gives K M H Q (.lst ds)) (f : Fre M H) (r : rvs K M H vs ds) (hp : H p = none) : Q (.ref p) (upd H p (.lst vs)) :=
  g _ _ (Grow.upd hp) (rv_lst.mpr ⟨p, vs, rfl, f p hp, upd_same, (Grow.upd hp).rvs r⟩)
theorem GivesF.lst {vs : List V} {ds : List PV} {p : Addr} (g : GivesF K M H Q ds) (r : rvs K M H vs ds) (hp : H p = none) : Q (.ref p) (upd H p (.lst vs)) :=
  g _ p vs (Grow.upd hp) hp upd_same (Grow.rvs_ad (Grow.upd hp) hp r)
where Grow.rvs_ad {K : PySem.W.Frag} {M : MS} {H H' : Hp} {p : Addr} {vs : List V} {ds : List PV} (g : Grow H H') (hp : H p = none) (r : rvs K M H vs ds) : rvs K (WD.plus M p) H' vs ds := rvs_st (fun a n ne z => z.elim n fun e => ne (by rw [e]; exact hp)) (fun a o _ e => g a o e) ds vs r
end
/-- readings of pure operators -/
def rP1 (K : PySem.W.Frag) (g : PV → Option PV) : V → Hp → VK → Prop := fun x H Q => ∃ M d1 d, vv K M H x d1 ∧ Fre M H ∧ g d1 = some d ∧ Gives K M H Q d
def rP2 (K : PySem.W.Frag) (g : PV → PV → Option PV) : R2 := fun x y H Q => ∃ M d1 d2 d, vv K M H x d1 ∧ vv K M H y d2 ∧ Fre M H ∧ g d1 d2 = some d ∧ Gives K M H Q d
def rPF1 (K : PySem.W.Frag) (g : PV → Option (List PV)) : V → Hp → VK → Prop := fun x H Q => ∃ M d1 d, vv K M H x d1 ∧ Fre M H ∧ g d1 = some d ∧ GivesF K M H Q d
def rPF2 (K : PySem.W.Frag) (g : PV → PV → Option (List PV)) : R2 := fun x y H Q => ∃ M d1 d2 d, vv K M H x d1 ∧ vv K M H y d2 ∧ Fre M H ∧ g d1 d2 = some d ∧ GivesF K M H Q d
def vvs (K : PySem.W.Frag) (M : MS) (H : Hp) : List V → List PV → Prop
  | [], [] => True
  | v :: vs, d :: ds => vv K M H v d ∧ vvs K M H vs ds
  | _, _ => False
def rPN (K : PySem.W.Frag) (g : List PV → Option PV) : List V → Hp → VK → Prop := fun xs H Q => ∃ M ds d, vvs K M H xs ds ∧ Fre M H ∧ g ds = some d ∧ Gives K M H Q d
def rPFN (K : PySem.W.Frag) (g : List PV → Option (List PV)) : List V → Hp → VK → Prop := fun xs H Q => ∃ M ds d, vvs K M H xs ds ∧ Fre M H ∧ g ds = some d ∧ GivesF K M H Q d
def OR.ok {α : Type} (μ : Store) : Option α → R α
  | some d => .ok d μ
  | none => .stuck
/-- .. in the machine -/
def views (μ : Store) : List Val → Option (List PV)
  | [] => some []
  | w :: ws => match view μ w, views μ ws with
    | some d, some ds => some (d :: ds)
    | _, _ => none
def p1 (g : PV → Option PV) (w : Val) (μ : Store) : R Val := match view μ w with
  | some d => OR.ok μ ((g d).map .t)
  | none => .stuck
def p2 (g : PV → PV → Option PV) (w u : Val) (μ : Store) : R Val := match view μ w, view μ u with
  | some d, some e => OR.ok μ ((g d e).map .t)
  | _, _ => .stuck
def pf1 (g : PV → Option (List PV)) (w : Val) (μ : Store) : R (List PV) := match view μ w with
  | some d => OR.ok μ (g d)
  | none => .stuck
def pf2 (g : PV → PV → Option (List PV)) (w u : Val) (μ : Store) : R (List PV) := match view μ w, view μ u with
  | some d, some e => OR.ok μ (g d e)
  | _, _ => .stuck
def pN (g : List PV → Option PV) (ws : List Val) (μ : Store) : R Val := match views μ ws with
  | some ds => OR.ok μ ((g ds).map .t)
  | none => .stuck
def pfN (g : List PV → Option (List PV)) (ws : List Val) (μ : Store) : R (List PV) := match views μ ws with
  | some ds => OR.ok μ (g ds)
  | none => .stuck
def e1 {α : Type} (g : Val → Store → R α) (a : ME) : Sl → Store → R α := fun σ μ => (a σ μ).bind g
def e2 {α : Type} (g : Val → Val → Store → R α) (a b : ME) : Sl → Store → R α := fun σ μ => (a σ μ).bind fun w μ1 => (b σ μ1).bind fun u μ2 => g w u μ2
def eN {α : Type} (g : List Val → Store → R α) (a : Sl → Store → R (List Val)) : Sl → Store → R α := fun σ μ => (a σ μ).bind g

section
variable {K : PySem.W.Frag} {ξ : Xi} {W : WX} {N : MS} {ζ : List Addr} {μ : Store} {H : Hp} {σr : L2.St} {Q : VK} {x y : V} {w u : Val} {xs : List V} {ws : List Val}
theorem Wd.fre (h : Wd K N ζ μ H) : Fre (MM N ζ μ) H := fun _ e => h.no e
theorem postE_p {d : PV} (wd : Wd K N ζ μ H) (h : PostE K ξ W N ζ μ H σr Q (.ok (.t d) μ)) : Gives K (MM N ζ μ) H Q d := fun H' v g r => h ζ H' v g.ev (wd.fr0 g) r
theorem Wd.aside {H' : Hp} {a : Addr} (wd : Wd K N ζ μ H) (g : Grow H H') (n : H a = none) (e : H' a ≠ none) : Wd K (WD.plus N a) ζ μ H' := by
  refine ⟨wd.len, wd.inj, fun k c b h1 h2 => ?_, fun b h => ?_⟩
  · exact (wd.cell k c b h1 h2).st (fun x nx ne z => z.elim (fun z => nx (.inl z)) fun z => z.elim (fun z => nx (.inr z)) fun z => ne (by rw [z]; exact n)) (fun x o _ hx => g x o hx) (g b)
  · rcases h with h | h
    · exact ⟨(wd.nd b h).1, fun z => (wd.nd b h).2 (g.dom z)⟩
    · rw [show b = a from h]
      exact ⟨fun z => wd.no n (.inl z), e⟩
theorem MM_aside {a : Addr} : ∀ x, MM (WD.plus N a) ζ μ x → WD.plus (MM N ζ μ) a x := fun x h => h.elim (fun h => .inl (.inl h)) fun h => h.elim (fun h => .inl (.inr h)) fun h => .inr h
theorem postF_p {d : List PV} (wd : Wd K N ζ μ H) (h : PostF K W N ζ μ H σr Q (.ok d μ)) : GivesF K (MM N ζ μ) H Q d := fun H' a vs g n e r => h ζ H' a vs g.ev (wd.aside g n (by rw [e]; exact fun z => nomatch z)) n e (rvs_wk MM_aside r)
theorem read_p1 {g : PV → Option PV} (wd : Wd K N ζ μ H) (r : RV K ξ ζ (MM N ζ μ) H x w) (h : PostE K ξ W N ζ μ H σr Q (p1 g w μ)) : rP1 K g x H Q := by
  unfold p1 at h
  split at h
  · rename_i d e
    cases e2 : g d with
    | none => rw [e2] at h; exact h.elim
    | some d' => rw [e2] at h; exact ⟨_, d, d', r.view wd e, wd.fre, e2, postE_p wd h⟩
  · exact h.elim
theorem read_pf1 {g : PV → Option (List PV)} (wd : Wd K N ζ μ H) (r : RV K ξ ζ (MM N ζ μ) H x w) (h : PostF K W N ζ μ H σr Q (pf1 g w μ)) : rPF1 K g x H Q := by
  unfold pf1 at h
  split at h
  · rename_i d e
    cases e2 : g d with
    | none => rw [e2] at h; exact h.elim
    | some d' => rw [e2] at h; exact ⟨_, d, d', r.view wd e, wd.fre, e2, postF_p wd h⟩
  · exact h.elim
theorem read_p2 {g : PV → PV → Option PV} (wd : Wd K N ζ μ H) (r : RV K ξ ζ (MM N ζ μ) H x w) (r' : RV K ξ ζ (MM N ζ μ) H y u) (h : PostE K ξ W N ζ μ H σr Q (p2 g w u μ)) : rP2 K g x y H Q := by
  unfold p2 at h
  split at h
  · rename_i d d2 e e'
    cases e2 : g d d2 with
    | none => rw [e2] at h; exact h.elim
    | some d' => rw [e2] at h; exact ⟨_, d, d2, d', r.view wd e, r'.view wd e', wd.fre, e2, postE_p wd h⟩
  · exact h.elim
theorem read_pf2 {g : PV → PV → Option (List PV)} (wd : Wd K N ζ μ H) (r : RV K ξ ζ (MM N ζ μ) H x w) (r' : RV K ξ ζ (MM N ζ μ) H y u) (h : PostF K W N ζ μ H σr Q (pf2 g w u μ)) : rPF2 K g x y H Q := by
  unfold pf2 at h
  split at h
  · rename_i d d2 e e'
    cases e2 : g d d2 with
    | none => rw [e2] at h; exact h.elim
    | some d' => rw [e2] at h; exact ⟨_, d, d2, d', r.view wd e, r'.view wd e', wd.fre, e2, postF_p wd h⟩
  · exact h.elim
theorem RVs.views (wd : Wd K N ζ μ H) : ∀ {xs : List V} {ws : List Val} {ds : List PV}, RVs K ξ ζ (MM N ζ μ) H xs ws → views μ ws = some ds → vvs K (MM N ζ μ) H xs ds
  | [], [], ds, _, e => by cases e; exact trivial
  | x :: xs, w :: ws, ds, h, e => by
    unfold PM.views at e
    split at e
    · rename_i d ds' e1 e2
      cases e
      exact ⟨h.1.view wd e1, RVs.views wd h.2 e2⟩
    · cases e
  | [], _ :: _, _, h, _ => h.elim
  | _ :: _, [], _, h, _ => h.elim
theorem read_pN {g : List PV → Option PV} (wd : Wd K N ζ μ H) (r : RVs K ξ ζ (MM N ζ μ) H xs ws) (h : PostE K ξ W N ζ μ H σr Q (pN g ws μ)) : rPN K g xs H Q := by
  unfold pN at h
  split at h
  · rename_i d e
    cases e2 : g d with
    | none => rw [e2] at h; exact h.elim
    | some d' => rw [e2] at h; exact ⟨_, d, d', r.views wd e, wd.fre, e2, postE_p wd h⟩
  · exact h.elim
theorem read_pfN {g : List PV → Option (List PV)} (wd : Wd K N ζ μ H) (r : RVs K ξ ζ (MM N ζ μ) H xs ws) (h : PostF K W N ζ μ H σr Q (pfN g ws μ)) : rPFN K g xs H Q := by
  unfold pfN at h
  split at h
  · rename_i d e
    cases e2 : g d with
    | none => rw [e2] at h; exact h.elim
    | some d' => rw [e2] at h; exact ⟨_, d, d', r.views wd e, wd.fre, e2, postF_p wd h⟩
  · exact h.elim
/-- a reading in a row, then a step -/
theorem seq1 {a : ME} {σ : Sl} {Z : Hp → V → Prop} {P : Store → R Val → Prop} (wd : Wd K N ζ μ H) (so : Sok K ξ ζ (MM N ζ μ) H σr σ)
    (hok : ∀ w1 μ1 ζ1 H1 v, a σ μ = .ok w1 μ1 → Ev ζ μ H ζ1 μ1 H1 → Wd K N ζ1 μ1 H1 → RV K ξ ζ1 (MM N ζ1 μ1) H1 v w1 → Q v H1)
    (hex : ∀ c f μ1 ζ1 H1 d, a σ μ = .ex c f μ1 → Ev ζ μ H ζ1 μ1 H1 → Wd K N ζ1 μ1 H1 → XR K (MM N ζ1 μ1) H1 d f → W (.ref (He.ga K c)) d σr H1) (hst : a σ μ ≠ .stuck) : tE K ξ W a σr H Q := by
  refine ⟨N, ζ, μ, σ, wd, so, ?_⟩
  cases e : a σ μ with
  | ok w1 μ1 => exact fun ζ' H' v ev w r => hok w1 μ1 ζ' H' v e ev w r
  | ex c f μ1 => exact fun ζ' H' d ev w r => hex c f μ1 ζ' H' d e ev w r
  | stuck => exact hst e
end
theorem RV.blI {K : PySem.W.Frag} {ξ : Xi} {ζ : List Addr} {M : MS} {H : Hp} {b : Bool} : RV K ξ ζ M H (.bl b) (.t (.bl b)) := (rv_bl (K := K) (M := M) (H := H)).mpr rfl
section
variable {K : PySem.W.Frag} {ξ : Xi} {W : WX} {N : MS} {ζ : List Addr} {μ : Store} {H : Hp} {σr : L2.St} {σ : Sl} {Q : VK}
/-- a, then a step g whose answer is an R Val -/
theorem then1 {a : ME} {g : Val → Store → R Val} (wd : Wd K N ζ μ H) (so : Sok K ξ ζ (MM N ζ μ) H σr σ) (h : PostE K ξ W N ζ μ H σr Q ((a σ μ).bind g)) :
    tE K ξ W a σr H fun x H1 => ∃ ζ1 μ1 w1, Ev ζ μ H ζ1 μ1 H1 ∧ Wd K N ζ1 μ1 H1 ∧ Sok K ξ ζ1 (MM N ζ1 μ1) H1 σr σ ∧ RV K ξ ζ1 (MM N ζ1 μ1) H1 x w1 ∧ PostE K ξ W N ζ1 μ1 H1 σr Q (g w1 μ1) := by
  refine ⟨N, ζ, μ, σ, wd, so, ?_⟩
  cases e : a σ μ with
  | ok w1 μ1 => rw [e] at h; exact fun ζ' H' v ev w r => ⟨ζ', μ1, w1, ev, w, so.ev ev, r, h.ev ev⟩
  | ex c f μ1 => rw [e] at h; exact h
  | stuck => rw [e] at h; exact h
theorem then1F {a : ME} {g : Val → Store → R (List PV)} (wd : Wd K N ζ μ H) (so : Sok K ξ ζ (MM N ζ μ) H σr σ) (h : PostF K W N ζ μ H σr Q ((a σ μ).bind g)) :
    tE K ξ W a σr H fun x H1 => ∃ ζ1 μ1 w1, Ev ζ μ H ζ1 μ1 H1 ∧ Wd K N ζ1 μ1 H1 ∧ Sok K ξ ζ1 (MM N ζ1 μ1) H1 σr σ ∧ RV K ξ ζ1 (MM N ζ1 μ1) H1 x w1 ∧ PostF K W N ζ1 μ1 H1 σr Q (g w1 μ1) := by
  refine ⟨N, ζ, μ, σ, wd, so, ?_⟩
  cases e : a σ μ with
  | ok w1 μ1 => rw [e] at h; exact fun ζ' H' v ev w r => ⟨ζ', μ1, w1, ev, w, so.ev ev, r, h.ev ev⟩
  | ex c f μ1 => rw [e] at h; exact h
  | stuck => rw [e] at h; exact h
theorem then1T {α : Type} {a : ME} {P : α → Hp → Prop} {g : Val → Store → R α} (wd : Wd K N ζ μ H) (so : Sok K ξ ζ (MM N ζ μ) H σr σ) (h : PostT K W N ζ μ H σr P ((a σ μ).bind g)) :
    tE K ξ W a σr H fun x H1 => ∃ ζ1 μ1 w1, Ev ζ μ H ζ1 μ1 H1 ∧ Wd K N ζ1 μ1 H1 ∧ Sok K ξ ζ1 (MM N ζ1 μ1) H1 σr σ ∧ RV K ξ ζ1 (MM N ζ1 μ1) H1 x w1 ∧ PostT K W N ζ1 μ1 H1 σr P (g w1 μ1) := by
  refine ⟨N, ζ, μ, σ, wd, so, ?_⟩
  cases e : a σ μ with
  | ok w1 μ1 => rw [e] at h; exact fun ζ' H' v ev w r => ⟨ζ', μ1, w1, ev, w, so.ev ev, r, h.ev ev⟩
  | ex c f μ1 => rw [e] at h; exact h
  | stuck => rw [e] at h; exact h
theorem thenN {a : Sl → Store → R (List Val)} {g : List Val → Store → R Val} (wd : Wd K N ζ μ H) (so : Sok K ξ ζ (MM N ζ μ) H σr σ) (h : PostE K ξ W N ζ μ H σr Q ((a σ μ).bind g)) :
    tA K ξ W a σr H fun xs H1 => ∃ ζ1 μ1 ws, Ev ζ μ H ζ1 μ1 H1 ∧ Wd K N ζ1 μ1 H1 ∧ Sok K ξ ζ1 (MM N ζ1 μ1) H1 σr σ ∧ RVs K ξ ζ1 (MM N ζ1 μ1) H1 xs ws ∧ PostE K ξ W N ζ1 μ1 H1 σr Q (g ws μ1) := by
  refine ⟨N, ζ, μ, σ, wd, so, ?_⟩
  cases e : a σ μ with
  | ok w1 μ1 => rw [e] at h; exact fun ζ' H' v ev w r => ⟨ζ', μ1, w1, ev, w, so.ev ev, r, h.ev ev⟩
  | ex c f μ1 => rw [e] at h; exact h
  | stuck => rw [e] at h; exact h
theorem thenNF {a : Sl → Store → R (List Val)} {g : List Val → Store → R (List PV)} (wd : Wd K N ζ μ H) (so : Sok K ξ ζ (MM N ζ μ) H σr σ) (h : PostF K W N ζ μ H σr Q ((a σ μ).bind g)) :
    tA K ξ W a σr H fun xs H1 => ∃ ζ1 μ1 ws, Ev ζ μ H ζ1 μ1 H1 ∧ Wd K N ζ1 μ1 H1 ∧ Sok K ξ ζ1 (MM N ζ1 μ1) H1 σr σ ∧ RVs K ξ ζ1 (MM N ζ1 μ1) H1 xs ws ∧ PostF K W N ζ1 μ1 H1 σr Q (g ws μ1) := by
  refine ⟨N, ζ, μ, σ, wd, so, ?_⟩
  cases e : a σ μ with
  | ok w1 μ1 => rw [e] at h; exact fun ζ' H' v ev w r => ⟨ζ', μ1, w1, ev, w, so.ev ev, r, h.ev ev⟩
  | ex c f μ1 => rw [e] at h; exact h
  | stuck => rw [e] at h; exact h
/-- a reading is monotone -/
theorem tE.mono {a : ME} {Q' : VK} (h : tE K ξ W a σr H Q) (k : ∀ v H', Q v H' → Q' v H') : tE K ξ W a σr H Q' := by
  obtain ⟨N, ζ, μ, σ, wd, so, h⟩ := h
  refine ⟨N, ζ, μ, σ, wd, so, ?_⟩
  cases e : a σ μ with
  | ok w1 μ1 => rw [e] at h; exact fun ζ' H' v ev w r => k _ _ (h ζ' H' v ev w r)
  | ex c f μ1 => rw [e] at h; exact h
  | stuck => rw [e] at h; exact h
theorem tA.mono {a : Sl → Store → R (List Val)} {Q Q' : List V → Hp → Prop} (h : tA K ξ W a σr H Q) (k : ∀ v H', Q v H' → Q' v H') : tA K ξ W a σr H Q' := by
  obtain ⟨N, ζ, μ, σ, wd, so, h⟩ := h
  refine ⟨N, ζ, μ, σ, wd, so, ?_⟩
  cases e : a σ μ with
  | ok w1 μ1 => rw [e] at h; exact fun ζ' H' v ev w r => k _ _ (h ζ' H' v ev w r)
  | ex c f μ1 => rw [e] at h; exact h
  | stuck => rw [e] at h; exact h
end

/-! ### expressions -/
def eV (i : Nat) : ME := fun σ μ => match σ[i]? with
  | some (some w) => .ok w μ
  | _ => .stuck
def eC (d : PV) : ME := fun _ μ => .ok (.t d) μ
def asBl : Val → Option Bool
  | .t (.bl b) => some b
  | _ => none
def gBl {α : Type} (k : Bool → Store → R α) (w : Val) (μ : Store) : R α := match asBl w with
  | some b => k b μ
  | none => .stuck
def eAnd (a b : ME) : ME := fun σ μ => (a σ μ).bind (gBl fun c μ1 => if c then b σ μ1 else .ok (.t (.bl false)) μ1)
def eOr (a b : ME) : ME := fun σ μ => (a σ μ).bind (gBl fun c μ1 => if c then .ok (.t (.bl true)) μ1 else b σ μ1)
def eNot (a : ME) : ME := e1 (gBl fun c μ1 => .ok (.t (.bl (!c))) μ1) a
def eIf (c : Sl → Store → R Bool) (a b : ME) : ME := fun σ μ => (c σ μ).bind fun k μ1 => if k then a σ μ1 else b σ μ1
def tVal (a : ME) : Sl → Store → R Bool := e1 (gBl fun c μ1 => .ok c μ1) a
def tAnd' (a b : Sl → Store → R Bool) : Sl → Store → R Bool := fun σ μ => (a σ μ).bind fun k μ1 => if k then b σ μ1 else .ok false μ1
def tOr' (a b : Sl → Store → R Bool) : Sl → Store → R Bool := fun σ μ => (a σ μ).bind fun k μ1 => if k then .ok true μ1 else b σ μ1
def tNot' (a : Sl → Store → R Bool) : Sl → Store → R Bool := fun σ μ => (a σ μ).bind fun k μ1 => .ok (!k) μ1
def aNil : Sl → Store → R (List Val) := fun _ μ => .ok [] μ
def aCons (a : ME) (b : Sl → Store → R (List Val)) : Sl → Store → R (List Val) := fun σ μ => (a σ μ).bind fun w μ1 => (b σ μ1).bind fun ws μ2 => .ok (w :: ws) μ2
def asT : List Val → Option (List PV)
  | [] => some []
  | .t d :: ws => (asT ws).map (d :: ·)
  | _ :: _ => none
def gTup (ws : List Val) (μ : Store) : R Val := if ws.length ≤ sizeLine then OR.ok μ ((asT ws).map fun ds => .t (.tup ds)) else .stuck
def gLst (ws : List Val) (μ : Store) : R (List PV) := if ws.length ≤ sizeLine then OR.ok μ (asT ws) else .stuck
/-- a new list as a datum; as a thing that changes -/
def eOfF (f : Sl → Store → R (List PV)) : ME := fun σ μ => (f σ μ).bind fun ds μ1 => .ok (.t (.lst ds)) μ1
def eCellF (f : Sl → Store → R (List PV)) : ME := fun σ μ => (f σ μ).bind fun ds μ1 => .ok (.c μ1.length) (μ1 ++ [some (.lst ds)])

section
variable {X : Cx} {K : PySem.W.Frag} {ξ : Xi} {W : WX} {a b c e : Expr} {es : List Expr} {fa fb fc : ME} {ta tb tc : Sl → Store → R Bool} {fs : Sl → Store → R (List Val)} {pos : Pos}
theorem i_pv {i : Nat} {x : Str} (h : PE X (.Name x pos) (tVar i)) : IE K ξ W X (.Name x pos) (eV i) := PE.of h fun σr H Q q => by
  obtain ⟨N, ζ, μ, σ, wd, so, q⟩ := q
  unfold eV at q
  split at q
  · rename_i w hw
    obtain ⟨v, h1, h2⟩ := so.2 i w hw
    exact ⟨v, h1, q ζ H v Ev.refl wd h2⟩
  · exact q.elim
theorem i_c {v : V} {d : PV} (h : PE X e (tC v)) (r : ∀ M H, rv K M H v d) : IE K ξ W X e (eC d) := PE.of h fun σr H Q q => by
  obtain ⟨N, ζ, μ, σ, wd, so, q⟩ := q
  exact q ζ H v Ev.refl wd (r _ _)
theorem i_int {i : Int} {j pos} : IE K ξ W X (.Constant (.int i) j pos) (eC (.int i)) := i_c pe_int fun _ _ => rv_int.mpr rfl
theorem i_bl {i : Bool} {j pos} : IE K ξ W X (.Constant (.bool i) j pos) (eC (.bl i)) := i_c pe_bl fun _ _ => rv_bl.mpr rfl
theorem i_non {j pos} : IE K ξ W X (.Constant .none j pos) (eC .non) := i_c pe_non fun _ _ => rv_non.mpr rfl
theorem i_str {x : Str} {j pos} (h : PyData.strOk x = true := by decide +kernel) : IE K ξ W X (.Constant (.str x) j pos) (eC (.str x)) := i_c pe_str fun _ _ => rv_str.mpr ⟨rfl, h⟩
theorem i_gi {x : Str} {i : Int} (hg : Gl X x) (h : ∃ t, X.mg x = some (.int i t)) (hd : (x == ("__debug__" : Str)) = false := by decide) : IE K ξ W X (.Name x pos) (eC (.int i)) := i_c (WD.pe_gi hg h hd) fun _ _ => rv_int.mpr rfl
theorem i_gs {x z : Str} (hg : Gl X x) (h : ∃ t, X.mg x = some (.str z t)) (hz : PyData.strOk z = true := by decide +kernel) (hd : (x == ("__debug__" : Str)) = false := by decide) : IE K ξ W X (.Name x pos) (eC (.str z)) := i_c (WD.pe_gs hg h hd) fun _ _ => rv_str.mpr ⟨rfl, hz⟩

theorem i_op {op : Operator} {g : PV → PV → Option PV} (r : OpR X (binaryOp op) (rP2 K g)) (ha : IE K ξ W X a fa) (hb : IE K ξ W X b fb) : IE K ξ W X (.BinOp a op b pos) (e2 (p2 g) fa fb) := PE.of (pe_op r ha hb) fun σr H Q q => by
  obtain ⟨N, ζ, μ, σ, wd, so, q⟩ := q
  refine (then1 wd so q).mono fun x H1 ⟨ζ1, μ1, w1, ev1, wd1, so1, r1, q1⟩ => ?_
  refine (then1 wd1 so1 q1).mono fun y H2 ⟨ζ2, μ2, w2, ev2, wd2, so2, r2, q2⟩ => ?_
  exact read_p2 wd2 (r1.ev ev2) r2 q2
theorem f_op {op : Operator} {g : PV → PV → Option (List PV)} (r : OpR X (binaryOp op) (rPF2 K g)) (ha : IE K ξ W X a fa) (hb : IE K ξ W X b fb) : IF K ξ W X (.BinOp a op b pos) (e2 (pf2 g) fa fb) := PE.of (pe_op r ha hb) fun σr H Q q => by
  obtain ⟨N, ζ, μ, σ, wd, so, q⟩ := q
  refine (then1F wd so q).mono fun x H1 ⟨ζ1, μ1, w1, ev1, wd1, so1, r1, q1⟩ => ?_
  refine (then1F wd1 so1 q1).mono fun y H2 ⟨ζ2, μ2, w2, ev2, wd2, so2, r2, q2⟩ => ?_
  exact read_pf2 wd2 (r1.ev ev2) r2 q2
theorem i_cmp {op : CmpOp} {g : PV → PV → Option PV} (r : OpR X (compareOp op) (rP2 K g)) (ha : IE K ξ W X a fa) (hb : IE K ξ W X b fb) (hm : behindInMarks op b = false) : IE K ξ W X (.Compare a [op] [b] pos) (e2 (p2 g) fa fb) := PE.of (pe_cmpR r ha hb hm) fun σr H Q q => by
  obtain ⟨N, ζ, μ, σ, wd, so, q⟩ := q
  refine (then1 wd so q).mono fun x H1 ⟨ζ1, μ1, w1, ev1, wd1, so1, r1, q1⟩ => ?_
  refine (then1 wd1 so1 q1).mono fun y H2 ⟨ζ2, μ2, w2, ev2, wd2, so2, r2, q2⟩ => ?_
  exact read_p2 wd2 (r1.ev ev2) r2 q2
/-- a value that is True or False, at once -/
theorem PostT.bl {N : MS} {ζ : List Addr} {μ : Store} {H : Hp} {σr : L2.St} {v : V} {w : Val} {P : Bool → Hp → Prop} {k : Bool → Store → R Bool} (wd : Wd K N ζ μ H) (r : RV K ξ ζ (MM N ζ μ) H v w) (h : PostT K W N ζ μ H σr P (gBl k w μ)) : ∃ c, v = .bl c ∧ PostT K W N ζ μ H σr P (k c μ) := by
  unfold gBl at h
  split at h
  · rename_i c e
    unfold asBl at e
    split at e
    · cases e; exact ⟨c, rv_bl.mp (show rv K (MM N ζ μ) H v (.bl c) from r), h⟩
    · cases e
  · exact h.elim
theorem PostE.bl {N : MS} {ζ : List Addr} {μ : Store} {H : Hp} {σr : L2.St} {v : V} {w : Val} {Q : VK} {k : Bool → Store → R Val} (wd : Wd K N ζ μ H) (r : RV K ξ ζ (MM N ζ μ) H v w) (h : PostE K ξ W N ζ μ H σr Q (gBl k w μ)) : ∃ c, v = .bl c ∧ PostE K ξ W N ζ μ H σr Q (k c μ) := by
  unfold gBl at h
  split at h
  · rename_i c e
    unfold asBl at e
    split at e
    · cases e; exact ⟨c, rv_bl.mp (show rv K (MM N ζ μ) H v (.bl c) from r), h⟩
    · cases e
  · exact h.elim
theorem t_cmp {op : CmpOp} {g : PV → PV → Option PV} (r : OpR X (compareOp op) (rP2 K g)) (ha : IE K ξ W X a fa) (hb : IE K ξ W X b fb) (hm : behindInMarks op b = false) : IT K ξ W X (.Compare a [op] [b] pos) (tVal (e2 (p2 g) fa fb)) := PT.of (pt_cmpR r ha hb hm) fun σr H Q q => by
  obtain ⟨N, ζ, μ, σ, wd, so, q⟩ := q
  have q' := then1T (a := e2 (p2 g) fa fb) wd so q
  obtain ⟨N, ζ', μ', σ', wd', so', q'⟩ := q'
  refine (then1 wd' so' q').mono fun x H1 ⟨ζ1, μ1, w1, ev1, wd1, so1, r1, q1⟩ => ?_
  refine (then1 wd1 so1 q1).mono fun y H2 ⟨ζ2, μ2, w2, ev2, wd2, so2, r2, q2⟩ => ?_
  obtain ⟨M, d1, d2, d, h1, h2, h3, h4, h5⟩ := read_p2 wd2 (r1.ev ev2) r2 q2
  refine ⟨M, d1, d2, d, h1, h2, h3, h4, fun H' v gr rr => ?_⟩
  obtain ⟨ζ3, μ3, w3, ev3, wd3, so3, r3, q3⟩ := h5 H' v gr rr
  obtain ⟨c, hc, q3⟩ := PostT.bl wd3 r3 q3
  exact ⟨c, hc, q3 ζ3 H' Ev.refl wd3⟩
theorem i_and {rest : List Expr} (ha : IE K ξ W X a fa) (hb : IE K ξ W X (.BoolOp .And (b :: rest) pos) fb) : IE K ξ W X (.BoolOp .And (a :: b :: rest) pos) (eAnd fa fb) := PE.of (pe_and ha hb) fun σr H Q q => by
  obtain ⟨N, ζ, μ, σ, wd, so, q⟩ := q
  refine (then1 wd so q).mono fun x H1 ⟨ζ1, μ1, w1, ev1, wd1, so1, r1, q1⟩ => ?_
  obtain ⟨c, hc, q2⟩ := PostE.bl wd1 r1 q1
  refine ⟨c, hc, ?_⟩
  cases c with
  | true => exact iteT ⟨N, ζ1, μ1, σ, wd1, so1, q2⟩
  | false => exact iteF (q2 ζ1 H1 _ Ev.refl wd1 RV.blI)
theorem i_or {rest : List Expr} (ha : IE K ξ W X a fa) (hb : IE K ξ W X (.BoolOp .Or (b :: rest) pos) fb) : IE K ξ W X (.BoolOp .Or (a :: b :: rest) pos) (eOr fa fb) := PE.of (pe_or ha hb) fun σr H Q q => by
  obtain ⟨N, ζ, μ, σ, wd, so, q⟩ := q
  refine (then1 wd so q).mono fun x H1 ⟨ζ1, μ1, w1, ev1, wd1, so1, r1, q1⟩ => ?_
  obtain ⟨c, hc, q2⟩ := PostE.bl wd1 r1 q1
  refine ⟨c, hc, ?_⟩
  cases c with
  | true => exact iteT (q2 ζ1 H1 _ Ev.refl wd1 RV.blI)
  | false => exact iteF ⟨N, ζ1, μ1, σ, wd1, so1, q2⟩
theorem i_not (ha : IE K ξ W X a fa) : IE K ξ W X (.UnaryOp .Not a pos) (eNot fa) := PE.of (pe_not ha) fun σr H Q q => by
  obtain ⟨N, ζ, μ, σ, wd, so, q⟩ := q
  refine (then1 wd so q).mono fun x H1 ⟨ζ1, μ1, w1, ev1, wd1, so1, r1, q1⟩ => ?_
  obtain ⟨c, hc, q2⟩ := PostE.bl wd1 r1 q1
  exact ⟨c, hc, q2 ζ1 H1 _ Ev.refl wd1 RV.blI⟩
theorem thenT {N : MS} {ζ : List Addr} {μ : Store} {H : Hp} {σr : L2.St} {σ : Sl} {Q : VK} {t : Sl → Store → R Bool} {g : Bool → Store → R Val} (wd : Wd K N ζ μ H) (so : Sok K ξ ζ (MM N ζ μ) H σr σ) (h : PostE K ξ W N ζ μ H σr Q ((t σ μ).bind g)) :
    tT K ξ W t σr H fun b H1 => ∃ ζ1 μ1, Ev ζ μ H ζ1 μ1 H1 ∧ Wd K N ζ1 μ1 H1 ∧ Sok K ξ ζ1 (MM N ζ1 μ1) H1 σr σ ∧ PostE K ξ W N ζ1 μ1 H1 σr Q (g b μ1) := by
  refine ⟨N, ζ, μ, σ, wd, so, ?_⟩
  cases e : t σ μ with
  | ok w1 μ1 => rw [e] at h; exact fun ζ' H' ev w => ⟨ζ', μ1, ev, w, so.ev ev, h.ev ev⟩
  | ex c f μ1 => rw [e] at h; exact h
  | stuck => rw [e] at h; exact h
theorem thenTT {N : MS} {ζ : List Addr} {μ : Store} {H : Hp} {σr : L2.St} {σ : Sl} {Q : Bool → Hp → Prop} {t : Sl → Store → R Bool} {g : Bool → Store → R Bool} (wd : Wd K N ζ μ H) (so : Sok K ξ ζ (MM N ζ μ) H σr σ) (h : PostT K W N ζ μ H σr Q ((t σ μ).bind g)) :
    tT K ξ W t σr H fun b H1 => ∃ ζ1 μ1, Ev ζ μ H ζ1 μ1 H1 ∧ Wd K N ζ1 μ1 H1 ∧ Sok K ξ ζ1 (MM N ζ1 μ1) H1 σr σ ∧ PostT K W N ζ1 μ1 H1 σr Q (g b μ1) := by
  refine ⟨N, ζ, μ, σ, wd, so, ?_⟩
  cases e : t σ μ with
  | ok w1 μ1 => rw [e] at h; exact fun ζ' H' ev w => ⟨ζ', μ1, ev, w, so.ev ev, h.ev ev⟩
  | ex c f μ1 => rw [e] at h; exact h
  | stuck => rw [e] at h; exact h
theorem tT.mono {σr : L2.St} {H : Hp} {t : Sl → Store → R Bool} {Q Q' : Bool → Hp → Prop} (h : tT K ξ W t σr H Q) (k : ∀ v H', Q v H' → Q' v H') : tT K ξ W t σr H Q' := by
  obtain ⟨N, ζ, μ, σ, wd, so, h⟩ := h
  refine ⟨N, ζ, μ, σ, wd, so, ?_⟩
  cases e : t σ μ with
  | ok w1 μ1 => rw [e] at h; exact fun ζ' H' ev w => k _ _ (h ζ' H' ev w)
  | ex c f μ1 => rw [e] at h; exact h
  | stuck => rw [e] at h; exact h
theorem i_if (hc : IT K ξ W X c tc) (ha : IE K ξ W X a fa) (hb : IE K ξ W X b fb) : IE K ξ W X (.IfExp c a b pos) (eIf tc fa fb) := PE.of (pe_ifExp hc ha hb) fun σr H Q q => by
  obtain ⟨N, ζ, μ, σ, wd, so, q⟩ := q
  refine (thenT wd so q).mono fun k H1 ⟨ζ1, μ1, ev1, wd1, so1, q1⟩ => ?_
  cases k with
  | true => exact iteT ⟨N, ζ1, μ1, σ, wd1, so1, q1⟩
  | false => exact iteF ⟨N, ζ1, μ1, σ, wd1, so1, q1⟩
theorem t_val (ha : IE K ξ W X a fa) (hv : ∀ (whole : Sem Value), PySem.isTrue a X.env whole = (do
            let v ← whole
            standAt (Expr.pos a)
            holding [v] (truthy v)) := by intro _; rfl) : IT K ξ W X a (tVal fa) := PT.of (pt_val ha hv) fun σr H Q q => by
  obtain ⟨N, ζ, μ, σ, wd, so, q⟩ := q
  refine (then1T wd so q).mono fun x H1 ⟨ζ1, μ1, w1, ev1, wd1, so1, r1, q1⟩ => ?_
  obtain ⟨c, hc, q2⟩ := PostT.bl wd1 r1 q1
  exact ⟨c, hc, q2 ζ1 H1 Ev.refl wd1⟩
theorem t_not (ha : IT K ξ W X a ta) : IT K ξ W X (.UnaryOp .Not a pos) (tNot' ta) := PT.of (pt_not ha) fun σr H Q q => by
  obtain ⟨N, ζ, μ, σ, wd, so, q⟩ := q
  refine (thenTT wd so q).mono fun k H1 ⟨ζ1, μ1, ev1, wd1, so1, q1⟩ => q1 ζ1 H1 Ev.refl wd1
abbrev IW (K : PySem.W.Frag) (ξ : Xi) (W : WX) (X : Cx) (e : Expr) (f : Sl → Store → R Bool) : Prop := PW X e (tT K ξ W f)
theorem w_and {rest : List Expr} (ha : IT K ξ W X a ta) (hb : IW K ξ W X (.BoolOp .And (b :: rest) pos) tb) : IW K ξ W X (.BoolOp .And (a :: b :: rest) pos) (tAnd' ta tb) := PW.of (pw_and ha hb) fun σr H Q q => by
  obtain ⟨N, ζ, μ, σ, wd, so, q⟩ := q
  refine (thenTT wd so q).mono fun k H1 ⟨ζ1, μ1, ev1, wd1, so1, q1⟩ => ?_
  cases k with
  | true => exact iteT ⟨N, ζ1, μ1, σ, wd1, so1, q1⟩
  | false => exact iteF (q1 ζ1 H1 Ev.refl wd1)
theorem w_or {rest : List Expr} (ha : IT K ξ W X a ta) (hb : IW K ξ W X (.BoolOp .Or (b :: rest) pos) tb) : IW K ξ W X (.BoolOp .Or (a :: b :: rest) pos) (tOr' ta tb) := PW.of (pw_or ha hb) fun σr H Q q => by
  obtain ⟨N, ζ, μ, σ, wd, so, q⟩ := q
  refine (thenTT wd so q).mono fun k H1 ⟨ζ1, μ1, ev1, wd1, so1, q1⟩ => ?_
  cases k with
  | true => exact iteT (q1 ζ1 H1 Ev.refl wd1)
  | false => exact iteF ⟨N, ζ1, μ1, σ, wd1, so1, q1⟩
theorem a_nil : IA K ξ W X [] aNil := PA.of pa_nil fun σr H Q q => by
  obtain ⟨N, ζ, μ, σ, wd, so, q⟩ := q
  exact q ζ H [] Ev.refl wd trivial
theorem thenNA {N : MS} {ζ : List Addr} {μ : Store} {H : Hp} {σr : L2.St} {σ : Sl} {Q : List V → Hp → Prop} {a : Sl → Store → R (List Val)} {g : List Val → Store → R (List Val)} (wd : Wd K N ζ μ H) (so : Sok K ξ ζ (MM N ζ μ) H σr σ) (h : PostA K ξ W N ζ μ H σr Q ((a σ μ).bind g)) :
    tA K ξ W a σr H fun xs H1 => ∃ ζ1 μ1 ws, Ev ζ μ H ζ1 μ1 H1 ∧ Wd K N ζ1 μ1 H1 ∧ RVs K ξ ζ1 (MM N ζ1 μ1) H1 xs ws ∧ PostA K ξ W N ζ1 μ1 H1 σr Q (g ws μ1) := by
  refine ⟨N, ζ, μ, σ, wd, so, ?_⟩
  cases e : a σ μ with
  | ok w1 μ1 => rw [e] at h; exact fun ζ' H' v ev w r => ⟨ζ', μ1, w1, ev, w, r, h.ev ev⟩
  | ex c f μ1 => rw [e] at h; exact h
  | stuck => rw [e] at h; exact h
theorem then1A {N : MS} {ζ : List Addr} {μ : Store} {H : Hp} {σr : L2.St} {σ : Sl} {Q : List V → Hp → Prop} {a : ME} {g : Val → Store → R (List Val)} (wd : Wd K N ζ μ H) (so : Sok K ξ ζ (MM N ζ μ) H σr σ) (h : PostA K ξ W N ζ μ H σr Q ((a σ μ).bind g)) :
    tE K ξ W a σr H fun x H1 => ∃ ζ1 μ1 w1, Ev ζ μ H ζ1 μ1 H1 ∧ Wd K N ζ1 μ1 H1 ∧ Sok K ξ ζ1 (MM N ζ1 μ1) H1 σr σ ∧ RV K ξ ζ1 (MM N ζ1 μ1) H1 x w1 ∧ PostA K ξ W N ζ1 μ1 H1 σr Q (g w1 μ1) := by
  refine ⟨N, ζ, μ, σ, wd, so, ?_⟩
  cases e : a σ μ with
  | ok w1 μ1 => rw [e] at h; exact fun ζ' H' v ev w r => ⟨ζ', μ1, w1, ev, w, so.ev ev, r, h.ev ev⟩
  | ex c f μ1 => rw [e] at h; exact h
  | stuck => rw [e] at h; exact h
theorem a_cons (ha : IE K ξ W X a fa) (hs : IA K ξ W X es fs) (h : starEach (a :: es) X.env = (false, eval a X.env) :: starEach es X.env := by rfl) : IA K ξ W X (a :: es) (aCons fa fs) := PA.of (pa_cons ha hs h) fun σr H Q q => by
  obtain ⟨N, ζ, μ, σ, wd, so, q⟩ := q
  refine (then1A wd so q).mono fun x H1 ⟨ζ1, μ1, w1, ev1, wd1, so1, r1, q1⟩ => ?_
  refine (thenNA wd1 so1 q1).mono fun xs H2 ⟨ζ2, μ2, ws, ev2, wd2, r2, q2⟩ => ?_
  exact q2 ζ2 H2 (x :: xs) Ev.refl wd2 ⟨r1.ev ev2, r2⟩
theorem asT_rvs {ζ : List Addr} {M : MS} {H : Hp} : ∀ {vs : List V} {ws : List Val} {ds : List PV}, RVs K ξ ζ M H vs ws → asT ws = some ds → rvs K M H vs ds
  | [], [], ds, _, e => by cases e; exact rvs_nil
  | v :: vs, .t d :: ws, ds, h, e => by
    obtain ⟨ds', e1, rfl⟩ := Option.map_eq_some_iff.mp e
    exact rvs_cons.mpr ⟨h.1, asT_rvs h.2 e1⟩
  | _ :: _, .c _ :: _, _, _, e => by cases e
  | _ :: _, .x _ _ :: _, _, _, e => by cases e
  | _ :: _, .s _ :: _, _, _, e => by cases e
  | [], _ :: _, _, h, _ => h.elim
  | _ :: _, [], _, h, _ => h.elim
theorem i_tup {x1 : Nat} (hs : IA K ξ W X es fs) : IE K ξ W X (.Tuple es x1 pos) (eN gTup fs) := PE.of (pe_tup hs) fun σr H Q q => by
  obtain ⟨N, ζ, μ, σ, wd, so, q⟩ := q
  refine (thenN wd so q).mono fun xs H1 ⟨ζ1, μ1, ws, ev1, wd1, so1, r1, q1⟩ => ?_
  unfold gTup at q1
  split at q1
  · rename_i hl
    cases e : asT ws with
    | none => rw [e] at q1; exact q1.elim
    | some ds =>
      rw [e] at q1
      exact ⟨by rw [r1.len]; exact hl, fun p hp => (postE_p wd1 q1).tup wd1.fre (asT_rvs r1 e) hp⟩
  · exact q1.elim
theorem f_lst (hs : IA K ξ W X es fs) : IF K ξ W X (.List es pos) (eN gLst fs) := PE.of (pe_lst hs) fun σr H Q q => by
  obtain ⟨N, ζ, μ, σ, wd, so, q⟩ := q
  refine (thenNF wd so q).mono fun xs H1 ⟨ζ1, μ1, ws, ev1, wd1, so1, r1, q1⟩ => ?_
  unfold gLst at q1
  split at q1
  · rename_i hl
    cases e : asT ws with
    | none => rw [e] at q1; exact q1.elim
    | some ds =>
      rw [e] at q1
      exact ⟨by rw [r1.len]; exact hl, fun p hp => (postF_p wd1 q1).lst (asT_rvs r1 e) hp⟩
  · exact q1.elim
/-- what was set aside is let go -/
theorem Wd.unside {N : MS} {ζ : List Addr} {μ : Store} {H : Hp} {a : Addr} (wd : Wd K (WD.plus N a) ζ μ H) : Wd K N ζ μ H :=
  ⟨wd.len, wd.inj, fun k c b h1 h2 => (wd.cell k c b h1 h2).st (fun x nx _ z => nx (z.elim .inl fun z => .inr (.inl z))) (fun _ _ _ e => e) (fun _ e => e), fun b h => wd.nd b (.inl h)⟩
/-- a new list as a datum -/
theorem i_ofF {f : Sl → Store → R (List PV)} (h : IF K ξ W X e f) : IE K ξ W X e (eOfF f) := PE.of h fun σr H Q q => by
  obtain ⟨N, ζ, μ, σ, wd, so, q⟩ := q
  refine ⟨N, ζ, μ, σ, wd, so, ?_⟩
  unfold eOfF at q
  cases e : f σ μ with
  | ok ds μ1 =>
    rw [e] at q
    intro ζ' H' a vs ev w hn ha r
    refine q ζ' H' _ ev w.unside (rv_lst.mpr ⟨a, vs, rfl, fun z => ?_, ha, rvs_wk (fun x z => z.elim .inl fun z => .inr (.inl z)) r⟩)
    rcases z with z | z
    · exact (w.nd a (.inr rfl)).1 z
    · exact (wd.nd a z).2 hn
  | ex c f μ1 => rw [e] at q; exact q
  | stuck => rw [e] at q; exact q
theorem Mof_snoc {ζ : List Addr} {μ : Store} {a : Addr} {c : Cell} (hl : ζ.length = μ.length) : ∀ x, Mof (ζ ++ [a]) (μ ++ [some c]) x ↔ WD.plus (Mof ζ μ) a x := by
  intro x
  constructor
  · rintro ⟨k, c', h1, h2⟩
    by_cases hk : k < ζ.length
    · rw [List.getElem?_append_left hk] at h1
      rw [List.getElem?_append_left (by omega)] at h2
      exact .inl ⟨k, c', h1, h2⟩
    · rw [List.getElem?_append_right (by omega)] at h1
      have h0 : k - ζ.length = 0 := by
        have := (List.getElem?_eq_some_iff.mp h1).1
        simp at this; omega
      rw [h0] at h1
      exact .inr (Option.some.inj h1).symm
  · rintro (⟨k, c', h1, h2⟩ | h)
    · have hk := (List.getElem?_eq_some_iff.mp h1).1
      exact ⟨k, c', by rw [List.getElem?_append_left hk]; exact h1, by rw [List.getElem?_append_left (by omega)]; exact h2⟩
    · exact ⟨ζ.length, c, by rw [List.getElem?_append_right (Nat.le_refl _), Nat.sub_self, h]; rfl, by rw [hl, List.getElem?_append_right (Nat.le_refl _), Nat.sub_self]; rfl⟩
theorem snoc_at {α : Type} {l : List α} {x y : α} {i : Nat} (h : (l ++ [x])[i]? = some y) : (i < l.length ∧ l[i]? = some y) ∨ (i = l.length ∧ y = x) := by
  by_cases hi : i < l.length
  · rw [List.getElem?_append_left hi] at h
    exact .inl ⟨hi, h⟩
  · rw [List.getElem?_append_right (by omega)] at h
    have h0 : i - l.length = 0 := by
      have := (List.getElem?_eq_some_iff.mp h).1
      simp at this; omega
    rw [h0] at h
    exact .inr ⟨by omega, (Option.some.inj h).symm⟩
theorem MM_snoc {N : MS} {ζ : List Addr} {μ : Store} {a : Addr} {c : Cell} (hl : ζ.length = μ.length) : ∀ x, MM N (ζ ++ [a]) (μ ++ [some c]) x → MM (WD.plus N a) ζ μ x := fun x h => by
  rcases h with h | h
  · rcases (Mof_snoc hl x).mp h with h | h
    · exact .inl h
    · exact .inr (.inr h)
  · exact .inr (.inl h)
/-- what was set aside becomes a thing that changes -/
theorem Wd.push {N : MS} {ζ : List Addr} {μ : Store} {H : Hp} {a : Addr} {c : Cell} (wd : Wd K (WD.plus N a) ζ μ H) (nN : ¬ N a) (hc : cellR K (MM (WD.plus N a) ζ μ) H a c) : Wd K N (ζ ++ [a]) (μ ++ [some c]) H := by
  have hM := MM_snoc (N := N) (a := a) (c := c) wd.len
  have na : ¬ Mof ζ μ a := (wd.nd a (.inr rfl)).1
  have up : ∀ {b : Addr} {c' : Cell}, cellR K (MM (WD.plus N a) ζ μ) H b c' → cellR K (MM N (ζ ++ [a]) (μ ++ [some c])) H b c' := fun r => r.st (fun x nx _ z => nx (hM x z)) (fun _ _ _ e => e) (fun _ e => e)
  refine ⟨by rw [List.length_append, List.length_append, wd.len]; rfl, fun i j b c1 c2 h1 h2 h3 h4 => ?_, fun k c' b h1 h2 => ?_, fun b hb => ?_⟩
  · have hl := wd.len
    rcases snoc_at h1 with ⟨i1, g1⟩ | ⟨i1, g1⟩ <;> rcases snoc_at h2 with ⟨j1, g2⟩ | ⟨j1, g2⟩ <;> rcases snoc_at h3 with ⟨i2, g3⟩ | ⟨i2, g3⟩ <;> rcases snoc_at h4 with ⟨j2, g4⟩ | ⟨j2, g4⟩ <;> first
      | omega
      | exact wd.inj i j b c1 c2 g1 g2 g3 g4
      | (subst g2; exact absurd ⟨i, c1, g1, g3⟩ na)
      | (subst g1; exact absurd ⟨j, c2, g2, g4⟩ na)
  · have hl := wd.len
    rcases snoc_at h1 with ⟨i1, g1⟩ | ⟨i1, g1⟩ <;> rcases snoc_at h2 with ⟨j1, g2⟩ | ⟨j1, g2⟩
    · exact up (wd.cell k c' b g1 g2)
    · omega
    · omega
    · cases g1
      rw [g2]
      exact up hc
  · refine ⟨fun z => ?_, (wd.nd b (.inl hb)).2⟩
    rcases (Mof_snoc wd.len b).mp z with z | z
    · exact (wd.nd b (.inl hb)).1 z
    · exact nN (z ▸ hb)
/-- a new list as a thing that changes -/
theorem i_cellF {f : Sl → Store → R (List PV)} (h : IF K ξ W X e f) : IE K ξ W X e (eCellF f) := PE.of h fun σr H Q q => by
  obtain ⟨N, ζ, μ, σ, wd, so, q⟩ := q
  refine ⟨N, ζ, μ, σ, wd, so, ?_⟩
  unfold eCellF at q
  cases e : f σ μ with
  | ok ds μ1 =>
    rw [e] at q
    intro ζ' H' a vs ev w hn ha r
    refine q (ζ' ++ [a]) H' _ ⟨fun k b hb => ?_, ev.fr, fun b hb => ?_⟩ (w.push (fun z => (wd.nd a z).2 hn) ⟨vs, ha, r⟩) ⟨a, by rw [← w.len, List.getElem?_append_right (Nat.le_refl _), Nat.sub_self]; rfl, rfl⟩
    · have := ev.pre k b hb
      rw [List.getElem?_append_left (List.getElem?_eq_some_iff.mp this).1]
      exact this
    · rcases (Mof_snoc w.len b).mp hb with z | z
      · exact ev.ml b z
      · exact .inr (by rw [z]; exact hn)
  | ex c f μ1 => rw [e] at q; exact q
  | stuck => rw [e] at q; exact q
end
end PM
namespace PM
open PySem PySem.Spec PyProof.Rows L2
open WD (MS Fr upd_none)

/-! ### data to be compared -/
mutual
def PV.data : PV → PyData
  | .non => .none
  | .bl b => .bool b
  | .int i => .int i
  | .str x => .str x
  | .tup xs => .tuple (datas xs)
  | .lst xs => .list (datas xs)
  | .dic _ _ => .none
  | .obj _ _ _ => .none
def datas : List PV → List PyData
  | [] => []
  | x :: xs => x.data :: datas xs
end
mutual
def PV.flat : PV → Bool
  | .tup xs => flats xs
  | .lst xs => flats xs
  | .dic _ _ => false
  | .obj _ _ _ => false
  | _ => true
def flats : List PV → Bool
  | [] => true
  | x :: xs => x.flat && flats xs
end
/-- to be compared -/
def okD (d : PV) : Bool := d.flat && decide (d.data.depth ≤ 64)
def eqB (x y : PV) : Bool := PyData.eqv x.data y.data
def eqV (x y : PV) : Option PV := if okD x && okD y then some (.bl (eqB x y)) else none
def neV (x y : PV) : Option PV := if okD x && okD y then some (.bl (!eqB x y)) else none
section
variable {K : PySem.W.Frag} {M : MS} {H : Hp}
mutual
theorem rv_dp : ∀ (d : PV) (v : V), d.flat = true → rv K M H v d → Dp K H v d.data ∧ d.data.canLay0 = true
  | .non, v, _, h => by rw [rv_non] at h; subst h; exact ⟨.non, rfl⟩
  | .bl b, v, _, h => by rw [rv_bl] at h; subst h; exact ⟨.bl b, rfl⟩
  | .int i, v, _, h => by rw [rv_int] at h; subst h; exact ⟨.int i, rfl⟩
  | .str x, v, _, h => by
    rw [rv_str] at h
    obtain ⟨rfl, h⟩ := h
    exact ⟨.str x, by show PyData.canLay0 (.str x) = true; exact h⟩
  | .tup l, v, f, h => by
    rw [rv_tup] at h
    obtain ⟨a, vs, rfl, _, h3, h4⟩ := h
    obtain ⟨g1, g2⟩ := rvs_dp l vs (by unfold PV.flat at f; exact f) h4
    unfold PV.data
    exact ⟨.tup (SqT.of h3) g1, g2⟩
  | .lst l, v, f, h => by
    rw [rv_lst] at h
    obtain ⟨a, vs, rfl, _, h3, h4⟩ := h
    obtain ⟨g1, g2⟩ := rvs_dp l vs (by unfold PV.flat at f; exact f) h4
    unfold PV.data
    exact ⟨.lst (SqL.of h3) g1, g2⟩
  | .dic _ _, v, f, _ => by unfold PV.flat at f; cases f
  | .obj _ _ _, v, f, _ => by unfold PV.flat at f; cases f
theorem rvs_dp : ∀ (ds : List PV) (vs : List V), flats ds = true → rvs K M H vs ds → DpAll K H vs (datas ds) ∧ PyData.canLayAll0 (datas ds) = true
  | [], [], _, _ => by unfold datas; exact ⟨.nil, rfl⟩
  | d :: ds, v :: vs, f, h => by
    rw [rvs_cons] at h
    unfold flats at f
    rw [Bool.and_eq_true] at f
    obtain ⟨h1, h2⟩ := rv_dp d v f.1 h.1
    obtain ⟨h3, h4⟩ := rvs_dp ds vs f.2 h.2
    unfold datas
    exact ⟨.cons h1 h3, by show (d.data.canLay0 && PyData.canLayAll0 (datas ds)) = true; rw [h2, h4]; rfl⟩
  | [], _ :: _, _, h => by unfold rvs at h; exact h.elim
  | _ :: _, [], _, h => by unfold rvs at h; exact h.elim
end
theorem vv_dp : ∀ {d : PV} {v : V}, d.flat = true → vv K M H v d → Dp K H v d.data ∧ d.data.canLay0 = true
  | .lst l, v, f, h => by
    obtain ⟨a, vs, rfl, h3, h4⟩ := h
    obtain ⟨g1, g2⟩ := rvs_dp l vs (by unfold PV.flat at f; exact f) h4
    unfold PV.data
    exact ⟨.lst (SqL.of h3) g1, g2⟩
  | .dic _ _, v, f, _ => by unfold PV.flat at f; cases f
  | .obj _ _ _, v, f, _ => by unfold PV.flat at f; cases f
  | .non, v, f, h => rv_dp (M := M) _ v f h
  | .bl b, v, f, h => rv_dp (M := M) _ v f h
  | .int i, v, f, h => rv_dp (M := M) _ v f h
  | .str x, v, f, h => rv_dp (M := M) _ v f h
  | .tup l, v, f, h => rv_dp (M := M) _ v f h
theorem okD_dp {d : PV} {v : V} (f : okD d = true) (h : vv K M H v d) : Dp K H v d.data ∧ SeqAt.shaped d.data = true := by
  unfold okD at f
  rw [Bool.and_eq_true] at f
  obtain ⟨h1, h2⟩ := vv_dp f.1 h
  exact ⟨h1, by unfold SeqAt.shaped; rw [h2, f.2]; rfl⟩
end
section
variable {X : Cx} {K : PySem.W.Frag}
theorem op_eqV (hu : X.A.units + 64 < cLine) (hK : X.K = K := by rfl) : OpR X (compareOp .Eq) (rP2 K eqV) := by
  subst hK
  intro pins s σ H x y v u Q I rx ry h
  obtain ⟨M, d1, d2, d, h1, h2, fr, e, g⟩ := h
  unfold eqV at e
  split at e
  · rename_i hc
    cases e
    rw [Bool.and_eq_true] at hc
    obtain ⟨p1, p2⟩ := okD_dp hc.1 h1
    obtain ⟨q1, q2⟩ := okD_dp hc.2 h2
    exact op_eqD hu pins s σ H x y v u Q I rx ry ⟨_, _, p1, q1, p2, q2, g.bl⟩
  · cases e
theorem op_neV (hu : X.A.units + 64 < cLine) (hK : X.K = K := by rfl) : OpR X (compareOp .NotEq) (rP2 K neV) := by
  subst hK
  intro pins s σ H x y v u Q I rx ry h
  obtain ⟨M, d1, d2, d, h1, h2, fr, e, g⟩ := h
  unfold neV at e
  split at e
  · rename_i hc
    cases e
    rw [Bool.and_eq_true] at hc
    obtain ⟨p1, p2⟩ := okD_dp hc.1 h1
    obtain ⟨q1, q2⟩ := okD_dp hc.2 h2
    exact op_neD hu pins s σ H x y v u Q I rx ry ⟨_, _, p1, q1, p2, q2, g.bl⟩
  · cases e
end

/-! ### arithmetic -/
def addV : PV → PV → Option PV
  | .int i, .int j => some (.int (i + j))
  | .str a, .str b => if a.length + b.length ≤ sizeLine then some (.str (a ++ b)) else none
  | .tup a, .tup b => if a.length + b.length ≤ sizeLine then some (.tup (a ++ b)) else none
  | .lst a, .lst b => if a.length + b.length ≤ sizeLine then some (.lst (a ++ b)) else none
  | _, _ => none
def addF : PV → PV → Option (List PV)
  | .lst a, .lst b => if a.length + b.length ≤ sizeLine then some (a ++ b) else none
  | _, _ => none
def subV : PV → PV → Option PV
  | .int i, .int j => some (.int (i - j))
  | _, _ => none
/-- bounds, so said that the kernel never counts down from them -/
def inW (i : Int) : Bool := Nat.ble i.natAbs 18446744073709551615
def bnd (i : Int) : Bool := Nat.ble i.natAbs 1000000000000
theorem bnd_ok {i : Int} (h : bnd i = true) : -(2 ^ 62) ≤ i ∧ i < 2 ^ 62 := by
  have := Nat.le_of_ble_eq_true h
  omega
theorem bnd_of {i : Int} (h1 : -1000000000000 ≤ i) (h2 : i ≤ 1000000000000) : bnd i = true := Nat.ble_eq_true_of_le (by omega)
def rep {α : Type} (k : Int) (l : List α) : List α := (List.replicate k.toNat l).flatten
def mulV : PV → PV → Option PV
  | .int i, .int j => if inW i || inW j then some (.int (i * j)) else none
  | .tup a, .int k => if !a.isEmpty && (Nat.ble 2 k.toNat && (Nat.ble k.toNat 1000 && Nat.ble a.length 1000)) then some (.tup (rep k a)) else none
  | _, _ => none
def mulF : PV → PV → Option (List PV)
  | .lst a, .int k => if bnd k && Nat.ble (a.length * k.toNat) sizeLine then some (rep k a) else none
  | _, _ => none
def modV : PV → PV → Option PV
  | .int i, .int j => if 0 < j then some (.int (i % j)) else none
  | _, _ => none
def fdivV : PV → PV → Option PV
  | .int i, .int j => if Nat.ble 1 j.toNat && Nat.ble j.toNat 1073741823 then some (.int (i / j)) else none
  | _, _ => none
def powV : PV → PV → Option PV
  | .int i, .int j => if decide (0 ≤ j) && (Nat.ble j.toNat 1000000 && inW i) then some (.int (i ^ j.toNat)) else none
  | _, _ => none
def negV : PV → Option PV
  | .int i => some (.int (-i))
  | _ => none
theorem strOk_app {a b : Str} (ha : PyData.strOk a = true) (hb : PyData.strOk b = true) : PyData.strOk (a ++ b) = true := by
  unfold PyData.strOk at *
  show (a.cps ++ b.cps).all (· < 0x110000) = true
  rw [Array.all_append, ha, hb]; rfl
section
variable {X : Cx} {K : PySem.W.Frag} {M : MS} {H : Hp} {v : V}
theorem vv_int {i : Int} (h : vv K M H v (.int i)) : v = .int i := (rv_int (K := K) (M := M) (H := H)).mp h
theorem vv_bl {i : Bool} (h : vv K M H v (.bl i)) : v = .bl i := (rv_bl (K := K) (M := M) (H := H)).mp h
theorem vv_non (h : vv K M H v .non) : v = .non := (rv_non (K := K) (M := M) (H := H)).mp h
theorem vv_str {x : Str} (h : vv K M H v (.str x)) : v = .str x ∧ PyData.strOk x = true := (rv_str (K := K) (M := M) (H := H)).mp h
theorem vv_tup {l : List PV} (h : vv K M H v (.tup l)) : ∃ a vs, v = .ref a ∧ ¬ M a ∧ H a = some (.tup vs) ∧ rvs K M H vs l := (rv_tup (K := K) (M := M) (H := H)).mp h
theorem op_addV (hK : X.K = K := by rfl) : OpR X (binaryOp .Add) (rP2 K addV) := by
  subst hK
  intro pins s σ H x y v u Q I rx ry h
  obtain ⟨M, d1, d2, d, h1, h2, fr, e, g⟩ := h
  unfold addV at e
  split at e
  · cases e
    cases vv_int h1; cases vv_int h2
    exact op_add pins s σ H _ _ v u Q I rx ry ⟨_, _, rfl, rfl, g.int⟩
  · split at e
    · cases e
      obtain ⟨rfl, s1⟩ := vv_str h1
      obtain ⟨rfl, s2⟩ := vv_str h2
      exact op_add_str pins s σ H _ _ v u Q I rx ry ⟨_, _, rfl, rfl, by assumption, g.str (strOk_app s1 s2)⟩
    · cases e
  · split at e
    · rename_i a b hl
      cases e
      obtain ⟨p, vs, rfl, n1, g1, r1⟩ := vv_tup h1
      obtain ⟨q, ws, rfl, n2, g2, r2⟩ := vv_tup h2
      have l1 := rvs_len r1
      have l2 := rvs_len r2
      refine op_catA pins s σ H _ _ v u Q I rx ry ⟨p, q, vs, ws, rfl, rfl, SqT.of g1, SqT.of g2, by omega, fun z => ?_, fun z1 z2 => ?_, fun _ _ r hr => g.tup fr (rvs_app r1 r2) hr⟩
      · have e1 : a = [] := List.eq_nil_of_length_eq_zero (by rw [← l1, z]; rfl)
        subst e1
        exact g H _ Grow.refl (rv_tup.mpr ⟨q, ws, rfl, n2, g2, r2⟩)
      · have e1 : b = [] := List.eq_nil_of_length_eq_zero (by rw [← l2, z2]; rfl)
        subst e1
        rw [List.append_nil] at g
        exact g H _ Grow.refl (rv_tup.mpr ⟨p, vs, rfl, n1, g1, r1⟩)
    · cases e
  · split at e
    · rename_i a b hl
      cases e
      obtain ⟨p, vs, rfl, g1, r1⟩ := h1
      obtain ⟨q, ws, rfl, g2, r2⟩ := h2
      have l1 := rvs_len r1
      have l2 := rvs_len r2
      exact WD.op_catL pins s σ H _ _ v u Q I rx ry ⟨p, q, vs, ws, rfl, rfl, SqL.of g1, SqL.of g2, by omega, fun r hr => g.lst fr (rvs_app r1 r2) hr⟩
    · cases e
  · cases e
theorem op_addF (hK : X.K = K := by rfl) : OpR X (binaryOp .Add) (rPF2 K addF) := by
  subst hK
  intro pins s σ H x y v u Q I rx ry h
  obtain ⟨M, d1, d2, d, h1, h2, fr, e, g⟩ := h
  unfold addF at e
  split at e
  · split at e
    · rename_i a b hl
      cases e
      obtain ⟨p, vs, rfl, g1, r1⟩ := h1
      obtain ⟨q, ws, rfl, g2, r2⟩ := h2
      have l1 := rvs_len r1
      have l2 := rvs_len r2
      exact WD.op_catL pins s σ H _ _ v u Q I rx ry ⟨p, q, vs, ws, rfl, rfl, SqL.of g1, SqL.of g2, by omega, fun r hr => g.lst (rvs_app r1 r2) hr⟩
    · cases e
  · cases e
theorem op_subV (hK : X.K = K := by rfl) : OpR X (binaryOp .Sub) (rP2 K subV) := by
  intro pins s σ H x y v u Q I rx ry h
  obtain ⟨M, d1, d2, d, h1, h2, fr, e, g⟩ := h
  unfold subV at e
  split at e
  · cases e
    cases vv_int h1; cases vv_int h2
    exact op_sub pins s σ H _ _ v u Q I rx ry ⟨_, _, rfl, rfl, g.int⟩
  · cases e
theorem op_modV (hK : X.K = K := by rfl) : OpR X (binaryOp .Mod) (rP2 K modV) := by
  intro pins s σ H x y v u Q I rx ry h
  obtain ⟨M, d1, d2, d, h1, h2, fr, e, g⟩ := h
  unfold modV at e
  split at e
  · split at e
    · cases e
      cases vv_int h1; cases vv_int h2
      exact op_mod pins s σ H _ _ v u Q I rx ry ⟨_, _, rfl, rfl, by assumption, g.int⟩
    · cases e
  · cases e
theorem op_fdivV (hK : X.K = K := by rfl) : OpR X (binaryOp .FloorDiv) (rP2 K fdivV) := by
  intro pins s σ H x y v u Q I rx ry h
  obtain ⟨M, d1, d2, d, h1, h2, fr, e, g⟩ := h
  unfold fdivV at e
  split at e
  · split at e
    · cases e
      rename_i hc
      cases vv_int h1; cases vv_int h2
      rw [Bool.and_eq_true] at hc
      have c1 := Nat.le_of_ble_eq_true hc.1
      have c2 := Nat.le_of_ble_eq_true hc.2
      exact op_fdiv pins s σ H _ _ v u Q I rx ry ⟨_, _, rfl, rfl, ⟨by omega, by omega⟩, g.int⟩
    · cases e
  · cases e
theorem op_powV (hK : X.K = K := by rfl) : OpR X (binaryOp .Pow) (rP2 K powV) := by
  intro pins s σ H x y v u Q I rx ry h
  obtain ⟨M, d1, d2, d, h1, h2, fr, e, g⟩ := h
  unfold powV at e
  split at e
  · split at e
    · cases e
      rename_i hc
      cases vv_int h1; cases vv_int h2
      rw [Bool.and_eq_true, Bool.and_eq_true] at hc
      have c1 := of_decide_eq_true hc.1
      have c2 := Nat.le_of_ble_eq_true hc.2.1
      have c3 := Nat.le_of_ble_eq_true hc.2.2
      exact op_pow pins s σ H _ _ v u Q I rx ry ⟨_, _, rfl, rfl, ⟨c1, by omega, by omega⟩, g.int⟩
    · cases e
  · cases e
theorem inW_ok {i : Int} (h : inW i = true) : -(2 ^ 64) < i ∧ i < 2 ^ 64 := by
  have := Nat.le_of_ble_eq_true h
  omega
theorem rvs_rep {vs : List V} {ds : List PV} (h : rvs K M H vs ds) : ∀ n : Nat, rvs K M H ((List.replicate n vs).flatten) ((List.replicate n ds).flatten)
  | 0 => rvs_nil
  | n + 1 => by
    rw [List.replicate_succ, List.replicate_succ, List.flatten_cons, List.flatten_cons]
    exact rvs_app h (rvs_rep h n)
end
end PM
namespace PM
open PySem PySem.Spec PyProof.Rows L2
open WD (MS Fr upd_none)
section
variable {X : Cx} {K : PySem.W.Frag} {M : MS} {H : Hp} {v : V}
theorem op_mulV (hK : X.K = K := by rfl) : OpR X (binaryOp .Mult) (rP2 K mulV) := by
  subst hK
  intro pins s σ H x y v u Q I rx ry h
  obtain ⟨M, d1, d2, d, h1, h2, fr, e, g⟩ := h
  unfold mulV at e
  split at e
  · split at e
    · rename_i i j hc
      cases e
      cases vv_int h1; cases vv_int h2
      refine op_mul pins s σ H _ _ v u Q I rx ry ⟨_, _, rfl, rfl, ?_, g.int⟩
      rw [Bool.or_eq_true] at hc
      rcases hc with hc | hc
      · exact .inl (inW_ok hc)
      · exact .inr (inW_ok hc)
    · cases e
  · split at e
    · rename_i a k hc
      cases e
      obtain ⟨p, vs, rfl, n1, g1, r1⟩ := vv_tup h1
      cases vv_int h2
      have l1 := rvs_len r1
      rw [Bool.and_eq_true, Bool.and_eq_true, Bool.and_eq_true] at hc
      have c1 := Nat.le_of_ble_eq_true hc.2.1
      have c2 := Nat.le_of_ble_eq_true hc.2.2.1
      have c3 := Nat.le_of_ble_eq_true hc.2.2.2
      refine op_repT pins s σ H _ _ v u Q I rx ry ⟨p, k, vs, rfl, rfl, SqT.of g1, fun z => by
        have e0 : a = [] := List.eq_nil_of_length_eq_zero (by rw [← l1, z]; rfl)
        rw [e0] at hc
        simp at hc, by omega, by omega, by omega, fun r hr => g.tup fr (rvs_rep r1 _) hr⟩
    · cases e
  · cases e
theorem op_mulF (hK : X.K = K := by rfl) : OpR X (binaryOp .Mult) (rPF2 K mulF) := by
  subst hK
  intro pins s σ H x y v u Q I rx ry h
  obtain ⟨M, d1, d2, d, h1, h2, fr, e, g⟩ := h
  unfold mulF at e
  split at e
  · split at e
    · rename_i a k hc
      cases e
      obtain ⟨p, vs, rfl, g1, r1⟩ := h1
      cases vv_int h2
      have l1 := rvs_len r1
      rw [Bool.and_eq_true] at hc
      have c1 := bnd_ok hc.1
      have c2 := Nat.le_of_ble_eq_true hc.2
      exact op_rep pins s σ H _ _ v u Q I rx ry ⟨p, k, vs, rfl, rfl, g1, by omega, by omega, by rw [l1]; exact c2, fun r hr => g.lst (rvs_rep r1 _) hr⟩
    · cases e
  · cases e
theorem un_negV (hK : X.K = K := by rfl) : UnR X (unaryOp .USub) (rP1 K negV) := by
  intro pins s σ H x v Q I rx h
  obtain ⟨M, d1, d, h1, fr, e, g⟩ := h
  unfold negV at e
  split at e
  · cases e
    cases vv_int h1
    exact un_neg pins s σ H _ v Q I rx ⟨_, rfl, g.int⟩
  · cases e
end
/-! ### comparisons -/
def intsOf : List PV → Option (List Int)
  | [] => some []
  | .int i :: r => (intsOf r).map (i :: ·)
  | _ :: _ => none
theorem intsOf_map (l : List Int) : intsOf (l.map .int) = some l := by
  induction l with
  | nil => rfl
  | cons a l ih => show (intsOf (l.map .int)).map _ = _; rw [ih]; rfl
def ltV : PV → PV → Option PV
  | .int i, .int j => some (.bl (decide (i < j)))
  | .tup a, .tup b => match intsOf a, intsOf b with
    | some l, some m => some (.bl (HT.lexLt l m))
    | _, _ => none
  | _, _ => none
def leV : PV → PV → Option PV
  | .int i, .int j => some (.bl (decide (i ≤ j)))
  | _, _ => none
def gtV : PV → PV → Option PV
  | .int i, .int j => some (.bl (decide (j < i)))
  | _, _ => none
def geV : PV → PV → Option PV
  | .int i, .int j => some (.bl (decide (j ≤ i)))
  | _, _ => none
def isNon : PV → Bool
  | .non => true
  | _ => false
/-- is None, is True .. -/
def isV : PV → PV → Option PV
  | x, .non => some (.bl (isNon x))
  | .bl a, .bl b => some (.bl (decide (a = b)))
  | _, _ => none
def isntV : PV → PV → Option PV
  | x, .non => some (.bl (!isNon x))
  | _, _ => none
def scalB : PV → Bool
  | .non => true
  | .bl _ => true
  | .int _ => true
  | .str _ => true
  | _ => false
/-- x in y -/
def inV' : PV → PV → Option Bool
  | .str c, .str z => match c.cps.toList with
    | [k] => some (decide (k ∈ z.cps.toList))
    | _ => none
  | d, .lst l => if okD d && okD (.lst l) then some (l.any fun z => eqB z d) else none
  | d, .tup l => if scalB d && l.all scalB then some (l.any fun z => eqB z d) else none
  | _, _ => none
def inPV (x y : PV) : Option PV := (inV' x y).map .bl
def notInPV (x y : PV) : Option PV := (inV' x y).map fun b => .bl (!b)
section
variable {X : Cx} {K : PySem.W.Frag} {M : MS} {H : Hp} {v : V}
theorem ints_vals : ∀ {vs : List V} {ds : List PV} {l : List Int}, rvs K M H vs ds → intsOf ds = some l → vs = l.map V.int
  | [], [], l, _, e => by cases e; rfl
  | v :: vs, .int i :: ds, l, h, e => by
    rw [rvs_cons] at h
    obtain ⟨l', e1, rfl⟩ := Option.map_eq_some_iff.mp e
    rw [rv_int.mp h.1, ints_vals h.2 e1]
    rfl
  | _ :: _, .non :: _, _, _, e => by cases e
  | _ :: _, .bl _ :: _, _, _, e => by cases e
  | _ :: _, .str _ :: _, _, _, e => by cases e
  | _ :: _, .tup _ :: _, _, _, e => by cases e
  | _ :: _, .lst _ :: _, _, _, e => by cases e
  | _ :: _, .dic _ _ :: _, _, _, e => by cases e
  | _ :: _, .obj _ _ _ :: _, _, _, e => by cases e
  | [], _ :: _, _, h, _ => by unfold rvs at h; exact h.elim
  | _ :: _, [], _, h, _ => by unfold rvs at h; exact h.elim
theorem op_ltV (hu : X.A.units < cLine) (hK : X.K = K := by rfl) : OpR X (compareOp .Lt) (rP2 K ltV) := by
  subst hK
  intro pins s σ H x y v u Q I rx ry h
  obtain ⟨M, d1, d2, d, h1, h2, fr, e, g⟩ := h
  unfold ltV at e
  split at e
  · cases e
    cases vv_int h1; cases vv_int h2
    exact op_lt pins s σ H _ _ v u Q I rx ry ⟨_, _, rfl, rfl, g.bl⟩
  · split at e
    · rename_i a b l m e1 e2
      cases e
      obtain ⟨p, vs, rfl, n1, g1, r1⟩ := vv_tup h1
      obtain ⟨q, ws, rfl, n2, g2, r2⟩ := vv_tup h2
      have z1 := ints_vals r1 e1
      have z2 := ints_vals r2 e2
      subst z1 z2
      exact op_ltT hu pins s σ H _ _ v u Q I rx ry ⟨p, q, l, m, rfl, rfl, SqT.of g1, SqT.of g2, g.bl⟩
    · cases e
  · cases e
theorem op_leV (hK : X.K = K := by rfl) : OpR X (compareOp .LtE) (rP2 K leV) := by
  intro pins s σ H x y v u Q I rx ry h
  obtain ⟨M, d1, d2, d, h1, h2, fr, e, g⟩ := h
  unfold leV at e
  split at e
  · cases e
    cases vv_int h1; cases vv_int h2
    exact op_le pins s σ H _ _ v u Q I rx ry ⟨_, _, rfl, rfl, g.bl⟩
  · cases e
theorem op_gtV (hK : X.K = K := by rfl) : OpR X (compareOp .Gt) (rP2 K gtV) := by
  intro pins s σ H x y v u Q I rx ry h
  obtain ⟨M, d1, d2, d, h1, h2, fr, e, g⟩ := h
  unfold gtV at e
  split at e
  · cases e
    cases vv_int h1; cases vv_int h2
    exact op_gt pins s σ H _ _ v u Q I rx ry ⟨_, _, rfl, rfl, g.bl⟩
  · cases e
theorem op_geV (hK : X.K = K := by rfl) : OpR X (compareOp .GtE) (rP2 K geV) := by
  intro pins s σ H x y v u Q I rx ry h
  obtain ⟨M, d1, d2, d, h1, h2, fr, e, g⟩ := h
  unfold geV at e
  split at e
  · cases e
    cases vv_int h1; cases vv_int h2
    exact op_ge pins s σ H _ _ v u Q I rx ry ⟨_, _, rfl, rfl, g.bl⟩
  · cases e
theorem isNon_v : ∀ {d : PV}, vv K M H v d → decide (v = .non) = isNon d
  | .non, h => by rw [vv_non h]; rfl
  | .bl _, h => by rw [vv_bl h]; rfl
  | .int _, h => by rw [vv_int h]; rfl
  | .str _, h => by rw [(vv_str h).1]; rfl
  | .tup _, h => by obtain ⟨a, _, rfl, _⟩ := vv_tup h; rfl
  | .lst _, h => by obtain ⟨a, _, rfl, _⟩ := h; rfl
  | .dic _ _, h => by obtain ⟨a, _, rfl, _⟩ := h; rfl
  | .obj _ _ _, h => by obtain ⟨a, _, _, rfl, _⟩ := h; rfl
theorem op_isV (hK : X.K = K := by rfl) : OpR X (compareOp .Is) (rP2 K isV) := by
  intro pins s σ H x y v u Q I rx ry h
  obtain ⟨M, d1, d2, d, h1, h2, fr, e, g⟩ := h
  unfold isV at e
  split at e
  · cases e
    cases vv_non h2
    refine op_isN pins s σ H _ _ v u Q I rx ry ⟨rfl, ?_⟩
    rw [isNon_v h1]
    exact g.bl
  · cases e
    cases vv_bl h1; cases vv_bl h2
    exact op_is_bl pins s σ H _ _ v u Q I rx ry ⟨_, _, rfl, rfl, g.bl⟩
  · cases e
theorem op_isntV (hK : X.K = K := by rfl) : OpR X (compareOp .IsNot) (rP2 K isntV) := by
  intro pins s σ H x y v u Q I rx ry h
  obtain ⟨M, d1, d2, d, h1, h2, fr, e, g⟩ := h
  unfold isntV at e
  split at e
  · cases e
    cases vv_non h2
    refine op_notN pins s σ H _ _ v u Q I rx ry ⟨rfl, ?_⟩
    rw [isNon_v h1]
    exact g.bl
  · cases e
theorem datas_any (l : List PV) (p : PyData → Bool) : (datas l).any p = l.any fun z => p z.data := by
  induction l with
  | nil => unfold datas; rfl
  | cons a l ih => unfold datas; rw [List.any_cons, List.any_cons, ih]
theorem scal_flat : ∀ {d : PV}, scalB d = true → vv K M H v d → flatV v = true
  | .non, _, h => by rw [vv_non h]; rfl
  | .bl _, _, h => by rw [vv_bl h]; rfl
  | .int _, _, h => by rw [vv_int h]; rfl
  | .str _, _, h => by rw [(vv_str h).1]; rfl
  | .tup _, f, _ => by cases f
  | .lst _, f, _ => by cases f
  | .dic _ _, f, _ => by cases f
  | .obj _ _ _, f, _ => by cases f
theorem scal_eq : ∀ {d e : PV} {u : V}, scalB d = true → scalB e = true → vv K M H v d → rv K M H u e → L2.eqV v u = eqB d e := by
  intro d e u f1 f2 h1 h2
  have h2 := vv_of h2
  cases d <;> (first | cases f1 | skip) <;> cases e <;> (first | cases f2 | skip) <;> (
    first
    | rw [vv_non h1] | rw [vv_bl h1] | rw [vv_int h1] | rw [(vv_str h1).1]) <;> (
    first
    | rw [vv_non h2] | rw [vv_bl h2] | rw [vv_int h2] | rw [(vv_str h2).1]) <;> simp only [L2.eqV, eqB, PV.data, PyData.eqv]
theorem scal_any {d : PV} {u : V} (f : scalB d = true) (h : vv K M H u d) : ∀ {vs : List V} {ds : List PV}, ds.all scalB = true → rvs K M H vs ds → vs.all flatV = true ∧ inV u vs = ds.any fun z => eqB z d := by
  intro vs ds
  induction ds generalizing vs with
  | nil => intro _ r; have := rvs_len r; cases List.eq_nil_of_length_eq_zero this; exact ⟨rfl, rfl⟩
  | cons e ds ih =>
    intro hf r
    cases vs with
    | nil => unfold rvs at r; exact r.elim
    | cons w vs =>
      rw [rvs_cons] at r
      rw [List.all_cons, Bool.and_eq_true] at hf
      obtain ⟨g1, g2⟩ := ih hf.2 r.2
      have k1 := scal_flat hf.1 (vv_of r.1)
      have k2 : L2.eqV w u = eqB e d := by
        have hd : rv K M H u d := by
          cases d <;> first | exact h | cases f
        exact scal_eq hf.1 f (vv_of r.1) hd
      refine ⟨by rw [List.all_cons, k1, g1]; rfl, ?_⟩
      show (L2.eqV w u || inV u vs) = _
      rw [k2, g2, List.any_cons]
theorem op_inX (neg : Bool) (hu : X.A.units + 65 < cLine) (hK : X.K = K := by rfl) : OpR X (compareOp (if neg then .NotIn else .In)) (rP2 K fun x y => (inV' x y).map fun b => .bl (if neg then !b else b)) := by
  subst hK
  intro pins s σ H x y v u Q I rx ry h
  obtain ⟨M, d1, d2, d, h1, h2, fr, e0, g⟩ := h
  obtain ⟨b, e, ed⟩ := Option.map_eq_some_iff.mp e0
  subst ed
  clear e0
  have g := g.bl
  unfold inV' at e
  split at e
  · split at e
    · rename_i c z _ k hk
      cases e
      obtain ⟨rfl, _⟩ := vv_str h1
      obtain ⟨rfl, _⟩ := vv_str h2
      have hc : c = ⟨#[k]⟩ := by
        obtain ⟨cp⟩ := c
        congr 1
        have : cp.toList = [k] := hk
        rw [← Array.toArray_toList (xs := cp), this]
      subst hc
      cases neg
      · exact op_inS pins s σ H _ _ v u Q I rx ry ⟨k, z, rfl, rfl, g⟩
      · exact op_notInS pins s σ H _ _ v u Q I rx ry ⟨k, z, rfl, rfl, g⟩
    · cases e
  · split at e
    · rename_i l hc
      cases e
      rw [Bool.and_eq_true] at hc
      obtain ⟨p1, p2⟩ := okD_dp hc.1 h1
      obtain ⟨q1, q2⟩ := okD_dp hc.2 h2
      have ea : (l.any fun z => eqB z d1) = (datas l).any fun z => PyData.eqv z d1.data := (datas_any l (fun z => PyData.eqv z d1.data)).symm
      rw [ea] at g
      unfold PV.data at q1 q2
      cases neg
      · exact op_inD hu pins s σ H _ _ v u Q I rx ry ⟨_, _, p1, q1, p2, q2, g⟩
      · exact op_notInD hu pins s σ H _ _ v u Q I rx ry ⟨_, _, p1, q1, p2, q2, g⟩
    · cases e
  · split at e
    · rename_i l hc
      cases e
      rw [Bool.and_eq_true] at hc
      obtain ⟨p, vs, rfl, n1, g1, r1⟩ := vv_tup h2
      obtain ⟨k1, k2⟩ := scal_any hc.1 h1 hc.2 r1
      have k3 := scal_flat hc.1 h1
      cases neg
      · refine op_in_seq pins s σ H _ _ v u Q I rx ry ⟨p, vs, rfl, .inr (SqT.of g1), k3, k1, ?_⟩
        rw [k2]
        exact g
      · refine op_notIn_seq pins s σ H _ _ v u Q I rx ry ⟨p, vs, rfl, .inr (SqT.of g1), k3, k1, ?_⟩
        rw [k2]
        exact g
    · cases e
  · cases e
theorem op_inV (hu : X.A.units + 65 < cLine) (hK : X.K = K := by rfl) : OpR X (compareOp .In) (rP2 K inPV) := op_inX false hu hK
theorem op_notInV (hu : X.A.units + 65 < cLine) (hK : X.K = K := by rfl) : OpR X (compareOp .NotIn) (rP2 K notInPV) := op_inX true hu hK
end
end PM
namespace PM
open PySem PySem.Spec PyProof.Rows L2
open WD (MS Fr upd_none)
/-! ### items, slices -/
def atV : PV → PV → Option PV
  | .lst l, .int i => atI l i
  | .tup l, .int i => atI l i
  | .str z, .int i => if z.length ≤ sizeLine then (atI z.cps.toList i).map fun c => .str ⟨#[c]⟩ else none
  | _, _ => none
def cutG {α : Type} (xs : List α) (lo hi : Option Int) : List α := (xs.drop (HT.sIx xs.length 0 lo)).take (HT.sIx xs.length xs.length hi - HT.sIx xs.length 0 lo)
def slV (lo hi : Option Int) : PV → Option PV
  | .lst l => some (.lst (cutG l lo hi))
  | .tup l => some (.tup (cutG l lo hi))
  | .str z => if z.length ≤ sizeLine then some (.str (cutS z lo hi)) else none
  | _ => none
def slF (lo hi : Option Int) : PV → Option (List PV)
  | .lst l => some (cutG l lo hi)
  | _ => none
abbrev MO := Sl → Store → R (Option Int)
def oNone : MO := fun _ μ => .ok none μ
def oSome (f : ME) : MO := e1 (fun w μ => match w with
  | .t (.int i) => .ok (some i) μ
  | _ => .stuck) f
def eSl {α : Type} (g : Option Int → Option Int → Val → Store → R α) (a : ME) (lo hi : MO) : Sl → Store → R α := fun σ μ => (a σ μ).bind fun w μ1 => (lo σ μ1).bind fun l μ2 => (hi σ μ2).bind fun h μ3 => g l h w μ3
def tO (K : PySem.W.Frag) (ξ : Xi) (W : WX) (f : MO) : TO := fun σr H Q => ∃ N ζ μ σ, Wd K N ζ μ H ∧ Sok K ξ ζ (MM N ζ μ) H σr σ ∧ PostT K W N ζ μ H σr Q (f σ μ)
abbrev IO (K : PySem.W.Frag) (ξ : Xi) (W : WX) (X : Cx) (e : Option Expr) (f : MO) : Prop := PO X e (tO K ξ W f)
theorem PO.of {X : Cx} {e : Option Expr} {t t' : TO} (h : PO X e t) (k : ∀ σ H Q, t' σ H Q → t σ H Q) : PO X e t' := ⟨fun pins s σ H Q I q => h.run pins s σ H Q I (k σ H Q q)⟩
section
variable {X : Cx} {K : PySem.W.Frag} {ξ : Xi} {W : WX} {M : MS} {H : Hp} {v : V} {a b e : Expr} {fa fb : ME} {pos : Pos}
theorem rvs_atI {vs : List V} {ds : List PV} {i : Int} {d : PV} (h : rvs K M H vs ds) (e : atI ds i = some d) : ∃ v, atI vs i = some v ∧ rv K M H v d := by
  unfold atI at e ⊢
  rw [rvs_len h]
  cases e2 : ixN ds.length i with
  | none => rw [e2] at e; cases e
  | some j =>
    rw [e2] at e
    obtain ⟨v, h1, h2⟩ := rvs_at h e
    exact ⟨v, h1, h2⟩
theorem rvs_cut {vs : List V} {ds : List PV} (h : rvs K M H vs ds) (lo hi : Option Int) : rvs K M H (cutV vs lo hi) (cutG ds lo hi) := by
  unfold cutV cutG
  rw [rvs_len h]
  exact rvs_take _ (rvs_drop _ h)
theorem strOk_sub {z : Str} {l : List Nat} (h : PyData.strOk z = true) (s : ∀ c ∈ l, c ∈ z.cps.toList) : PyData.strOk ⟨l.toArray⟩ = true := by
  unfold PyData.strOk at *
  rw [Array.all_eq_true_iff_forall_mem] at h ⊢
  intro c hc
  exact h c (by rw [← Array.mem_toList_iff]; exact s c (by simpa using hc))
theorem ix_V (hK : X.K = K := by rfl) : IxR X (rP2 K atV) := by
  subst hK
  intro val sl pins s σ H x y v u Q I rx ry h hs
  obtain ⟨M, d1, d2, d, h1, h2, fr, e, g⟩ := h
  unfold atV at e
  split at e
  · obtain ⟨p, vs, rfl, g1, r1⟩ := h1
    cases vv_int h2
    obtain ⟨z, z1, z2⟩ := rvs_atI r1 e
    exact ix_list val sl pins s σ H _ _ v u Q I rx ry ⟨p, vs, _, z, rfl, rfl, SqL.of g1, z1, g H _ Grow.refl z2⟩ hs
  · obtain ⟨p, vs, rfl, n1, g1, r1⟩ := vv_tup h1
    cases vv_int h2
    obtain ⟨z, z1, z2⟩ := rvs_atI r1 e
    exact ix_tup val sl pins s σ H _ _ v u Q I rx ry ⟨p, vs, _, z, rfl, rfl, SqT.of g1, z1, g H _ Grow.refl z2⟩ hs
  · split at e
    · rename_i z i hz
      obtain ⟨rfl, so⟩ := vv_str h1
      cases vv_int h2
      obtain ⟨c, c1, c2⟩ := Option.map_eq_some_iff.mp e
      subst c2
      refine ix_str val sl pins s σ H _ _ v u Q I rx ry ⟨z, i, c, rfl, rfl, hz, c1, g.str (strOk_sub (l := [c]) so fun c' hc' => ?_)⟩ hs
      rw [List.mem_singleton.mp hc']
      unfold atI at c1
      cases e2 : ixN z.cps.toList.length i with
      | none => rw [e2] at c1; cases c1
      | some j => rw [e2] at c1; exact List.mem_of_getElem? c1
    · cases e
  · cases e
theorem i_ix (ha : IE K ξ W X a fa) (hb : IE K ξ W X b fb) (hp : PlainIx b) (hK : X.K = K := by rfl) : IE K ξ W X (.Subscript a b pos) (e2 (p2 atV) fa fb) := PE.of (pe_ix (ix_V hK) ha hb hp) fun σr H Q q => by
  obtain ⟨N, ζ, μ, σ, wd, so, q⟩ := q
  refine (then1 wd so q).mono fun x H1 ⟨ζ1, μ1, w1, ev1, wd1, so1, r1, q1⟩ => ?_
  refine (then1 wd1 so1 q1).mono fun y H2 ⟨ζ2, μ2, w2, ev2, wd2, so2, r2, q2⟩ => ?_
  exact read_p2 wd2 (r1.ev ev2) r2 q2
theorem sl_V (hK : X.K = K := by rfl) : SlR X (fun x lo hi H Q => rP1 K (slV lo hi) x H Q) := by
  subst hK
  intro pins s σ H x v vl vu lo hi sl Q I rx hsl hl hu h
  obtain ⟨M, d1, d, h1, fr, e, g⟩ := h
  unfold slV at e
  split at e
  · cases e
    obtain ⟨p, vs, rfl, g1, r1⟩ := h1
    exact sl_list pins s σ H _ v vl vu lo hi sl Q I rx hsl hl hu ⟨p, vs, rfl, SqL.of g1, fun q hq => g.lst fr (rvs_cut r1 lo hi) hq⟩
  · cases e
    rename_i l
    obtain ⟨p, vs, rfl, n1, g1, r1⟩ := vv_tup h1
    refine sl_tupA pins s σ H _ v vl vu lo hi sl Q I rx hsl hl hu ⟨p, vs, rfl, SqT.of g1, fun z => ?_, fun _ q hq => g.tup fr (rvs_cut r1 lo hi) hq⟩
    have ec : cutG l lo hi = l := by
      unfold cutG
      rw [← rvs_len r1, z.1, z.2, List.drop_zero, Nat.sub_zero, rvs_len r1, List.take_length]
    rw [ec] at g
    exact g H _ Grow.refl (rv_tup.mpr ⟨p, vs, rfl, n1, g1, r1⟩)
  · split at e
    · cases e
      obtain ⟨rfl, so⟩ := vv_str h1
      refine sl_str pins s σ H _ v vl vu lo hi sl Q I rx hsl hl hu ⟨_, rfl, by assumption, g.str ?_⟩
      exact strOk_sub so fun c hc => List.mem_of_mem_drop (List.mem_of_mem_take hc)
    · cases e
  · cases e
theorem sl_F (hK : X.K = K := by rfl) : SlR X (fun x lo hi H Q => rPF1 K (slF lo hi) x H Q) := by
  subst hK
  intro pins s σ H x v vl vu lo hi sl Q I rx hsl hl hu h
  obtain ⟨M, d1, d, h1, fr, e, g⟩ := h
  unfold slF at e
  split at e
  · cases e
    obtain ⟨p, vs, rfl, g1, r1⟩ := h1
    exact sl_list pins s σ H _ v vl vu lo hi sl Q I rx hsl hl hu ⟨p, vs, rfl, SqL.of g1, fun q hq => g.lst (rvs_cut r1 lo hi) hq⟩
  · cases e
theorem o_none : IO K ξ W X none oNone := PO.of po_none fun σr H Q q => by
  obtain ⟨N, ζ, μ, σ, wd, so, q⟩ := q
  exact q ζ H Ev.refl wd
theorem o_some (ha : IE K ξ W X a fa) : IO K ξ W X (some a) (oSome fa) := PO.of (po_some ha) fun σr H Q q => by
  obtain ⟨N, ζ, μ, σ, wd, so, q⟩ := q
  refine (then1T wd so q).mono fun x H1 ⟨ζ1, μ1, w1, ev1, wd1, so1, r1, q1⟩ => ?_
  split at q1
  · rename_i i
    exact ⟨i, rv_int.mp (show rv K (MM N ζ1 μ1) H1 x (.int i) from r1), q1 ζ1 H1 Ev.refl wd1⟩
  · exact q1.elim
variable {N : MS} {ζ : List Addr} {μ : Store} {σr : L2.St} {σ : Sl}
theorem thenO {Q : VK} {t : MO} {g : Option Int → Store → R Val} (wd : Wd K N ζ μ H) (so : Sok K ξ ζ (MM N ζ μ) H σr σ) (h : PostE K ξ W N ζ μ H σr Q ((t σ μ).bind g)) :
    tO K ξ W t σr H fun b H1 => ∃ ζ1 μ1, Ev ζ μ H ζ1 μ1 H1 ∧ Wd K N ζ1 μ1 H1 ∧ Sok K ξ ζ1 (MM N ζ1 μ1) H1 σr σ ∧ PostE K ξ W N ζ1 μ1 H1 σr Q (g b μ1) := by
  refine ⟨N, ζ, μ, σ, wd, so, ?_⟩
  cases e : t σ μ with
  | ok w1 μ1 => rw [e] at h; exact fun ζ' H' ev w => ⟨ζ', μ1, ev, w, so.ev ev, h.ev ev⟩
  | ex c f μ1 => rw [e] at h; exact h
  | stuck => rw [e] at h; exact h
theorem thenOF {Q : VK} {t : MO} {g : Option Int → Store → R (List PV)} (wd : Wd K N ζ μ H) (so : Sok K ξ ζ (MM N ζ μ) H σr σ) (h : PostF K W N ζ μ H σr Q ((t σ μ).bind g)) :
    tO K ξ W t σr H fun b H1 => ∃ ζ1 μ1, Ev ζ μ H ζ1 μ1 H1 ∧ Wd K N ζ1 μ1 H1 ∧ Sok K ξ ζ1 (MM N ζ1 μ1) H1 σr σ ∧ PostF K W N ζ1 μ1 H1 σr Q (g b μ1) := by
  refine ⟨N, ζ, μ, σ, wd, so, ?_⟩
  cases e : t σ μ with
  | ok w1 μ1 => rw [e] at h; exact fun ζ' H' ev w => ⟨ζ', μ1, ev, w, so.ev ev, h.ev ev⟩
  | ex c f μ1 => rw [e] at h; exact h
  | stuck => rw [e] at h; exact h
theorem tO.mono {t : MO} {Q Q' : Option Int → Hp → Prop} (h : tO K ξ W t σr H Q) (k : ∀ v H', Q v H' → Q' v H') : tO K ξ W t σr H Q' := by
  obtain ⟨N, ζ, μ, σ, wd, so, h⟩ := h
  refine ⟨N, ζ, μ, σ, wd, so, ?_⟩
  cases e : t σ μ with
  | ok w1 μ1 => rw [e] at h; exact fun ζ' H' ev w => k _ _ (h ζ' H' ev w)
  | ex c f μ1 => rw [e] at h; exact h
  | stuck => rw [e] at h; exact h
theorem i_sl {lo hi : Option Expr} {fl fh : MO} {p2 : Pos} (ha : IE K ξ W X a fa) (hl : IO K ξ W X lo fl) (hh : IO K ξ W X hi fh) (hK : X.K = K := by rfl) : IE K ξ W X (.Subscript a (.Slice lo hi none p2) pos) (eSl (fun l h => p1 (slV l h)) fa fl fh) := PE.of (pe_slice (sl_V hK) ha hl hh) fun σr H Q q => by
  obtain ⟨N, ζ, μ, σ, wd, so, q⟩ := q
  refine (then1 wd so q).mono fun x H1 ⟨ζ1, μ1, w1, ev1, wd1, so1, r1, q1⟩ => ?_
  refine (thenO wd1 so1 q1).mono fun l H2 ⟨ζ2, μ2, ev2, wd2, so2, q2⟩ => ?_
  refine (thenO wd2 so2 q2).mono fun h H3 ⟨ζ3, μ3, ev3, wd3, so3, q3⟩ => ?_
  exact read_p1 wd3 ((r1.ev ev2).ev ev3) q3
theorem f_sl {lo hi : Option Expr} {fl fh : MO} {p2 : Pos} (ha : IE K ξ W X a fa) (hl : IO K ξ W X lo fl) (hh : IO K ξ W X hi fh) (hK : X.K = K := by rfl) : IF K ξ W X (.Subscript a (.Slice lo hi none p2) pos) (eSl (fun l h => pf1 (slF l h)) fa fl fh) := PE.of (pe_slice (sl_F hK) ha hl hh) fun σr H Q q => by
  obtain ⟨N, ζ, μ, σ, wd, so, q⟩ := q
  refine (then1F wd so q).mono fun x H1 ⟨ζ1, μ1, w1, ev1, wd1, so1, r1, q1⟩ => ?_
  refine (thenOF wd1 so1 q1).mono fun l H2 ⟨ζ2, μ2, ev2, wd2, so2, q2⟩ => ?_
  refine (thenOF wd2 so2 q2).mono fun h H3 ⟨ζ3, μ3, ev3, wd3, so3, q3⟩ => ?_
  exact read_pf1 wd3 ((r1.ev ev2).ev ev3) q3
/-- x[::-1] -/
def revV : PV → Option PV
  | .lst l => some (.lst l.reverse)
  | .tup l => some (.tup l.reverse)
  | _ => none
theorem i_rev {k : Nat} {p1 p2 p3 : Pos} (ha : IE K ξ W X a fa) (hK : X.K = K := by rfl) : IE K ξ W X (.Subscript a (.Slice none none (some (.UnaryOp .USub (.Constant (.int 1) k p1) p2)) p3) pos) (e1 (PM.p1 revV) fa) := by
  subst hK
  refine PE.pick fun σr H Q q => ?_
  obtain ⟨N, ζ, μ, σ, wd, so, q⟩ := q
  have key := then1 wd so q
  cases ea : fa σ μ with
  | ex c f μ1 =>
    refine ⟨_, pe_revL ha, ?_⟩
    refine ⟨N, ζ, μ, σ, wd, so, ?_⟩
    unfold e1 at q
    rw [ea] at q ⊢
    exact q
  | stuck =>
    unfold e1 at q
    rw [ea] at q
    exact q.elim
  | ok w μ1 =>
    unfold e1 at q
    rw [ea] at q
    have q' : PostE X.K ξ W N ζ μ H σr Q (PM.p1 revV w μ1) := q
    cases ev : view μ1 w with
    | none => unfold PM.p1 at q'; rw [ev] at q'; exact q'.elim
    | some d =>
      cases d with
      | lst l =>
        refine ⟨_, pe_revL ha, ⟨N, ζ, μ, σ, wd, so, ?_⟩⟩
        rw [ea]
        intro ζ' H' v ev1 wd1 r1
        obtain ⟨M, d1, d, h1, fr, e2, g⟩ := read_p1 wd1 r1 (q'.ev ev1)
        obtain ⟨p, vs, rfl, g1, r2⟩ := r1.view wd1 ev
        refine ⟨p, vs, rfl, SqL.of g1, fun q hq => ?_⟩
        refine q'.ev ev1 |> fun z => ?_
        unfold PM.p1 at z
        rw [ev] at z
        exact (postE_p wd1 z).lst wd1.fre (rvs_rev r2) hq
      | tup l =>
        refine ⟨_, WD.pe_revT ha, ⟨N, ζ, μ, σ, wd, so, ?_⟩⟩
        rw [ea]
        intro ζ' H' v ev1 wd1 r1
        obtain ⟨p, vs, rfl, n1, g1, r2⟩ := vv_tup (r1.view wd1 ev)
        refine ⟨p, vs, rfl, SqT.of g1, fun q hq => ?_⟩
        refine q'.ev ev1 |> fun z => ?_
        unfold PM.p1 at z
        rw [ev] at z
        exact (postE_p wd1 z).tup wd1.fre (rvs_rev r2) hq
      | non => unfold PM.p1 at q'; rw [ev] at q'; exact q'.elim
      | bl _ => unfold PM.p1 at q'; rw [ev] at q'; exact q'.elim
      | int _ => unfold PM.p1 at q'; rw [ev] at q'; exact q'.elim
      | str _ => unfold PM.p1 at q'; rw [ev] at q'; exact q'.elim
      | dic _ _ => unfold PM.p1 at q'; rw [ev] at q'; exact q'.elim
      | obj _ _ _ => unfold PM.p1 at q'; rw [ev] at q'; exact q'.elim
theorem i_un {op : UnaryOp} {g : PV → Option PV} (r : UnR X (unaryOp op) (rP1 K g)) (ha : IE K ξ W X a fa) : IE K ξ W X (.UnaryOp op a pos) (e1 (p1 g) fa) := PE.of (pe_un r ha) fun σr H Q q => by
  obtain ⟨N, ζ, μ, σ, wd, so, q⟩ := q
  refine (then1 wd so q).mono fun x H1 ⟨ζ1, μ1, w1, ev1, wd1, so1, r1, q1⟩ => ?_
  exact read_p1 wd1 r1 q1
/-- a < b < c -/
def eChain (g h : PV → PV → Option PV) (a b c : ME) : ME := fun σ μ => (a σ μ).bind fun w μ1 => (b σ μ1).bind fun u μ2 => (p2 g w u μ2).bind (gBl fun k μ3 => if k then (c σ μ3).bind fun z μ4 => p2 h u z μ4 else .ok (.t (.bl false)) μ3)
end
end PM
namespace PM
open PySem PySem.Spec PyProof.Rows L2
open WD (MS Fr upd_none)
section
variable {X : Cx} {K : PySem.W.Frag} {ξ : Xi} {W : WX} {N : MS} {ζ : List Addr} {μ : Store} {H : Hp} {σr : L2.St} {σ : Sl} {v : V} {a b c e : Expr} {es : List Expr} {fa fb fc : ME} {fs : Sl → Store → R (List Val)} {pos : Pos}
/-- a pure operator, then a step -/
theorem read_p2then {x y : V} {w u : Val} {g : PV → PV → Option PV} {Q : VK} {k : Val → Store → R Val} (wd : Wd K N ζ μ H) (r : RV K ξ ζ (MM N ζ μ) H x w) (r' : RV K ξ ζ (MM N ζ μ) H y u) (h : PostE K ξ W N ζ μ H σr Q ((p2 g w u μ).bind k)) :
    rP2 K g x y H fun z H' => ∃ d, Grow H H' ∧ rv K (MM N ζ μ) H' z d ∧ PostE K ξ W N ζ μ H' σr Q (k (.t d) μ) := by
  unfold p2 at h
  split at h
  · rename_i d d2 e e'
    cases e2 : g d d2 with
    | none => rw [e2] at h; exact h.elim
    | some d' =>
      rw [e2] at h
      exact ⟨_, d, d2, d', r.view wd e, r'.view wd e', wd.fre, e2, fun H' v gr rr => ⟨d', gr, rr, PostE.ev gr.ev h⟩⟩
  · exact h.elim
theorem i_chain {op op' : CmpOp} {g h : PV → PV → Option PV} (r : OpR X (compareOp op) (rP2 K g)) (r' : OpR X (compareOp op') (rP2 K h)) (ha : IE K ξ W X a fa) (hb : IE K ξ W X b fb) (hc : IE K ξ W X c fc) (hm : lastMarks [op, op'] [b, c] = false := by rfl) :
    IE K ξ W X (.Compare a [op, op'] [b, c] pos) (eChain g h fa fb fc) := PE.of (pe_chain r r' ha hb hc hm) fun σr H Q q => by
  obtain ⟨N, ζ, μ, σ, wd, so, q⟩ := q
  refine (then1 wd so q).mono fun x H1 ⟨ζ1, μ1, w1, ev1, wd1, so1, r1, q1⟩ => ?_
  refine (then1 wd1 so1 q1).mono fun y H2 ⟨ζ2, μ2, w2, ev2, wd2, so2, r2, q2⟩ => ?_
  obtain ⟨M, d1, d2, d, h1, h2, fr, e, gv⟩ := read_p2then wd2 (r1.ev ev2) r2 q2
  refine ⟨M, d1, d2, d, h1, h2, fr, e, fun H' z gr rz => ?_⟩
  obtain ⟨d', gr', rz', q3⟩ := gv H' z gr rz
  have wd3 := wd2.fr0 gr'
  obtain ⟨k, hk, q3⟩ := PostE.bl (w := .t d') wd3 rz' q3
  refine ⟨k, hk, ?_⟩
  cases k with
  | false => exact iteF (q3 ζ2 H' _ Ev.refl wd3 RV.blI)
  | true =>
    refine iteT ?_
    refine (then1 wd3 (so2.ev gr'.ev) q3).mono fun z H3 ⟨ζ3, μ3, w3, ev3, wd4, so3, r3, q4⟩ => ?_
    exact read_p2 wd4 ((r2.ev gr'.ev).ev ev3) r3 q4
theorem t_chain {op op' : CmpOp} {g h : PV → PV → Option PV} (r : OpR X (compareOp op) (rP2 K g)) (r' : OpR X (compareOp op') (rP2 K h)) (ha : IE K ξ W X a fa) (hb : IE K ξ W X b fb) (hc : IE K ξ W X c fc) (hm : lastMarks [op, op'] [b, c] = false := by rfl) :
    IT K ξ W X (.Compare a [op, op'] [b, c] pos) (tVal (eChain g h fa fb fc)) := PT.of (pt_chain r r' ha hb hc hm) fun σr H Q q => by
  obtain ⟨N, ζ, μ, σ, wd, so, q⟩ := q
  have q' := then1T (a := eChain g h fa fb fc) wd so q
  obtain ⟨N', ζ', μ', σ', wd', so', q'⟩ := q'
  refine (then1 wd' so' q').mono fun x H1 ⟨ζ1, μ1, w1, ev1, wd1, so1, r1, q1⟩ => ?_
  refine (then1 wd1 so1 q1).mono fun y H2 ⟨ζ2, μ2, w2, ev2, wd2, so2, r2, q2⟩ => ?_
  obtain ⟨M, d1, d2, d, h1, h2, fr, e, gv⟩ := read_p2then wd2 (r1.ev ev2) r2 q2
  refine ⟨M, d1, d2, d, h1, h2, fr, e, fun H' z gr rz => ?_⟩
  obtain ⟨d', gr', rz', q3⟩ := gv H' z gr rz
  have wd3 := wd2.fr0 gr'
  obtain ⟨k, hk, q3⟩ := PostE.bl (w := .t d') wd3 rz' q3
  refine ⟨k, hk, ?_⟩
  have fin : ∀ {z : V} {H3 : Hp}, (∃ ζ1 μ1 w1, Ev ζ μ H ζ1 μ1 H3 ∧ Wd K N ζ1 μ1 H3 ∧ Sok K ξ ζ1 (MM N ζ1 μ1) H3 σr σ ∧ RV K ξ ζ1 (MM N ζ1 μ1) H3 z w1 ∧ PostT K W N ζ1 μ1 H3 σr Q (gBl (fun c μ1 => .ok c μ1) w1 μ1)) → ∃ k, z = .bl k ∧ Q k H3 := by
    rintro z H3 ⟨ζ5, μ5, w5, ev5, wd5, so5, r5, q5⟩
    obtain ⟨c, hc, q5⟩ := PostT.bl wd5 r5 q5
    exact ⟨c, hc, q5 ζ5 H3 Ev.refl wd5⟩
  cases k with
  | false => exact iteF (fin (q3 ζ2 H' _ Ev.refl wd3 RV.blI))
  | true =>
    refine iteT ?_
    refine (then1 wd3 (so2.ev gr'.ev) q3).mono fun z H3 ⟨ζ3, μ3, w3, ev3, wd4, so3, r3, q4⟩ => ?_
    obtain ⟨M, d1, d2, d, h1, h2, h3, h4, h5⟩ := read_p2 wd4 ((r2.ev gr'.ev).ev ev3) r3 q4
    exact ⟨M, d1, d2, d, h1, h2, h3, h4, fun H4 v4 g4 r4 => fin (h5 H4 v4 g4 r4)⟩

/-! ### built-in calls -/
theorem i_callB {x : Str} {p : Pos} {id : String} {g : List PV → Option PV} (r : CallR X (.builtin id) (rPN K g)) (hg : Gl X x) (hm : X.mg x = none) (hb : bootBuiltins x = some (.builtin id)) (ha : IA K ξ W X (e :: es) fs) (hn : x ≠ "__name__" := by decide) (hd : (x == ("__debug__" : Str)) = false := by decide)
    (hs : starEach (e :: es) X.env = (false, eval e X.env) :: starEach es X.env := by rfl) (hp : ((backTo pos (starEach es X.env)).any (·.1)) = false := by rfl) : IE K ξ W X (.Call (.Name x p) (e :: es) [] pos) (eN (pN g) fs) := PE.of (pe_callB r hg hm hb ha hn hd hs hp) fun σr H Q q => by
  obtain ⟨N, ζ, μ, σ, wd, so, q⟩ := q
  refine (thenN wd so q).mono fun xs H1 ⟨ζ1, μ1, ws, ev1, wd1, so1, r1, q1⟩ => read_pN wd1 r1 q1
theorem i_callTy {x : Str} {p : Pos} {T : String} {g : List PV → Option PV} (r : CallR X (.type T) (rPN K g)) (hg : Gl X x) (hm : X.mg x = none) (hb : bootBuiltins x = some (.type T)) (ha : IA K ξ W X (e :: es) fs) (hn : x ≠ "__name__" := by decide) (hd : (x == ("__debug__" : Str)) = false := by decide)
    (hs : starEach (e :: es) X.env = (false, eval e X.env) :: starEach es X.env := by rfl) (hp : ((backTo pos (starEach es X.env)).any (·.1)) = false := by rfl) : IE K ξ W X (.Call (.Name x p) (e :: es) [] pos) (eN (pN g) fs) := PE.of (pe_callTy r hg hm hb ha hn hd hs hp) fun σr H Q q => by
  obtain ⟨N, ζ, μ, σ, wd, so, q⟩ := q
  refine (thenN wd so q).mono fun xs H1 ⟨ζ1, μ1, ws, ev1, wd1, so1, r1, q1⟩ => read_pN wd1 r1 q1
theorem f_callB {x : Str} {p : Pos} {id : String} {g : List PV → Option (List PV)} (r : CallR X (.builtin id) (rPFN K g)) (hg : Gl X x) (hm : X.mg x = none) (hb : bootBuiltins x = some (.builtin id)) (ha : IA K ξ W X (e :: es) fs) (hn : x ≠ "__name__" := by decide) (hd : (x == ("__debug__" : Str)) = false := by decide)
    (hs : starEach (e :: es) X.env = (false, eval e X.env) :: starEach es X.env := by rfl) (hp : ((backTo pos (starEach es X.env)).any (·.1)) = false := by rfl) : IF K ξ W X (.Call (.Name x p) (e :: es) [] pos) (eN (pfN g) fs) := PE.of (pe_callB r hg hm hb ha hn hd hs hp) fun σr H Q q => by
  obtain ⟨N, ζ, μ, σ, wd, so, q⟩ := q
  refine (thenNF wd so q).mono fun xs H1 ⟨ζ1, μ1, ws, ev1, wd1, so1, r1, q1⟩ => read_pfN wd1 r1 q1
theorem f_callTy {x : Str} {p : Pos} {T : String} {g : List PV → Option (List PV)} (r : CallR X (.type T) (rPFN K g)) (hg : Gl X x) (hm : X.mg x = none) (hb : bootBuiltins x = some (.type T)) (ha : IA K ξ W X (e :: es) fs) (hn : x ≠ "__name__" := by decide) (hd : (x == ("__debug__" : Str)) = false := by decide)
    (hs : starEach (e :: es) X.env = (false, eval e X.env) :: starEach es X.env := by rfl) (hp : ((backTo pos (starEach es X.env)).any (·.1)) = false := by rfl) : IF K ξ W X (.Call (.Name x p) (e :: es) [] pos) (eN (pfN g) fs) := PE.of (pe_callTy r hg hm hb ha hn hd hs hp) fun σr H Q q => by
  obtain ⟨N, ζ, μ, σ, wd, so, q⟩ := q
  refine (thenNF wd so q).mono fun xs H1 ⟨ζ1, μ1, ws, ev1, wd1, so1, r1, q1⟩ => read_pfN wd1 r1 q1
end
section
variable {X : Cx} {K : PySem.W.Frag} {M : MS} {H : Hp}
theorem vvs1 {xs : List V} {d : PV} (h : vvs K M H xs [d]) : ∃ v, xs = [v] ∧ vv K M H v d := by
  match xs, h with
  | [v], h => exact ⟨v, rfl, h.1⟩
  | [], h => exact h.elim
  | _ :: _ :: _, h => exact h.2.elim
theorem vvs2 {xs : List V} {d e : PV} (h : vvs K M H xs [d, e]) : ∃ v u, xs = [v, u] ∧ vv K M H v d ∧ vv K M H u e := by
  match xs, h with
  | [v, u], h => exact ⟨v, u, rfl, h.1, h.2.1⟩
  | [], h => exact h.elim
  | [_], h => exact h.2.elim
  | _ :: _ :: _ :: _, h => exact h.2.2.elim
/-- len -/
def lenV : List PV → Option PV
  | [.lst l] => some (.int l.length)
  | [.tup l] => some (.int l.length)
  | [.str z] => if z.length ≤ sizeLine then some (.int z.length) else none
  | _ => none
theorem cr_lenV (hK : X.K = K := by rfl) : CallR X (.builtin "len") (rPN K lenV) := by
  subst hK
  intro pins s σ H xs us Q I r h
  obtain ⟨M, ds, d, hv, fr, e, g⟩ := h
  unfold lenV at e
  split at e
  · cases e
    obtain ⟨v, rfl, h1⟩ := vvs1 hv
    obtain ⟨p, vs, rfl, g1, r1⟩ := h1
    refine call_len_seq pins s σ H _ us Q I r ⟨p, vs, rfl, .inl (SqL.of g1), ?_⟩
    rw [rvs_len r1]; exact g.int
  · cases e
    obtain ⟨v, rfl, h1⟩ := vvs1 hv
    obtain ⟨p, vs, rfl, _, g1, r1⟩ := vv_tup h1
    refine call_len_seq pins s σ H _ us Q I r ⟨p, vs, rfl, .inr (SqT.of g1), ?_⟩
    rw [rvs_len r1]; exact g.int
  · split at e
    · cases e
      obtain ⟨v, rfl, h1⟩ := vvs1 hv
      obtain ⟨rfl, _⟩ := vv_str h1
      exact call_len_str pins s σ H _ us Q I r ⟨_, rfl, by assumption, g.int⟩
    · cases e
  · cases e
/-- max, min of two ints -/
def maxV : List PV → Option PV
  | [.int i, .int j] => some (.int (if j > i then j else i))
  | _ => none
def minV : List PV → Option PV
  | [.int i, .int j] => some (.int (if j < i then j else i))
  | _ => none
theorem cr_maxV (hc : X.calm = true) : CallR X (.builtin "max") (rPN K maxV) := by
  intro pins s σ H xs us Q I r h
  obtain ⟨M, ds, d, hv, fr, e, g⟩ := h
  unfold maxV at e
  split at e
  · cases e
    obtain ⟨v, u, rfl, h1, h2⟩ := vvs2 hv
    cases vv_int h1; cases vv_int h2
    exact call_max2 hc pins s σ H _ us Q I r ⟨_, _, rfl, g.int⟩
  · cases e
theorem cr_minV (hc : X.calm = true) : CallR X (.builtin "min") (rPN K minV) := by
  intro pins s σ H xs us Q I r h
  obtain ⟨M, ds, d, hv, fr, e, g⟩ := h
  unfold minV at e
  split at e
  · cases e
    obtain ⟨v, u, rfl, h1, h2⟩ := vvs2 hv
    cases vv_int h1; cases vv_int h2
    exact call_min2 hc pins s σ H _ us Q I r ⟨_, _, rfl, g.int⟩
  · cases e
/-- int(x) -/
def intV : List PV → Option PV
  | [.int i] => some (.int i)
  | [.bl k] => some (.int (if k then 1 else 0))
  | _ => none
theorem cr_intV : CallR X (.type "int") (rPN K intV) := by
  intro pins s σ H xs us Q I r h
  obtain ⟨M, ds, d, hv, fr, e, g⟩ := h
  unfold intV at e
  split at e
  · cases e
    obtain ⟨v, rfl, h1⟩ := vvs1 hv
    cases vv_int h1
    exact call_int1 pins s σ H _ us Q I r (.inl ⟨_, rfl, g.int⟩)
  · cases e
    obtain ⟨v, rfl, h1⟩ := vvs1 hv
    cases vv_bl h1
    exact call_int1 pins s σ H _ us Q I r (.inr ⟨_, rfl, g.int⟩)
  · cases e
/-- all, any of a list of bools -/
def blsOf : List PV → Option (List Bool)
  | [] => some []
  | .bl i :: r => (blsOf r).map (i :: ·)
  | _ :: _ => none
theorem blsOf_map (l : List Bool) : blsOf (l.map .bl) = some l := by
  induction l with
  | nil => rfl
  | cons a l ih => show (blsOf (l.map .bl)).map _ = _; rw [ih]; rfl
theorem bls_vals : ∀ {vs : List V} {ds : List PV} {l : List Bool}, rvs K M H vs ds → blsOf ds = some l → vs = l.map V.bl
  | [], [], l, _, e => by cases e; rfl
  | v :: vs, .bl i :: ds, l, h, e => by
    rw [rvs_cons] at h
    obtain ⟨l', e1, rfl⟩ := Option.map_eq_some_iff.mp e
    rw [rv_bl.mp h.1, bls_vals h.2 e1]
    rfl
  | _ :: _, .non :: _, _, _, e => by cases e
  | _ :: _, .int _ :: _, _, _, e => by cases e
  | _ :: _, .str _ :: _, _, _, e => by cases e
  | _ :: _, .tup _ :: _, _, _, e => by cases e
  | _ :: _, .lst _ :: _, _, _, e => by cases e
  | _ :: _, .dic _ _ :: _, _, _, e => by cases e
  | _ :: _, .obj _ _ _ :: _, _, _, e => by cases e
  | [], _ :: _, _, h, _ => by unfold rvs at h; exact h.elim
  | _ :: _, [], _, h, _ => by unfold rvs at h; exact h.elim
def allV : List PV → Option PV
  | [.lst l] => (blsOf l).map fun bs => .bl (bs.all id)
  | _ => none
def anyV : List PV → Option PV
  | [.lst l] => (blsOf l).map fun bs => .bl (bs.any id)
  | _ => none
theorem cr_allV (hc : X.calm = true) (hK : X.K = K := by rfl) : CallR X (.builtin "all") (rPN K allV) := by
  subst hK
  intro pins s σ H xs us Q I r h
  obtain ⟨M, ds, d, hv, fr, e, g⟩ := h
  unfold allV at e
  split at e
  · obtain ⟨bs, e1, e2⟩ := Option.map_eq_some_iff.mp e
    subst e2
    obtain ⟨v, rfl, h1⟩ := vvs1 hv
    obtain ⟨p, vs, rfl, g1, r1⟩ := h1
    have z := bls_vals r1 e1
    subst z
    exact cr_all hc pins s σ H _ us Q I r ⟨p, bs, rfl, SqL.of g1, g.bl⟩
  · cases e
theorem cr_anyV (hc : X.calm = true) (hK : X.K = K := by rfl) : CallR X (.builtin "any") (rPN K anyV) := by
  subst hK
  intro pins s σ H xs us Q I r h
  obtain ⟨M, ds, d, hv, fr, e, g⟩ := h
  unfold anyV at e
  split at e
  · obtain ⟨bs, e1, e2⟩ := Option.map_eq_some_iff.mp e
    subst e2
    obtain ⟨v, rfl, h1⟩ := vvs1 hv
    obtain ⟨p, vs, rfl, g1, r1⟩ := h1
    have z := bls_vals r1 e1
    subst z
    exact cr_any hc pins s σ H _ us Q I r ⟨p, bs, rfl, SqL.of g1, g.bl⟩
  · cases e
/-- tuple(x), list(x) -/
def tupleV : List PV → Option PV
  | [.lst l] => some (.tup l)
  | [.tup l] => some (.tup l)
  | _ => none
def listF : List PV → Option (List PV)
  | [.lst l] => some l
  | [.tup l] => some l
  | _ => none
theorem cr_tupleV (hK : X.K = K := by rfl) : CallR X (.type "tuple") (rPN K tupleV) := by
  subst hK
  intro pins s σ H xs us Q I r h
  obtain ⟨M, ds, d, hv, fr, e, g⟩ := h
  unfold tupleV at e
  split at e
  · cases e
    obtain ⟨v, rfl, h1⟩ := vvs1 hv
    obtain ⟨p, vs, rfl, g1, r1⟩ := h1
    exact call_tuple_of pins s σ H _ us Q I r ⟨p, vs, rfl, .inl ⟨SqL.of g1, fun l hl => g.tup fr r1 hl⟩⟩
  · cases e
    obtain ⟨v, rfl, h1⟩ := vvs1 hv
    obtain ⟨p, vs, rfl, n1, g1, r1⟩ := vv_tup h1
    exact call_tuple_of pins s σ H _ us Q I r ⟨p, vs, rfl, .inr ⟨SqT.of g1, g H _ Grow.refl (rv_tup.mpr ⟨p, vs, rfl, n1, g1, r1⟩)⟩⟩
  · cases e
theorem cr_listF (hK : X.K = K := by rfl) : CallR X (.type "list") (rPFN K listF) := by
  subst hK
  intro pins s σ H xs us Q I r h
  obtain ⟨M, ds, d, hv, fr, e, g⟩ := h
  unfold listF at e
  split at e
  · cases e
    obtain ⟨v, rfl, h1⟩ := vvs1 hv
    obtain ⟨p, vs, rfl, g1, r1⟩ := h1
    exact call_list_of pins s σ H _ us Q I r ⟨p, vs, rfl, .inl (SqL.of g1), fun l hl => g.lst r1 hl⟩
  · cases e
    obtain ⟨v, rfl, h1⟩ := vvs1 hv
    obtain ⟨p, vs, rfl, n1, g1, r1⟩ := vv_tup h1
    exact call_list_of pins s σ H _ us Q I r ⟨p, vs, rfl, .inr (SqT.of g1), fun l hl => g.lst r1 hl⟩
  · cases e
/-- sorted(x), of ints -/
def sortI (l : List Int) : List Int := l.mergeSort (fun a b => decide (a ≤ b))
def sortedF : List PV → Option (List PV)
  | [.lst l] => (intsOf l).map fun ns => (sortI ns).map .int
  | _ => none
theorem rvs_ints (l : List Int) : rvs K M H (l.map V.int) (l.map PV.int) := by
  induction l with
  | nil => exact rvs_nil
  | cons a l ih => exact rvs_cons.mpr ⟨rv_int.mpr rfl, ih⟩
theorem perm_sorted_eq {l m : List Int} (h : l.Perm m) (hl : l.Pairwise (· ≤ ·)) (hm : m.Pairwise (· ≤ ·)) : l = m := h.eq_of_pairwise (fun a b _ _ h1 h2 => Int.le_antisymm h1 h2) hl hm
theorem cr_sortedF (hK : X.K = K := by rfl) : CallR X (.builtin "sorted") (rPFN K sortedF) := by
  subst hK
  intro pins s σ H xs us Q I r h
  obtain ⟨M, ds, d, hv, fr, e, g⟩ := h
  unfold sortedF at e
  split at e
  · obtain ⟨ns, e1, e2⟩ := Option.map_eq_some_iff.mp e
    subst e2
    obtain ⟨v, rfl, h1⟩ := vvs1 hv
    obtain ⟨p, vs, rfl, g1, r1⟩ := h1
    have z := ints_vals r1 e1
    subst z
    refine cr_sortedI pins s σ H _ us Q I r ⟨p, ns, rfl, SqL.of g1, fun ns' q hp hs hq => ?_⟩
    have es : sortI ns = ns' := by
      refine perm_sorted_eq ((List.mergeSort_perm _ _).trans hp.symm) ?_ hs
      have := List.pairwise_mergeSort (le := fun (a b : Int) => decide (a ≤ b)) (fun a b c h1 h2 => by simp only [decide_eq_true_eq] at *; omega) (fun a b => by simp only [Bool.or_eq_true, decide_eq_true_eq]; omega) ns
      exact this.imp fun h => of_decide_eq_true h
    rw [es] at g
    exact g.lst (rvs_ints ns') hq
  · cases e
end
end PM
namespace PM
open PySem PySem.Spec PyProof.Rows L2
open WD (MS Fr upd_none)
/-! ### targets -/
inductive Tgt where
  | nm (i : Nat)
  | tp (ts : List Tgt)
mutual
def asg : Tgt → Val → Sl → Option Sl
  | .nm i, w, σ => some (σ.set i (some w))
  | .tp ts, .t (.tup ds), σ => asgs ts ds σ
  | .tp _, _, _ => none
def asgs : List Tgt → List PV → Sl → Option Sl
  | [], [], σ => some σ
  | t :: ts, d :: ds, σ => match asg t (.t d) σ with
    | some σ1 => asgs ts ds σ1
    | none => none
  | _, _, _ => none
end
mutual
def Tgt.sl : Tgt → List Nat
  | .nm i => [i]
  | .tp ts => sls ts
def sls : List Tgt → List Nat
  | [] => []
  | t :: ts => t.sl ++ sls ts
end
def Agree (σ' σ : L2.St) (s : List Nat) : Prop := σ'.length = σ.length ∧ ∀ j, j ∉ s → σ'[j]? = σ[j]?
theorem wipe_get (σ : L2.St) : ∀ (s : List Nat) (j : Nat), (wipe σ s)[j]? = if j ∈ s then (if j < σ.length then some none else none) else σ[j]?
  | [], j => by simp [wipe]
  | v :: vs, j => by
    unfold wipe
    by_cases hv : v = j
    · subst hv
      by_cases hl : v < σ.length
      · rw [List.getElem?_set_self (by rw [wipe_length]; exact hl)]
        simp [hl]
      · rw [List.getElem?_eq_none (by rw [List.length_set, wipe_length]; omega)]
        simp [hl]
    · rw [List.getElem?_set_ne hv, wipe_get σ vs j]
      have : (j ∈ v :: vs) ↔ j ∈ vs := by
        rw [List.mem_cons]
        exact ⟨fun h => h.elim (fun e => absurd e.symm hv) id, .inr⟩
      simp only [this]
theorem Agree.wipe {σ' σ : L2.St} {s : List Nat} (h : Agree σ' σ s) : L2.wipe σ' s = L2.wipe σ s := by
  refine List.ext_getElem? fun j => ?_
  rw [wipe_get, wipe_get, h.1]
  by_cases hj : j ∈ s
  · rw [if_pos hj, if_pos hj]
  · rw [if_neg hj, if_neg hj, h.2 j hj]
theorem Agree.refl {σ : L2.St} {s : List Nat} : Agree σ σ s := ⟨rfl, fun _ _ => rfl⟩
theorem Agree.trans {σ σ1 σ2 : L2.St} {s t : List Nat} (h : Agree σ1 σ s) (g : Agree σ2 σ1 t) : Agree σ2 σ (s ++ t) :=
  ⟨g.1.trans h.1, fun j hj => (g.2 j fun z => hj (List.mem_append_right _ z)).trans (h.2 j fun z => hj (List.mem_append_left _ z))⟩
theorem Agree.set {σ : L2.St} {i : Nat} {v : Option V} : Agree (σ.set i v) σ [i] := ⟨List.length_set, fun j hj => by
  rw [List.getElem?_set_ne fun z => hj (by rw [z]; exact List.mem_singleton.mpr rfl)]⟩
def tG (K : PySem.W.Frag) (ξ : Xi) (T : Tgt) : TG := fun v σr H Q => ∃ N ζ μ σ w σ', Wd K N ζ μ H ∧ Sok K ξ ζ (MM N ζ μ) H σr σ ∧ RV K ξ ζ (MM N ζ μ) H v w ∧ asg T w σ = some σ' ∧ ∀ σr', Sok K ξ ζ (MM N ζ μ) H σr' σ' → Agree σr' σr T.sl → Q σr' H
def tGs (K : PySem.W.Frag) (ξ : Xi) (ts : List Tgt) : TGs := fun vs σr H Q => ∃ N ζ μ σ ds σ', Wd K N ζ μ H ∧ Sok K ξ ζ (MM N ζ μ) H σr σ ∧ rvs K (MM N ζ μ) H vs ds ∧ asgs ts ds σ = some σ' ∧ ∀ σr', Sok K ξ ζ (MM N ζ μ) H σr' σ' → Agree σr' σr (sls ts) → Q σr' H
abbrev IG (K : PySem.W.Frag) (ξ : Xi) (X : Cx) (tg : Expr) (T : Tgt) : Prop := PG X tg (tG K ξ T)
abbrev IGs (K : PySem.W.Frag) (ξ : Xi) (X : Cx) (tg : List Expr) (T : List Tgt) : Prop := PGs X tg (tGs K ξ T)
theorem PG.of {X : Cx} {e : Expr} {t t' : TG} (h : PG X e t) (k : ∀ v σ H Q, t' v σ H Q → t v σ H Q) : PG X e t' := by
  obtain ⟨r⟩ := h
  exact ⟨fun pins s σ H v u Q I ru q => r pins s σ H v u Q I ru (k _ _ _ _ q)⟩
theorem PGs.of {X : Cx} {e : List Expr} {t t' : TGs} (h : PGs X e t) (k : ∀ v σ H Q, t' v σ H Q → t v σ H Q) : PGs X e t' := by
  obtain ⟨r⟩ := h
  exact ⟨fun pins s σ H v u Q I ru q => r pins s σ H v u Q I ru (k _ _ _ _ q)⟩
section
variable {X : Cx} {K : PySem.W.Frag} {ξ : Xi} {W : WX} {e : Expr} {es : List Expr} {pos : Pos} {T : Tgt} {Ts : List Tgt}
theorem g_name {i : Nat} {x : Str} (h : PG X (.Name x pos) (gName i)) : IG K ξ X (.Name x pos) (.nm i) := PG.of h fun v σr H Q q => by
  obtain ⟨N, ζ, μ, σ, w, σ', wd, so, r, e, k⟩ := q
  unfold asg at e
  cases e
  exact k _ (so.set r) (by unfold Tgt.sl; exact Agree.set)
theorem gs_nil : IGs K ξ X [] [] := PGs.of pgs_nil fun vs σr H Q q => by
  obtain ⟨N, ζ, μ, σ, ds, σ', wd, so, r, e, k⟩ := q
  cases ds with
  | nil =>
    have := rvs_len r
    cases List.eq_nil_of_length_eq_zero this
    unfold asgs at e
    cases e
    exact ⟨rfl, k σr so Agree.refl⟩
  | cons d ds => unfold asgs at e; cases e
theorem gs_cons (h : IG K ξ X e T) (hs : IGs K ξ X es Ts) (hz : (assignEach (e :: es) X.env).map (·.2) = assign e X.env :: (assignEach es X.env).map (·.2) := by rfl) : IGs K ξ X (e :: es) (T :: Ts) := PGs.of (pgs_cons h hs hz) fun vs σr H Q q => by
  obtain ⟨N, ζ, μ, σ, ds, σ', wd, so, r, e, k⟩ := q
  cases ds with
  | nil => unfold asgs at e; cases e
  | cons d ds =>
    cases vs with
    | nil => unfold rvs at r; exact r.elim
    | cons v vs =>
      rw [rvs_cons] at r
      unfold asgs at e
      split at e
      · rename_i σ1 e1
        refine ⟨v, vs, rfl, N, ζ, μ, σ, .t d, σ1, wd, so, r.1, e1, fun σr1 so1 ag1 => ?_⟩
        refine ⟨N, ζ, μ, σ1, ds, σ', wd, so1, r.2, e, fun σr2 so2 ag2 => k σr2 so2 ?_⟩
        unfold sls
        exact ag1.trans ag2
      · cases e
theorem asgs_len : ∀ {ts : List Tgt} {ds : List PV} {σ σ' : Sl}, asgs ts ds σ = some σ' → ds.length = ts.length
  | [], [], _, _, _ => rfl
  | t :: ts, d :: ds, σ, σ', e => by
    unfold asgs at e
    split at e
    · exact congrArg Nat.succ (asgs_len e)
    · cases e
  | [], _ :: _, _, _, e => by unfold asgs at e; cases e
  | _ :: _, [], _, _, e => by unfold asgs at e; cases e
theorem g_tup {kk : Nat} (hs : IGs K ξ X es Ts) (hc : X.calm = true) (hn : (assignEach es X.env).length = Ts.length := by rfl) (hst : (assignEach es X.env).findIdx? (·.1) = none := by rfl) (hK : X.K = K := by rfl) : IG K ξ X (.Tuple es kk pos) (.tp Ts) := PG.of (WD.k_pg_tup K hc hs hn hst hK) fun v σr H Q q => by
  obtain ⟨N, ζ, μ, σ, w, σ', wd, so, r, e, k⟩ := q
  have e0 : ∃ ds, w = .t (.tup ds) ∧ asgs Ts ds σ = some σ' := by
    cases w with
    | t d => cases d <;> first | (unfold asg at e; exact ⟨_, rfl, e⟩) | (unfold asg at e; cases e)
    | c _ => unfold asg at e; cases e
    | x _ _ => unfold asg at e; cases e
    | s _ => unfold asg at e; cases e
  obtain ⟨ds, rfl, e⟩ := e0
  · obtain ⟨a, vs, rfl, n1, h1, r1⟩ := rv_tup.mp (show rv K (MM N ζ μ) H v (.tup ds) from r)
    refine ⟨a, vs, rfl, SqT.of h1, by rw [rvs_len r1]; exact asgs_len e, N, ζ, μ, σ, ds, σ', wd, so, r1, e, fun σr' so' ag => k σr' so' ?_⟩
    unfold Tgt.sl
    exact ag
end
end PM
namespace PM
open PySem PySem.Spec PyProof.Rows L2
open WD (MS Fr upd_none)
/-! ### statements -/
def R.st {α : Type} (σ : Sl) : R α → (α → Store → RS) → RS
  | .ok a μ, k => k a μ
  | .ex c f μ, _ => .ex c f σ μ
  | .stuck, _ => .stuck
def RS.seq : RS → (Sl → Store → RS) → RS
  | .nx σ μ, k => k σ μ
  | r, _ => r
def sPass : MSt := fun σ μ => .nx σ μ
def sCont : MSt := fun σ μ => .ct σ μ
def sSeq (a b : MSt) : MSt := fun σ μ => (a σ μ).seq b
def sAsg (T : Tgt) (f : ME) : MSt := fun σ μ => (f σ μ).st σ fun w μ1 => match asg T w σ with
  | some σ1 => .nx σ1 μ1
  | none => .stuck
def sExp (f : ME) : MSt := fun σ μ => (f σ μ).st σ fun _ μ1 => .nx σ μ1
def sRet (f : ME) : MSt := fun σ μ => (f σ μ).st σ fun w μ1 => .rt w μ1
def sRetN : MSt := fun _ μ => .rt (.t .non) μ
def sIf (c : Sl → Store → R Bool) (a b : MSt) : MSt := fun σ μ => (c σ μ).st σ fun k μ1 => if k then a σ μ1 else b σ μ1
def forL (T : Tgt) (body : MSt) : List PV → Sl → Store → RS
  | [], σ, μ => .nx σ μ
  | d :: ds, σ, μ => match asg T (.t d) σ with
    | none => .stuck
    | some σ1 => match body σ1 μ with
      | .nx σ2 μ2 => forL T body ds σ2 μ2
      | .ct σ2 μ2 => forL T body ds σ2 μ2
      | .bk σ2 μ2 => .nx σ2 μ2
      | r => r
def sFor (it : Sl → Store → R (List PV)) (T : Tgt) (body : MSt) : MSt := fun σ μ => (it σ μ).st σ fun items μ1 => forL T body items σ μ1
def whileL (c : Sl → Store → R Bool) (body : MSt) : Nat → Sl → Store → RS
  | 0, _, _ => .stuck
  | n + 1, σ, μ => (c σ μ).st σ fun k μ1 => if k then (match body σ μ1 with
      | .nx σ2 μ2 => whileL c body n σ2 μ2
      | .ct σ2 μ2 => whileL c body n σ2 μ2
      | .bk σ2 μ2 => .nx σ2 μ2
      | r => r) else .nx σ μ1
def sWhile (n : Nat) (c : Sl → Store → R Bool) (body : MSt) : MSt := fun σ μ => whileL c body n σ μ

section
variable {X : Cx} {K : PySem.W.Frag} {ξ : Xi} {W : WX} {N : MS} {ζ : List Addr} {μ : Store} {H : Hp} {σr : L2.St} {σ : Sl} {D : Ends} {e tg : Expr} {st : Stmt} {ss : List Stmt} {fa : ME} {ta : Sl → Store → R Bool} {A B : MSt} {T : Tgt} {pos : Pos}
/-- a reading, then a statement's step -/
theorem stE {k : Val → Store → RS} (wd : Wd K N ζ μ H) (so : Sok K ξ ζ (MM N ζ μ) H σr σ) (h : PostS K ξ W N ζ μ H D ((fa σ μ).st σ k)) :
    tE K ξ W fa σr H fun x H1 => ∃ ζ1 μ1 w1, Ev ζ μ H ζ1 μ1 H1 ∧ Wd K N ζ1 μ1 H1 ∧ Sok K ξ ζ1 (MM N ζ1 μ1) H1 σr σ ∧ RV K ξ ζ1 (MM N ζ1 μ1) H1 x w1 ∧ PostS K ξ W N ζ1 μ1 H1 D (k w1 μ1) := by
  refine ⟨N, ζ, μ, σ, wd, so, ?_⟩
  cases e : fa σ μ with
  | ok w1 μ1 => rw [e] at h; exact fun ζ' H' v ev w r => ⟨ζ', μ1, w1, ev, w, so.ev ev, r, PostS.ev ev h⟩
  | ex c f μ1 => rw [e] at h; exact fun ζ' H' d ev w r => h ζ' H' d σr ev w r (so.ev ev)
  | stuck => rw [e] at h; exact h
theorem stT {k : Bool → Store → RS} (wd : Wd K N ζ μ H) (so : Sok K ξ ζ (MM N ζ μ) H σr σ) (h : PostS K ξ W N ζ μ H D ((ta σ μ).st σ k)) :
    tT K ξ W ta σr H fun b H1 => ∃ ζ1 μ1, Ev ζ μ H ζ1 μ1 H1 ∧ Wd K N ζ1 μ1 H1 ∧ Sok K ξ ζ1 (MM N ζ1 μ1) H1 σr σ ∧ PostS K ξ W N ζ1 μ1 H1 D (k b μ1) := by
  refine ⟨N, ζ, μ, σ, wd, so, ?_⟩
  cases e : ta σ μ with
  | ok w1 μ1 => rw [e] at h; exact fun ζ' H' ev w => ⟨ζ', μ1, ev, w, so.ev ev, PostS.ev ev h⟩
  | ex c f μ1 => rw [e] at h; exact fun ζ' H' d ev w r => h ζ' H' d σr ev w r (so.ev ev)
  | stuck => rw [e] at h; exact h
theorem s_pass {pos : Pos} : IS K ξ W X (.Pass pos) sPass := PS.of ps_pass fun D σr H q => by
  obtain ⟨N, ζ, μ, σ, wd, so, q⟩ := q
  exact q ζ H σr Ev.refl wd so
theorem s_cont {pos : Pos} : IS K ξ W X (.Continue pos) sCont := PS.of ps_continue fun D σr H q => by
  obtain ⟨N, ζ, μ, σ, wd, so, q⟩ := q
  exact q ζ H σr Ev.refl wd so
theorem s_exp (ha : IE K ξ W X e fa) (hs : swapsWith e none pos.line X.env = pure false := by rfl) : IS K ξ W X (.Expr e pos) (sExp fa) := PS.of (ps_expr ha hs) fun D σr H q => by
  obtain ⟨N, ζ, μ, σ, wd, so, q⟩ := q
  refine (stE wd so q).mono fun x H1 ⟨ζ1, μ1, w1, ev1, wd1, so1, r1, q1⟩ => q1 ζ1 H1 σr Ev.refl wd1 so1
theorem s_ret (h : PS X st (tRet (tE K ξ W fa))) : IS K ξ W X st (sRet fa) := PS.of h fun D σr H q => by
  obtain ⟨N, ζ, μ, σ, wd, so, q⟩ := q
  refine (stE wd so q).mono fun x H1 ⟨ζ1, μ1, w1, ev1, wd1, so1, r1, q1⟩ => q1 ζ1 H1 x Ev.refl wd1 r1
theorem s_retN (h : PS X st tRetN) : IS K ξ W X st sRetN := PS.of h fun D σr H q => by
  obtain ⟨N, ζ, μ, σ, wd, so, q⟩ := q
  exact q ζ H .non Ev.refl wd ((rv_non (K := K) (M := MM N ζ μ) (H := H)).mpr rfl)
/-- x = e, by any rule for it -/
theorem s_asgR {te : TE} {i : Nat} (h : PS X st (tAsg te (gName i))) (k : ∀ σ H Q, tE K ξ W fa σ H Q → te σ H Q) : IS K ξ W X st (sAsg (.nm i) fa) := PS.of h fun D σr H q => by
  obtain ⟨N, ζ, μ, σ, wd, so, q⟩ := q
  refine k _ _ _ ((stE wd so q).mono fun x H1 ⟨ζ1, μ1, w1, ev1, wd1, so1, r1, q1⟩ => ?_)
  unfold asg at q1
  exact q1 ζ1 H1 _ Ev.refl wd1 (so1.set r1)
theorem s_set {i : Nat} (h : PS X st (tAsg (tE K ξ W fa) (gName i))) : IS K ξ W X st (sAsg (.nm i) fa) := s_asgR h fun _ _ _ q => q
theorem s_asg (h : PS X st (tAsg (tE K ξ W fa) (tG K ξ T))) : IS K ξ W X st (sAsg T fa) := PS.of h fun D σr H q => by
  obtain ⟨N, ζ, μ, σ, wd, so, q⟩ := q
  refine (stE wd so q).mono fun x H1 ⟨ζ1, μ1, w1, ev1, wd1, so1, r1, q1⟩ => ?_
  split at q1
  · rename_i σ1 e1
    exact ⟨N, ζ1, μ1, σ, w1, σ1, wd1, so1, r1, e1, fun σr' so' _ => q1 ζ1 H1 σr' Ev.refl wd1 so'⟩
  · exact q1.elim
theorem s_if (h : PS X st (tIfS (tT K ξ W ta) (tS K ξ W A) (tS K ξ W B))) : IS K ξ W X st (sIf ta A B) := PS.of h fun D σr H q => by
  obtain ⟨N, ζ, μ, σ, wd, so, q⟩ := q
  refine (stT wd so q).mono fun b H1 ⟨ζ1, μ1, ev1, wd1, so1, q1⟩ => ?_
  cases b with
  | true => exact iteT ⟨N, ζ1, μ1, σ, wd1, so1, q1⟩
  | false => exact iteF ⟨N, ζ1, μ1, σ, wd1, so1, q1⟩
theorem PostS.seq {r : RS} (h : PostS K ξ W N ζ μ H D (r.seq B)) : PostS K ξ W N ζ μ H { D with nx := tS K ξ W B D } r := by
  cases r with
  | nx σ' μ' => exact fun ζ' H' σr' ev wd so => ⟨N, ζ', μ', σ', wd, so, PostS.ev ev h⟩
  | bk _ _ => exact h
  | ct _ _ => exact h
  | rt _ _ => exact h
  | ex _ _ _ _ => exact h
  | stuck => exact h
theorem ss_nil : ISs K ξ W X [] sPass := PSs.of pss_nil fun D σr H q => by
  obtain ⟨N, ζ, μ, σ, wd, so, q⟩ := q
  exact q ζ H σr Ev.refl wd so
theorem ss_cons (ha : IS K ξ W X st A) (hb : ISs K ξ W X ss B) : ISs K ξ W X (st :: ss) (sSeq A B) := PSs.of (pss_cons ha hb) fun D σr H q => by
  obtain ⟨N, ζ, μ, σ, wd, so, q⟩ := q
  exact ⟨N, ζ, μ, σ, wd, so, PostS.seq q⟩
theorem ss_one (ha : IS K ξ W X st A) : ISs K ξ W X [st] A := pss_one ha
/-- a ghost step ahead of a block -/
theorem ss_ghost {G : MSt} (hb : ISs K ξ W X ss B) (g : ∀ (D : Ends) (σr : L2.St) (H : Hp) (N : MS) (ζ : List Addr) (μ : Store) (σ : Sl), Wd K N ζ μ H → Sok K ξ ζ (MM N ζ μ) H σr σ → PostS K ξ W N ζ μ H D ((G σ μ).seq B) → tS K ξ W B D σr H) : ISs K ξ W X ss (sSeq G B) := PSs.of hb fun D σr H q => by
  obtain ⟨N, ζ, μ, σ, wd, so, q⟩ := q
  exact g D σr H N ζ μ σ wd so q

/-! ### what is walked -/
def ItOk (K : PySem.W.Frag) (M : MS) (H : Hp) (J : It) (items : List PV) : Prop := ∀ M1 H1, (∀ a, ¬ M a → H a ≠ none → ¬ M1 a) → (∀ a o, ¬ M a → H a = some o → H1 a = some o) → Fre M1 H1 →
  (∀ (i : Nat) d, items[i]? = some d → J.go i H1 ∧ ∀ x H2, J.yld i H1 x H2 → Grow H1 H2 ∧ rv K M1 H2 x d) ∧ J.stop items.length H1
def PostI (K : PySem.W.Frag) (W : WX) (N : MS) (ζ : List Addr) (μ : Store) (H : Hp) (σr : L2.St) (Q : It → Hp → Prop) : R (List PV) → Prop
  | .ok ds μ' => ∀ ζ' H' J, Ev ζ μ H ζ' μ' H' → Wd K N ζ' μ' H' → ItOk K (MM N ζ' μ') H' J ds → Q J H'
  | .ex c f μ' => ∀ ζ' H' d, Ev ζ μ H ζ' μ' H' → Wd K N ζ' μ' H' → XR K (MM N ζ' μ') H' d f → W (.ref (He.ga K c)) d σr H'
  | .stuck => False
def tI (K : PySem.W.Frag) (ξ : Xi) (W : WX) (f : Sl → Store → R (List PV)) : TI := fun σr H Q => ∃ N ζ μ σ, Wd K N ζ μ H ∧ Sok K ξ ζ (MM N ζ μ) H σr σ ∧ PostI K W N ζ μ H σr Q (f σ μ)
abbrev II (K : PySem.W.Frag) (ξ : Xi) (W : WX) (X : Cx) (tg it : Expr) (f : Sl → Store → R (List PV)) : Prop := PI X tg it (tI K ξ W f)
theorem PI.of {tg it : Expr} {t t' : TI} (h : PI X tg it t) (k : ∀ σ H Q, t' σ H Q → t σ H Q) : PI X tg it t' := ⟨fun pins s σ H Q I q => h.run pins s σ H Q I (k σ H Q q)⟩
theorem PI.pick {tg it : Expr} {t' : TI} (k : ∀ σ H Q, t' σ H Q → ∃ t, PI X tg it t ∧ t σ H Q) : PI X tg it t' := ⟨fun pins s σ H Q I q => let ⟨_, h, q'⟩ := k σ H Q q; h.run pins s σ H Q I q'⟩
theorem PostI.ev {ζ1 : List Addr} {μ1 : Store} {H1 : Hp} {Q : It → Hp → Prop} (e : Ev ζ μ H ζ1 μ1 H1) : ∀ {r : R (List PV)}, PostI K W N ζ μ H σr Q r → PostI K W N ζ1 μ1 H1 σr Q r
  | .ok _ _, h => fun ζ' H' v a b c => h ζ' H' v (e.trans a) b c
  | .ex _ _ _, h => fun ζ' H' d a b c => h ζ' H' d (e.trans a) b c
  | .stuck, h => h
theorem then1I {a : ME} {P : It → Hp → Prop} {g : Val → Store → R (List PV)} (wd : Wd K N ζ μ H) (so : Sok K ξ ζ (MM N ζ μ) H σr σ) (h : PostI K W N ζ μ H σr P ((a σ μ).bind g)) :
    tE K ξ W a σr H fun x H1 => ∃ ζ1 μ1 w1, Ev ζ μ H ζ1 μ1 H1 ∧ Wd K N ζ1 μ1 H1 ∧ Sok K ξ ζ1 (MM N ζ1 μ1) H1 σr σ ∧ RV K ξ ζ1 (MM N ζ1 μ1) H1 x w1 ∧ PostI K W N ζ1 μ1 H1 σr P (g w1 μ1) := by
  refine ⟨N, ζ, μ, σ, wd, so, ?_⟩
  cases e : a σ μ with
  | ok w1 μ1 => rw [e] at h; exact fun ζ' H' v ev w r => ⟨ζ', μ1, w1, ev, w, so.ev ev, r, h.ev ev⟩
  | ex c f μ1 => rw [e] at h; exact h
  | stuck => rw [e] at h; exact h
theorem thenNI {a : Sl → Store → R (List Val)} {P : It → Hp → Prop} {g : List Val → Store → R (List PV)} (wd : Wd K N ζ μ H) (so : Sok K ξ ζ (MM N ζ μ) H σr σ) (h : PostI K W N ζ μ H σr P ((a σ μ).bind g)) :
    tA K ξ W a σr H fun xs H1 => ∃ ζ1 μ1 ws, Ev ζ μ H ζ1 μ1 H1 ∧ Wd K N ζ1 μ1 H1 ∧ Sok K ξ ζ1 (MM N ζ1 μ1) H1 σr σ ∧ RVs K ξ ζ1 (MM N ζ1 μ1) H1 xs ws ∧ PostI K W N ζ1 μ1 H1 σr P (g ws μ1) := by
  refine ⟨N, ζ, μ, σ, wd, so, ?_⟩
  cases e : a σ μ with
  | ok w1 μ1 => rw [e] at h; exact fun ζ' H' v ev w r => ⟨ζ', μ1, w1, ev, w, so.ev ev, r, h.ev ev⟩
  | ex c f μ1 => rw [e] at h; exact h
  | stuck => rw [e] at h; exact h
/-- for .. in .. -/
theorem s_for {it : Expr} {body : List Stmt} {fi : Sl → Store → R (List PV)} (hp : PassesOwn (model X.prog X.w) X.A X.env X.xe) (hc : X.calm = true) (hi : II K ξ W X tg it fi) (hg : IG K ξ X tg T) (hb : ISs K ξ W X body B)
    (hf : ∀ x : Value, foldedSetIterable it X.env x = pure x := by intro _; rfl) : IS K ξ W X (.For tg it body [] pos) (sFor fi T B) := PS.of (ps_for hp hc hi hg hb hf) fun D σr H q => by
  obtain ⟨N, ζ, μ, σ, wd, so, q⟩ := q
  refine ⟨N, ζ, μ, σ, wd, so, ?_⟩
  unfold sFor at q
  cases e : fi σ μ with
  | stuck => rw [e] at q; exact q
  | ex c f μ1 => rw [e] at q; exact fun ζ' H' d ev w r => q ζ' H' d σr ev w r (so.ev ev)
  | ok items μ1 =>
    rw [e] at q
    intro ζ1 H1 J ev1 wd1 ok
    have q1 : PostS K ξ W N ζ1 μ1 H1 D (forL T B items σ μ1) := PostS.ev ev1 q
    refine ⟨fun i m σr' H' => ∃ ζ' μ' σ', i ≤ items.length ∧ m = items.length - i ∧ Ev ζ1 μ1 H1 ζ' μ' H' ∧ Wd K N ζ' μ' H' ∧ Sok K ξ ζ' (MM N ζ' μ') H' σr' σ' ∧ PostS K ξ W N ζ' μ' H' D (forL T B (items.drop i) σ' μ'),
      ⟨_, ζ1, μ1, σ, Nat.zero_le _, rfl, Ev.refl, wd1, so.ev ev1, q1⟩, ?_⟩
    rintro i m σr' H' ⟨ζ', μ', σ', hi, hm, ev', wd', so', q'⟩
    obtain ⟨k1, k2⟩ := ok (MM N ζ' μ') H' ev'.na ev'.keep wd'.fre
    by_cases hlt : i < items.length
    · refine .inr ?_
      have hd : items.drop i = items[i] :: items.drop (i + 1) := List.drop_eq_getElem_cons hlt
      obtain ⟨kgo, ky⟩ := k1 i _ (List.getElem?_eq_getElem hlt)
      refine ⟨kgo, fun σ2 H2 => ∃ ζ2 μ2 σm, i + 1 ≤ items.length ∧ Ev ζ1 μ1 H1 ζ2 μ2 H2 ∧ Wd K N ζ2 μ2 H2 ∧ Sok K ξ ζ2 (MM N ζ2 μ2) H2 σ2 σm ∧ PostS K ξ W N ζ2 μ2 H2 D (forL T B (items.drop (i + 1)) σm μ2), fun σ2 H2 ⟨ζ2, μ2, σm, a1, a2, a3, a4, a5⟩ => ⟨items.length - (i + 1), by omega, ζ2, μ2, σm, a1, rfl, a2, a3, a4, a5⟩, fun x Hy hy => ?_⟩
      obtain ⟨gr, rx⟩ := ky x Hy hy
      rw [hd] at q'
      unfold forL at q'
      cases ea : asg T (.t items[i]) σ' with
      | none => rw [ea] at q'; exact q'.elim
      | some σ1 =>
        rw [ea] at q'
        dsimp only at q'
        refine ⟨N, ζ', μ', σ', .t items[i], σ1, wd'.fr0 gr, so'.ev gr.ev, rx, ea, fun σr1 so1 _ => ⟨N, ζ', μ', σ1, wd'.fr0 gr, so1, ?_⟩⟩
        have q2 := PostS.ev (gr.ev (ζ := ζ') (μ := μ')) q'
        have evy : Ev ζ1 μ1 H1 ζ' μ' Hy := ev'.trans gr.ev
        cases eb : B σ1 μ' with
        | nx σ2 μ2 => rw [eb] at q2; exact fun ζ2 H2 σr2 ev2 wd2 so2 => ⟨ζ2, μ2, σ2, hlt, evy.trans ev2, wd2, so2, PostS.ev ev2 q2⟩
        | ct σ2 μ2 => rw [eb] at q2; exact fun ζ2 H2 σr2 ev2 wd2 so2 => ⟨ζ2, μ2, σ2, hlt, evy.trans ev2, wd2, so2, PostS.ev ev2 q2⟩
        | bk σ2 μ2 => rw [eb] at q2; exact q2
        | rt w μ2 => rw [eb] at q2; exact q2
        | ex c f σ2 μ2 => rw [eb] at q2; exact q2
        | stuck => rw [eb] at q2; exact q2
    · refine .inl ?_
      have hi2 : i = items.length := by omega
      subst hi2
      rw [List.drop_length] at q'
      exact ⟨k2, q' ζ' H' σr' Ev.refl wd' so'⟩
theorem s_while {c : Expr} {body : List Stmt} {n : Nat} (hp : PassesOwn (model X.prog X.w) X.A X.env X.xe) (hc : IT K ξ W X c ta) (hb : ISs K ξ W X body B) : IS K ξ W X (.While c body [] pos) (sWhile n ta B) := PS.of (ps_while hp hc hb) fun D σr H q => by
  obtain ⟨N, ζ, μ, σ, wd, so, q⟩ := q
  refine ⟨fun m σr' H' => ∃ ζ' μ' σ', Wd K N ζ' μ' H' ∧ Sok K ξ ζ' (MM N ζ' μ') H' σr' σ' ∧ PostS K ξ W N ζ' μ' H' D (whileL ta B m σ' μ'), ⟨n, ζ, μ, σ, wd, so, q⟩, ?_⟩
  rintro m σr' H' ⟨ζ', μ', σ', wd', so', q'⟩
  cases m with
  | zero => exact q'.elim
  | succ m =>
    unfold whileL at q'
    refine (stT wd' so' q').mono fun b H1 ⟨ζ1, μ1, ev1, wd1, so1, q1⟩ => ?_
    cases b with
    | false => exact iteF (q1 ζ1 H1 σr' Ev.refl wd1 so1)
    | true =>
      refine iteT ⟨fun σ2 H2 => ∃ ζ2 μ2 σm, Wd K N ζ2 μ2 H2 ∧ Sok K ξ ζ2 (MM N ζ2 μ2) H2 σ2 σm ∧ PostS K ξ W N ζ2 μ2 H2 D (whileL ta B m σm μ2), fun σ2 H2 z => ⟨m, Nat.lt_succ_self m, z⟩, N, ζ1, μ1, σ', wd1, so1, ?_⟩
      have q2 : PostS K ξ W N ζ1 μ1 H1 D (match B σ' μ1 with
        | .nx σ2 μ2 => whileL ta B m σ2 μ2
        | .ct σ2 μ2 => whileL ta B m σ2 μ2
        | .bk σ2 μ2 => .nx σ2 μ2
        | r => r) := q1
      cases eb : B σ' μ1 with
      | nx σ2 μ2 => rw [eb] at q2; exact fun ζ2 H2 σr2 ev2 wd2 so2 => ⟨ζ2, μ2, σ2, wd2, so2, PostS.ev ev2 q2⟩
      | ct σ2 μ2 => rw [eb] at q2; exact fun ζ2 H2 σr2 ev2 wd2 so2 => ⟨ζ2, μ2, σ2, wd2, so2, PostS.ev ev2 q2⟩
      | bk σ2 μ2 => rw [eb] at q2; exact q2
      | rt w μ2 => rw [eb] at q2; exact q2
      | ex c f σ2 μ2 => rw [eb] at q2; exact q2
      | stuck => rw [eb] at q2; exact q2
end
end PM
namespace PM
open PySem PySem.Spec PyProof.Rows L2
open WD (MS Fr upd_none)
/-! ### what can be walked -/
def itemsV : PV → Option (List PV)
  | .lst l => some l
  | .tup l => some l
  | .str z => some (z.cps.toList.map fun c => .str ⟨#[c]⟩)
  | _ => none
/-- only data are walked: a thing that changes isn't -/
def gIt (w : Val) (μ : Store) : R (List PV) := match w with
  | .t d => OR.ok μ (itemsV d)
  | _ => .stuck
def rgI (lo : Int) (n : Nat) : List PV := (List.range n).map fun (k : Nat) => .int (lo + (k : Int))
def gRange1 : List Val → Store → R (List PV)
  | [.t (.int j)], μ => if bnd j then .ok (rgI 0 j.toNat) μ else .stuck
  | _, _ => .stuck
def gRange2 : List Val → Store → R (List PV)
  | [.t (.int i), .t (.int j)], μ => if bnd i && bnd j then .ok (rgI i (j - i).toNat) μ else .stuck
  | _, _ => .stuck
def enumP (l : List PV) : List PV := (List.range l.length).zipWith (fun (k : Nat) d => .tup [.int (k : Int), d]) l
def seqV : PV → Option (List PV)
  | .lst l => some l
  | .tup l => some l
  | _ => none
def gEnum : List Val → Store → R (List PV)
  | [.t d], μ => match seqV d with
    | some l => .ok (enumP l) μ
    | none => .stuck
  | _, _ => .stuck
def zipP (l m : List PV) : List PV := l.zipWith (fun a b => .tup [a, b]) m
def gZip : List Val → Store → R (List PV)
  | [.t (.lst l), .t (.lst m)], μ => .ok (zipP l m) μ
  | [.t (.tup l), .t (.tup m)], μ => .ok (zipP l m) μ
  | _, _ => .stuck
section
variable {X : Cx} {K : PySem.W.Frag} {ξ : Xi} {W : WX} {N : MS} {ζ : List Addr} {μ : Store} {M : MS} {H : Hp} {σr : L2.St} {σ : Sl} {tg it e : Expr} {es : List Expr} {fa : ME} {fs : Sl → Store → R (List Val)} {pos : Pos}
theorem it_list {a : Addr} {vs : List V} {ds : List PV} (n : ¬ M a) (h : H a = some (.lst vs)) (r : rvs K M H vs ds) : ItOk K M H (Itl K a) ds := fun M1 H1 na kp fr => by
  have h1 : SqL K H1 a vs := SqL.of (kp a _ n h)
  have r1 := rvs_st na kp ds vs r
  have hl := rvs_len r
  refine ⟨fun i d hd => ?_, ⟨vs, h1, by omega⟩⟩
  obtain ⟨v, hv, rvv⟩ := rvs_at r1 hd
  refine ⟨⟨vs, v, h1, hv⟩, fun x H2 hy => ?_⟩
  obtain ⟨rfl, hx⟩ := hy
  have := hx vs h1
  rw [hv] at this
  cases this
  exact ⟨Grow.refl, rvv⟩
theorem it_tup {a : Addr} {vs : List V} {ds : List PV} (n : ¬ M a) (h : H a = some (.tup vs)) (r : rvs K M H vs ds) : ItOk K M H (Itt K a) ds := fun M1 H1 na kp fr => by
  have h1 : SqT K H1 a vs := SqT.of (kp a _ n h)
  have r1 := rvs_st na kp ds vs r
  have hl := rvs_len r
  refine ⟨fun i d hd => ?_, ⟨vs, h1, by omega⟩⟩
  obtain ⟨v, hv, rvv⟩ := rvs_at r1 hd
  refine ⟨⟨vs, v, h1, hv⟩, fun x H2 hy => ?_⟩
  obtain ⟨rfl, hx⟩ := hy
  have := hx vs h1
  rw [hv] at this
  cases this
  exact ⟨Grow.refl, rvv⟩
theorem it_str {z : Str} (h : PyData.strOk z = true) : ItOk K M H (Its z) (z.cps.toList.map fun c => .str ⟨#[c]⟩) := fun M1 H1 na kp fr => by
  refine ⟨fun i d hd => ?_, by show z.cps.size ≤ _; simp⟩
  rw [List.getElem?_map] at hd
  obtain ⟨c, hc, rfl⟩ := Option.map_eq_some_iff.mp hd
  have hc' : z.cps[i]? = some c := by rw [← Array.getElem?_toList]; exact hc
  refine ⟨(Array.getElem?_eq_some_iff.mp hc').1, fun x H2 hy => ?_⟩
  obtain ⟨rfl, c', h1, rfl⟩ := hy
  rw [hc'] at h1
  cases h1
  exact ⟨Grow.refl, rv_str.mpr ⟨rfl, strOk_sub (l := [c]) h fun c' hc2 => by rw [List.mem_singleton.mp hc2]; exact List.mem_of_getElem? hc⟩⟩
theorem it_rng {lo : Int} {n : Nat} : ItOk K M H (Itr lo n) (rgI lo n) := fun M1 H1 na kp fr => by
  refine ⟨fun i d hd => ?_, by show n ≤ (rgI lo n).length; unfold rgI; simp⟩
  unfold rgI at hd
  rw [List.getElem?_map] at hd
  obtain ⟨k, hk, rfl⟩ := Option.map_eq_some_iff.mp hd
  have hi : i < n := by
    have := (List.getElem?_eq_some_iff.mp hk).1
    simpa using this
  rw [List.getElem?_range hi] at hk
  cases hk
  refine ⟨hi, fun x H2 hy => ?_⟩
  obtain ⟨rfl, rfl⟩ := hy
  exact ⟨Grow.refl, rv_int.mpr rfl⟩
theorem pair_new {T : Addr} {x y : V} {d e : PV} {M1 : MS} {H1 : Hp} (fr : Fre M1 H1) (hT : H1 T = none) (hx : rv K M1 H1 x d) (hy : rv K M1 H1 y e) : Grow H1 (upd H1 T (.tup [x, y])) ∧ rv K M1 (upd H1 T (.tup [x, y])) (.ref T) (.tup [d, e]) :=
  ⟨Grow.upd hT, rv_tup.mpr ⟨T, _, rfl, fr T hT, upd_same, rvs_cons.mpr ⟨(Grow.upd hT).rv hx, rvs_cons.mpr ⟨(Grow.upd hT).rv hy, rvs_nil⟩⟩⟩⟩
theorem enum_at {l : List PV} {i : Nat} {d : PV} (h : (enumP l)[i]? = some d) : ∃ z, l[i]? = some z ∧ d = .tup [.int (i : Int), z] := by
  unfold enumP at h
  rw [List.getElem?_zipWith] at h
  by_cases hi : i < l.length
  · rw [List.getElem?_range hi, List.getElem?_eq_getElem hi] at h
    exact ⟨l[i], List.getElem?_eq_getElem hi, (Option.some.inj h).symm⟩
  · rw [List.getElem?_eq_none (l := l) (by omega)] at h
    cases h2 : (List.range l.length)[i]? <;> rw [h2] at h <;> cases h
theorem enum_len (l : List PV) : (enumP l).length = l.length := by unfold enumP; simp
theorem it_enL {a : Addr} {vs : List V} {ds : List PV} (n : ¬ M a) (h : H a = some (.lst vs)) (r : rvs K M H vs ds) : ItOk K M H (Ite K a) (enumP ds) := fun M1 H1 na kp fr => by
  have h1 : SqL K H1 a vs := SqL.of (kp a _ n h)
  have r1 := rvs_st na kp ds vs r
  have hl := rvs_len r
  refine ⟨fun i d hd => ?_, ⟨vs, h1, by rw [enum_len]; omega⟩⟩
  obtain ⟨z, hz, rfl⟩ := enum_at hd
  obtain ⟨v, hv, rvv⟩ := rvs_at r1 hz
  refine ⟨⟨vs, v, h1, hv⟩, fun x H2 hy => ?_⟩
  obtain ⟨T, y, rfl, hT, rfl, hx⟩ := hy
  have := hx vs h1
  rw [hv] at this
  cases this
  exact pair_new fr hT (rv_int.mpr rfl) rvv
theorem it_enT {a : Addr} {vs : List V} {ds : List PV} (n : ¬ M a) (h : H a = some (.tup vs)) (r : rvs K M H vs ds) : ItOk K M H (WD.ItEnT K a) (enumP ds) := fun M1 H1 na kp fr => by
  have h1 : SqT K H1 a vs := SqT.of (kp a _ n h)
  have r1 := rvs_st na kp ds vs r
  have hl := rvs_len r
  refine ⟨fun i d hd => ?_, ⟨vs, h1, by rw [enum_len]; omega⟩⟩
  obtain ⟨z, hz, rfl⟩ := enum_at hd
  obtain ⟨v, hv, rvv⟩ := rvs_at r1 hz
  refine ⟨⟨vs, v, h1, hv⟩, fun x H2 hy => ?_⟩
  obtain ⟨T, y, rfl, hT, rfl, hx⟩ := hy
  have := hx vs h1
  rw [hv] at this
  cases this
  exact pair_new fr hT (rv_int.mpr rfl) rvv
theorem zip_at {l m : List PV} {i : Nat} {d : PV} (h : (zipP l m)[i]? = some d) : ∃ z y, l[i]? = some z ∧ m[i]? = some y ∧ d = .tup [z, y] := by
  unfold zipP at h
  rw [List.getElem?_zipWith] at h
  cases h1 : l[i]? with
  | none => rw [h1] at h; cases h
  | some z =>
    rw [h1] at h
    cases h2 : m[i]? with
    | none => rw [h2] at h; cases h
    | some y => rw [h2] at h; exact ⟨z, y, rfl, rfl, (Option.some.inj h).symm⟩
theorem zip_len (l m : List PV) : (zipP l m).length = min l.length m.length := by unfold zipP; simp
/-- a value that is walked -/
theorem ii_val (h : IE K ξ W X it fa) (hK : X.K = K := by rfl) : II K ξ W X tg it (e1 gIt fa) := by
  subst hK
  refine PI.pick fun σr H Q q => ?_
  obtain ⟨N, ζ, μ, σ, wd, so, q⟩ := q
  have key := then1I wd so q
  cases ea : fa σ μ with
  | ex c f μ1 =>
    refine ⟨_, pi_list h, N, ζ, μ, σ, wd, so, ?_⟩
    unfold e1 at q
    rw [ea] at q ⊢
    exact q
  | stuck =>
    unfold e1 at q
    rw [ea] at q
    exact q.elim
  | ok w μ1 =>
    unfold e1 at q
    rw [ea] at q
    have q' : PostI X.K W N ζ μ H σr Q (gIt w μ1) := q
    cases w with
    | c _ => exact q'.elim
    | x _ _ => exact q'.elim
    | s _ => exact q'.elim
    | t d =>
      cases d with
      | lst l =>
        refine ⟨_, pi_list h, N, ζ, μ, σ, wd, so, ?_⟩
        rw [ea]
        intro ζ' H' v ev1 wd1 r1
        obtain ⟨p, vs, rfl, n1, g1, r2⟩ := rv_lst.mp (show rv X.K (MM N ζ' μ1) H' v (.lst l) from r1)
        exact ⟨p, rfl, ⟨vs, SqL.of g1⟩, q' ζ' H' _ ev1 wd1 (it_list n1 g1 r2)⟩
      | tup l =>
        refine ⟨_, pi_tup h, N, ζ, μ, σ, wd, so, ?_⟩
        rw [ea]
        intro ζ' H' v ev1 wd1 r1
        obtain ⟨p, vs, rfl, n1, g1, r2⟩ := rv_tup.mp (show rv X.K (MM N ζ' μ1) H' v (.tup l) from r1)
        exact ⟨p, rfl, ⟨vs, SqT.of g1⟩, q' ζ' H' _ ev1 wd1 (it_tup n1 g1 r2)⟩
      | str z =>
        refine ⟨_, pi_str h, N, ζ, μ, σ, wd, so, ?_⟩
        rw [ea]
        intro ζ' H' v ev1 wd1 r1
        obtain ⟨rfl, so1⟩ := rv_str.mp (show rv X.K (MM N ζ' μ1) H' v (.str z) from r1)
        exact ⟨z, rfl, q' ζ' H' _ ev1 wd1 (it_str so1)⟩
      | non => exact q'.elim
      | bl _ => exact q'.elim
      | int _ => exact q'.elim
      | dic _ _ => exact q'.elim
      | obj _ _ _ => exact q'.elim
theorem RVs1 {xs : List V} {w : Val} (h : RVs K ξ ζ M H xs [w]) : ∃ v, xs = [v] ∧ RV K ξ ζ M H v w := by
  match xs, h with
  | [v], h => exact ⟨v, rfl, h.1⟩
  | [], h => exact h.elim
  | _ :: _ :: _, h => exact h.2.elim
theorem RVs2 {xs : List V} {w u : Val} (h : RVs K ξ ζ M H xs [w, u]) : ∃ v z, xs = [v, z] ∧ RV K ξ ζ M H v w ∧ RV K ξ ζ M H z u := by
  match xs, h with
  | [v, u], h => exact ⟨v, u, rfl, h.1, h.2.1⟩
  | [], h => exact h.elim
  | [_], h => exact h.2.elim
  | _ :: _ :: _ :: _, h => exact h.2.2.elim
theorem ii_range1 {p : Pos} (hg : Gl X "range") (hm : X.mg "range" = none) (ha : IA K ξ W X [e] fs) (hs : starEach [e] X.env = [(false, eval e X.env)] := by rfl) : II K ξ W X tg (.Call (.Name "range" p) [e] [] pos) (eN gRange1 fs) := PI.of (pi_range1 hg hm ha hs) fun σr H Q q => by
  obtain ⟨N, ζ, μ, σ, wd, so, q⟩ := q
  refine (thenNI wd so q).mono fun xs H1 ⟨ζ1, μ1, ws, ev1, wd1, so1, r1, q1⟩ => ?_
  unfold gRange1 at q1
  split at q1
  · split at q1
    · rename_i j hj
      obtain ⟨v, rfl, hv⟩ := RVs1 r1
      cases rv_int.mp (show rv K (MM N ζ1 μ1) H1 v (.int j) from hv)
      exact ⟨j, rfl, (bnd_ok hj).1, (bnd_ok hj).2, q1 ζ1 H1 _ Ev.refl wd1 it_rng⟩
    · exact q1.elim
  · exact q1.elim
theorem ii_range2 {e2 : Expr} {p : Pos} (hg : Gl X "range") (hm : X.mg "range" = none) (ha : IA K ξ W X [e, e2] fs) (h : ∀ {t : TA}, PA X [e, e2] t → PI X tg (.Call (.Name "range" p) [e, e2] [] pos) (iRng2 t)) : II K ξ W X tg (.Call (.Name "range" p) [e, e2] [] pos) (eN gRange2 fs) := PI.of (h ha) fun σr H Q q => by
  obtain ⟨N, ζ, μ, σ, wd, so, q⟩ := q
  refine (thenNI wd so q).mono fun xs H1 ⟨ζ1, μ1, ws, ev1, wd1, so1, r1, q1⟩ => ?_
  unfold gRange2 at q1
  split at q1
  · split at q1
    · rename_i i j hj
      obtain ⟨v, u, rfl, hv, hu⟩ := RVs2 r1
      cases rv_int.mp (show rv K (MM N ζ1 μ1) H1 v (.int i) from hv)
      cases rv_int.mp (show rv K (MM N ζ1 μ1) H1 u (.int j) from hu)
      rw [Bool.and_eq_true] at hj
      exact ⟨i, j, rfl, ⟨(bnd_ok hj.1).1, (bnd_ok hj.1).2, (bnd_ok hj.2).1, (bnd_ok hj.2).2⟩, q1 ζ1 H1 _ Ev.refl wd1 it_rng⟩
    · exact q1.elim
  · exact q1.elim
theorem ii_enum {p tpos : Pos} {elts : List Expr} {kk : Nat} (hg : Gl X "enumerate") (hm : X.mg "enumerate" = none) (ha : IA K ξ W X [e] fs) (hs : starEach [e] X.env = [(false, eval e X.env)] := by rfl) (hK : X.K = K := by rfl) : II K ξ W X (.Tuple elts kk tpos) (.Call (.Name "enumerate" p) [e] [] pos) (eN gEnum fs) := by
  subst hK
  refine PI.pick fun σr H Q q => ?_
  obtain ⟨N, ζ, μ, σ, wd, so, q⟩ := q
  unfold eN at q
  cases ea : fs σ μ with
  | ex c f μ1 =>
    refine ⟨_, pi_enum hg hm ha hs, N, ζ, μ, σ, wd, so, ?_⟩
    rw [ea] at q ⊢
    exact q
  | stuck =>
    rw [ea] at q
    exact q.elim
  | ok ws μ1 =>
    rw [ea] at q
    have q' : PostI X.K W N ζ μ H σr Q (gEnum ws μ1) := q
    unfold gEnum at q'
    split at q'
    · rename_i d
      cases d with
      | lst l =>
        refine ⟨_, pi_enum hg hm ha hs, N, ζ, μ, σ, wd, so, ?_⟩
        rw [ea]
        intro ζ' H' vs ev1 wd1 r1
        obtain ⟨v, rfl, r1'⟩ := RVs1 r1
        obtain ⟨p, vs, rfl, n1, g1, r2⟩ := rv_lst.mp (show rv X.K (MM N ζ' μ1) H' v (.lst l) from r1')
        exact ⟨p, vs, rfl, SqL.of g1, q' ζ' H' _ ev1 wd1 (it_enL n1 g1 r2)⟩
      | tup l =>
        refine ⟨_, WD.pi_enumT X.K hg hm ha hs, N, ζ, μ, σ, wd, so, ?_⟩
        rw [ea]
        intro ζ' H' vs ev1 wd1 r1
        obtain ⟨v, rfl, r1'⟩ := RVs1 r1
        obtain ⟨p, vs, rfl, n1, g1, r2⟩ := rv_tup.mp (show rv X.K (MM N ζ' μ1) H' v (.tup l) from r1')
        exact ⟨p, vs, rfl, SqT.of g1, q' ζ' H' _ ev1 wd1 (it_enT n1 g1 r2)⟩
      | str z => exact q'.elim
      | non => exact q'.elim
      | bl _ => exact q'.elim
      | int _ => exact q'.elim
      | dic _ _ => exact q'.elim
      | obj _ _ _ => exact q'.elim
    · exact q'.elim
theorem it_zipL {a b : Addr} {vs ws : List V} {ds es : List PV} (n : ¬ M a) (n' : ¬ M b) (h : H a = some (.lst vs)) (h' : H b = some (.lst ws)) (r : rvs K M H vs ds) (r' : rvs K M H ws es) : ItOk K M H (Itz K a b) (zipP ds es) := fun M1 H1 na kp fr => by
  have h1 : SqL K H1 a vs := SqL.of (kp a _ n h)
  have h2 : SqL K H1 b ws := SqL.of (kp b _ n' h')
  have r1 := rvs_st na kp ds vs r
  have r2 := rvs_st na kp es ws r'
  have hl := rvs_len r
  have hl2 := rvs_len r'
  refine ⟨fun i d hd => ?_, ?_⟩
  · obtain ⟨z, y, hz, hy, rfl⟩ := zip_at hd
    obtain ⟨v, hv, rvv⟩ := rvs_at r1 hz
    obtain ⟨u, hu, rvu⟩ := rvs_at r2 hy
    refine ⟨⟨vs, ws, v, u, h1, h2, hv, hu⟩, fun x H2 hy => ?_⟩
    obtain ⟨T, x1, x2, rfl, hT, rfl, k1, k2⟩ := hy
    have e1 := k1 vs h1
    have e2 := k2 ws h2
    rw [hv] at e1
    rw [hu] at e2
    cases e1
    cases e2
    exact pair_new fr hT rvv rvu
  · refine ⟨vs, ws, h1, h2, ?_⟩
    rw [zip_len]
    omega
theorem it_zipT {a b : Addr} {vs ws : List V} {ds es : List PV} (n : ¬ M a) (n' : ¬ M b) (h : H a = some (.tup vs)) (h' : H b = some (.tup ws)) (r : rvs K M H vs ds) (r' : rvs K M H ws es) : ItOk K M H (RZ.ItzT K a b) (zipP ds es) := fun M1 H1 na kp fr => by
  have h1 : SqT K H1 a vs := SqT.of (kp a _ n h)
  have h2 : SqT K H1 b ws := SqT.of (kp b _ n' h')
  have r1 := rvs_st na kp ds vs r
  have r2 := rvs_st na kp es ws r'
  have hl := rvs_len r
  have hl2 := rvs_len r'
  refine ⟨fun i d hd => ?_, ?_⟩
  · obtain ⟨z, y, hz, hy, rfl⟩ := zip_at hd
    obtain ⟨v, hv, rvv⟩ := rvs_at r1 hz
    obtain ⟨u, hu, rvu⟩ := rvs_at r2 hy
    refine ⟨⟨vs, ws, v, u, h1, h2, hv, hu⟩, fun x H2 hy => ?_⟩
    obtain ⟨T, x1, x2, rfl, hT, rfl, k1, k2⟩ := hy
    have e1 := k1 vs h1
    have e2 := k2 ws h2
    rw [hv] at e1
    rw [hu] at e2
    cases e1
    cases e2
    exact pair_new fr hT rvv rvu
  · refine ⟨vs, ws, h1, h2, ?_⟩
    rw [zip_len]
    omega

theorem ii_zip {e2 : Expr} {p tpos : Pos} {elts : List Expr} {kk : Nat} (hg : Gl X "zip") (hm : X.mg "zip" = none) (ha : IA K ξ W X [e, e2] fs) (hs : starEach [e, e2] X.env = (false, eval e X.env) :: starEach [e2] X.env := by rfl) (hpl : (backTo pos (starEach [e2] X.env)).any (·.1) = false := by rfl) (hK : X.K = K := by rfl) :
    II K ξ W X (.Tuple elts kk tpos) (.Call (.Name "zip" p) [e, e2] [] pos) (eN gZip fs) := PI.of (WD.k_pi_zipA K hg hm ha hs hpl hK) fun σr H Q q => by
  obtain ⟨N, ζ, μ, σ, wd, so, q⟩ := q
  refine (thenNI wd so q).mono fun xs H1 ⟨ζ1, μ1, ws, ev1, wd1, so1, r1, q1⟩ => ?_
  unfold gZip at q1
  split at q1
  · rename_i l m
    obtain ⟨v, u, rfl, hv, hu⟩ := RVs2 r1
    obtain ⟨p, vs, rfl, n1, g1, r2⟩ := rv_lst.mp (show rv K (MM N ζ1 μ1) H1 v (.lst l) from hv)
    obtain ⟨p', vs', rfl, n1', g1', r2'⟩ := rv_lst.mp (show rv K (MM N ζ1 μ1) H1 u (.lst m) from hu)
    exact ⟨p, p', vs, vs', rfl, .inl ⟨SqL.of g1, SqL.of g1', q1 ζ1 H1 _ Ev.refl wd1 (it_zipL n1 n1' g1 g1' r2 r2')⟩⟩
  · rename_i l m
    obtain ⟨v, u, rfl, hv, hu⟩ := RVs2 r1
    obtain ⟨p, vs, rfl, n1, g1, r2⟩ := rv_tup.mp (show rv K (MM N ζ1 μ1) H1 v (.tup l) from hv)
    obtain ⟨p', vs', rfl, n1', g1', r2'⟩ := rv_tup.mp (show rv K (MM N ζ1 μ1) H1 u (.tup m) from hu)
    exact ⟨p, p', vs, vs', rfl, .inr ⟨SqT.of g1, SqT.of g1', q1 ζ1 H1 _ Ev.refl wd1 (it_zipT n1 n1' g1 g1' r2 r2')⟩⟩
  · exact q1.elim
end
/-! ### list comprehensions -/
def R.noex {α : Type} : R α → R α
  | .ex _ _ _ => .stuck
  | r => r
def wipeM (σ : Sl) : List Nat → Sl
  | [] => σ
  | v :: vs => (wipeM σ vs).set v none
def gT (w : Val) (μ : Store) : R PV := match w with
  | .t d => .ok d μ
  | _ => .stuck
def lcL (T : Tgt) (test : Sl → Store → R Bool) (elt : ME) : List PV → Sl → Store → R (List PV)
  | [], _, μ => .ok [] μ
  | d :: ds, σ, μ => match asg T (.t d) σ with
    | none => .stuck
    | some σ1 => (test σ1 μ).noex.bind fun b μ1 => if b then (elt σ1 μ1).noex.bind fun w μ2 => (gT w μ2).bind fun y μ3 => (lcL T test elt ds σ μ3).bind fun ys μ4 => .ok (y :: ys) μ4 else lcL T test elt ds σ μ1
def szF (ds : List PV) (μ : Store) : R (List PV) := if ds.length ≤ sizeLine then .ok ds μ else .stuck
def lcF (it : Sl → Store → R (List PV)) (T : Tgt) (test : Sl → Store → R Bool) (elt : ME) : Sl → Store → R (List PV) := fun σ μ => (it σ μ).bind fun items μ1 => (lcL T test elt items (wipeM σ T.sl) μ1).bind szF
def tYes' : Sl → Store → R Bool := fun _ μ => .ok true μ
abbrev W0 : WX := fun _ _ _ _ => False
section
variable {X : Cx} {K : PySem.W.Frag} {ξ : Xi} {W : WX} {N : MS} {ζ : List Addr} {μ : Store} {M : MS} {H : Hp} {σr : L2.St} {σ : Sl} {tg it e : Expr} {T : Tgt} {fi : Sl → Store → R (List PV)} {test : Sl → Store → R Bool} {elt : ME}
theorem Sok.wipe (h : Sok K ξ ζ M H σr σ) : ∀ s : List Nat, Sok K ξ ζ M H (L2.wipe σr s) (wipeM σ s)
  | [] => h
  | v :: vs => (Sok.wipe h vs).drop
theorem Ev.mutNew {ζ1 : List Addr} {μ1 : Store} {H1 : Hp} {D : Addr} {o : HO} (e : Ev ζ μ H ζ1 μ1 H1) (h : H D = none) : Ev ζ μ H ζ1 μ1 (upd H1 D o) := ⟨e.pre, e.fr.mutNew h, e.ml⟩
theorem Wd.mutN {D : Addr} {o : HO} (wd : Wd K N ζ μ H) (h : N D) : Wd K N ζ μ (upd H D o) := by
  have ne : ∀ a, ¬ MM N ζ μ a → a ≠ D := fun a n z => n (.inr (by rw [z]; exact h))
  refine ⟨wd.len, wd.inj, fun k c a h1 h2 => (wd.cell k c a h1 h2).st (fun _ n _ => n) (fun b u n e => by rw [upd_ne (ne b n)]; exact e) (fun u e => ?_), fun a ha => ⟨(wd.nd a ha).1, fun z => (wd.nd a ha).2 (upd_none z).2⟩⟩
  rw [upd_ne]
  · exact e
  · rintro rfl
    exact (wd.nd a h).1 ⟨k, c, h2, h1⟩
theorem rvs_mutN {D : Addr} {o : HO} {vs : List V} {ds : List PV} (h : M D) (r : rvs K M H vs ds) : rvs K M (upd H D o) vs ds := rvs_st (fun _ n _ => n) (fun b u n e => by rw [upd_ne fun z => n (by rw [z]; exact h)]; exact e) ds vs r
theorem rv_mutN {D : Addr} {o : HO} {v : V} {d : PV} (h : M D) (r : rv K M H v d) : rv K M (upd H D o) v d := rv_st (fun _ n _ => n) (fun b u n e => by rw [upd_ne fun z => n (by rw [z]; exact h)]; exact e) d v r
/-- the slots, seen with more set aside -/
theorem Sok.aside {N' : MS} {ζ1 : List Addr} {μ1 : Store} {H1 : Hp} (h : Sok K ξ ζ (MM N ζ μ) H σr σ) (pre : ∀ (k : Nat) (a : Addr), ζ[k]? = some a → ζ1[k]? = some a) (na : ∀ a, ¬ MM N ζ μ a → H a ≠ none → ¬ MM N' ζ1 μ1 a) (kp : ∀ a o, ¬ MM N ζ μ a → H a = some o → H1 a = some o) : Sok K ξ ζ1 (MM N' ζ1 μ1) H1 σr σ := by
  refine ⟨h.1, fun i w hw => ?_⟩
  obtain ⟨v, h1, h2⟩ := h.2 i w hw
  refine ⟨v, h1, ?_⟩
  cases w with
  | t d => exact rv_st na kp d v h2
  | c k => obtain ⟨a, g1, g2⟩ := h2; exact ⟨a, pre k a g1, g2⟩
  | s ns =>
    obtain ⟨a, g1, ⟨g2, g3⟩ | g⟩ := h2
    case inr => exact ⟨a, g1, .inr g⟩
    refine ⟨a, g1, .inl ⟨?_, ?_⟩⟩
    · rcases g3 with g3 | ⟨o, g3⟩ <;> exact na a g2 (by rw [g3]; exact fun z => nomatch z)
    · rcases g3 with g3 | ⟨o, g3⟩
      · exact .inl (kp a _ g2 g3)
      · exact .inr ⟨o, kp a _ g2 g3⟩
  | x c f =>
    obtain ⟨a, d, g1, g2, g3⟩ := h2
    refine ⟨a, d, g1, g2, ?_⟩
    cases f with
    | none => exact g3
    | some q =>
      obtain ⟨n, p⟩ := q
      obtain ⟨dd, v', k1, k2, k3, k4⟩ := g3
      exact ⟨dd, v', k1, na dd k2 (by rw [k3]; exact fun z => nomatch z), kp _ _ k2 k3, rv_st na kp _ _ k4⟩
theorem lcL_noex : ∀ {items : List PV} {σ : Sl} {μ3 : Store} {c : Str} {f : Option (Str × PV)} {μ4 : Store}, lcL T test elt items σ μ3 = .ex c f μ4 → False := by
  intro items
  induction items with
  | nil => intro σ μ3 c f μ4 h; unfold lcL at h; cases h
  | cons d ds ih =>
    intro σ μ3 c f μ4 h
    unfold lcL at h
    split at h
    · cases h
    · rename_i σ1 _
      cases et : test σ1 μ3 with
      | stuck => rw [et] at h; cases h
      | ex _ _ _ => rw [et] at h; cases h
      | ok b μ5 =>
        rw [et] at h
        cases b with
        | false => exact ih h
        | true =>
          have h2 : ((elt σ1 μ5).noex.bind fun w μ2 => (gT w μ2).bind fun y μ3 => (lcL T test elt ds σ μ3).bind fun ys μ4 => .ok (y :: ys) μ4) = .ex c f μ4 := h
          cases ee : elt σ1 μ5 with
          | stuck => rw [ee] at h2; cases h2
          | ex _ _ _ => rw [ee] at h2; cases h2
          | ok w μ6 =>
            rw [ee] at h2
            cases w with
            | c _ => cases h2
            | x _ _ => cases h2
            | s _ => cases h2
            | t y' =>
              have h3 : ((lcL T test elt ds σ μ6).bind fun ys μ4 => R.ok (y' :: ys) μ4) = .ex c f μ4 := h2
              cases el : lcL T test elt ds σ μ6 with
              | stuck => rw [el] at h3; cases h3
              | ok _ _ => rw [el] at h3; cases h3
              | ex c' f' μ7 => exact ih el
/-- the reading of a comprehension -/
theorem rd_lc {Q : VK} (q : tF K ξ W (lcF fi T test elt) σr H Q) : tLc (tI K ξ W fi) (tG K ξ T) (tT K ξ W0 test) (tE K ξ W0 elt) T.sl σr H Q := by
  obtain ⟨N, ζ, μ, σ, wd, so, q⟩ := q
  refine ⟨N, ζ, μ, σ, wd, so, ?_⟩
  unfold lcF at q
  cases e : fi σ μ with
  | stuck => rw [e] at q; exact q
  | ex c f μ1 => rw [e] at q; exact q
  | ok items μ1 =>
    rw [e] at q
    intro ζ1 H1 J ev1 wd1 ok D hD
    have q1 : PostF K W N ζ1 μ1 H1 σr Q ((lcL T test elt items (wipeM σ T.sl) μ1).bind szF) := PostF.ev ev1 q
    have so1 := so.ev ev1
    have nN : ¬ N D := fun z => (wd1.nd D z).2 hD
    refine ⟨fun i m H' => ∃ ζ' μ' acc vs, i ≤ items.length ∧ m = items.length - i ∧ Ev ζ1 μ1 H1 ζ' μ' H' ∧ Wd K (WD.plus N D) ζ' μ' H' ∧ H' D = some (.lst vs) ∧ rvs K (MM (WD.plus N D) ζ' μ') H' vs acc ∧ PostF K W N ζ1 μ1 H1 σr Q ((lcL T test elt (items.drop i) (wipeM σ T.sl) μ').bind fun ys μ4 => szF (acc ++ ys) μ4),
      ⟨_, ζ1, μ1, [], [], Nat.zero_le _, rfl, Ev.new hD, wd1.aside (Grow.upd hD) hD (by rw [upd_same]; exact fun z => nomatch z), upd_same, rvs_nil, q1⟩, ?_⟩
    rintro i m H' ⟨ζ', μ', acc, vs, hi, hm, ev', wd', hD', ra, q'⟩
    have na : ∀ a, ¬ MM N ζ1 μ1 a → H1 a ≠ none → ¬ MM (WD.plus N D) ζ' μ' a := fun a n ne z => by
      rcases z with z | z | z
      · exact (ev'.ml a z).elim (fun z => n (.inl z)) ne
      · exact n (.inr z)
      · exact ne (by rw [z]; exact hD)
    obtain ⟨k1, k2⟩ := ok (MM (WD.plus N D) ζ' μ') H' na ev'.keep wd'.fre
    have hDM : MM (WD.plus N D) ζ' μ' D := .inr (.inr rfl)
    have hlen := rvs_len ra
    by_cases hlt : i < items.length
    · refine .inr ?_
      have hd : items.drop i = items[i] :: items.drop (i + 1) := List.drop_eq_getElem_cons hlt
      obtain ⟨kgo, ky⟩ := k1 i _ (List.getElem?_eq_getElem hlt)
      refine ⟨kgo, fun H2 => ∃ ζ2 μ2 acc2 vs2, i + 1 ≤ items.length ∧ Ev ζ1 μ1 H1 ζ2 μ2 H2 ∧ Wd K (WD.plus N D) ζ2 μ2 H2 ∧ H2 D = some (.lst vs2) ∧ rvs K (MM (WD.plus N D) ζ2 μ2) H2 vs2 acc2 ∧ PostF K W N ζ1 μ1 H1 σr Q ((lcL T test elt (items.drop (i + 1)) (wipeM σ T.sl) μ2).bind fun ys μ4 => szF (acc2 ++ ys) μ4),
        fun H2 ⟨ζ2, μ2, acc2, vs2, a1, a2, a3, a4, a5, a6⟩ => ⟨items.length - (i + 1), by omega, ζ2, μ2, acc2, vs2, a1, rfl, a2, a3, a4, a5, a6⟩, fun x Hy hy => ?_⟩
      obtain ⟨gr, rx⟩ := ky x Hy hy
      rw [hd] at q'
      unfold lcL at q'
      cases ea : asg T (.t items[i]) (wipeM σ T.sl) with
      | none => rw [ea] at q'; exact q'.elim
      | some σ1 =>
        rw [ea] at q'
        dsimp only at q'
        have wdy := wd'.fr0 gr
        have evy : Ev ζ1 μ1 H1 ζ' μ' Hy := ev'.trans gr.ev
        have soy : Sok K ξ ζ' (MM (WD.plus N D) ζ' μ') Hy (L2.wipe σr T.sl) (wipeM σ T.sl) := (so1.wipe T.sl).aside ev'.pre na (fun a o n h => gr a o (ev'.keep a o n h))
        refine ⟨WD.plus N D, ζ', μ', wipeM σ T.sl, .t items[i], σ1, wdy, soy, rx, ea, fun σr1 so1 ag => ⟨?_, WD.plus N D, ζ', μ', σ1, wdy, so1, ?_⟩⟩
        · have h1 := ag.wipe
          rw [h1]
          refine List.ext_getElem? fun j => ?_
          rw [wipe_get, wipe_get]
          by_cases hj : j ∈ T.sl
          · rw [if_pos hj, if_pos hj, wipe_length]
          · rw [if_neg hj, if_neg hj]
        · cases et : test σ1 μ' with
          | stuck => rw [et] at q'; exact q'.elim
          | ex c f μ2 => rw [et] at q'; exact q'.elim
          | ok b μ2 =>
            rw [et] at q'
            intro ζ2 H2 ev2 wd2
            cases b with
            | false =>
              refine iteF ⟨ζ2, μ2, acc, vs, hlt, evy.trans ev2, wd2, ?_, ?_, q'⟩
              · exact ev2.fr.keep _ _ (fun z => (wdy.nd D (.inr rfl)).1 z) (gr _ _ hD')
              · exact ev2.rvs (gr.rvs ra)
            | true =>
              refine iteT ⟨WD.plus N D, ζ2, μ2, σ1, wd2, so1.ev ev2, ?_⟩
              have q2 : PostF K W N ζ1 μ1 H1 σr Q (((elt σ1 μ2).noex.bind fun w μ2 => (gT w μ2).bind fun y μ3 => (lcL T test elt (items.drop (i + 1)) (wipeM σ T.sl) μ3).bind fun ys μ4 => .ok (y :: ys) μ4).bind fun ys μ4 => szF (acc ++ ys) μ4) := q'
              cases ee : elt σ1 μ2 with
              | stuck => rw [ee] at q2; exact q2.elim
              | ex c f μ3 => rw [ee] at q2; exact q2.elim
              | ok w μ3 =>
                rw [ee] at q2
                intro ζ3 H3 y ev3 wd3 r3
                cases w with
                | c _ => exact q2.elim
                | x _ _ => exact q2.elim
                | s _ => exact q2.elim
                | t y' =>
                  have q3 : PostF K W N ζ1 μ1 H1 σr Q (((lcL T test elt (items.drop (i + 1)) (wipeM σ T.sl) μ3).bind fun ys μ4 => .ok (y' :: ys) μ4).bind fun ys μ4 => szF (acc ++ ys) μ4) := q2
                  have hD3 : H3 D = some (.lst vs) := ev3.fr.keep _ _ (fun z => (wd2.nd D (.inr rfl)).1 z) (ev2.fr.keep _ _ (fun z => (wdy.nd D (.inr rfl)).1 z) (gr _ _ hD'))
                  have hDM3 : MM (WD.plus N D) ζ3 μ3 D := .inr (.inr rfl)
                  have hsz : vs.length < sizeLine := by
                    cases el : lcL T test elt (items.drop (i + 1)) (wipeM σ T.sl) μ3 with
                    | stuck => rw [el] at q3; exact q3.elim
                    | ex c f μ4 =>
                      exfalso
                      exact lcL_noex el
                    | ok ys μ4 =>
                      rw [el] at q3
                      have q4 : PostF K W N ζ1 μ1 H1 σr Q (szF (acc ++ (y' :: ys)) μ4) := q3
                      unfold szF at q4
                      split at q4
                      · rename_i hz
                        rw [List.length_append, List.length_cons] at hz
                        omega
                      · exact q4.elim
                  refine ⟨vs, hD3, hsz, ζ3, μ3, acc ++ [y'], vs ++ [y], hlt, ((evy.trans ev2).trans ev3).mutNew hD, wd3.mutN (.inr rfl), upd_same, rvs_app (rvs_mutN hDM3 (ev3.rvs (ev2.rvs (gr.rvs ra)))) (rvs_cons.mpr ⟨rv_mutN hDM3 r3, rvs_nil⟩), ?_⟩
                  cases el : lcL T test elt (items.drop (i + 1)) (wipeM σ T.sl) μ3 with
                  | stuck => rw [el] at q3; exact q3
                  | ex c f μ4 => exact (lcL_noex el).elim
                  | ok ys μ4 =>
                    rw [el] at q3
                    show PostF K W N ζ1 μ1 H1 σr Q (szF ((acc ++ [y']) ++ ys) μ4)
                    rw [List.append_assoc]
                    exact q3
    · refine .inl ?_
      have hi2 : i = items.length := by omega
      subst hi2
      rw [List.drop_length] at q'
      have q2 : PostF K W N ζ1 μ1 H1 σr Q (szF (acc ++ []) μ') := q'
      rw [List.append_nil] at q2
      unfold szF at q2
      split at q2
      · exact ⟨k2, q2 ζ' H' D vs ev' wd' hD hD' ra⟩
      · exact q2.elim
end
end PM
namespace PM
open PySem PySem.Spec PyProof.Rows L2
open WD (MS Fr upd_none)
section
variable {X : Cx} {K : PySem.W.Frag} {ξ : Xi} {W : WX} {N : MS} {ζ : List Addr} {μ : Store} {M : MS} {H : Hp} {σr : L2.St} {σ : Sl} {tg it e o : Expr} {es : List Expr} {T : Tgt} {fi : Sl → Store → R (List PV)} {fs : Sl → Store → R (List Val)} {test : Sl → Store → R Bool} {elt fa fo : ME} {st : Stmt} {pos : Pos}
theorem r_ofF {f : Sl → Store → R (List PV)} {Q : VK} (q : tE K ξ W (eOfF f) σr H Q) : tF K ξ W f σr H Q := by
  obtain ⟨N, ζ, μ, σ, wd, so, q⟩ := q
  refine ⟨N, ζ, μ, σ, wd, so, ?_⟩
  unfold eOfF at q
  cases e : f σ μ with
  | ok ds μ1 =>
    rw [e] at q
    intro ζ' H' a vs ev w hn ha r
    refine q ζ' H' _ ev w.unside (rv_lst.mpr ⟨a, vs, rfl, fun z => ?_, ha, rvs_wk (fun x z => z.elim .inl fun z => .inr (.inl z)) r⟩)
    rcases z with z | z
    · exact (w.nd a (.inr rfl)).1 z
    · exact (wd.nd a z).2 hn
  | ex c f μ1 => rw [e] at q; exact q
  | stuck => rw [e] at q; exact q
theorem r_cellF {f : Sl → Store → R (List PV)} {Q : VK} (q : tE K ξ W (eCellF f) σr H Q) : tF K ξ W f σr H Q := by
  obtain ⟨N, ζ, μ, σ, wd, so, q⟩ := q
  refine ⟨N, ζ, μ, σ, wd, so, ?_⟩
  unfold eCellF at q
  cases e : f σ μ with
  | ok ds μ1 =>
    rw [e] at q
    intro ζ' H' a vs ev w hn ha r
    refine q (ζ' ++ [a]) H' _ ⟨fun k b hb => ?_, ev.fr, fun b hb => ?_⟩ (w.push (fun z => (wd.nd a z).2 hn) ⟨vs, ha, r⟩) ⟨a, by rw [← w.len, List.getElem?_append_right (Nat.le_refl _), Nat.sub_self]; rfl, rfl⟩
    · have := ev.pre k b hb
      rw [List.getElem?_append_left (List.getElem?_eq_some_iff.mp this).1]
      exact this
    · rcases (Mof_snoc w.len b).mp hb with z | z
      · exact ev.ml b z
      · exact .inr (by rw [z]; exact hn)
  | ex c f μ1 => rw [e] at q; exact q
  | stuck => rw [e] at q; exact q
/-- [e for ..] -/
theorem f_lc (h : PE X e (tLc (tI K ξ W fi) (tG K ξ T) (tT K ξ W0 test) (tE K ξ W0 elt) T.sl)) : IF K ξ W X e (lcF fi T test elt) := PE.of h fun _ _ _ q => rd_lc q
theorem s_lcT {i : Nat} (h : PS X st (tAsg (tLc (tI K ξ W fi) (tG K ξ T) (tT K ξ W0 test) (tE K ξ W0 elt) T.sl) (gName i))) : IS K ξ W X st (sAsg (.nm i) (eOfF (lcF fi T test elt))) := s_asgR h fun _ _ _ q => rd_lc (r_ofF q)
theorem s_lcC {i : Nat} (h : PS X st (tAsg (tLc (tI K ξ W fi) (tG K ξ T) (tT K ξ W0 test) (tE K ξ W0 elt) T.sl) (gName i))) : IS K ξ W X st (sAsg (.nm i) (eCellF (lcF fi T test elt))) := s_asgR h fun _ _ _ q => rd_lc (r_cellF q)
theorem ts_yes : PTs X [] (tT K ξ W tYes') := by
  have h : PTs X [] tYes := pts_nil
  exact ⟨fun pins s σ H Q I q => h.run pins s σ H Q I (by
    obtain ⟨N, ζ, μ, σ, wd, so, q⟩ := q
    exact q ζ _ Ev.refl wd)⟩

/-! ### a thing that changes is changed -/
theorem Mof_set {k : Nat} {c c' : Cell} (h : μ[k]? = some (some c)) : ∀ x, Mof ζ (μ.set k (some c')) x ↔ Mof ζ μ x := by
  have hk := (List.getElem?_eq_some_iff.mp h).1
  intro x
  constructor
  · rintro ⟨j, d, h1, h2⟩
    by_cases e : k = j
    · subst e; exact ⟨k, c, h1, h⟩
    · rw [List.getElem?_set_ne e] at h2; exact ⟨j, d, h1, h2⟩
  · rintro ⟨j, d, h1, h2⟩
    by_cases e : k = j
    · subst e; exact ⟨k, c', h1, List.getElem?_set_self hk⟩
    · exact ⟨j, d, h1, by rw [List.getElem?_set_ne e]; exact h2⟩
theorem MM_set {k : Nat} {c c' : Cell} (h : μ[k]? = some (some c)) : ∀ x, MM N ζ (μ.set k (some c')) x ↔ MM N ζ μ x := fun x => or_congr (Mof_set h x) Iff.rfl
theorem ev_set {k : Nat} {a : Addr} {c c' : Cell} {o' : HO} (hk : μ[k]? = some (some c)) (ha : ζ[k]? = some a) : Ev ζ μ H ζ (μ.set k (some c')) (upd H a o') :=
  ⟨fun _ _ h => h, Fr.mut ⟨k, c, ha, hk⟩, fun x h => .inl ((Mof_set hk x).mp h)⟩
theorem Wd.setC {k : Nat} {a : Addr} {c c' : Cell} {o' : HO} (wd : Wd K N ζ μ H) (hk : μ[k]? = some (some c)) (ha : ζ[k]? = some a) (r : cellR K (MM N ζ μ) (upd H a o') a c') : Wd K N ζ (μ.set k (some c')) (upd H a o') := by
  have hM := MM_set (N := N) (ζ := ζ) (c' := c') hk
  have hkl := (List.getElem?_eq_some_iff.mp hk).1
  have aM : MM N ζ μ a := .inl ⟨k, c, ha, hk⟩
  have live : ∀ {j : Nat} {d : Cell}, (μ.set k (some c'))[j]? = some (some d) → ∃ d', μ[j]? = some (some d') ∧ (j ≠ k → d' = d) := by
    intro j d h
    by_cases e : k = j
    · subst e; exact ⟨c, hk, fun z => absurd rfl z⟩
    · rw [List.getElem?_set_ne e] at h; exact ⟨d, h, fun _ => rfl⟩
  refine ⟨by rw [List.length_set]; exact wd.len, fun i j b c1 c2 h1 h2 h3 h4 => ?_, fun j d b h1 h2 => ?_, fun b hb => ?_⟩
  · obtain ⟨d1, g1, _⟩ := live h3
    obtain ⟨d2, g2, _⟩ := live h4
    exact wd.inj i j b d1 d2 h1 h2 g1 g2
  · by_cases e : k = j
    · subst e
      rw [ha] at h2
      cases h2
      rw [List.getElem?_set_self hkl] at h1
      cases h1
      exact r.st (fun x n _ z => n ((hM x).mp z)) (fun _ _ _ e => e) (fun _ e => e)
    · rw [List.getElem?_set_ne e] at h1
      have hb : b ≠ a := fun z => e (wd.inj k j a c d ha (z ▸ h2) hk h1)
      exact (wd.cell j d b h1 h2).st (fun x n _ z => n ((hM x).mp z)) (fun x o n hx => by rw [upd_ne fun z => n (by rw [z]; exact aM)]; exact hx) (fun o hx => by rw [upd_ne hb]; exact hx)
  · exact ⟨fun z => (wd.nd b hb).1 ((Mof_set hk b).mp z), fun z => (wd.nd b hb).2 (upd_none z).2⟩
/-- methods that change a list: what they answer, what the list is then -/
abbrev MF := List PV → List PV → Option (PV × List PV)
def mAppend : MF := fun old args => match args with
  | [d] => if old.length < sizeLine then some (.non, old ++ [d]) else none
  | _ => none
def mPop : MF := fun old args => match args with
  | [] => (old[old.length - 1]?).map fun y => (y, old.dropLast)
  | _ => none
def mPopAt : MF := fun old args => match args with
  | [.int i] => if bnd i then (seqIndex? i old.length).bind fun k => (old[k]?).map fun y => (y, old.eraseIdx k) else none
  | _ => none
def mClear : MF := fun _ args => match args with
  | [] => some (.non, [])
  | _ => none
def mReverse : MF := fun old args => match args with
  | [] => some (.non, old.reverse)
  | _ => none
/-- the reading of such a method: in the heap -/
def rMF (K : PySem.W.Frag) (m : MF) : V → List V → Hp → VK → Prop := fun x xs H Q => ∃ M a vs ds es ret new, x = .ref a ∧ M a ∧ H a = some (.lst vs) ∧ rvs K M H vs ds ∧ rvs K M H xs es ∧ m ds es = some (ret, new) ∧
  ∀ v vs', rv K M H v ret → rvs K M H vs' new → Q v (upd H a (.lst vs'))
def lstAt (μ : Store) : Val → Option (Nat × List PV)
  | .c k => match μ[k]? with
    | some (some (.lst ds)) => some (k, ds)
    | _ => none
  | _ => none
def gMut (m : MF) (w : Val) (ws : List Val) (μ : Store) : R Val := match lstAt μ w, asT ws with
  | some (k, ds), some es => match m ds es with
    | some (ret, new) => .ok (.t ret) (μ.set k (some (.lst new)))
    | none => .stuck
  | _, _ => .stuck
def gExt (w : Val) (ws : List Val) (μ : Store) : R Val := match lstAt μ w, views μ ws with
  | some (k, ds), some [.lst es] => if ds.length + es.length ≤ sizeLine then .ok (.t .non) (μ.set k (some (.lst (ds ++ es)))) else .stuck
  | _, _ => .stuck
def eMutG (g : Val → List Val → Store → R Val) (o : ME) (as : Sl → Store → R (List Val)) : ME := fun σ μ => (o σ μ).bind fun w μ1 => match lstAt μ1 w with
  | none => .stuck
  | some _ => (as σ μ1).bind fun ws μ2 => g w ws μ2
abbrev eMut (m : MF) := eMutG (gMut m)
abbrev eExt := eMutG gExt
theorem lstAt_ok {w : Val} {k : Nat} {ds : List PV} {v : V} (wd : Wd K N ζ μ H) (r : RV K ξ ζ (MM N ζ μ) H v w) (e : lstAt μ w = some (k, ds)) : ∃ a vs, w = .c k ∧ v = .ref a ∧ ζ[k]? = some a ∧ μ[k]? = some (some (.lst ds)) ∧ H a = some (.lst vs) ∧ rvs K (MM N ζ μ) H vs ds := by
  cases w with
  | c j =>
    obtain ⟨a, ha, rfl⟩ := r
    simp only [lstAt] at e
    split at e
    · rename_i ds' hk
      cases e
      obtain ⟨vs, h1, h2⟩ := wd.cell k _ a hk ha
      exact ⟨a, vs, rfl, rfl, ha, hk, h1, h2⟩
    · cases e
  | t _ => cases e
  | x _ _ => cases e
  | s _ => cases e
theorem read_mut {m : MF} {w : Val} {ws : List Val} {x : V} {xs : List V} {Q : VK} (wd : Wd K N ζ μ H) (r : RV K ξ ζ (MM N ζ μ) H x w) (rs : RVs K ξ ζ (MM N ζ μ) H xs ws) (h : PostE K ξ W N ζ μ H σr Q (gMut m w ws μ)) : rMF K m x xs H Q := by
  unfold gMut at h
  split at h
  · rename_i k ds es e1 e2
    split at h
    · rename_i ret new e3
      obtain ⟨a, vs, rfl, rfl, ha, hk, h1, h2⟩ := lstAt_ok wd r e1
      refine ⟨MM N ζ μ, a, vs, ds, es, ret, new, rfl, .inl ⟨k, _, ha, hk⟩, h1, h2, asT_rvs rs e2, e3, fun v vs' rv' rn => ?_⟩
      have ev : Ev ζ μ H ζ (μ.set k (some (.lst new))) (upd H a (.lst vs')) := ev_set hk ha
      exact h ζ _ v ev (wd.setC hk ha ⟨vs', upd_same, rvs_mutN (.inl ⟨k, _, ha, hk⟩) rn⟩) (ev.rv rv')
    · exact h.elim
  · exact h.elim
theorem mt_of {m : MF} {id : String} {r : V → List V → Hp → VK → Prop} (h : MtM X id r) (k : ∀ x xs H Q, rMF K m x xs H Q → r x xs H Q) : MtM X id (rMF K m) := fun pins s σ H x xs v us Q I rx rs q => h pins s σ H x xs v us Q I rx rs (k x xs H Q q)
theorem rvs1 {xs : List V} {d : PV} (h : rvs K M H xs [d]) : ∃ v, xs = [v] ∧ rv K M H v d := by
  cases xs with
  | nil => unfold rvs at h; exact h.elim
  | cons v xs =>
    rw [rvs_cons] at h
    cases List.eq_nil_of_length_eq_zero (rvs_len h.2)
    exact ⟨v, rfl, h.1⟩
theorem mt_appendM : MtM X "list.append" (rMF K mAppend) := mt_of mt_append fun x xs H Q q => by
  obtain ⟨M, a, vs, ds, es, ret, new, rfl, hM, h1, r1, r2, e, k⟩ := q
  unfold mAppend at e
  split at e
  · split at e
    · rename_i d hl
      cases e
      obtain ⟨v, rfl, hv⟩ := rvs1 r2
      exact ⟨a, vs, v, rfl, rfl, h1, by rw [rvs_len r1]; exact hl, k _ _ (rv_non.mpr rfl) (rvs_app r1 (rvs_cons.mpr ⟨hv, rvs_nil⟩))⟩
    · cases e
  · cases e
theorem rvs_dropLast {vs : List V} {ds : List PV} (h : rvs K M H vs ds) : rvs K M H vs.dropLast ds.dropLast := by
  rw [List.dropLast_eq_take, List.dropLast_eq_take, rvs_len h]
  exact rvs_take _ h
theorem mt_popM : MtM X "list.pop" (rMF K mPop) := mt_of mt_pop fun x xs H Q q => by
  obtain ⟨M, a, vs, ds, es, ret, new, rfl, hM, h1, r1, r2, e, k⟩ := q
  unfold mPop at e
  split at e
  · obtain ⟨y, e1, e2⟩ := Option.map_eq_some_iff.mp e
    cases e2
    cases List.eq_nil_of_length_eq_zero (rvs_len r2)
    obtain ⟨v, hv, rvv⟩ := rvs_at r1 e1
    exact ⟨a, vs, v, rfl, rfl, h1, by rw [rvs_len r1]; exact hv, k _ _ rvv (rvs_dropLast r1)⟩
  · cases e
theorem mt_popAtM : MtM X "list.pop" (rMF K mPopAt) := mt_of mt_popAt fun x xs H Q q => by
  obtain ⟨M, a, vs, ds, es, ret, new, rfl, hM, h1, r1, r2, e, k⟩ := q
  unfold mPopAt at e
  split at e
  · split at e
    · rename_i i hi
      cases e3 : seqIndex? i ds.length with
      | none => rw [e3] at e; cases e
      | some j =>
        rw [e3] at e
        obtain ⟨y, e1, e2⟩ := Option.map_eq_some_iff.mp e
        cases e2
        obtain ⟨u, rfl, hu⟩ := rvs1 r2
        cases rv_int.mp hu
        obtain ⟨v, hv, rvv⟩ := rvs_at r1 e1
        exact ⟨a, vs, i, j, v, rfl, rfl, h1, by have := bnd_ok hi; omega, by have := bnd_ok hi; omega, by rw [rvs_len r1]; exact e3, hv, k _ _ rvv (rvs_erase j r1)⟩
    · cases e
  · cases e
theorem mt_clearM : MtM X "list.clear" (rMF K mClear) := mt_of mt_clear fun x xs H Q q => by
  obtain ⟨M, a, vs, ds, es, ret, new, rfl, hM, h1, r1, r2, e, k⟩ := q
  unfold mClear at e
  split at e
  · cases e
    cases List.eq_nil_of_length_eq_zero (rvs_len r2)
    exact ⟨a, vs, rfl, rfl, h1, k _ _ (rv_non.mpr rfl) rvs_nil⟩
  · cases e
theorem mt_reverseM : MtM X "list.reverse" (rMF K mReverse) := mt_of mt_reverse fun x xs H Q q => by
  obtain ⟨M, a, vs, ds, es, ret, new, rfl, hM, h1, r1, r2, e, k⟩ := q
  unfold mReverse at e
  split at e
  · cases e
    cases List.eq_nil_of_length_eq_zero (rvs_len r2)
    exact ⟨a, vs, rfl, rfl, h1, k _ _ (rv_non.mpr rfl) (rvs_rev r1)⟩
  · cases e
/-- o.m(..) of a list that changes -/
theorem i_mut {m : MF} {name : Str} {id : String} {apos cpos : Pos} (slot : Slot "list" name id) (hty : typeOf (.builtin id) = pure (.type "method_descriptor")) (hm : MtM X id (rMF K m)) (ho : IE K ξ W X o fo) (ha : IA K ξ W X (e :: es) fs)
    (h : ∀ {r : V → List V → Hp → VK → Prop} {to : TE} {t : TA}, MtR X id r → PE X o to → PA X (e :: es) t → PE X (.Call (.Attribute o name apos) (e :: es) [] cpos) (tBM K "list" r to t)) : IE K ξ W X (.Call (.Attribute o name apos) (e :: es) [] cpos) (eMut m fo fs) := PE.of (h hm ho ha) fun σr H Q q => by
  obtain ⟨N, ζ, μ, σ, wd, so, q⟩ := q
  refine (then1 wd so q).mono fun x H1 ⟨ζ1, μ1, w1, ev1, wd1, so1, r1, q1⟩ => ?_
  split at q1
  · exact q1.elim
  · rename_i kd e
    obtain ⟨a, vs, rfl, rfl, ha, hk, h1, h2⟩ := lstAt_ok wd1 r1 (k := kd.1) (ds := kd.2) e
    refine ⟨.inl ⟨rfl, vs, SqL.of h1⟩, ?_⟩
    refine (thenN wd1 so1 q1).mono fun xs H2 ⟨ζ2, μ2, ws, ev2, wd2, so2, r2, q2⟩ => ?_
    exact read_mut wd2 (r1.ev ev2) r2 q2
theorem i_mut0 {m : MF} {name : Str} {id : String} {apos cpos : Pos} (hm : MtM X id (rMF K m)) (ho : IE K ξ W X o fo)
    (h : ∀ {r : V → List V → Hp → VK → Prop} {to : TE}, MtR X id r → PE X o to → PE X (.Call (.Attribute o name apos) [] [] cpos) (tBM0 K "list" r to)) : IE K ξ W X (.Call (.Attribute o name apos) [] [] cpos) (eMut m fo aNil) := PE.of (h hm ho) fun σr H Q q => by
  obtain ⟨N, ζ, μ, σ, wd, so, q⟩ := q
  refine (then1 wd so q).mono fun x H1 ⟨ζ1, μ1, w1, ev1, wd1, so1, r1, q1⟩ => ?_
  split at q1
  · exact q1.elim
  · rename_i kd e
    obtain ⟨a, vs, rfl, rfl, ha, hk, h1, h2⟩ := lstAt_ok wd1 r1 (k := kd.1) (ds := kd.2) e
    exact ⟨.inl ⟨rfl, vs, SqL.of h1⟩, read_mut (ws := []) wd1 r1 trivial q1⟩
/-- xs.extend(ys) -/
theorem i_ext {name : Str} {apos cpos : Pos} (ho : IE K ξ W X o fo) (ha : IA K ξ W X (e :: es) fs)
    (h : ∀ {to : TE} {t : TA}, PE X o to → PA X (e :: es) t → PE X (.Call (.Attribute o name apos) (e :: es) [] cpos) (tBM K "list" rExtend to t)) : IE K ξ W X (.Call (.Attribute o name apos) (e :: es) [] cpos) (eExt fo fs) := PE.of (h ho ha) fun σr H Q q => by
  obtain ⟨N, ζ, μ, σ, wd, so, q⟩ := q
  refine (then1 wd so q).mono fun x H1 ⟨ζ1, μ1, w1, ev1, wd1, so1, r1, q1⟩ => ?_
  split at q1
  · exact q1.elim
  · rename_i kd e
    obtain ⟨a, vs, rfl, rfl, ha, hk, h1, h2⟩ := lstAt_ok wd1 r1 (k := kd.1) (ds := kd.2) e
    refine ⟨.inl ⟨rfl, vs, SqL.of h1⟩, ?_⟩
    refine (thenN wd1 so1 q1).mono fun xs H2 ⟨ζ2, μ2, ws, ev2, wd2, so2, r2, q2⟩ => ?_
    unfold gExt at q2
    split at q2
    · rename_i k ds es e1 e2
      split at q2
      · rename_i hl
        obtain ⟨a', vs', ew, ea, ha', hk', h1', h2'⟩ := lstAt_ok wd2 (r1.ev ev2) e1
        cases ea
        obtain ⟨u, rfl, hu⟩ := vvs1 (r2.views wd2 e2)
        obtain ⟨b, zs, rfl, hb, rz⟩ := hu
        have l1 := rvs_len h2'
        have l2 := rvs_len rz
        refine ⟨a, b, vs', zs, rfl, rfl, h1', hb, by omega, ?_⟩
        have ev : Ev ζ2 μ2 H2 ζ2 (μ2.set k (some (.lst (ds ++ es)))) (upd H2 a (.lst (vs' ++ zs))) := ev_set hk' ha'
        exact q2 ζ2 _ _ ev (wd2.setC hk' ha' ⟨_, upd_same, rvs_mutN (.inl ⟨k, _, ha', hk'⟩) (rvs_app h2' rz)⟩) (ev.rv (rv_non.mpr rfl))
      · exact q2.elim
    · exact q2.elim
/-- xs[i] = e, of a list that changes -/
def gSetL (w u z : Val) (μ : Store) : Option Store := match w, lstAt μ u, z with
  | .t d, some (k, ds), .t (.int i) => (ixN ds.length i).map fun j => μ.set k (some (.lst (ds.set j d)))
  | _, _, _ => none
def sSetL (fe fo fi : ME) : MSt := fun σ μ => (fe σ μ).st σ fun w μ1 => (fo σ μ1).st σ fun u μ2 => (fi σ μ2).st σ fun z μ3 => match gSetL w u z μ3 with
  | some μ4 => .nx σ μ4
  | none => .stuck
theorem read_setL {w1 w2 w3 : Val} {x y z : V} {μ' : Store} {Q : Hp → Prop} (wd : Wd K N ζ μ H) (r1 : RV K ξ ζ (MM N ζ μ) H x w1) (r2 : RV K ξ ζ (MM N ζ μ) H y w2) (r3 : RV K ξ ζ (MM N ζ μ) H z w3) (e : gSetL w1 w2 w3 μ = some μ') (k : ∀ H', Ev ζ μ H ζ μ' H' → Wd K N ζ μ' H' → Q H') : rSetL y z x H Q := by
  unfold gSetL at e
  split at e
  · rename_i d k' ds i e1
    obtain ⟨j, hj, rfl⟩ := Option.map_eq_some_iff.mp e
    obtain ⟨a, vs, ew, rfl, ha, hk, h1, h2⟩ := lstAt_ok wd r2 e1
    cases rv_int.mp (show rv K (MM N ζ μ) H z (.int i) from r3)
    have rx : rv K (MM N ζ μ) H x d := r1
    exact ⟨a, vs, i, j, rfl, rfl, h1, by rw [rvs_len h2]; exact hj, k _ (ev_set hk ha) (wd.setC hk ha ⟨_, upd_same, rvs_mutN (.inl ⟨k', _, ha, hk⟩) (rvs_set rx j h2)⟩)⟩
  · cases e
theorem s_setL {fe fi : ME} (h : PS X st (tAsg (tE K ξ W fe) (gSub (tE K ξ W fo) (tE K ξ W fi) rSetL))) : IS K ξ W X st (sSetL fe fo fi) := PS.of h fun D σr H q => by
  obtain ⟨N, ζ, μ, σ, wd, so, q⟩ := q
  refine (stE wd so q).mono fun x H1 ⟨ζ1, μ1, w1, ev1, wd1, so1, r1, q1⟩ => ?_
  refine (stE wd1 so1 q1).mono fun y H2 ⟨ζ2, μ2, w2, ev2, wd2, so2, r2, q2⟩ => ?_
  refine (stE wd2 so2 q2).mono fun z H3 ⟨ζ3, μ3, w3, ev3, wd3, so3, r3, q3⟩ => ?_
  cases e : gSetL w1 w2 w3 μ3 with
  | none => rw [e] at q3; exact q3.elim
  | some μ4 =>
    rw [e] at q3
    exact read_setL wd3 ((r1.ev ev2).ev ev3) (r2.ev ev3) r3 e fun H' ev wd => q3 ζ3 H' σr ev wd (so3.ev ev)
/-! ### a thing that changes no more: it becomes a datum -/
def frz1 (μ : Store) : Val → Option (Val × Store)
  | .c k => match μ[k]? with
    | some (some (.lst ds)) => some (.t (.lst ds), μ.set k none)
    | some (some (.dic ks ds)) => some (.t (.dic ks ds), μ.set k none)
    | some (some (.ob C ns ds)) => some (.t (.obj C ns ds), μ.set k none)
    | _ => none
  | w => some (w, μ)
/-- ghost: the name's thing becomes a datum -/
def sFrz (i : Nat) : MSt := fun σ μ => match σ[i]? with
  | some (some w) => match frz1 μ w with
    | some (w', μ') => .nx (σ.set i (some w')) μ'
    | none => .stuck
  | _ => .nx σ μ
def eFrz (f : ME) : ME := e1 (fun w μ => match frz1 μ w with
  | some (w', μ') => .ok w' μ'
  | none => .stuck) f
theorem Mof_dead {k : Nat} : ∀ x, Mof ζ (μ.set k none) x → Mof ζ μ x := by
  rintro x ⟨j, d, h1, h2⟩
  by_cases e : k = j
  · subst e
    by_cases hk : k < μ.length
    · rw [List.getElem?_set_self hk] at h2; cases h2
    · rw [List.getElem?_eq_none (by rw [List.length_set]; omega)] at h2; cases h2
  · rw [List.getElem?_set_ne e] at h2; exact ⟨j, d, h1, h2⟩
theorem dead_live {k j : Nat} {d : Cell} (h : (μ.set k none)[j]? = some (some d)) : μ[j]? = some (some d) ∧ j ≠ k := by
  by_cases e : k = j
  · subst e
    by_cases hk : k < μ.length
    · rw [List.getElem?_set_self hk] at h; cases h
    · rw [List.getElem?_eq_none (by rw [List.length_set]; omega)] at h; cases h
  · rw [List.getElem?_set_ne e] at h; exact ⟨h, fun z => e z.symm⟩
theorem ev_dead {k : Nat} : Ev ζ μ H ζ (μ.set k none) H := ⟨fun _ _ h => h, Fr.refl _, fun x h => .inl (Mof_dead x h)⟩
theorem Wd.dead {k : Nat} (wd : Wd K N ζ μ H) : Wd K N ζ (μ.set k none) H :=
  ⟨by rw [List.length_set]; exact wd.len, fun i j a c c' h1 h2 h3 h4 => wd.inj i j a c c' h1 h2 (dead_live h3).1 (dead_live h4).1,
   fun j c a h1 h2 => (wd.cell j c a (dead_live h1).1 h2).st (fun x n _ z => n (z.elim (fun z => .inl (Mof_dead x z)) .inr)) (fun _ _ _ e => e) (fun _ e => e), fun a ha => ⟨fun z => (wd.nd a ha).1 (Mof_dead a z), (wd.nd a ha).2⟩⟩
theorem frz1_ok {w w' : Val} {μ' : Store} {v : V} (wd : Wd K N ζ μ H) (r : RV K ξ ζ (MM N ζ μ) H v w) (e : frz1 μ w = some (w', μ')) : Ev ζ μ H ζ μ' H ∧ Wd K N ζ μ' H ∧ RV K ξ ζ (MM N ζ μ') H v w' := by
  have triv : (w', μ') = (w, μ) → Ev ζ μ H ζ μ' H ∧ Wd K N ζ μ' H ∧ RV K ξ ζ (MM N ζ μ') H v w' := by
    intro h; cases h; exact ⟨Ev.refl, wd, r⟩
  cases w with
  | t d => exact triv (Option.some.inj e).symm
  | x _ _ => exact triv (Option.some.inj e).symm
  | s _ => exact triv (Option.some.inj e).symm
  | c k =>
    obtain ⟨a, ha, rfl⟩ := r
    have hn : ∀ {c : Cell}, μ[k]? = some (some c) → ¬ MM N ζ (μ.set k none) a := fun {c} hk z => by
      rcases z with ⟨j, d, h1, h2⟩ | z
      · obtain ⟨h3, h4⟩ := dead_live h2
        exact h4 (wd.inj j k a d c h1 ha h3 hk)
      · exact (wd.nd a z).1 ⟨k, c, ha, hk⟩
    have sub : ∀ x, MM N ζ (μ.set k none) x → MM N ζ μ x := fun x z => z.elim (fun z => .inl (Mof_dead x z)) .inr
    simp only [frz1] at e
    split at e
    · rename_i ds hk
      cases e
      obtain ⟨vs, h1, h2⟩ := wd.cell k _ a hk ha
      exact ⟨ev_dead, wd.dead, rv_lst.mpr ⟨a, vs, rfl, hn hk, h1, rvs_wk sub h2⟩⟩
    · rename_i ks ds hk
      cases e
      obtain ⟨vs, h1, h2⟩ := wd.cell k _ a hk ha
      exact ⟨ev_dead, wd.dead, rv_dic.mpr ⟨a, vs, rfl, hn hk, h1, rvs_wk sub h2⟩⟩
    · rename_i C ns ds hk
      cases e
      obtain ⟨dx, vs, h1, h2, h3, h4, h5⟩ := wd.cell k _ a hk ha
      exact ⟨ev_dead, wd.dead, rv_obj.mpr ⟨a, dx, vs, rfl, hn hk, fun z => h1 (sub _ z), h2, h3, h4, rvs_wk sub h5⟩⟩
    · cases e
theorem Sok.same {i : Nat} {w : Val} {v : V} (h : Sok K ξ ζ M H σr σ) (hv : σr[i]? = some (some v)) (r : RV K ξ ζ M H v w) : Sok K ξ ζ M H σr (σ.set i (some w)) := by
  have := h.set (i := i) r
  have e : σr.set i (some v) = σr := by
    refine List.ext_getElem? fun j => ?_
    by_cases e : i = j
    · subst e
      rw [List.getElem?_set_self (List.getElem?_eq_some_iff.mp hv).1, hv]
    · rw [List.getElem?_set_ne e]
  rw [e] at this
  exact this
theorem ss_frz {i : Nat} {ss : List Stmt} {B : MSt} (hb : ISs K ξ W X ss B) : ISs K ξ W X ss (sSeq (sFrz i) B) := ss_ghost hb fun D σr H N ζ μ σ wd so q => by
  unfold sFrz at q
  split at q
  · rename_i w hw
    split at q
    · rename_i w' μ' e
      obtain ⟨v, h1, h2⟩ := so.2 i w hw
      obtain ⟨ev, wd', r'⟩ := frz1_ok wd h2 e
      exact ⟨N, ζ, μ', σ.set i (some w'), wd', (so.ev ev).same h1 r', PostS.ev ev q⟩
    · exact q.elim
  · exact ⟨N, ζ, μ, σ, wd, so, q⟩
theorem i_frz (ha : IE K ξ W X e fa) : IE K ξ W X e (eFrz fa) := PE.of ha fun σr H Q q => by
  obtain ⟨N, ζ, μ, σ, wd, so, q⟩ := q
  refine (then1 wd so q).mono fun x H1 ⟨ζ1, μ1, w1, ev1, wd1, so1, r1, q1⟩ => ?_
  cases e : frz1 μ1 w1 with
  | none => rw [e] at q1; exact q1.elim
  | some p =>
    obtain ⟨w', μ'⟩ := p
    rw [e] at q1
    obtain ⟨ev, wd', r'⟩ := frz1_ok wd1 r1 e
    exact q1 ζ1 H1 x ev wd' r'
end
end PM
namespace PM
open PySem PySem.Spec PyProof.Rows L2
open WD (MS Fr upd_none)
/-! ### defs -/
abbrev Fn := List Val → Store → R Val
def PostC (K : PySem.W.Frag) (N : MS) (ζ : List Addr) (μ : Store) (H : Hp) (Q : VK) (E : XK) : R Val → Prop
  | .ok w μ' => ∀ ζ' H' v, Ev ζ μ H ζ' μ' H' → Wd K N ζ' μ' H' → RV K none ζ' (MM N ζ' μ') H' v w → Q v H'
  | .ex c f μ' => ∀ ζ' H' d, Ev ζ μ H ζ' μ' H' → Wd K N ζ' μ' H' → XR K (MM N ζ' μ') H' d f → E (.ref (He.ga K c)) d H'
  | .stuck => False
def SpF (K : PySem.W.Frag) (n : Nat) (fn : Fn) : Sp := fun vs H Q E => ∃ N ζ μ ws, Wd K N ζ μ H ∧ RVs K none ζ (MM N ζ μ) H vs ws ∧ ws.length = n ∧ PostC K N ζ μ H Q E (fn ws μ)
def Val.plain : Val → Bool
  | .x _ _ => false
  | _ => true
def gCall (n : Nat) (fn : Fn) (ws : List Val) (μ : Store) : R Val := if ws.all Val.plain && decide (ws.length = n) then fn ws μ else .stuck
def fin (n : Nat) (w : Val) (μ : Store) : R Val := match w with
  | .t d => .ok (.t d) (μ.take n)
  | .c k => if k < n then .ok (.c k) (μ.take n) else match μ[k]? with
    | some (some c) => .ok (.c n) (μ.take n ++ [some c])
    | _ => .stuck
  | _ => .stuck
def startM (n : Nat) (ws : List Val) : Sl := ws.map some ++ List.replicate (n - ws.length) none
def endM (n : Nat) : RS → R Val
  | .nx _ μ' => fin n (.t .non) μ'
  | .rt w μ' => fin n w μ'
  | .ex c f _ μ' => .ex c f (μ'.take n)
  | _ => .stuck
def fnOf (n : Nat) (b : MSt) : Fn := fun ws μ => endM μ.length (b (startM n ws) μ)
section
variable {X : Cx} {K : PySem.W.Frag} {ξ : Xi} {W : WX} {N : MS} {ζ : List Addr} {μ : Store} {M : MS} {H : Hp} {σr : L2.St} {σ : Sl} {e : Expr} {es : List Expr} {fs : Sl → Store → R (List Val)} {pos : Pos}
theorem RV.none_to {v : V} {w : Val} (h : RV K none ζ M H v w) : RV K ξ ζ M H v w := by
  cases w with
  | x c f => obtain ⟨a, d, h1, _⟩ := h; cases h1
  | t _ => exact h
  | c _ => exact h
  | s _ => exact h
theorem RV.to_none {v : V} {w : Val} (h : RV K ξ ζ M H v w) (p : w.plain = true) : RV K none ζ M H v w := by
  cases w with
  | x c f => cases p
  | t _ => exact h
  | c _ => exact h
  | s _ => exact h
theorem RVs.to_none : ∀ {vs : List V} {ws : List Val}, RVs K ξ ζ M H vs ws → ws.all Val.plain = true → RVs K none ζ M H vs ws
  | [], [], _, _ => trivial
  | _ :: _, _ :: _, h, p => by
    rw [List.all_cons, Bool.and_eq_true] at p
    exact ⟨h.1.to_none p.1, RVs.to_none h.2 p.2⟩
  | [], _ :: _, h, _ => h.elim
  | _ :: _, [], h, _ => h.elim
theorem PostC.of {n : Nat} {fn : Fn} {ws : List Val} {Q : VK} (h : PostE K ξ W N ζ μ H σr Q (fn ws μ)) : PostC K N ζ μ H Q (WE W σr) (fn ws μ) := by
  cases e : fn ws μ with
  | ok w μ' => rw [e] at h; exact fun ζ' H' v a b c => h ζ' H' v a b c.none_to
  | ex c f μ' => rw [e] at h; exact h
  | stuck => rw [e] at h; exact h
theorem read_call {n : Nat} {fn : Fn} {ws : List Val} {vs : List V} {Q : VK} (wd : Wd K N ζ μ H) (r : RVs K ξ ζ (MM N ζ μ) H vs ws) (h : PostE K ξ W N ζ μ H σr Q (gCall n fn ws μ)) : SpF K n fn vs H Q (WE W σr) := by
  unfold gCall at h
  split at h
  · rename_i hc
    rw [Bool.and_eq_true] at hc
    exact ⟨N, ζ, μ, ws, wd, r.to_none hc.1, of_decide_eq_true hc.2, PostC.of (n := n) h⟩
  · exact h.elim
/-- f(e, ..) -/
theorem i_call {k n : Nat} {x : Str} {f : Addr} {fn : Fn} {p : Pos} (c : WD.Cal X.prog X.w X.K X.mg X.base (L2.CX X.prog X.w) k x f (SpF K n fn) []) (tk : Takes X W) (hr : Room k X.A) (hg : Gl X x) (ha : IA K ξ W X (e :: es) fs) (hdb : (x == ("__debug__" : Str)) = false := by decide)
    (he : starEach (e :: es) X.env = (false, eval e X.env) :: starEach es X.env := by rfl) (hpl : (backTo pos (starEach es X.env)).any (·.1) = false := by rfl) : IE K ξ W X (.Call (.Name x p) (e :: es) [] pos) (eN (gCall n fn) fs) := PE.of (WD.pe_calX c tk hr hg ha hdb he hpl) fun σr H Q q => by
  obtain ⟨N, ζ, μ, σ, wd, so, q⟩ := q
  refine (thenN wd so q).mono fun vs H1 ⟨ζ1, μ1, ws, ev1, wd1, so1, r1, q1⟩ => read_call wd1 r1 q1
/-- the store, cut down -/
theorem Wd.sub {ζ' : List Addr} {μ' : Store} (wd : Wd K N ζ μ H) (hl : ζ'.length = μ'.length) (f : Nat → Nat) (h : ∀ (i : Nat) a c, ζ'[i]? = some a → μ'[i]? = some (some c) → ζ[f i]? = some a ∧ μ[f i]? = some (some c)) (hf : ∀ i j, i < ζ'.length → j < ζ'.length → f i = f j → i = j) : Wd K N ζ' μ' H ∧ ∀ x, MM N ζ' μ' x → MM N ζ μ x := by
  have sub : ∀ x, Mof ζ' μ' x → Mof ζ μ x := fun x ⟨k, c, h1, h2⟩ => ⟨f k, c, h k x c h1 h2⟩
  have sub2 : ∀ x, MM N ζ' μ' x → MM N ζ μ x := fun x z => z.elim (fun z => .inl (sub x z)) .inr
  refine ⟨⟨hl, fun i j a c c' h1 h2 h3 h4 => ?_, fun k c a h1 h2 => ?_, fun a ha => ⟨fun z => (wd.nd a ha).1 (sub a z), (wd.nd a ha).2⟩⟩, sub2⟩
  · obtain ⟨g1, g2⟩ := h i a c h1 h3
    obtain ⟨g3, g4⟩ := h j a c' h2 h4
    exact hf i j (List.getElem?_eq_some_iff.mp h1).1 (List.getElem?_eq_some_iff.mp h2).1 (wd.inj _ _ a c c' g1 g3 g2 g4)
  · obtain ⟨g1, g2⟩ := h k a c h2 h1
    exact (wd.cell _ c a g2 g1).st (fun x n _ z => n (sub2 x z)) (fun _ _ _ e => e) (fun _ e => e)
theorem take_at {α : Type} {l : List α} {n i : Nat} {x : α} (h : (l.take n)[i]? = some x) : i < n ∧ l[i]? = some x := by
  rw [List.getElem?_take] at h
  split at h
  · exact ⟨by assumption, h⟩
  · cases h
/-- back from a def: what it made for itself is let go -/
theorem cut_ok {ζ1 : List Addr} {μ1 : Store} {H1 : Hp} (ev : Ev ζ μ H ζ1 μ1 H1) (wd : Wd K N ζ1 μ1 H1) (hl : ζ.length = μ.length) : Ev ζ μ H (ζ1.take μ.length) (μ1.take μ.length) H1 ∧ Wd K N (ζ1.take μ.length) (μ1.take μ.length) H1 ∧ ∀ x, MM N (ζ1.take μ.length) (μ1.take μ.length) x → MM N ζ1 μ1 x := by
  obtain ⟨w, s⟩ := wd.sub (ζ' := ζ1.take μ.length) (μ' := μ1.take μ.length) (by rw [List.length_take, List.length_take, wd.len]) id (fun i a c h1 h2 => ⟨(take_at h1).2, (take_at h2).2⟩) (fun i j _ _ e => e)
  refine ⟨⟨fun k a h => ?_, ev.fr, fun a h => ?_⟩, w, s⟩
  · have := ev.pre k a h
    rw [List.getElem?_take, if_pos (by have := (List.getElem?_eq_some_iff.mp h).1; omega)]
    exact this
  · obtain ⟨k, c, h1, h2⟩ := h
    exact ev.ml a ⟨k, c, (take_at h1).2, (take_at h2).2⟩
theorem fin_ok {ζ1 : List Addr} {μ1 : Store} {H1 : Hp} {Q : VK} {E : XK} {w : Val} {v : V} (ev : Ev ζ μ H ζ1 μ1 H1) (wd : Wd K N ζ1 μ1 H1) (hl : ζ.length = μ.length) (r : RV K none ζ1 (MM N ζ1 μ1) H1 v w) (h : PostC K N ζ μ H Q E (fin μ.length w μ1)) : Q v H1 := by
  obtain ⟨ev', wd', sub⟩ := cut_ok ev wd hl
  cases w with
  | t d => exact h _ _ v ev' wd' (rv_wk sub r)
  | x _ _ => exact h.elim
  | s _ => exact h.elim
  | c k =>
    obtain ⟨a, ha, rfl⟩ := r
    simp only [fin] at h
    split at h
    · rename_i hk
      exact h _ _ _ ev' wd' ⟨a, by rw [List.getElem?_take, if_pos hk]; exact ha, rfl⟩
    · rename_i hk
      split at h
      · rename_i c hc
        have hlen : (ζ1.take μ.length).length = μ.length := by
          rw [List.length_take]
          have h1 := (List.getElem?_eq_some_iff.mp ha).1
          omega
        have hlen2 : (μ1.take μ.length).length = μ.length := by
          rw [List.length_take]
          have h1 := (List.getElem?_eq_some_iff.mp ha).1
          have := wd.len
          omega
        obtain ⟨w2, s2⟩ := wd.sub (ζ' := ζ1.take μ.length ++ [a]) (μ' := μ1.take μ.length ++ [some c]) (by rw [List.length_append, List.length_append, hlen, hlen2]; rfl) (fun i => if i < μ.length then i else k) (fun i b c' h1 h2 => by
          rcases snoc_at h1 with ⟨i1, g1⟩ | ⟨i1, g1⟩ <;> rcases snoc_at h2 with ⟨i2, g2⟩ | ⟨i2, g2⟩
          · rw [if_pos (by omega)]
            exact ⟨(take_at g1).2, (take_at g2).2⟩
          · omega
          · omega
          · rw [if_neg (by omega)]
            cases g2
            rw [g1]
            exact ⟨ha, hc⟩) (fun i j hi hj e => by
          rw [List.length_append, hlen] at hi hj
          have hi : i < μ.length + 1 := hi
          have hj : j < μ.length + 1 := hj
          split at e <;> split at e <;> omega)
        refine h _ _ _ ⟨fun j b hb => ?_, ev.fr, fun b hb => ?_⟩ w2 ⟨a, by rw [List.getElem?_append_right (by omega), hlen, Nat.sub_self]; rfl, rfl⟩
        · have h1 := ev'.pre j b hb
          rw [List.getElem?_append_left (List.getElem?_eq_some_iff.mp h1).1]
          exact h1
        · obtain ⟨j, c', h1, h2⟩ := hb
          rcases snoc_at h1 with ⟨i1, g1⟩ | ⟨i1, g1⟩ <;> rcases snoc_at h2 with ⟨i2, g2⟩ | ⟨i2, g2⟩
          · exact ev.ml b ⟨j, c', (take_at g1).2, (take_at g2).2⟩
          · omega
          · omega
          · exact ev.ml b ⟨k, c, by rw [g1]; exact ha, hc⟩
      · exact h.elim
theorem RVs.get {vs : List V} {ws : List Val} {i : Nat} {w : Val} : RVs K ξ ζ M H vs ws → ws[i]? = some w → ∃ v, vs[i]? = some v ∧ RV K ξ ζ M H v w := by
  induction ws generalizing vs i with
  | nil => intro _ e; simp at e
  | cons u ws ih =>
    intro h e
    cases vs with
    | nil => exact h.elim
    | cons v vs =>
      cases i with
      | zero => cases e; exact ⟨v, rfl, h.1⟩
      | succ i => exact ih (vs := vs) (i := i) h.2 e
theorem start_ok {vs : List V} {ws : List Val} {N' : List Str} (r : RVs K ξ ζ M H vs ws) : Sok K ξ ζ M H (L2.start N' vs) (startM N'.length ws) := by
  have hl := r.len
  unfold L2.start startM
  refine ⟨by rw [List.length_append, List.length_append, List.length_map, List.length_map, List.length_replicate, List.length_replicate, hl], fun i w hw => ?_⟩
  by_cases hi : i < ws.length
  · rw [List.getElem?_append_left (by rw [List.length_map]; exact hi), List.getElem?_map, List.getElem?_eq_getElem hi] at hw
    have e : ws[i]? = some w := by rw [List.getElem?_eq_getElem hi]; exact Option.some.inj hw ▸ rfl
    obtain ⟨v, h1, h2⟩ := r.get e
    exact ⟨v, by rw [List.getElem?_append_left (by rw [List.length_map]; omega), List.getElem?_map, h1]; rfl, h2⟩
  · rw [List.getElem?_append_right (by rw [List.length_map]; omega)] at hw
    rw [List.getElem?_replicate] at hw
    split at hw <;> cases hw
end
section
variable {P : Program} {w : World} {K : PySem.W.Frag} {mg : Str → Option Value} {base : Heap} {x qual : Str} {params : Arguments} {body : List Stmt} {scope : Scope} {f C : Addr} {fd : FuncData} {Nm ps : List Str} {k : Nat} {b : MSt}
theorem fn_read {N : MS} {ζ : List Addr} {μ : Store} {H : Hp} {vs : List V} {ws : List Val} {Q : VK} {E : XK} (wd : Wd K N ζ μ H) (r : RVs K none ζ (MM N ζ μ) H vs ws) (h : PostC K N ζ μ H Q E (fnOf Nm.length b ws μ)) :
    tS K none (fun cls d _ H => E cls d H) b { nx := fun _ H' => Q .non H', rt := Q } (L2.start Nm vs) H := by
  refine ⟨N, ζ, μ, startM Nm.length ws, wd, start_ok r, ?_⟩
  unfold fnOf at h
  cases e : b (startM Nm.length ws) μ with
  | nx σ' μ' => rw [e] at h; exact fun ζ' H' σr' ev wd' so => fin_ok (w := .t .non) ev wd' wd.len ((rv_non (K := K) (M := MM N ζ' μ') (H := H')).mpr rfl) h
  | rt u μ' => rw [e] at h; exact fun ζ' H' v ev wd' r' => fin_ok ev wd' wd.len r' h
  | ex c f σ' μ' =>
    rw [e] at h
    intro ζ' H' d σr' ev wd' xr so
    obtain ⟨ev', wd2, sub⟩ := cut_ok ev wd' wd.len
    refine h _ _ d ev' wd2 ?_
    cases f with
    | none => exact xr
    | some q =>
      obtain ⟨n, p⟩ := q
      obtain ⟨dd, v', k1, k2, k3, k4⟩ := xr
      exact ⟨dd, v', k1, fun z => k2 (sub _ z), k3, rv_wk sub k4⟩
  | bk _ _ => rw [e] at h; exact h.elim
  | ct _ _ => rw [e] at h; exact h.elim
  | stuck => rw [e] at h; exact h.elim
theorem fn_ok (F : FunD K x qual params body scope [] [] f fd) (S : FnScope Nm ps scope)
    (bind : ∀ (kV doc pm : Value) (an : Option Addr) (cdv ct : Value) (us : List Value), us.length = ps.length → bindArgs (PySem.W.fnOf x qual params body scope .none kV doc pm an cdv ct) ⟨us, []⟩ = pure (ps.zip us))
    (hb : ∀ (cdv : Value) (A : Around) (outer : List Env) (s : Shared) (H : Hp) (E : XK), Room k (A.deeper (envOfC qual scope s.heap.objs.size f cdv)) → ISs K none (fun cls d _ H => E cls d H) (cxOf (L2.CX P w) P w K mg base Nm qual scope f cdv A outer s H E) body b) :
    ∃ (fd : FuncData) (ps' : List Str) (ds : List Value), FnOk P w K mg base (L2.CX P w) (k + 1) f fd ps' (SpF K ps.length (fnOf Nm.length b)) ∧ Binds K fd ps' ds ∧ Vals [] ds :=
  WD.fnX_of F S (fun vs H Q E ⟨N, ζ, μ, ws, wd, r, hl, _⟩ => r.len.trans hl) bind fun cdv A outer s H vs Q E hr ⟨N, ζ, μ, ws, wd, r, hl, h⟩ => ⟨_, hb cdv A outer s H E hr, fn_read wd r h⟩
end
end PM
namespace PM
open PySem PySem.Spec PyProof.Rows L2
open WD (MS Fr upd_none)
/-! ### raise -/
def sRaise (c f : Str) (as : Sl → Store → R (List Val)) : MSt := fun σ μ => (as σ μ).st σ fun ws μ1 => match ws with
  | [.t d] => .ex c (some (f, d)) σ μ1
  | _ => .stuck
def sRaise0 (c : Str) : MSt := fun σ μ => .ex c none σ μ
section
variable {X : Cx} {K : PySem.W.Frag} {ξ : Xi} {W : WX} {N : MS} {ζ : List Addr} {μ : Store} {M : MS} {H : Hp} {σr : L2.St} {σ : Sl} {e : Expr} {es : List Expr} {fa : ME} {fs : Sl → Store → R (List Val)} {pos : Pos} {st : Stmt} {D : Ends}
theorem stN {k : List Val → Store → RS} (wd : Wd K N ζ μ H) (so : Sok K ξ ζ (MM N ζ μ) H σr σ) (h : PostS K ξ W N ζ μ H D ((fs σ μ).st σ k)) :
    tA K ξ W fs σr H fun xs H1 => ∃ ζ1 μ1 ws, Ev ζ μ H ζ1 μ1 H1 ∧ Wd K N ζ1 μ1 H1 ∧ Sok K ξ ζ1 (MM N ζ1 μ1) H1 σr σ ∧ RVs K ξ ζ1 (MM N ζ1 μ1) H1 xs ws ∧ PostS K ξ W N ζ1 μ1 H1 D (k ws μ1) := by
  refine ⟨N, ζ, μ, σ, wd, so, ?_⟩
  cases e : fs σ μ with
  | ok w1 μ1 => rw [e] at h; exact fun ζ' H' v ev w r => ⟨ζ', μ1, w1, ev, w, so.ev ev, r, PostS.ev ev h⟩
  | ex c f μ1 => rw [e] at h; exact fun ζ' H' d ev w r => h ζ' H' d σr ev w r (so.ev ev)
  | stuck => rw [e] at h; exact h
theorem xr_new {d : Addr} {f : Str} {v : V} {p : PV} (wd : Wd K N ζ μ H) (hd : H d = none) (r : rv K (MM N ζ μ) H v p) : XR K (MM N ζ μ) (upd H d (.xd [(f, v)])) (some d) (some (f, p)) :=
  ⟨d, v, rfl, wd.no hd, upd_same, (Grow.upd hd).rv r⟩
theorem s_raise {c f : Str} (h : PS X st (fun _ σ H => WD.tExc (He.ga K c) f (tA K ξ W fs) σ H fun cls d H' => W cls d σ H')) : IS K ξ W X st (sRaise c f fs) := PS.of h fun D σr H q => by
  obtain ⟨N, ζ, μ, σ, wd, so, q⟩ := q
  refine (stN wd so q).mono fun xs H1 ⟨ζ1, μ1, ws, ev1, wd1, so1, r1, q1⟩ => ?_
  split at q1
  · rename_i d
    obtain ⟨v, rfl, hv⟩ := RVs1 r1
    exact ⟨v, rfl, fun dd hd => q1 ζ1 _ (some dd) σr (Ev.new hd) (wd1.new hd) (xr_new wd1 hd hv) (so1.ev (Ev.new hd))⟩
  · exact q1.elim
theorem s_raise0 {c : Str} (h : PS X st (fun _ σ H => W (.ref (He.ga K c)) none σ H)) : IS K ξ W X st (sRaise0 c) := PS.of h fun D σr H q => by
  obtain ⟨N, ζ, μ, σ, wd, so, q⟩ := q
  exact q ζ H none σr Ev.refl wd rfl so
end
/-! ### try -/
structure Clause where
  name : Str
  yes : List Str
  no : List Str
  slot : Nat
  suite : MSt
def plainO : Option Val → Bool
  | some w => w.plain
  | none => true
def RS.unset (i : Nat) : RS → RS
  | .nx σ μ => if (σ.set i none).all plainO then .nx (σ.set i none) μ else .stuck
  | .bk σ μ => if (σ.set i none).all plainO then .bk (σ.set i none) μ else .stuck
  | .ct σ μ => if (σ.set i none).all plainO then .ct (σ.set i none) μ else .stuck
  | .rt w μ => if w.plain then .rt w μ else .stuck
  | .ex _ _ _ _ => .stuck
  | .stuck => .stuck
def handle (c : Str) (f : Option (Str × PV)) (σ : Sl) (μ : Store) : List Clause → RS
  | [] => .ex c f σ μ
  | k :: r => if c ∈ k.yes then (k.suite (σ.set k.slot (some (.x c f))) μ).unset k.slot else if c ∈ k.no then handle c f σ μ r else .stuck
def sTry (B : MSt) (cl : List Clause) : MSt := fun σ μ => match B σ μ with
  | .ex c f σ1 μ1 => handle c f σ1 μ1 cl
  | r => r
def clL (K : PySem.W.Frag) : List Clause → List (Value × Nat × WD.Su)
  | [] => []
  | k :: r => (.ref (He.ga K k.name), k.slot, fun a cls d => tS K (some (a, cls, d)) W0 k.suite) :: clL K r
def ClFacts (K : PySem.W.Frag) : List Clause → Prop
  | [] => True
  | k :: r => (∀ c ∈ k.yes, PySem.W.exmOne K (.ref (He.ga K c)) (.ref (He.ga K k.name)) = some true) ∧ (∀ c ∈ k.no, PySem.W.exmOne K (.ref (He.ga K c)) (.ref (He.ga K k.name)) = some false) ∧ ClFacts K r
section
variable {X : Cx} {K : PySem.W.Frag} {ξ : Xi} {W : WX} {N : MS} {ζ : List Addr} {μ : Store} {M : MS} {H : Hp} {σr : L2.St} {σ : Sl} {e : Expr} {es : List Expr} {fa : ME} {fs : Sl → Store → R (List Val)} {pos : Pos} {st : Stmt} {D : Ends} {B : MSt}
theorem Sok.to_none (h : Sok K ξ ζ M H σr σ) (p : σ.all plainO = true) : Sok K none ζ M H σr σ := ⟨h.1, fun i w hw => by
  obtain ⟨v, h1, h2⟩ := h.2 i w hw
  have := List.all_eq_true.mp p _ (List.mem_of_getElem? hw)
  exact ⟨v, h1, h2.to_none this⟩⟩
theorem Sok.of_none (h : Sok K none ζ M H σr σ) : Sok K ξ ζ M H σr σ := ⟨h.1, fun i w hw => let ⟨v, h1, h2⟩ := h.2 i w hw; ⟨v, h1, h2.none_to⟩⟩
theorem unset_ok {ξ' : Xi} {i : Nat} {r : RS} (h : PostS K none W N ζ μ H D (r.unset i)) :
    PostS K ξ' W0 N ζ μ H { nx := fun σ' H' => D.nx (σ'.set i none) H', rt := D.rt, bk := fun σ' H' => D.bk (σ'.set i none) H', ct := fun σ' H' => D.ct (σ'.set i none) H' } r := by
  cases r with
  | nx σ' μ' =>
    simp only [RS.unset] at h
    split at h
    · exact fun ζ' H' σr' ev wd so => h ζ' H' _ ev wd (so.drop.to_none (by assumption))
    · exact h.elim
  | bk σ' μ' =>
    simp only [RS.unset] at h
    split at h
    · exact fun ζ' H' σr' ev wd so => h ζ' H' _ ev wd (so.drop.to_none (by assumption))
    · exact h.elim
  | ct σ' μ' =>
    simp only [RS.unset] at h
    split at h
    · exact fun ζ' H' σr' ev wd so => h ζ' H' _ ev wd (so.drop.to_none (by assumption))
    · exact h.elim
  | rt w μ' =>
    simp only [RS.unset] at h
    split at h
    · exact fun ζ' H' v ev wd r => h ζ' H' v ev wd (r.to_none (by assumption))
    · exact h.elim
  | ex _ _ _ _ => exact h.elim
  | stuck => exact h.elim
theorem handle_ok {c : Str} {f : Option (Str × PV)} {d : Option Addr} (wd : Wd K N ζ μ H) (so : Sok K none ζ (MM N ζ μ) H σr σ) (xr : XR K (MM N ζ μ) H d f) : ∀ {cl : List Clause}, ClFacts K cl → PostS K none W N ζ μ H D (handle c f σ μ cl) → WD.wClauses K W D (clL K cl) (.ref (He.ga K c)) d σr H
  | [], _, h => h ζ H d σr Ev.refl wd xr so
  | k :: r, hf, h => by
    unfold handle at h
    split at h
    · rename_i hy
      refine ⟨true, hf.1 c hy, fun _ a ha => ?_, fun z => nomatch z⟩
      exact ⟨N, ζ, μ, _, wd, (so.of_none (ξ := some (a, .ref (He.ga K c), d))).set (w := .x c f) ⟨a, d, rfl, rfl, xr⟩, unset_ok h⟩
    · split at h
      · rename_i hn
        exact ⟨false, hf.2.1 c hn, fun z => Bool.noConfusion z, fun _ => handle_ok wd so xr hf.2.2 h⟩
      · exact h.elim
theorem s_try {body : List Stmt} {hd0 : ExceptHandler} {hds : List ExceptHandler} {cl : List Clause} (hs : X.stack = X.env :: X.outer) (hf : X.env.frame = some X.env.locals) (hN : X.N.Nodup) (tk : Takes X W)
    (bd : ∀ (W' : WX) (pn : List (Addr × Obj)) (xe : Value → Shared → Prop), Takes (X.tr pn xe) W' → ISs K none W' (X.tr pn xe) body B) (hc : WD.Clauses X (hd0 :: hds) (clL K cl)) (hF : ClFacts K cl) (hK : X.K = K := by rfl) : IS K none W X (.Try body (hd0 :: hds) [] [] pos) (sTry B cl) := by
  subst hK
  refine PS.of (WD.ps_try_clauses hs hf hN tk bd hc) fun D σr H q => ?_
  obtain ⟨N, ζ, μ, σ, wd, so, q⟩ := q
  refine ⟨N, ζ, μ, σ, wd, so, ?_⟩
  unfold sTry at q
  cases e : B σ μ with
  | ex c f σ1 μ1 => rw [e] at q; exact fun ζ' H' d σr' ev wd' xr so' => handle_ok wd' so' xr hF (PostS.ev ev q)
  | nx _ _ => rw [e] at q; exact q
  | bk _ _ => rw [e] at q; exact q
  | ct _ _ => rw [e] at q; exact q
  | rt _ _ => rw [e] at q; exact q
  | stuck => rw [e] at q; exact q
/-! ### a caught exception is asked -/
def gXf (cs : List Str) (n : Str) (w : Val) (μ : Store) : R Val := match w with
  | .x c (some (m, p)) => if m = n ∧ c ∈ cs then .ok (.t p) μ else .stuck
  | _ => .stuck
theorem i_xf {a : Addr} {oe : Obj} {cls : Value} {d : Option Addr} {pn : List (Addr × Obj)} {n : Str} {cs : List Str} (hz : Zc cls d oe) (hf : ∃ vs, oe.data = .fields vs) (he : IE K (some (a, cls, d)) W (X.suite a ((a, oe) :: pn)) e fa) (hx : ∀ c ∈ cs, WD.ExD K (He.ga K c) ∧ PySem.W.findIn K (.ref (He.ga K c)) n = some none)
    (hb : attributeBase e n X.env (eval e X.env) = eval e X.env := by rfl) (hK : X.K = K := by rfl) : IE K (some (a, cls, d)) W (X.suite a ((a, oe) :: pn)) (.Attribute e n pos) (e1 (gXf cs n) fa) := by
  subst hK
  refine PE.of (WD.pe_xfA hz hf he hb) fun σr H Q q => ?_
  obtain ⟨N, ζ, μ, σ, wd, so, q⟩ := q
  refine (then1 wd so q).mono fun x H1 ⟨ζ1, μ1, w1, ev1, wd1, so1, r1, q1⟩ => ?_
  unfold gXf at q1
  split at q1
  · split at q1
    · rename_i c m p hc
      obtain ⟨rfl, hc⟩ := hc
      obtain ⟨a', d', h1, rfl, dd, v, rfl, h3, h4, h5⟩ := r1
      cases h1
      obtain ⟨k1, k2⟩ := hx c hc
      exact ⟨_, rfl, rfl, k1, k2, dd, [(m, v)], v, rfl, h4, by simp [List.lookup], q1 ζ1 H1 v Ev.refl wd1 h5⟩
    · exact q1.elim
  · exact q1.elim
/-- readings of classes -/
def taC (vs : List V) : TA := fun _ H Q => Q vs H
theorem pa_c0 : PA X [] (taC []) := PA.of pa_nil fun _ _ _ q => q
theorem pa_c {v : V} {vs : List V} (h : PE X e (tC v)) (hs : PA X es (taC vs)) (hst : starEach (e :: es) X.env = (false, eval e X.env) :: starEach es X.env := by rfl) : PA X (e :: es) (taC (v :: vs)) := PA.of (pa_cons h hs hst) fun _ _ _ q => q
def gIsX (tab : List (Str × Bool)) (w : Val) (μ : Store) : R Val := match w with
  | .x c _ => match tab.lookup c with
    | some b => .ok (.t (.bl b)) μ
    | none => .stuck
  | _ => .stuck
theorem xd_of {ζ : List Addr} {f : Option (Str × PV)} {d : Option Addr} (xr : XR K M H d f) : ∀ dd, d = some dd → ∃ fs, H dd = some (.xd fs) := fun dd hd => by
  cases f with
  | none => rw [show d = none from xr] at hd; cases hd
  | some q =>
    obtain ⟨n, p⟩ := q
    obtain ⟨d2, v, h1, _, h3, _⟩ := xr
    rw [h1] at hd
    cases hd
    exact ⟨_, h3⟩
theorem lookup_mem {tab : List (Str × Bool)} {c : Str} {b : Bool} (h : tab.lookup c = some b) : (c, b) ∈ tab := by
  induction tab with
  | nil => cases h
  | cons p tab ih =>
    obtain ⟨x, y⟩ := p
    rw [List.lookup_cons] at h
    split at h
    · rename_i heq
      cases h
      rw [eq_of_beq heq]
      exact List.mem_cons_self
    · exact List.mem_cons_of_mem _ (ih h)
theorem i_isX {a : Addr} {oe : Obj} {cls cv : Value} {d : Option Addr} {pn : List (Addr × Obj)} {c2 : Expr} {v2 : V} {p : Pos} {tab : List (Str × Bool)} (hz : Zc cls d oe) (hf : ∃ vs, oe.data = .fields vs) (he : IE K (some (a, cls, d)) W (X.suite a ((a, oe) :: pn)) e fa) (h2 : PE (X.suite a ((a, oe) :: pn)) c2 (tC v2)) (hv : ∀ u, RelV v2 u → u = cv)
    (hx : ∀ q ∈ tab, WD.ExD K (He.ga K q.1) ∧ PySem.W.kitOne K (.ref (He.ga K q.1)) cv = some q.2) (hg : Gl X "isinstance") (hm : X.mg "isinstance" = none)
    (hs : starEach [e, c2] X.env = (false, eval e X.env) :: starEach [c2] X.env := by rfl) (hs2 : starEach [c2] X.env = (false, eval c2 X.env) :: starEach [] X.env := by rfl) (hp : ((backTo pos (starEach [c2] X.env)).any (·.1)) = false := by rfl) (hK : X.K = K := by rfl) :
    IE K (some (a, cls, d)) W (X.suite a ((a, oe) :: pn)) (.Call (.Name "isinstance" p) [e, c2] [] pos) (e1 (gIsX tab) fa) := by
  subst hK
  refine PE.of (pe_callB (X := X.suite a ((a, oe) :: pn)) (WD.call_isX hz hf) hg hm WD.bt_isinstance (pa_cons he (pa_c h2 pa_c0 hs2) hs) (by decide) (by decide) hs hp) fun σr H Q q => ?_
  obtain ⟨N, ζ, μ, σ, wd, so, q⟩ := q
  refine (then1 wd so q).mono fun x H1 ⟨ζ1, μ1, w1, ev1, wd1, so1, r1, q1⟩ => ?_
  unfold gIsX at q1
  split at q1
  · split at q1
    · rename_i c f b hb
      obtain ⟨a', d', h1, rfl, xr⟩ := r1
      cases h1
      obtain ⟨k1, k2⟩ := hx _ (lookup_mem hb)
      exact ⟨_, v2, cv, b, rfl, k1, xd_of (ζ := ζ1) xr, rfl, hv, k2, q1 ζ1 H1 _ Ev.refl wd1 RV.blI⟩
    · exact q1.elim
  · exact q1.elim
theorem i_isXT {a : Addr} {oe : Obj} {cls : Value} {d : Option Addr} {pn : List (Addr × Obj)} {cs2 : List Expr} {vs2 : List V} {us2 : List Value} {kk : Nat} {p tp : Pos} {tab : List (Str × Bool)} (hz : Zc cls d oe) (hf : ∃ vs, oe.data = .fields vs) (he : IE K (some (a, cls, d)) W (X.suite a ((a, oe) :: pn)) e fa) (h2 : PA (X.suite a ((a, oe) :: pn)) cs2 (taC vs2)) (hv : Paired ClsV vs2 us2) (hlen : vs2.length ≤ sizeLine)
    (hx : ∀ q ∈ tab, WD.ExD K (He.ga K q.1) ∧ PySem.W.kitAny K (.ref (He.ga K q.1)) us2 = some q.2) (hg : Gl X "isinstance") (hm : X.mg "isinstance" = none)
    (hs : starEach [e, .Tuple cs2 kk tp] X.env = (false, eval e X.env) :: starEach [.Tuple cs2 kk tp] X.env := by rfl) (hs2 : starEach [.Tuple cs2 kk tp] X.env = (false, eval (.Tuple cs2 kk tp) X.env) :: starEach [] X.env := by rfl) (hp : ((backTo pos (starEach [.Tuple cs2 kk tp] X.env)).any (·.1)) = false := by rfl) (hK : X.K = K := by rfl) :
    IE K (some (a, cls, d)) W (X.suite a ((a, oe) :: pn)) (.Call (.Name "isinstance" p) [e, .Tuple cs2 kk tp] [] pos) (e1 (gIsX tab) fa) := by
  subst hK
  refine PE.of (pe_callB (X := X.suite a ((a, oe) :: pn)) (WD.call_isXT hz hf) hg hm WD.bt_isinstance (pa_cons he (pa_cons (pe_tup h2) pa_nil hs2) hs) (by decide) (by decide) hs hp) fun σr H Q q => ?_
  obtain ⟨N, ζ, μ, σ, wd, so, q⟩ := q
  refine (then1 wd so q).mono fun x H1 ⟨ζ1, μ1, w1, ev1, wd1, so1, r1, q1⟩ => ?_
  refine ⟨hlen, fun pt hpt => ?_⟩
  unfold gIsX at q1
  split at q1
  · split at q1
    · rename_i c f b hb
      have r1' := r1.ev (Ev.new (o := .tup vs2) hpt)
      obtain ⟨a', d', h1, rfl, xr⟩ := r1'
      cases h1
      obtain ⟨k1, k2⟩ := hx _ (lookup_mem hb)
      exact ⟨_, pt, vs2, us2, b, rfl, k1, xd_of (ζ := ζ1) xr, rfl, upd_same, hv, k2, q1 ζ1 _ _ (Ev.new hpt) (wd1.new hpt) RV.blI⟩
    · exact q1.elim
  · exact q1.elim
/-! ### isinstance of data -/
def tyN : PV → Option String
  | .non => some "NoneType"
  | .bl _ => some "bool"
  | .int _ => some "int"
  | .str _ => some "str"
  | .tup _ => some "tuple"
  | .lst _ => some "list"
  | .dic _ _ => some "dict"
  | .obj _ _ _ => none
def subT (n T : String) : Bool := n == T || (n == "bool" && T == "int")
def isTy (T : String) (d : PV) : Option PV := (tyN d).map fun n => .bl (subT n T)
theorem kit_tab : ∀ n ∈ ["NoneType", "bool", "int", "str", "tuple", "list", "dict"], ∀ T ∈ ["int", "bool", "str", "tuple", "list", "dict"], kitB n T = some (subT n T) := by decide +kernel
theorem ty_of {v : V} {d : PV} {n : String} (h : vv K M H v d) (e : tyN d = some n) : TyX K H v (.type n) ∧ n ∈ ["NoneType", "bool", "int", "str", "tuple", "list", "dict"] := by
  cases d with
  | non => cases e; rw [vv_non h]; exact ⟨.base .non, by decide⟩
  | bl b => cases e; rw [vv_bl h]; exact ⟨.base (.bl b), by decide⟩
  | int b => cases e; rw [vv_int h]; exact ⟨.base (.int b), by decide⟩
  | str b => cases e; rw [(vv_str h).1]; exact ⟨.base (.str b), by decide⟩
  | tup l => cases e; obtain ⟨a, vs, rfl, _, h1, _⟩ := vv_tup h; exact ⟨.base (.tup h1), by decide⟩
  | lst l => cases e; obtain ⟨a, vs, rfl, h1, _⟩ := h; exact ⟨.base (.lst h1), by decide⟩
  | dic ks l =>
    cases e
    obtain ⟨a, vs, rfl, h1, _⟩ := h
    rcases h1 with ⟨_, _, _, _, h1⟩ | ⟨_, _, _, _, h1⟩
    · exact ⟨.base (.dK h1), by decide⟩
    · exact ⟨.base (.dT h1), by decide⟩
  | obj _ _ _ => cases e
theorem i_isT {T : String} {c2 : Expr} {p : Pos} (he : IE K ξ W X e fa) (h2 : PE X c2 (tC (.ty T))) (hT : T ∈ ["int", "bool", "str", "tuple", "list", "dict"]) (hg : Gl X "isinstance") (hm : X.mg "isinstance" = none)
    (hs : starEach [e, c2] X.env = (false, eval e X.env) :: starEach [c2] X.env := by rfl) (hs2 : starEach [c2] X.env = (false, eval c2 X.env) :: starEach [] X.env := by rfl) (hp : ((backTo pos (starEach [c2] X.env)).any (·.1)) = false := by rfl) (hK : X.K = K := by rfl) :
    IE K ξ W X (.Call (.Name "isinstance" p) [e, c2] [] pos) (e1 (p1 (isTy T)) fa) := by
  subst hK
  refine PE.of (pe_callB call_isi hg hm WD.bt_isinstance (pa_cons he (pa_c h2 pa_c0 hs2) hs) (by decide) (by decide) hs hp) fun σr H Q q => ?_
  obtain ⟨N, ζ, μ, σ, wd, so, q⟩ := q
  refine (then1 wd so q).mono fun x H1 ⟨ζ1, μ1, w1, ev1, wd1, so1, r1, q1⟩ => ?_
  obtain ⟨M, d1, d, h1, fr, e, g⟩ := read_p1 wd1 r1 q1
  obtain ⟨n, e1, rfl⟩ := Option.map_eq_some_iff.mp e
  obtain ⟨k1, k2⟩ := ty_of h1 e1
  exact ⟨x, .ty T, _, _, _, rfl, .ty T, k1, kit_ty (kit_tab n k2 T hT), g.bl⟩
/-! ### the rest -/
def idxB (l : List PV) (d : PV) : Option Nat := l.findIdx? fun z => eqB z d
def gIndex (w : Val) (ws : List Val) (μ : Store) : R Val := match view μ w, views μ ws with
  | some (.lst l), some [d] => if okD (.lst l) && okD d then OR.ok μ ((idxB l d).map fun (j : Nat) => .t (.int (j : Int))) else .stuck
  | _, _ => .stuck
def isLst (μ : Store) (w : Val) : Bool := match view μ w with
  | some (.lst _) => true
  | _ => false
def eIndex (o : ME) (as : Sl → Store → R (List Val)) : ME := fun σ μ => (o σ μ).bind fun w μ1 => if isLst μ1 w then (as σ μ1).bind fun ws μ2 => gIndex w ws μ2 else .stuck
theorem datas_at : ∀ (l : List PV) (j : Nat), (datas l)[j]? = (l[j]?).map PV.data
  | [], j => by unfold datas; simp
  | a :: l, 0 => by unfold datas; rfl
  | a :: l, j + 1 => by unfold datas; exact datas_at l j
theorem i_index {o : Expr} {fo : ME} {name : Str} {apos cpos : Pos} (hu : X.A.units + 65 < cLine) (ho : IE K ξ W X o fo) (ha : IA K ξ W X (e :: es) fs)
    (h : ∀ {to : TE} {t : TA}, PE X o to → PA X (e :: es) t → PE X (.Call (.Attribute o name apos) (e :: es) [] cpos) (tBM K "list" (rIndexD K) to t)) : IE K ξ W X (.Call (.Attribute o name apos) (e :: es) [] cpos) (eIndex fo fs) := PE.of (h ho ha) fun σr H Q q => by
  obtain ⟨N, ζ, μ, σ, wd, so, q⟩ := q
  refine (then1 wd so q).mono fun x H1 ⟨ζ1, μ1, w1, ev1, wd1, so1, r1, q1⟩ => ?_
  split at q1
  · rename_i hl
    have hl' : ∃ l, view μ1 w1 = some (.lst l) := by
      unfold isLst at hl
      split at hl
      · exact ⟨_, by assumption⟩
      · cases hl
    obtain ⟨l0, hl0⟩ := hl'
    obtain ⟨a, vs, rfl, h1, h2⟩ := r1.view wd1 hl0
    refine ⟨.inl ⟨rfl, vs, SqL.of h1⟩, ?_⟩
    refine (thenN wd1 so1 q1).mono fun xs H2 ⟨ζ2, μ2, ws, ev2, wd2, so2, r2, q2⟩ => ?_
    unfold gIndex at q2
    split at q2
    · rename_i l d e1 e2
      split at q2
      · rename_i hc
        rw [Bool.and_eq_true] at hc
        cases e3 : idxB l d with
        | none => rw [e3] at q2; exact q2.elim
        | some j =>
          rw [e3] at q2
          obtain ⟨u, rfl, hu2⟩ := vvs1 (r2.views wd2 e2)
          obtain ⟨p1, p2⟩ := okD_dp hc.1 ((r1.ev ev2).view wd2 e1)
          obtain ⟨q3, q4⟩ := okD_dp hc.2 hu2
          unfold idxB at e3
          obtain ⟨hj, hj1, hj2⟩ := List.findIdx?_eq_some_iff_getElem.mp e3
          unfold PV.data at p1 p2
          refine ⟨a, u, d.data, datas l, j, (l[j]).data, rfl, rfl, p1, q3, p2, q4, by rw [datas_at, List.getElem?_eq_getElem hj]; rfl, hj1, fun m z' hm hz => ?_, q2 ζ2 H2 _ Ev.refl wd2 ((rv_int (K := K) (M := MM N ζ2 μ2) (H := H2)).mpr rfl)⟩
          rw [datas_at, List.getElem?_eq_getElem (by omega)] at hz
          cases hz
          have := hj2 m hm
          simpa [eqB] using this
      · exact q2.elim
    · exact q2.elim
  · exact q1.elim
/-- list(range(n)), list(range(a, b)) -/
def gRg (i j : Int) (μ : Store) : R (List PV) := if bnd i && (bnd j && Nat.ble (j - i).toNat 16777216) then .ok (rgI i (j - i).toNat) μ else .stuck
def gLR1 (w : Val) (μ : Store) : R (List PV) := match w with
  | .t (.int j) => gRg 0 j μ
  | _ => .stuck
def gLR2 (w u : Val) (μ : Store) : R (List PV) := match w, u with
  | .t (.int i), .t (.int j) => gRg i j μ
  | _, _ => .stuck
theorem rvs_rg {a b : Int} : rvs K M H (rgV a b) (rgI a (b - a).toNat) := by
  unfold rgV rgI
  have : ∀ l : List Nat, rvs K M H (l.map fun (i : Nat) => V.int (a + (i : Int))) (l.map fun (k : Nat) => PV.int (a + (k : Int))) := by
    intro l
    induction l with
    | nil => exact rvs_nil
    | cons x l ih => exact rvs_cons.mpr ⟨rv_int.mpr rfl, ih⟩
  exact this _
theorem read_rg {i j : Int} {Q : VK} (wd : Wd K N ζ μ H) (h : PostF K W N ζ μ H σr Q (gRg i j μ)) : RgOk i j ∧ ∀ q, H q = none → Q (.ref q) (upd H q (.lst (rgV i j))) := by
  unfold gRg at h
  split at h
  · rename_i hc
    rw [Bool.and_eq_true, Bool.and_eq_true] at hc
    have c1 := bnd_ok hc.1
    have c2 := bnd_ok hc.2.1
    have c3 := Nat.le_of_ble_eq_true hc.2.2
    exact ⟨⟨c1.1, c1.2, c2.1, c2.2, by omega⟩, fun q hq => (postF_p wd h).lst rvs_rg hq⟩
  · exact h.elim
theorem f_listRg1 {p pr posr : Pos} (hc : X.calm = true) (hg : Gl X "list") (hm : X.mg "list" = none) (hgr : Gl X "range") (hmr : X.mg "range" = none) (ha : IE K ξ W X e fa) (hs : starEach [e] X.env = (false, eval e X.env) :: starEach [] X.env := by rfl)
    (hs2 : starEach [.Call (.Name "range" pr) [e] [] posr] X.env = (false, eval (.Call (.Name "range" pr) [e] [] posr) X.env) :: starEach [] X.env := by rfl) : IF K ξ W X (.Call (.Name "list" p) [.Call (.Name "range" pr) [e] [] posr] [] pos) (e1 gLR1 fa) := PE.of (pe_listRg hc hg hm (prg_1 hgr hmr ha hs) hs2) fun σr H Q q => by
  obtain ⟨N, ζ, μ, σ, wd, so, q⟩ := q
  refine (then1F wd so q).mono fun x H1 ⟨ζ1, μ1, w1, ev1, wd1, so1, r1, q1⟩ => ?_
  unfold gLR1 at q1
  split at q1
  · rename_i j
    exact ⟨j, rv_int.mp (show rv K (MM N ζ1 μ1) H1 x (.int j) from r1), read_rg wd1 q1⟩
  · exact q1.elim
/-- the script, with a list behind it -/
def gScr (w u : Val) (μ : Store) : R (List PV) := match w, u with
  | .s ns, .t (.lst ds) => if ns.length + ds.length ≤ sizeLine then .ok (ns.map .int ++ ds) μ else .stuck
  | _, _ => .stuck
theorem f_scr {b : Expr} {fb : ME} (ha : IE K ξ W X e fa) (hb : IE K ξ W X b fb) (hK : X.K = K := by rfl) : IF K ξ W X (.BinOp e .Add b pos) (e2 gScr fa fb) := by
  subst hK
  refine PE.of (pe_op WD.op_catL ha hb) fun σr H Q q => ?_
  obtain ⟨N, ζ, μ, σ, wd, so, q⟩ := q
  refine (then1F wd so q).mono fun x H1 ⟨ζ1, μ1, w1, ev1, wd1, so1, r1, q1⟩ => ?_
  refine (then1F wd1 so1 q1).mono fun y H2 ⟨ζ2, μ2, w2, ev2, wd2, so2, r2, q2⟩ => ?_
  have key : ∃ ns ds, w1 = .s ns ∧ w2 = .t (.lst ds) ∧ ns.length + ds.length ≤ sizeLine ∧ PostF X.K W N ζ2 μ2 H2 σr Q (.ok (ns.map .int ++ ds) μ2) := by
    unfold gScr at q2
    split at q2
    · split at q2
      · exact ⟨_, _, rfl, rfl, by assumption, q2⟩
      · exact q2.elim
    · exact q2.elim
  obtain ⟨ns, ds, rfl, rfl, hl, q2⟩ := key
  obtain ⟨a, rfl, h1⟩ := r1.ev ev2
  have h1 : SqL X.K H2 a (ns.map V.int) := h1.elim (fun h => .inl h.2) fun h => h H2
  obtain ⟨b, vs, rfl, n2, h2, r3⟩ := rv_lst.mp (show rv X.K (MM N ζ2 μ2) H2 y (.lst ds) from r2)
  have := rvs_len r3
  exact ⟨a, b, _, vs, rfl, rfl, h1, SqL.of h2, by rw [List.length_map]; omega, fun p hp => (postF_p wd2 q2).lst (rvs_app (rvs_ints ns) r3) hp⟩
theorem fa_nil {α : Type} {p : α → Prop} : ∀ x ∈ ([] : List α), p x := fun _ h => nomatch h
theorem fa_cons {α : Type} {p : α → Prop} {a : α} {l : List α} (h : p a) (t : ∀ x ∈ l, p x) : ∀ x ∈ a :: l, p x := fun x hx => (List.mem_cons.mp hx).elim (fun e => e ▸ h) (t x)
/-- the law's own call -/
def spLaw (K : PySem.W.Frag) : Sp := fun vs H Q _ => ∃ (a : Addr) (ns : List Int), vs = [.ref a] ∧ SqL K H a (ns.map V.int) ∧ ns.length ≤ 63 ∧ ∀ H', Q (.bl true) H'
theorem spLaw_ask {H : Hp} {a : Addr} {ns : List Int} (hl : ns.length ≤ 63) (hS : SqL K H a (ns.map V.int)) : spLaw K [.ref a] H (fun v _ => v = .bl true) (fun _ _ _ => False) := ⟨a, ns, rfl, hS, hl, fun _ => rfl⟩
theorem law_read {b : MSt} {Nm : List Str} (hb : ∀ ns : List Int, ns.length ≤ 63 → fnOf Nm.length b [.s ns] [] = .ok (.t (.bl true)) []) {vs : List V} {H : Hp} {Q : VK} {E : XK} (h : spLaw K vs H Q E) : tS K none W0 b { nx := fun _ H' => Q .non H', rt := Q } (L2.start Nm vs) H := by
  obtain ⟨a, ns, rfl, hS, hl, k⟩ := h
  have noM : ∀ x, ¬ MM WD.M0 [] [] x := fun x z => z.elim (fun ⟨k, c, h1, _⟩ => by simp at h1) fun z => z
  refine fn_read (N := WD.M0) (ζ := []) (μ := []) (E := fun _ _ _ => False) (ws := [.s ns]) ⟨rfl, fun i j a c c' h => by simp at h, fun k c a h => by simp at h, fun a h => h.elim⟩ ⟨⟨a, rfl, ?_⟩, trivial⟩ ?_
  · rcases hS with h | h
    · exact .inl ⟨noM a, h⟩
    · exact .inr fun H' => .inr h
  · rw [hb ns hl]
    exact fun ζ' H' v _ _ r => by rw [rv_bl.mp (show rv K (MM WD.M0 ζ' []) H' v (.bl true) from r)]; exact k H'
end
end PM
/-! A turn of a loop: what it made for itself is let go at its end. -/
namespace PM
open PySem PySem.Spec PyProof.Rows L2
open WD (MS Fr upd_none)
def belowV (n : Nat) : Option Val → Bool
  | some (.c k) => decide (k < n)
  | some (.x _ _) => false
  | _ => true
def sScope (B : MSt) : MSt := fun σ μ => match B σ μ with
  | .nx σ' μ' => if σ'.all (belowV μ.length) then .nx σ' (μ'.take μ.length) else .nx σ' μ'
  | .ct σ' μ' => if σ'.all (belowV μ.length) then .ct σ' (μ'.take μ.length) else .ct σ' μ'
  | r => r
section
variable {X : Cx} {K : PySem.W.Frag} {ξ : Xi} {W : WX} {N : MS} {ζ ζ1 : List Addr} {μ μ1 : Store} {H : Hp} {σr : L2.St} {σ : Sl} {B : MSt}
theorem Sok.cut {n : Nat} (so : Sok K ξ ζ1 (MM N ζ1 μ1) H σr σ) (sub : ∀ x, MM N (ζ1.take n) (μ1.take n) x → MM N ζ1 μ1 x) (hb : σ.all (belowV n) = true) : Sok K ξ (ζ1.take n) (MM N (ζ1.take n) (μ1.take n)) H σr σ := by
  refine ⟨so.1, fun i w hw => ?_⟩
  obtain ⟨v, h1, h2⟩ := so.2 i w hw
  have hb := List.all_eq_true.mp hb _ (List.mem_of_getElem? hw)
  refine ⟨v, h1, ?_⟩
  cases w with
  | t d => exact rv_wk sub h2
  | c k =>
    obtain ⟨a, ha, rfl⟩ := h2
    exact ⟨a, by rw [List.getElem?_take, if_pos (of_decide_eq_true hb)]; exact ha, rfl⟩
  | x c f => cases hb
  | s ns =>
    obtain ⟨a, rfl, h2⟩ := h2
    exact ⟨a, rfl, h2.imp (fun z => ⟨fun m => z.1 (sub a m), z.2⟩) id⟩
theorem s_scope {body : List Stmt} (h : ISs K ξ W X body B) : ISs K ξ W X body (sScope B) := PSs.of h fun D σr H q => by
  obtain ⟨N, ζ, μ, σ, wd, so, q⟩ := q
  refine ⟨N, ζ, μ, σ, wd, so, ?_⟩
  unfold sScope at q
  cases e : B σ μ with
  | nx σ' μ' =>
    rw [e] at q
    dsimp only at q
    split at q
    · rename_i hb
      intro ζ' H' σr' ev wd' so'
      obtain ⟨ev', wd'', sub⟩ := cut_ok ev wd' wd.len
      exact q _ _ _ ev' wd'' (so'.cut sub hb)
    · exact q
  | ct σ' μ' =>
    rw [e] at q
    dsimp only at q
    split at q
    · rename_i hb
      intro ζ' H' σr' ev wd' so'
      obtain ⟨ev', wd'', sub⟩ := cut_ok ev wd' wd.len
      exact q _ _ _ ev' wd'' (so'.cut sub hb)
    · exact q
  | _ => rw [e] at q; exact q
end
end PM
namespace PM
open PySem PySem.Spec PyProof.Rows L2
section
variable {α β : Type} {μ : Store} {σ : Sl} {fa fb fc : ME} {ta tb : Sl → Store → R Bool} {fs : Sl → Store → R (List Val)} {A B : MSt}
@[simp] theorem bind_ok {a : α} {k : α → Store → R β} : (R.ok a μ).bind k = k a μ := rfl
@[simp] theorem bind_ex {c f} {k : α → Store → R β} : (R.ex c f μ).bind k = .ex c f μ := rfl
@[simp] theorem bind_stuck {k : α → Store → R β} : (R.stuck).bind k = .stuck := rfl
@[simp] theorem st_ok {a : α} {k : α → Store → RS} : (R.ok a μ).st σ k = k a μ := rfl
@[simp] theorem st_ex {c f} {k : α → Store → RS} : (R.ex c f μ).st σ k = .ex c f σ μ := rfl
@[simp] theorem seq_nx {k : Sl → Store → RS} : (RS.nx σ μ).seq k = k σ μ := rfl
@[simp] theorem seq_rt {w : Val} {k : Sl → Store → RS} : (RS.rt w μ).seq k = .rt w μ := rfl
@[simp] theorem seq_ct {k : Sl → Store → RS} : (RS.ct σ μ).seq k = .ct σ μ := rfl
@[simp] theorem seq_bk {k : Sl → Store → RS} : (RS.bk σ μ).seq k = .bk σ μ := rfl
@[simp] theorem seq_ex {c f} {k : Sl → Store → RS} : (RS.ex c f σ μ).seq k = .ex c f σ μ := rfl
@[simp] theorem noex_ok {a : α} : (R.ok a μ).noex = .ok a μ := rfl
@[simp] theorem sSeq_eq : sSeq A B σ μ = (A σ μ).seq B := rfl
@[simp] theorem sIf_eq : sIf ta A B σ μ = (ta σ μ).st σ fun k μ1 => if k then A σ μ1 else B σ μ1 := rfl
@[simp] theorem sRet_eq : sRet fa σ μ = (fa σ μ).st σ fun w μ1 => .rt w μ1 := rfl
@[simp] theorem sExp_eq : sExp fa σ μ = (fa σ μ).st σ fun _ μ1 => .nx σ μ1 := rfl
@[simp] theorem sPass_eq : sPass σ μ = .nx σ μ := rfl
@[simp] theorem sCont_eq : sCont σ μ = .ct σ μ := rfl
@[simp] theorem sRetN_eq : sRetN σ μ = .rt (.t .non) μ := rfl
@[simp] theorem sAsg_nm {i : Nat} : sAsg (.nm i) fa σ μ = (fa σ μ).st σ fun w μ1 => .nx (σ.set i (some w)) μ1 := by
  unfold sAsg
  cases fa σ μ <;> first | rfl | (show RS.seq _ _ = _; rfl) | simp [asg]
theorem sAsg_tp {ts : List Tgt} : sAsg (.tp ts) fa σ μ = (fa σ μ).st σ fun w μ1 => match asg (.tp ts) w σ with
  | some σ1 => .nx σ1 μ1
  | none => .stuck := rfl
@[simp] theorem sFor_eq {it : Sl → Store → R (List PV)} {T : Tgt} : sFor it T B σ μ = (it σ μ).st σ fun items μ1 => forL T B items σ μ1 := rfl
@[simp] theorem eV_eq {i : Nat} : eV i σ μ = match σ[i]? with
  | some (some w) => .ok w μ
  | _ => .stuck := rfl
@[simp] theorem eC_eq {d : PV} : eC d σ μ = .ok (.t d) μ := rfl
@[simp] theorem e1_eq {g : Val → Store → R α} : e1 g fa σ μ = (fa σ μ).bind g := rfl
@[simp] theorem e2_eq {g : Val → Val → Store → R α} : e2 g fa fb σ μ = (fa σ μ).bind fun w μ1 => (fb σ μ1).bind fun u μ2 => g w u μ2 := rfl
@[simp] theorem eN_eq {g : List Val → Store → R α} : eN g fs σ μ = (fs σ μ).bind g := rfl
@[simp] theorem aNil_eq : aNil σ μ = .ok [] μ := rfl
@[simp] theorem aCons_eq : aCons fa fs σ μ = (fa σ μ).bind fun w μ1 => (fs σ μ1).bind fun ws μ2 => .ok (w :: ws) μ2 := rfl
@[simp] theorem eAnd_eq : eAnd fa fb σ μ = (fa σ μ).bind (gBl fun c μ1 => if c then fb σ μ1 else .ok (.t (.bl false)) μ1) := rfl
@[simp] theorem eOr_eq : eOr fa fb σ μ = (fa σ μ).bind (gBl fun c μ1 => if c then .ok (.t (.bl true)) μ1 else fb σ μ1) := rfl
@[simp] theorem eNot_eq : eNot fa σ μ = (fa σ μ).bind (gBl fun c μ1 => .ok (.t (.bl (!c))) μ1) := rfl
@[simp] theorem eIf_eq : eIf ta fa fb σ μ = (ta σ μ).bind fun k μ1 => if k then fa σ μ1 else fb σ μ1 := rfl
@[simp] theorem tVal_eq : tVal fa σ μ = (fa σ μ).bind (gBl fun c μ1 => .ok c μ1) := rfl
@[simp] theorem tAnd_eq : tAnd' ta tb σ μ = (ta σ μ).bind fun k μ1 => if k then tb σ μ1 else .ok false μ1 := rfl
@[simp] theorem tOr_eq : tOr' ta tb σ μ = (ta σ μ).bind fun k μ1 => if k then .ok true μ1 else tb σ μ1 := rfl
@[simp] theorem tNot_eq : tNot' ta σ μ = (ta σ μ).bind fun k μ1 => .ok (!k) μ1 := rfl
@[simp] theorem tYes_eq : tYes' σ μ = .ok true μ := rfl
@[simp] theorem gBl_bl {b : Bool} {k : Bool → Store → R α} : gBl k (.t (.bl b)) μ = k b μ := rfl
@[simp] theorem eOfF_eq {f : Sl → Store → R (List PV)} : eOfF f σ μ = (f σ μ).bind fun ds μ1 => .ok (.t (.lst ds)) μ1 := rfl
@[simp] theorem eCellF_eq {f : Sl → Store → R (List PV)} : eCellF f σ μ = (f σ μ).bind fun ds μ1 => .ok (.c μ1.length) (μ1 ++ [some (.lst ds)]) := rfl
@[simp] theorem lcF_eq {it : Sl → Store → R (List PV)} {T : Tgt} : lcF it T ta fa σ μ = (it σ μ).bind fun items μ1 => (lcL T ta fa items (wipeM σ T.sl) μ1).bind szF := rfl
@[simp] theorem view_t {d : PV} : view μ (.t d) = some d := rfl
@[simp] theorem p1_t {g : PV → Option PV} {d : PV} : p1 g (.t d) μ = OR.ok μ ((g d).map .t) := rfl
@[simp] theorem p2_t {g : PV → PV → Option PV} {d e : PV} : p2 g (.t d) (.t e) μ = OR.ok μ ((g d e).map .t) := rfl
@[simp] theorem pf1_t {g : PV → Option (List PV)} {d : PV} : pf1 g (.t d) μ = OR.ok μ (g d) := rfl
@[simp] theorem pf2_t {g : PV → PV → Option (List PV)} {d e : PV} : pf2 g (.t d) (.t e) μ = OR.ok μ (g d e) := rfl
@[simp] theorem pN_1 {g : List PV → Option PV} {d : PV} : pN g [.t d] μ = OR.ok μ ((g [d]).map .t) := rfl
@[simp] theorem pN_2 {g : List PV → Option PV} {d e : PV} : pN g [.t d, .t e] μ = OR.ok μ ((g [d, e]).map .t) := rfl
@[simp] theorem pfN_1 {g : List PV → Option (List PV)} {d : PV} : pfN g [.t d] μ = OR.ok μ (g [d]) := rfl
@[simp] theorem orok_some {a : α} : OR.ok μ (some a) = .ok a μ := rfl
@[simp] theorem orok_none : OR.ok μ (none : Option α) = .stuck := rfl
@[simp] theorem gIt_lst {l : List PV} : gIt (.t (.lst l)) μ = .ok l μ := rfl
@[simp] theorem gIt_tup {l : List PV} : gIt (.t (.tup l)) μ = .ok l μ := rfl
@[simp] theorem gEnum_lst {l : List PV} : gEnum [.t (.lst l)] μ = .ok (enumP l) μ := rfl
@[simp] theorem gEnum_tup {l : List PV} : gEnum [.t (.tup l)] μ = .ok (enumP l) μ := rfl
@[simp] theorem lenV_lst {l : List PV} : lenV [.lst l] = some (.int l.length) := rfl
@[simp] theorem lenV_tup {l : List PV} : lenV [.tup l] = some (.int l.length) := rfl
@[simp] theorem tupleV_lst {l : List PV} : tupleV [.lst l] = some (.tup l) := rfl
@[simp] theorem tupleV_tup {l : List PV} : tupleV [.tup l] = some (.tup l) := rfl
@[simp] theorem listF_lst {l : List PV} : listF [.lst l] = some l := rfl
@[simp] theorem listF_tup {l : List PV} : listF [.tup l] = some l := rfl
@[simp] theorem addV_int {i j : Int} : addV (.int i) (.int j) = some (.int (i + j)) := rfl
@[simp] theorem subV_int {i j : Int} : subV (.int i) (.int j) = some (.int (i - j)) := rfl
@[simp] theorem negV_int {i : Int} : negV (.int i) = some (.int (-i)) := rfl
@[simp] theorem ltV_int {i j : Int} : ltV (.int i) (.int j) = some (.bl (decide (i < j))) := rfl
@[simp] theorem leV_int {i j : Int} : leV (.int i) (.int j) = some (.bl (decide (i ≤ j))) := rfl
@[simp] theorem gtV_int {i j : Int} : gtV (.int i) (.int j) = some (.bl (decide (j < i))) := rfl
@[simp] theorem geV_int {i j : Int} : geV (.int i) (.int j) = some (.bl (decide (j ≤ i))) := rfl
@[simp] theorem intV_bl {b : Bool} : intV [.bl b] = some (.int (if b then 1 else 0)) := rfl
@[simp] theorem intV_int {i : Int} : intV [.int i] = some (.int i) := rfl
@[simp] theorem isV_non {d : PV} : isV d .non = some (.bl (isNon d)) := by cases d <;> rfl
@[simp] theorem isntV_non {d : PV} : isntV d .non = some (.bl (!isNon d)) := by cases d <;> rfl
@[simp] theorem atV_lst {l : List PV} {i : Int} : atV (.lst l) (.int i) = atI l i := rfl
@[simp] theorem atV_tup {l : List PV} {i : Int} : atV (.tup l) (.int i) = atI l i := rfl
@[simp] theorem slV_lst {l : List PV} {lo hi : Option Int} : slV lo hi (.lst l) = some (.lst (cutG l lo hi)) := rfl
@[simp] theorem slV_tup {l : List PV} {lo hi : Option Int} : slV lo hi (.tup l) = some (.tup (cutG l lo hi)) := rfl
@[simp] theorem slF_lst {l : List PV} {lo hi : Option Int} : slF lo hi (.lst l) = some (cutG l lo hi) := rfl
@[simp] theorem revV_lst {l : List PV} : revV (.lst l) = some (.lst l.reverse) := rfl
@[simp] theorem revV_tup {l : List PV} : revV (.tup l) = some (.tup l.reverse) := rfl
@[simp] theorem eSl_eq {g : Option Int → Option Int → Val → Store → R α} {lo hi : MO} : eSl g fa lo hi σ μ = (fa σ μ).bind fun w μ1 => (lo σ μ1).bind fun l μ2 => (hi σ μ2).bind fun h μ3 => g l h w μ3 := rfl
@[simp] theorem oNone_eq : oNone σ μ = .ok none μ := rfl
@[simp] theorem oSome_eq : oSome fa σ μ = (fa σ μ).bind fun w μ => match w with
  | .t (.int i) => .ok (some i) μ
  | _ => .stuck := rfl
theorem mod_ok {i j : Int} (h : 0 < j) : modV (.int i) (.int j) = some (.int (i % j)) := if_pos h
theorem fdiv_ok {i j : Int} (h : 0 < j) (h2 : j < 1073741824) : fdivV (.int i) (.int j) = some (.int (i / j)) := if_pos (by rw [Bool.and_eq_true]; exact ⟨Nat.ble_eq_true_of_le (by omega), Nat.ble_eq_true_of_le (by omega)⟩)
theorem gTup_ok {ws : List Val} {ds : List PV} (h : asT ws = some ds) (hl : ws.length ≤ sizeLine) : gTup ws μ = .ok (.t (.tup ds)) μ := by unfold gTup; rw [if_pos hl, h]; rfl
theorem gLst_ok {ws : List Val} {ds : List PV} (h : asT ws = some ds) (hl : ws.length ≤ sizeLine) : gLst ws μ = .ok ds μ := by unfold gLst; rw [if_pos hl, h]; rfl
end
end PM
namespace PM
open PySem PySem.Spec PyProof.Rows L2
/-! ### walking in the machine -/
section
variable {T : Tgt} {test : Sl → Store → R Bool} {elt : ME} {B : MSt}
theorem lcL_map {items : List PV} {σ : Sl} {μ : Store} (f : PV → PV) (h : ∀ d ∈ items, ∃ σ1, asg T (.t d) σ = some σ1 ∧ test σ1 μ = .ok true μ ∧ elt σ1 μ = .ok (.t (f d)) μ) : lcL T test elt items σ μ = .ok (items.map f) μ := by
  induction items with
  | nil => rfl
  | cons d ds ih =>
    obtain ⟨σ1, h1, h2, h3⟩ := h d List.mem_cons_self
    unfold lcL
    rw [h1]
    simp only [h2, h3, noex_ok, bind_ok, if_true, gT]
    rw [ih fun d hd => h d (List.mem_cons_of_mem _ hd)]
    rfl
theorem lcL_filter {items : List PV} {σ : Sl} {μ : Store} (p : PV → Bool) (f : PV → PV) (h : ∀ d ∈ items, ∃ σ1, asg T (.t d) σ = some σ1 ∧ test σ1 μ = .ok (p d) μ ∧ (p d = true → elt σ1 μ = .ok (.t (f d)) μ)) : lcL T test elt items σ μ = .ok ((items.filter p).map f) μ := by
  induction items with
  | nil => rfl
  | cons d ds ih =>
    obtain ⟨σ1, h1, h2, h3⟩ := h d List.mem_cons_self
    have ih := ih fun d hd => h d (List.mem_cons_of_mem _ hd)
    unfold lcL
    rw [h1]
    cases hp : p d with
    | true =>
      simp only [h2, h3 hp, hp, noex_ok, bind_ok, if_true, gT, ih]
      rw [List.filter_cons_of_pos hp]
      rfl
    | false =>
      simp only [h2, hp, noex_ok, bind_ok, Bool.false_eq_true, if_false, ih]
      rw [List.filter_cons_of_neg (by rw [hp]; exact Bool.false_ne_true)]
/-- .. while the store changes: what is kept of it, what is true of what comes -/
theorem lcL_inv {items : List PV} {σ : Sl} {μ : Store} (I : Nat → Store → Prop) (Q : PV → Prop) (h0 : I 0 μ) (h : ∀ (i : Nat) d μ, items[i]? = some d → I i μ → ∃ σ1 y μ2, asg T (.t d) σ = some σ1 ∧ test σ1 μ = .ok true μ ∧ elt σ1 μ = .ok (.t y) μ2 ∧ I (i + 1) μ2 ∧ Q y) : ∃ ys μ', lcL T test elt items σ μ = .ok ys μ' ∧ I items.length μ' ∧ ys.length = items.length ∧ ∀ y ∈ ys, Q y := by
  induction items generalizing μ I with
  | nil => exact ⟨[], μ, rfl, h0, rfl, fun y hy => nomatch hy⟩
  | cons d ds ih =>
    obtain ⟨σ1, y, μ2, h1, h2, h3, h4, h5⟩ := h 0 d μ rfl h0
    obtain ⟨ys, μ', k1, k2, k3, k4⟩ := ih (fun i => I (i + 1)) h4 fun i d μ hd hi => h (i + 1) d μ hd hi
    refine ⟨y :: ys, μ', ?_, k2, congrArg Nat.succ k3, fun z hz => (List.mem_cons.mp hz).elim (fun e => e ▸ h5) (k4 z)⟩
    unfold lcL
    rw [h1]
    simp only [h2, h3, noex_ok, bind_ok, if_true, gT, k1]
/-- a loop, by what is kept -/
theorem forL_inv {items : List PV} {σ : Sl} {μ : Store} (I : Nat → Sl → Store → Prop) (Post : RS → Prop) (h0 : I 0 σ μ)
    (step : ∀ (i : Nat) d σ μ, items[i]? = some d → I i σ μ → ∃ σ1, asg T (.t d) σ = some σ1 ∧ ((∃ σ2 μ2, (B σ1 μ = .nx σ2 μ2 ∨ B σ1 μ = .ct σ2 μ2) ∧ I (i + 1) σ2 μ2) ∨ (∃ w μ2, B σ1 μ = .rt w μ2 ∧ Post (.rt w μ2)) ∨ (∃ c f σ2 μ2, B σ1 μ = .ex c f σ2 μ2 ∧ Post (.ex c f σ2 μ2))))
    (last : ∀ σ μ, I items.length σ μ → Post (.nx σ μ)) : Post (forL T B items σ μ) := by
  induction items generalizing σ μ I with
  | nil => exact last σ μ h0
  | cons d ds ih =>
    obtain ⟨σ1, h1, h2⟩ := step 0 d σ μ rfl h0
    unfold forL
    rw [h1]
    rcases h2 with ⟨σ2, μ2, h2, h3⟩ | ⟨w, μ2, h2, h3⟩ | ⟨c, f, σ2, μ2, h2, h3⟩
    · have k := ih (fun i => I (i + 1)) h3 (fun i d σ μ hd hi => step (i + 1) d σ μ hd hi) last
      rcases h2 with h2 | h2 <;> simp only [h2] <;> exact k
    · simp only [h2]; exact h3
    · simp only [h2]; exact h3
end
/-! ### what is flat and not deep -/
def SD : Nat → PV → Prop
  | _, .non => True
  | _, .bl _ => True
  | _, .int _ => True
  | _, .str _ => True
  | n + 1, .tup l => l.length ≤ 100000 ∧ ∀ x ∈ l, SD n x
  | n + 1, .lst l => l.length ≤ 100000 ∧ ∀ x ∈ l, SD n x
  | _, _ => False
theorem flats_iff {l : List PV} : flats l = true ↔ ∀ x ∈ l, x.flat = true := by
  induction l with
  | nil => simp [flats]
  | cons a l ih => simp [flats, ih]
theorem datas_map (l : List PV) : datas l = l.map PV.data := by
  induction l with
  | nil => simp [datas]
  | cons a l ih => simp [datas, ih]
theorem depthAll_le {l : List PyData} {n : Nat} : PyData.depthAll l ≤ n ↔ ∀ x ∈ l, x.depth ≤ n := by
  induction l with
  | nil => simp [PyData.depthAll]
  | cons a l ih =>
    show max a.depth (PyData.depthAll l) ≤ n ↔ _
    rw [Nat.max_le, ih]
    simp
theorem SD_tup {n : Nat} {l : List PV} : SD (n + 1) (.tup l) ↔ l.length ≤ 100000 ∧ ∀ x ∈ l, SD n x := by rw [SD]
theorem SD_lst {n : Nat} {l : List PV} : SD (n + 1) (.lst l) ↔ l.length ≤ 100000 ∧ ∀ x ∈ l, SD n x := by rw [SD]
@[simp] theorem SD_int {n : Nat} {i : Int} : SD n (.int i) := by rw [SD]; trivial
@[simp] theorem SD_bl {n : Nat} {i : Bool} : SD n (.bl i) := by rw [SD]; trivial
@[simp] theorem SD_str {n : Nat} {i : Str} : SD n (.str i) := by rw [SD]; trivial
@[simp] theorem SD_non {n : Nat} : SD n .non := by rw [SD]; trivial
theorem SD_0t {l : List PV} : ¬ SD 0 (.tup l) := by rw [SD] <;> simp
theorem SD_0l {l : List PV} : ¬ SD 0 (.lst l) := by rw [SD] <;> simp
theorem SD_dic {n : Nat} {k l : List PV} : ¬ SD n (.dic k l) := by cases n <;> (rw [SD] <;> simp)
theorem SD_obj {n : Nat} {C : Str} {k : List Str} {l : List PV} : ¬ SD n (.obj C k l) := by cases n <;> (rw [SD] <;> simp)
theorem SD.tupE {n : Nat} {l : List PV} (h : SD n (.tup l)) : ∃ m, n = m + 1 ∧ l.length ≤ 100000 ∧ ∀ x ∈ l, SD m x := by
  cases n with
  | zero => exact absurd h SD_0t
  | succ m => exact ⟨m, rfl, SD_tup.mp h⟩
theorem SD.lstE {n : Nat} {l : List PV} (h : SD n (.lst l)) : ∃ m, n = m + 1 ∧ l.length ≤ 100000 ∧ ∀ x ∈ l, SD m x := by
  cases n with
  | zero => exact absurd h SD_0l
  | succ m => exact ⟨m, rfl, SD_lst.mp h⟩
theorem SD.fd {n : Nat} : ∀ {d : PV}, SD n d → d.flat = true ∧ d.data.depth ≤ n := by
  induction n with
  | zero =>
    intro d h
    cases d with
    | tup l => exact absurd h SD_0t
    | lst l => exact absurd h SD_0l
    | dic k l => exact absurd h SD_dic
    | obj C k l => exact absurd h SD_obj
    | _ => exact ⟨rfl, by simp only [PV.data]; exact Nat.zero_le _⟩
  | succ n ih =>
    intro d h
    cases d with
    | tup l =>
      have hl := (SD_tup.mp h).2
      refine ⟨by simp only [PV.flat]; exact flats_iff.mpr fun x hx => (ih (hl x hx)).1, ?_⟩
      have e : (PV.tup l).data.depth = PyData.depthAll (datas l) + 1 := by simp only [PV.data]; rfl
      rw [e, Nat.add_le_add_iff_right, depthAll_le, datas_map]
      intro x hx
      obtain ⟨y, hy, rfl⟩ := List.mem_map.mp hx
      exact (ih (hl y hy)).2
    | lst l =>
      have hl := (SD_lst.mp h).2
      refine ⟨by simp only [PV.flat]; exact flats_iff.mpr fun x hx => (ih (hl x hx)).1, ?_⟩
      have e : (PV.lst l).data.depth = PyData.depthAll (datas l) + 1 := by simp only [PV.data]; rfl
      rw [e, Nat.add_le_add_iff_right, depthAll_le, datas_map]
      intro x hx
      obtain ⟨y, hy, rfl⟩ := List.mem_map.mp hx
      exact (ih (hl y hy)).2
    | dic k l => exact absurd h SD_dic
    | obj C k l => exact absurd h SD_obj
    | _ => exact ⟨rfl, by simp only [PV.data]; exact Nat.zero_le _⟩
theorem SD.up {n m : Nat} {d : PV} (h : SD n d) (k : n ≤ m) : SD m d := by
  induction n generalizing m d with
  | zero => cases d <;> first | simp | exact absurd h SD_0t | exact absurd h SD_0l | exact absurd h SD_dic | exact absurd h SD_obj
  | succ n ih =>
    cases m with
    | zero => omega
    | succ m =>
      cases d with
      | tup l => rw [SD_tup] at h ⊢; exact ⟨h.1, fun x hx => ih (h.2 x hx) (by omega)⟩
      | lst l => rw [SD_lst] at h ⊢; exact ⟨h.1, fun x hx => ih (h.2 x hx) (by omega)⟩
      | dic k l => exact absurd h SD_dic
      | obj C k l => exact absurd h SD_obj
      | _ => simp
theorem SD.ok {n : Nat} {d : PV} (h : SD n d) (k : n ≤ 64 := by decide) : okD d = true := by
  unfold okD
  rw [h.fd.1, decide_eq_true (Nat.le_trans h.fd.2 k)]; rfl
theorem SD.ty {n : Nat} {d : PV} (h : SD n d) : tyN d ≠ none := by
  cases d <;> first | (intro z; cases z; done) | exact absurd h SD_obj
theorem SD_ints {n : Nat} {l : List Int} : ∀ x ∈ l.map PV.int, SD n x := fun x hx => by
  obtain ⟨i, _, rfl⟩ := List.mem_map.mp hx
  exact SD_int
theorem eq_ok {x y : PV} (hx : okD x = true) (hy : okD y = true) : eqV x y = some (.bl (eqB x y)) := by unfold eqV; rw [hx, hy]; rfl
theorem ne_ok {x y : PV} (hx : okD x = true) (hy : okD y = true) : neV x y = some (.bl (!eqB x y)) := by unfold neV; rw [hx, hy]; rfl
@[simp] theorem eqV_int {i j : Int} : eqV (.int i) (.int j) = some (.bl (decide (i = j))) := by
  rw [eq_ok (SD_int (n := 0)).ok (SD_int (n := 0)).ok]
  simp only [eqB, PV.data, PyData.eqv, Bool.beq_eq_decide_eq]
@[simp] theorem neV_int {i j : Int} : neV (.int i) (.int j) = some (.bl (!decide (i = j))) := by
  rw [ne_ok (SD_int (n := 0)).ok (SD_int (n := 0)).ok]
  simp only [eqB, PV.data, PyData.eqv, Bool.beq_eq_decide_eq]
/-! ### lists of ints -/
abbrev tupI (l : List Int) : PV := .tup (l.map .int)
abbrev lstI (l : List Int) : PV := .lst (l.map .int)
theorem atI_nat' {α : Type} {l : List α} {i : Nat} (h : i < l.length) : atI l (i : Int) = some l[i] := by
  have := WD.atI_ok (xs := l) (i := (i : Int)) (by omega) (by simpa using h)
  simpa using this
theorem at_int {l : List Int} {i : Nat} (h : i < l.length) : atI (l.map PV.int) (i : Int) = some (.int (l.getD i 0)) := by
  rw [atI_nat' (by rw [List.length_map]; exact h), List.getElem_map, List.getD_eq_getElem?_getD, List.getElem?_eq_getElem h]; rfl
/-! ### the well -/
abbrev wl (a b c : Int) : Option Cell := some (.lst [.int a, .int b, .int c])
def isThingB (n : Int) : PV → Bool
  | .int i => decide (0 ≤ i) && decide (i < n)
  | _ => false
end PM
namespace PM
open PySem PySem.Spec PyProof.Rows L2
@[simp] theorem plain_t {d : PV} : (Val.t d).plain = true := rfl
@[simp] theorem plain_c {k : Nat} : (Val.c k).plain = true := rfl
@[simp] theorem gCall_1 {fn : Fn} {d : PV} {μ : Store} : gCall 1 fn [.t d] μ = fn [.t d] μ := rfl
@[simp] theorem gCall_1c {fn : Fn} {k : Nat} {μ : Store} : gCall 1 fn [.c k] μ = fn [.c k] μ := rfl
@[simp] theorem gCall_2 {fn : Fn} {d e : PV} {μ : Store} : gCall 2 fn [.t d, .t e] μ = fn [.t d, .t e] μ := rfl
@[simp] theorem gCall_2c {fn : Fn} {k : Nat} {e : PV} {μ : Store} : gCall 2 fn [.c k, .t e] μ = fn [.c k, .t e] μ := rfl
@[simp] theorem gCall_3 {fn : Fn} {d e f : PV} {μ : Store} : gCall 3 fn [.t d, .t e, .t f] μ = fn [.t d, .t e, .t f] μ := rfl
@[simp] theorem gCall_3c {fn : Fn} {k : Nat} {e f : PV} {μ : Store} : gCall 3 fn [.c k, .t e, .t f] μ = fn [.c k, .t e, .t f] μ := rfl
@[simp] theorem gCall_4 {fn : Fn} {d e f g : PV} {μ : Store} : gCall 4 fn [.t d, .t e, .t f, .t g] μ = fn [.t d, .t e, .t f, .t g] μ := rfl
@[simp] theorem gCall_4c {fn : Fn} {k : Nat} {e f g : PV} {μ : Store} : gCall 4 fn [.c k, .t e, .t f, .t g] μ = fn [.c k, .t e, .t f, .t g] μ := rfl
/-- a def's run -/
theorem fn_rt {n : Nat} {b : MSt} {ws : List Val} {μ μ' : Store} {d : PV} (h : b (startM n ws) μ = .rt (.t d) μ') (hl : μ'.take μ.length = μ) : fnOf n b ws μ = .ok (.t d) μ := by
  unfold fnOf
  rw [h]
  show R.ok _ _ = _
  rw [hl]
@[simp] theorem endM_rt {n : Nat} {d : PV} {μ : Store} : endM n (.rt (.t d) μ) = .ok (.t d) (μ.take n) := rfl
@[simp] theorem endM_nx {n : Nat} {σ : Sl} {μ : Store} : endM n (.nx σ μ) = .ok (.t .non) (μ.take n) := rfl
@[simp] theorem endM_ex {n : Nat} {c : Str} {f} {σ : Sl} {μ : Store} : endM n (.ex c f σ μ) = .ex c f (μ.take n) := rfl
@[simp] theorem endM_rc {n k : Nat} {μ : Store} : endM n (.rt (.c k) μ) = fin n (.c k) μ := rfl
@[simp] theorem isTy_non {T : String} : isTy T .non = some (.bl (subT "NoneType" T)) := rfl
@[simp] theorem isTy_bl {T : String} {b : Bool} : isTy T (.bl b) = some (.bl (subT "bool" T)) := rfl
@[simp] theorem isTy_int {T : String} {b : Int} : isTy T (.int b) = some (.bl (subT "int" T)) := rfl
@[simp] theorem isTy_str {T : String} {b : Str} : isTy T (.str b) = some (.bl (subT "str" T)) := rfl
@[simp] theorem isTy_tup {T : String} {b : List PV} : isTy T (.tup b) = some (.bl (subT "tuple" T)) := rfl
@[simp] theorem isTy_lst {T : String} {b : List PV} : isTy T (.lst b) = some (.bl (subT "list" T)) := rfl
@[simp] theorem isTy_dic {T : String} {b c : List PV} : isTy T (.dic b c) = some (.bl (subT "dict" T)) := rfl
@[simp] theorem asg_nm {i : Nat} {w : Val} {σ : Sl} : asg (.nm i) w σ = some (σ.set i (some w)) := by unfold asg; rfl
@[simp] theorem asg_tp {ts : List Tgt} {ds : List PV} {σ : Sl} : asg (.tp ts) (.t (.tup ds)) σ = asgs ts ds σ := by
  rw [asg]
@[simp] theorem asgs_nil {σ : Sl} : asgs [] [] σ = some σ := by unfold asgs; rfl
@[simp] theorem asgs_cons {t : Tgt} {ts : List Tgt} {d : PV} {ds : List PV} {σ : Sl} : asgs (t :: ts) (d :: ds) σ = match asg t (.t d) σ with
    | some σ1 => asgs ts ds σ1
    | none => none := by first | (rw [asgs]; rfl) | rw [asgs]
@[simp] theorem sl_nm {i : Nat} : (Tgt.nm i).sl = [i] := by unfold Tgt.sl; rfl
@[simp] theorem sl_tp {ts : List Tgt} : (Tgt.tp ts).sl = sls ts := by unfold Tgt.sl; rfl
@[simp] theorem sls_nil : sls [] = [] := by unfold sls; rfl
@[simp] theorem sls_cons {t : Tgt} {ts : List Tgt} : sls (t :: ts) = t.sl ++ sls ts := by rw [sls]
@[simp] theorem asT_nil : asT [] = some [] := rfl
@[simp] theorem asT_cons {d : PV} {ws : List Val} : asT (.t d :: ws) = (asT ws).map (d :: ·) := rfl
theorem szL (n : Nat) (h : n ≤ 1000000 := by decide) : n ≤ sizeLine := by
  have := sizeLine_eq
  omega
@[simp] theorem gTup_0 {μ : Store} : gTup [] μ = .ok (.t (.tup [])) μ := rfl
@[simp] theorem gTup_1 {a : PV} {μ : Store} : gTup [.t a] μ = .ok (.t (.tup [a])) μ := gTup_ok rfl (szL 1)
@[simp] theorem gTup_2 {a b : PV} {μ : Store} : gTup [.t a, .t b] μ = .ok (.t (.tup [a, b])) μ := gTup_ok rfl (szL 2)
@[simp] theorem gTup_3 {a b c : PV} {μ : Store} : gTup [.t a, .t b, .t c] μ = .ok (.t (.tup [a, b, c])) μ := gTup_ok rfl (szL 3)
@[simp] theorem gTup_4 {a b c d : PV} {μ : Store} : gTup [.t a, .t b, .t c, .t d] μ = .ok (.t (.tup [a, b, c, d])) μ := gTup_ok rfl (szL 4)
@[simp] theorem gLst_0 {μ : Store} : gLst [] μ = .ok [] μ := rfl
@[simp] theorem gLst_1 {a : PV} {μ : Store} : gLst [.t a] μ = .ok [a] μ := gLst_ok rfl (szL 1)
@[simp] theorem gLst_2 {a b : PV} {μ : Store} : gLst [.t a, .t b] μ = .ok [a, b] μ := gLst_ok rfl (szL 2)
@[simp] theorem gLst_3 {a b c : PV} {μ : Store} : gLst [.t a, .t b, .t c] μ = .ok [a, b, c] μ := gLst_ok rfl (szL 3)
@[simp] theorem gLst_4 {a b c d : PV} {μ : Store} : gLst [.t a, .t b, .t c, .t d] μ = .ok [a, b, c, d] μ := gLst_ok rfl (szL 4)
@[simp] theorem gLst_5 {a b c d e : PV} {μ : Store} : gLst [.t a, .t b, .t c, .t d, .t e] μ = .ok [a, b, c, d, e] μ := gLst_ok rfl (szL 5)
@[simp] theorem gLst_6 {a b c d e f : PV} {μ : Store} : gLst [.t a, .t b, .t c, .t d, .t e, .t f] μ = .ok [a, b, c, d, e, f] μ := gLst_ok rfl (szL 6)
@[simp] theorem gLst_7 {a b c d e f g : PV} {μ : Store} : gLst [.t a, .t b, .t c, .t d, .t e, .t f, .t g] μ = .ok [a, b, c, d, e, f, g] μ := gLst_ok rfl (szL 7)
@[simp] theorem gLst_8 {a b c d e f g h : PV} {μ : Store} : gLst [.t a, .t b, .t c, .t d, .t e, .t f, .t g, .t h] μ = .ok [a, b, c, d, e, f, g, h] μ := gLst_ok rfl (szL 8)
theorem szF_ok {ds : List PV} {μ : Store} (h : ds.length ≤ sizeLine) : szF ds μ = .ok ds μ := if_pos h
theorem allV_map {α : Type} (l : List α) (f : α → Bool) : allV [.lst (l.map fun d => .bl (f d))] = some (.bl (l.all f)) := by
  have e : (l.map fun d => PV.bl (f d)) = (l.map f).map .bl := by rw [List.map_map]; rfl
  show (blsOf _).map _ = _
  rw [e, blsOf_map]
  simp [List.all_map]
theorem anyV_map {α : Type} (l : List α) (f : α → Bool) : anyV [.lst (l.map fun d => .bl (f d))] = some (.bl (l.any f)) := by
  have e : (l.map fun d => PV.bl (f d)) = (l.map f).map .bl := by rw [List.map_map]; rfl
  show (blsOf _).map _ = _
  rw [e, blsOf_map]
  simp [List.any_map]
def isIntB : PV → Bool
  | .int _ => true
  | _ => false
def isRowB (d : PV) (w n : Int) : Bool := match d with
  | .tup l => decide ((l.length : Int) = w) && l.all (isThingB n)
  | _ => false
theorem range1_ok {n : Nat} {μ : Store} (h : n ≤ 1000000) : gRange1 [.t (.int (n : Int))] μ = .ok (rgI 0 n) μ := by
  simp only [gRange1]
  rw [if_pos (bnd_of (by omega) (by omega)), Int.toNat_natCast]
theorem rgI_nat (n : Nat) : rgI 0 n = (List.range n).map fun (k : Nat) => .int (k : Int) := by
  unfold rgI
  simp only [Int.zero_add]
end PM
namespace PM
open PySem PySem.Spec PyProof.Rows L2
/-! ### lists of numbers: plain facts -/
theorem getD_mem {l : List Int} {i : Nat} (h : i < l.length) : l.getD i 0 ∈ l := by
  rw [List.getD_eq_getElem?_getD, List.getElem?_eq_getElem h]; exact List.getElem_mem h
def partB (l : List Int) : Bool := (List.range l.length).all fun i => decide (l.getD i 0 ≤ (i : Int)) && decide (l.getD (l.getD i 0).toNat 0 = l.getD i 0)
/-- a row of things -/
structure RowI (l : List Int) (n : Nat) : Prop where
  len : l.length = n
  inr : ∀ x ∈ l, 0 ≤ x ∧ x < n
theorem row_all {l : List Int} {n : Nat} (h : ∀ x ∈ l, 0 ≤ x ∧ x < (n : Int)) : (l.map PV.int).all (isThingB n) = true := by
  rw [List.all_map, List.all_eq_true]
  intro x hx
  have := h x hx
  simp [isThingB, this.1, this.2]
theorem isRow_tupI {l : List Int} {n : Nat} (h : RowI l n) : isRowB (tupI l) n n = true := by
  unfold isRowB
  simp only [List.length_map, h.len, decide_true, Bool.true_and]
  exact row_all h.inr
theorem SD_tupI {l : List Int} {k : Nat} (h : l.length ≤ 100000) : SD (k + 1) (tupI l) := SD_tup.mpr ⟨by rw [List.length_map]; exact h, SD_ints⟩
theorem enum_map (l : List Int) : enumP (l.map .int) = (List.range l.length).map fun (i : Nat) => PV.tup [.int (i : Int), .int (l.getD i 0)] := by
  refine List.ext_getElem? fun j => ?_
  unfold enumP
  rw [List.getElem?_zipWith, List.length_map, List.getElem?_map, List.getElem?_map]
  by_cases hj : j < l.length
  · rw [List.getElem?_range hj, List.getElem?_eq_getElem hj]
    simp [List.getD_eq_getElem?_getD, hj]
  · rw [List.getElem?_eq_none (l := l) (by omega)]
    simp [hj]
def natsPV (l : List Nat) : List PV := l.map fun (t : Nat) => .int (t : Int)
theorem nats_SD {k : Nat} {ts : List Nat} (h : ts.length ≤ 100000) : SD (k + 1) (.lst (natsPV ts)) := SD_lst.mpr ⟨by unfold natsPV; rw [List.length_map]; exact h, fun x hx => by
  obtain ⟨t, _, rfl⟩ := List.mem_map.mp hx
  exact SD_int⟩
theorem eqB_nil {ts : List PV} : eqB (.lst ts) (.lst []) = ts.isEmpty := by
  cases ts <;> simp [eqB, PV.data, datas, PyData.eqv, PyData.eqvAll]
theorem addF_ok {a b : List PV} (h : a.length + b.length ≤ 1000000) : addF (.lst a) (.lst b) = some (a ++ b) := if_pos (szL _ h)
theorem addV_lst {a b : List PV} (h : a.length + b.length ≤ 1000000) : addV (.lst a) (.lst b) = some (.lst (a ++ b)) := if_pos (szL _ h)
theorem addV_tup {a b : List PV} (h : a.length + b.length ≤ 1000000) : addV (.tup a) (.tup b) = some (.tup (a ++ b)) := if_pos (szL _ h)
theorem extF_ok {μ : Store} {k : Nat} {ds es : List PV} (h : μ[k]? = some (some (.lst ds))) (hl : ds.length + es.length ≤ 1000000) : gExt (.c k) [.t (.lst es)] μ = .ok (.t .non) (μ.set k (some (.lst (ds ++ es)))) := by
  simp only [gExt, lstAt, h, views, view]
  rw [if_pos (szL _ hl)]
theorem range_at {n i : Nat} {d : PV} (h : (rgI 0 n)[i]? = some d) : i < n ∧ d = .int (i : Int) := by
  rw [rgI_nat, List.getElem?_map] at h
  obtain ⟨b, hb, rfl⟩ := Option.map_eq_some_iff.mp h
  have hi : i < n := by
    have := (List.getElem?_eq_some_iff.mp hb).1
    simpa using this
  rw [List.getElem?_range hi] at hb
  cases hb
  exact ⟨hi, rfl⟩
theorem rgI_len (n : Nat) : (rgI 0 n).length = n := by unfold rgI; simp
theorem enumP_at {l : List PV} {i : Nat} {d : PV} (h : (enumP l)[i]? = some d) : ∃ z, l[i]? = some z ∧ d = .tup [.int (i : Int), z] := enum_at h
theorem inW_mod (x : Int) : inW (x % 2147483647) = true := by
  have h1 := Int.emod_nonneg x (b := 2147483647) (by decide)
  have h2 := Int.emod_lt_of_pos x (b := 2147483647) (by decide)
  exact Nat.ble_eq_true_of_le (by omega)
section
variable {T : Tgt} {B : MSt} {d : PV} {ds : List PV} {σ σ1 σ2 : Sl} {μ μ2 : Store}
theorem forL_nx (h1 : asg T (.t d) σ = some σ1) (h2 : B σ1 μ = .nx σ2 μ2) : forL T B (d :: ds) σ μ = forL T B ds σ2 μ2 := by rw [forL, h1]; simp only [h2]
theorem forL_ct (h1 : asg T (.t d) σ = some σ1) (h2 : B σ1 μ = .ct σ2 μ2) : forL T B (d :: ds) σ μ = forL T B ds σ2 μ2 := by rw [forL, h1]; simp only [h2]
theorem forL_rt {w : Val} (h1 : asg T (.t d) σ = some σ1) (h2 : B σ1 μ = .rt w μ2) : forL T B (d :: ds) σ μ = .rt w μ2 := by rw [forL, h1]; simp only [h2]
theorem forL_ex {c : Str} {f : Option (Str × PV)} (h1 : asg T (.t d) σ = some σ1) (h2 : B σ1 μ = .ex c f σ2 μ2) : forL T B (d :: ds) σ μ = .ex c f σ2 μ2 := by rw [forL, h1]; simp only [h2]
end
end PM
namespace K58
open PySem PySem.Spec PyProof.Rows L2 PM
def b__law_draw : MSt :=
  (sSeq (sIf (tVal (e2 (p2 gtV) (e2 (p2 atV) (eV 0) (eC (.int 0))) (eC (.int 0))))
      (sSeq (sAsg (.nm 2) (e2 (p2 modV) (e2 (p2 atV) (eV 0) (eC (.int 0))) (eV 1)))
    (sSeq (sSetL (e2 (p2 fdivV) (e2 (p2 atV) (eV 0) (eC (.int 0))) (eV 1)) (eV 0) (eC (.int 0)))
    (sRet (eV 2))))
      sPass)
    (sSeq (sSetL (e2 (p2 addV) (e2 (p2 atV) (eV 0) (eC (.int 2))) (eC (.int 1))) (eV 0) (eC (.int 2)))
    (sSeq (sAsg (.nm 3) (e2 (p2 modV) (e2 (p2 mulV) (e2 (p2 addV) (e2 (p2 addV) (e2 (p2 atV) (eV 0) (eC (.int 1))) (e2 (p2 mulV) (eC (.int 7907)) (e2 (p2 atV) (eV 0) (eC (.int 2))))) (eC (.int 3))) (eC (.int 48271))) (eC (.int 2147483647))))
    (sSeq (sAsg (.nm 3) (e2 (p2 modV) (e2 (p2 mulV) (eV 3) (e2 (p2 addV) (e2 (p2 fdivV) (eV 3) (eC (.int 1013))) (eC (.int 69621)))) (eC (.int 2147483647))))
    (sRet (e2 (p2 modV) (e2 (p2 modV) (e2 (p2 mulV) (eV 3) (e2 (p2 addV) (e2 (p2 fdivV) (eV 3) (eC (.int 2003))) (eC (.int 40692)))) (eC (.int 2147483399))) (eV 1)))))))
def fn__law_draw : Fn := fnOf 4 b__law_draw
def e1__law_of_marks : ME :=
  (eIndex (eV 0) (aCons (eV 1) aNil))
def b__law_of_marks : MSt :=
  (sRet (eN (pN tupleV) (aCons (eOfF (lcF (e1 gIt (eV 0)) (.nm 1) tYes' e1__law_of_marks)) aNil)))
def fn__law_of_marks : Fn := fnOf 2 b__law_of_marks
def e1__law_two : ME :=
  (eN (gCall 2 fn__law_draw) (aCons (eV 0) (aCons (eC (.int 3)) aNil)))
def e2__law_two : ME :=
  (eN (gCall 2 fn__law_draw) (aCons (eV 0) (aCons (eC (.int 3)) aNil)))
def e3__law_two : ME :=
  (eMut mPopAt (eV 6) (aCons (eN (gCall 2 fn__law_draw) (aCons (eV 0) (aCons (eN (pN lenV) (aCons (eV 6) aNil)) aNil))) aNil))
def e4__law_two : ME :=
  (e2 (p2 fdivV) (eV 9) (eV 3))
def e5__law_two : ME :=
  (e2 (p2 modV) (eV 9) (eV 3))
def b__law_two : MSt :=
  (sSeq (sAsg (.nm 2) (eN (gCall 2 fn__law_draw) (aCons (eV 0) (aCons (eC (.int 3)) aNil))))
    (sSeq (sAsg (.nm 3) (e2 (p2 addV) (eC (.int 1)) (eN (gCall 2 fn__law_draw) (aCons (eV 0) (aCons (eC (.int 3)) aNil)))))
    (sSeq (sAsg (.nm 4) (eOfF (lcF (eN gRange1 (aCons (eV 1) aNil)) (.nm 8) tYes' e1__law_two)))
    (sSeq (sAsg (.nm 5) (eOfF (lcF (eN gRange1 (aCons (eV 1) aNil)) (.nm 8) tYes' e2__law_two)))
    (sSeq (sAsg (.nm 6) (eCellF (e1 gLR1 (eV 1))))
    (sSeq (sAsg (.nm 7) (eOfF (lcF (eN gRange1 (aCons (eV 1) aNil)) (.nm 8) tYes' e3__law_two)))
    (sSeq (sIf (tVal (e2 (p2 gtV) (eV 2) (eC (.int 0))))
      (sSeq (sAsg (.nm 4) (eOfF (lcF (e1 gIt (eV 7)) (.nm 9) tYes' e4__law_two)))
    (sAsg (.nm 5) (eOfF (lcF (e1 gIt (eV 7)) (.nm 9) tYes' e5__law_two))))
      sPass)
    (sRet (eN gTup (aCons (eN (gCall 1 fn__law_of_marks) (aCons (eV 4) aNil)) (aCons (eN (gCall 1 fn__law_of_marks) (aCons (eV 5) aNil)) aNil)))))))))))
def fn__law_two : Fn := fnOf 10 b__law_two
def t1__law_amid : Sl → Store → R Bool :=
  (tAnd' (tVal (e2 (p2 eqV) (e2 (p2 atV) (eV 0) (eV 4)) (e2 (p2 atV) (eV 0) (eV 2)))) (tVal (e2 (p2 eqV) (e2 (p2 atV) (eV 1) (eV 4)) (e2 (p2 atV) (eV 1) (eV 3)))))
def e1__law_amid : ME :=
  (eV 4)
def b__law_amid : MSt :=
  (sRet (eOfF (lcF (eN gRange1 (aCons (eN (pN lenV) (aCons (eV 0) aNil)) aNil)) (.nm 4) t1__law_amid e1__law_amid)))
def fn__law_amid : Fn := fnOf 5 b__law_amid
def t1__law_pairs : Sl → Store → R Bool :=
  (tVal (e2 (p2 neV) (eN (gCall 4 fn__law_amid) (aCons (eV 0) (aCons (eV 1) (aCons (eV 3) (aCons (eV 4) aNil))))) (eOfF (eN gLst aNil))))
def e1__law_pairs : ME :=
  (eN gTup (aCons (eV 3) (aCons (eV 4) aNil)))
def f1__law_pairs : MSt :=
  (sAsg (.nm 2) (eOfF (e2 (pf2 addF) (eV 2) (eOfF (lcF (eN gRange1 (aCons (eN (pN lenV) (aCons (eV 0) aNil)) aNil)) (.nm 4) t1__law_pairs e1__law_pairs)))))
def b__law_pairs : MSt :=
  (sSeq (sAsg (.nm 2) (eOfF (eN gLst aNil)))
    (sSeq (sFor (eN gRange1 (aCons (eN (pN lenV) (aCons (eV 0) aNil)) aNil)) (.nm 3) f1__law_pairs)
    (sRet (eV 2))))
def fn__law_pairs : Fn := fnOf 5 b__law_pairs
def f1__law_list : MSt :=
  (sSeq (sAsg (.nm 8) (eOfF (e2 (pf2 addF) (eN (gCall 4 fn__law_amid) (aCons (eV 2) (aCons (eV 1) (aCons (eV 6) (aCons (eV 7) aNil))))) (eOfF (eN gLst (aCons (eV 6) aNil))))))
    (sExp (eMut mAppend (eV 5) (aCons (eN gTup (aCons (eV 6) (aCons (eV 7) (aCons (e2 (p2 atV) (eV 8) (eN (gCall 2 fn__law_draw) (aCons (eV 0) (aCons (eN (pN maxV) (aCons (eC (.int 1)) (aCons (e2 (p2 subV) (eN (pN lenV) (aCons (eV 8) aNil)) (eC (.int 1))) aNil))) aNil)))) aNil)))) aNil))))
def b__law_list : MSt :=
  (sSeq (sAsg (.nm 3) (eN (gCall 2 fn__law_draw) (aCons (eV 0) (aCons (eC (.int 7)) aNil))))
    (sSeq (sAsg (.nm 4) (eN (gCall 2 fn__law_draw) (aCons (eV 0) (aCons (eC (.int 100003)) aNil))))
    (sSeq (sAsg (.nm 5) (eCellF (eN gLst aNil)))
    (sSeq (sFor (e1 gIt (eN (gCall 2 fn__law_pairs) (aCons (eV 1) (aCons (eV 2) aNil)))) (.tp [(.nm 6), (.nm 7)]) f1__law_list)
    (sSeq (sAsg (.nm 9) (e2 (p2 modV) (eV 4) (e2 (p2 addV) (eN (pN lenV) (aCons (eV 5) aNil)) (eC (.int 1)))))
    (sSeq (sAsg (.nm 10) (e2 (p2 atV) (eOfF (e2 (pf2 addF) (eV 5) (eOfF (eN gLst (aCons (eN gTup (aCons (eC (.int 0)) (aCons (eC (.int 0)) (aCons (eC (.int 0)) aNil)))) aNil))))) (eV 9)))
    (sSeq (sIf (tVal (e2 (p2 eqV) (eV 3) (eC (.int 1))))
      (sRet (e2 (p2 addV) (eSl (fun l h => p1 (slV l h)) (eV 5) oNone (oSome (eV 9))) (eSl (fun l h => p1 (slV l h)) (eV 5) (oSome (e2 (p2 addV) (eV 9) (eC (.int 1)))) oNone)))
      sPass)
    (sSeq (sIf (tVal (e2 (p2 eqV) (eV 3) (eC (.int 2))))
      (sRet (eOfF (e2 (pf2 addF) (eOfF (e2 (pf2 addF) (eSl (fun l h => p1 (slV l h)) (eV 5) oNone (oSome (eV 9))) (eOfF (eN gLst (aCons (eV 10) aNil))))) (eSl (fun l h => p1 (slV l h)) (eV 5) (oSome (eV 9)) oNone))))
      sPass)
    (sSeq (sIf (tVal (e2 (p2 eqV) (eV 3) (eC (.int 3))))
      (sRet (e2 (p2 addV) (e2 (p2 addV) (eSl (fun l h => p1 (slV l h)) (eV 5) oNone (oSome (eV 9))) (e1 (p1 revV) (eSl (fun l h => p1 (slV l h)) (eV 5) (oSome (eV 9)) (oSome (e2 (p2 addV) (eV 9) (eC (.int 2))))))) (eSl (fun l h => p1 (slV l h)) (eV 5) (oSome (e2 (p2 addV) (eV 9) (eC (.int 2)))) oNone)))
      sPass)
    (sSeq (sIf (tVal (e2 (p2 eqV) (eV 3) (eC (.int 4))))
      (sSeq (sAsg (.nm 11) (eCellF (eN (pfN listF) (aCons (eV 10) aNil))))
    (sSeq (sSetL (e2 (p2 atV) (eOfF (eN gLst (aCons (e2 (p2 modV) (e2 (p2 fdivV) (eV 4) (eC (.int 21))) (eN (pN lenV) (aCons (eV 1) aNil))) (aCons (eC (.bl true)) (aCons (e1 (p1 negV) (eC (.int 1))) (aCons (eN (pN lenV) (aCons (eV 1) aNil)) (aCons (eC .non) aNil))))))) (e2 (p2 modV) (e2 (p2 fdivV) (eV 4) (eC (.int 210))) (eC (.int 5)))) (eV 11) (e2 (p2 modV) (e2 (p2 fdivV) (eV 4) (eC (.int 7))) (eC (.int 3))))
    (sRet (eOfF (e2 (pf2 addF) (eOfF (e2 (pf2 addF) (eSl (fun l h => p1 (slV l h)) (eV 5) oNone (oSome (eV 9))) (eOfF (eN gLst (aCons (eN (pN tupleV) (aCons (eV 11) aNil)) aNil))))) (eSl (fun l h => p1 (slV l h)) (eV 5) (oSome (e2 (p2 addV) (eV 9) (eC (.int 1)))) oNone))))))
      sPass)
    (sSeq (sIf (tVal (e2 (p2 eqV) (eV 3) (eC (.int 5))))
      (sSeq (sAsg (.nm 12) (e2 (p2 atV) (eOfF (eN gLst (aCons (eOfF (eN (pfN listF) (aCons (eV 10) aNil))) (aCons (eSl (fun l h => p1 (slV l h)) (eV 10) oNone (oSome (eC (.int 2)))) (aCons (e2 (p2 addV) (eV 10) (eN gTup (aCons (eC (.int 0)) aNil))) (aCons (eC .non) (aCons (eN gTup aNil) (aCons (e1 (p1 revV) (eV 10)) aNil)))))))) (e2 (p2 modV) (e2 (p2 fdivV) (eV 4) (eC (.int 11))) (eC (.int 6)))))
    (sRet (eOfF (e2 (pf2 addF) (eOfF (e2 (pf2 addF) (eSl (fun l h => p1 (slV l h)) (eV 5) oNone (oSome (eV 9))) (eOfF (eN gLst (aCons (eV 12) aNil))))) (eSl (fun l h => p1 (slV l h)) (eV 5) (oSome (e2 (p2 addV) (eV 9) (eC (.int 1)))) oNone)))))
      sPass)
    (sSeq (sFrz 5) (sRet (eV 5))))))))))))))
def fn__law_list : Fn := fnOf 13 b__law_list
def t1__law_three : Sl → Store → R Bool :=
  (tVal (e2 (p2 eqV) (e2 (p2 atV) (eV 1) (eV 8)) (e2 (p2 atV) (eV 1) (eV 4))))
def e1__law_three : ME :=
  (eV 8)
def t2__law_three : Sl → Store → R Bool :=
  (tVal (e2 (p2 eqV) (e2 (p2 atV) (eV 2) (eV 8)) (e2 (p2 atV) (eV 2) (eV 6))))
def e2__law_three : ME :=
  (eV 8)
def b__law_three : MSt :=
  (sSeq (sAsg (.nm 3) (eN (gCall 2 fn__law_draw) (aCons (eV 0) (aCons (eC (.int 8)) aNil))))
    (sSeq (sAsg (.nm 4) (eN (gCall 2 fn__law_draw) (aCons (eV 0) (aCons (eN (pN lenV) (aCons (eV 1) aNil)) aNil))))
    (sSeq (sAsg (.nm 5) (eOfF (lcF (eN gRange1 (aCons (eN (pN lenV) (aCons (eV 1) aNil)) aNil)) (.nm 8) t1__law_three e1__law_three)))
    (sSeq (sAsg (.nm 6) (e2 (p2 atV) (eV 5) (eN (gCall 2 fn__law_draw) (aCons (eV 0) (aCons (eN (pN lenV) (aCons (eV 5) aNil)) aNil)))))
    (sSeq (sAsg (.nm 5) (eOfF (lcF (eN gRange1 (aCons (eN (pN lenV) (aCons (eV 1) aNil)) aNil)) (.nm 8) t2__law_three e2__law_three)))
    (sSeq (sAsg (.nm 7) (eCellF (eN gLst (aCons (eV 4) (aCons (eV 6) (aCons (e2 (p2 atV) (eV 5) (eN (gCall 2 fn__law_draw) (aCons (eV 0) (aCons (eN (pN lenV) (aCons (eV 5) aNil)) aNil)))) aNil))))))
    (sSeq (sIf (tVal (e2 (p2 ltV) (eV 3) (eC (.int 3))))
      (sSetL (eN (gCall 2 fn__law_draw) (aCons (eV 0) (aCons (eN (pN lenV) (aCons (eV 1) aNil)) aNil))) (eV 7) (eV 3))
      sPass)
    (sSeq (sIf (tVal (e2 (p2 eqV) (eV 3) (eC (.int 3))))
      (sSetL (e2 (p2 atV) (eOfF (eN gLst (aCons (eC (.bl true)) (aCons (e1 (p1 negV) (eC (.int 1))) (aCons (eN (pN lenV) (aCons (eV 1) aNil)) (aCons (eC .non) aNil)))))) (eN (gCall 2 fn__law_draw) (aCons (eV 0) (aCons (eC (.int 4)) aNil)))) (eV 7) (eN (gCall 2 fn__law_draw) (aCons (eV 0) (aCons (eC (.int 3)) aNil))))
      sPass)
    (sSeq (sFrz 7) (sRet (e2 (p2 atV) (eOfF (eN gLst (aCons (eN (pN tupleV) (aCons (eV 7) aNil)) (aCons (eV 7) (aCons (eN (pN tupleV) (aCons (eSl (fun l h => p1 (slV l h)) (eV 7) oNone (oSome (eC (.int 2)))) aNil)) aNil))))) (e2 (p2 atV) (eOfF (eN gLst (aCons (eC (.int 0)) (aCons (eC (.int 0)) (aCons (eC (.int 0)) (aCons (eC (.int 0)) (aCons (eC (.int 0)) (aCons (eC (.int 0)) (aCons (eC (.int 1)) (aCons (eC (.int 2)) aNil)))))))))) (eV 3)))))))))))))
def fn__law_three : Fn := fnOf 9 b__law_three
def b__law_is_thing : MSt :=
  (sRet (eAnd (e1 (p1 (isTy "int")) (eV 0)) (eAnd (eNot (e1 (p1 (isTy "bool")) (eV 0))) (eChain leV ltV (eC (.int 0)) (eV 0) (eV 1)))))
def fn__law_is_thing : Fn := fnOf 2 b__law_is_thing
def e1__law_are_three : ME :=
  (eN (gCall 2 fn__law_is_thing) (aCons (eV 2) (aCons (eV 0) aNil)))
def b__law_are_three : MSt :=
  (sRet (eAnd (e1 (p1 (isTy "tuple")) (eV 1)) (eAnd (e2 (p2 eqV) (eN (pN lenV) (aCons (eV 1) aNil)) (eC (.int 3))) (eN (pN allV) (aCons (eOfF (lcF (e1 gIt (eV 1)) (.nm 2) tYes' e1__law_are_three)) aNil)))))
def fn__law_are_three : Fn := fnOf 3 b__law_are_three
def f1__law_due_of_yes : MSt :=
  (sSeq (sIf (tOr' (tVal (e2 (p2 eqV) (eV 4) (eN (pN lenV) (aCons (eV 2) aNil)))) (tOr' (tNot' (tVal (eN (gCall 2 fn__law_are_three) (aCons (eN (pN lenV) (aCons (eV 0) aNil)) (aCons (e2 (p2 atV) (eV 2) (eV 4)) aNil))))) (tVal (e2 (p2 neV) (eSl (fun l h => p1 (slV l h)) (e2 (p2 atV) (eV 2) (eV 4)) oNone (oSome (eC (.int 2)))) (eV 5)))))
      (sRet (eV 4))
      sPass)
    (sIf (tVal (e2 (p2 notInPV) (e2 (p2 atV) (e2 (p2 atV) (eV 2) (eV 4)) (eC (.int 2))) (eN (gCall 4 fn__law_amid) (aCons (eV 1) (aCons (eV 0) (aCons (e2 (p2 atV) (eV 5) (eC (.int 0))) (aCons (e2 (p2 atV) (eV 5) (eC (.int 1))) aNil)))))))
      (sRet (eV 4))
      sPass))
def b__law_due_of_yes : MSt :=
  (sSeq (sAsg (.nm 3) (eN (gCall 2 fn__law_pairs) (aCons (eV 0) (aCons (eV 1) aNil))))
    (sSeq (sFor (eN gEnum (aCons (eV 3) aNil)) (.tp [(.nm 4), (.nm 5)]) f1__law_due_of_yes)
    (sRet (e2 (p2 atV) (eOfF (eN gLst (aCons (eC .non) (aCons (eN (pN lenV) (aCons (eV 3) aNil)) aNil)))) (eN (pN intV) (aCons (e2 (p2 gtV) (eN (pN lenV) (aCons (eV 2) aNil)) (eN (pN lenV) (aCons (eV 3) aNil))) aNil))))))
def fn__law_due_of_yes : Fn := fnOf 6 b__law_due_of_yes
def b__law_due_of_no : MSt :=
  (sSeq (sAsg (.tp [(.nm 3), (.nm 4), (.nm 5)]) (eV 2))
    (sSeq (sIf (tVal (e2 (p2 neV) (e2 (p2 atV) (eV 0) (eV 3)) (e2 (p2 atV) (eV 0) (eV 4))))
      (sRet (eC (.int 0)))
      sPass)
    (sSeq (sIf (tVal (e2 (p2 neV) (e2 (p2 atV) (eV 1) (eV 4)) (e2 (p2 atV) (eV 1) (eV 5))))
      (sRet (eC (.int 1)))
      sPass)
    (sRet (e2 (p2 atV) (eOfF (eN gLst (aCons (eC .non) (aCons (eC (.int 2)) aNil)))) (eN (pN intV) (aCons (e2 (p2 neV) (eN (gCall 4 fn__law_amid) (aCons (eV 1) (aCons (eV 0) (aCons (eV 3) (aCons (eV 5) aNil))))) (eOfF (eN gLst aNil))) aNil)))))))
def fn__law_due_of_no : Fn := fnOf 6 b__law_due_of_no
def b__law_due : MSt :=
  (sSeq (sIf (tOr' (tNot' (tVal (e1 (p1 (isTy "tuple")) (eV 2)))) (tVal (e2 (p2 neV) (eN (pN lenV) (aCons (eV 2) aNil)) (eC (.int 2)))))
      (sRet (e1 (p1 negV) (eC (.int 1))))
      sPass)
    (sSeq (sIf (tAnd' (tVal (e2 (p2 eqV) (e2 (p2 atV) (eV 2) (eC (.int 0))) (eC (.str "yes")))) (tVal (e1 (p1 (isTy "list")) (e2 (p2 atV) (eV 2) (eC (.int 1))))))
      (sRet (eN (gCall 3 fn__law_due_of_yes) (aCons (eV 0) (aCons (eV 1) (aCons (e2 (p2 atV) (eV 2) (eC (.int 1))) aNil)))))
      sPass)
    (sSeq (sIf (tAnd' (tVal (e2 (p2 eqV) (e2 (p2 atV) (eV 2) (eC (.int 0))) (eC (.str "no")))) (tVal (eN (gCall 2 fn__law_are_three) (aCons (eN (pN lenV) (aCons (eV 0) aNil)) (aCons (e2 (p2 atV) (eV 2) (eC (.int 1))) aNil)))))
      (sRet (eN (gCall 3 fn__law_due_of_no) (aCons (eV 0) (aCons (eV 1) (aCons (e2 (p2 atV) (eV 2) (eC (.int 1))) aNil)))))
      sPass)
    (sRet (e1 (p1 negV) (eC (.int 1)))))))
def fn__law_due : Fn := fnOf 3 b__law_due
def b_is_whole : MSt :=
  (sRet (eAnd (e1 (p1 (isTy "int")) (eV 0)) (eNot (e1 (p1 (isTy "bool")) (eV 0)))))
def fn_is_whole : Fn := fnOf 1 b_is_whole
def b_is_thing : MSt :=
  (sRet (eAnd (eN (gCall 1 fn_is_whole) (aCons (eV 0) aNil)) (eChain leV ltV (eC (.int 0)) (eV 0) (eV 1))))
def fn_is_thing : Fn := fnOf 2 b_is_thing
def e1_is_row : ME :=
  (eN (gCall 2 fn_is_thing) (aCons (eV 3) (aCons (eV 2) aNil)))
def b_is_row : MSt :=
  (sRet (eAnd (e1 (p1 (isTy "tuple")) (eV 0)) (eAnd (e2 (p2 eqV) (eN (pN lenV) (aCons (eV 0) aNil)) (eV 1)) (eN (pN allV) (aCons (eOfF (lcF (e1 gIt (eV 0)) (.nm 3) tYes' e1_is_row)) aNil)))))
def fn_is_row : Fn := fnOf 4 b_is_row
def e1_is_parting : ME :=
  (eAnd (e2 (p2 leV) (eV 3) (eV 2)) (e2 (p2 eqV) (e2 (p2 atV) (eV 0) (eV 3)) (eV 3)))
def b_is_parting : MSt :=
  (sSeq (sIf (tNot' (tVal (eN (gCall 3 fn_is_row) (aCons (eV 0) (aCons (eV 1) (aCons (eV 1) aNil))))))
      (sRet (eC (.bl false)))
      sPass)
    (sRet (eN (pN allV) (aCons (eOfF (lcF (eN gEnum (aCons (eV 0) aNil)) (.tp [(.nm 2), (.nm 3)]) tYes' e1_is_parting)) aNil))))
def fn_is_parting : Fn := fnOf 4 b_is_parting
def b_check_two : MSt :=
  (sIf (tOr' (tNot' (tVal (e1 (p1 (isTy "tuple")) (eV 0)))) (tOr' (tNot' (tVal (eN (gCall 2 fn_is_parting) (aCons (eV 0) (aCons (eN (pN lenV) (aCons (eV 0) aNil)) aNil))))) (tNot' (tVal (eN (gCall 2 fn_is_parting) (aCons (eV 1) (aCons (eN (pN lenV) (aCons (eV 0) aNil)) aNil)))))))
      (sRaise "NoFolding" "at" (aCons (e1 (p1 negV) (eC (.int 1))) aNil))
      sPass)
def fn_check_two : Fn := fnOf 2 b_check_two
def f1_amid_of : MSt :=
  (sIf (tAnd' (tVal (e2 (p2 eqV) (e2 (p2 atV) (eV 0) (eV 4)) (e2 (p2 atV) (eV 0) (eV 2)))) (tVal (e2 (p2 eqV) (e2 (p2 atV) (eV 1) (eV 4)) (e2 (p2 atV) (eV 1) (eV 3)))))
      (sRet (eV 4))
      sPass)
def b_amid_of : MSt :=
  (sSeq (sFor (eN gRange1 (aCons (eN (pN lenV) (aCons (eV 0) aNil)) aNil)) (.nm 4) f1_amid_of)
    (sRet (eC .non)))
def fn_amid_of : Fn := fnOf 5 b_amid_of
def t1_ends_led : Sl → Store → R Bool :=
  (tVal (e2 (p2 isntV) (eN (gCall 4 fn_amid_of) (aCons (eV 0) (aCons (eV 1) (aCons (eV 3) (aCons (eV 5) aNil))))) (eC .non)))
def e1_ends_led : ME :=
  (eV 5)
def e2_ends_led : ME :=
  (eN gTup (aCons (eV 3) (aCons (eV 5) aNil)))
def f1_ends_led : MSt :=
  (sSeq (sAsg (.nm 4) (eOfF (lcF (eN gRange1 (aCons (eN (pN lenV) (aCons (eV 0) aNil)) aNil)) (.nm 5) t1_ends_led e1_ends_led)))
    (sExp (eExt (eV 2) (aCons (eOfF (lcF (e1 gIt (eV 4)) (.nm 5) tYes' e2_ends_led)) aNil))))
def b_ends_led : MSt :=
  (sSeq (sAsg (.nm 2) (eCellF (eN gLst aNil)))
    (sSeq (sFor (eN gRange1 (aCons (eN (pN lenV) (aCons (eV 0) aNil)) aNil)) (.nm 3) f1_ends_led)
    (sSeq (sFrz 2) (sRet (eV 2)))))
def fn_ends_led : Fn := fnOf 6 b_ends_led
def f1_check_yes : MSt :=
  (sSeq (sIf (tOr' (tVal (e2 (p2 eqV) (eV 4) (eN (pN lenV) (aCons (eV 2) aNil)))) (tOr' (tNot' (tVal (eN (gCall 3 fn_is_row) (aCons (e2 (p2 atV) (eV 2) (eV 4)) (aCons (eC (.int 3)) (aCons (eN (pN lenV) (aCons (eV 0) aNil)) aNil)))))) (tVal (e2 (p2 neV) (eSl (fun l h => p1 (slV l h)) (e2 (p2 atV) (eV 2) (eV 4)) oNone (oSome (eC (.int 2)))) (eN gTup (aCons (eV 5) (aCons (eV 6) aNil)))))))
      (sRaise "NoPaper" "at" (aCons (eV 4) aNil))
      sPass)
    (sSeq (sAsg (.nm 7) (e2 (p2 atV) (e2 (p2 atV) (eV 2) (eV 4)) (eC (.int 2))))
    (sIf (tOr' (tVal (e2 (p2 neV) (e2 (p2 atV) (eV 1) (eV 7)) (e2 (p2 atV) (eV 1) (eV 5)))) (tVal (e2 (p2 neV) (e2 (p2 atV) (eV 0) (eV 7)) (e2 (p2 atV) (eV 0) (eV 6)))))
      (sRaise "NoPaper" "at" (aCons (eV 4) aNil))
      sPass)))
def b_check_yes : MSt :=
  (sSeq (sAsg (.nm 3) (eN (gCall 2 fn_ends_led) (aCons (eV 0) (aCons (eV 1) aNil))))
    (sSeq (sFor (eN gEnum (aCons (eV 3) aNil)) (.tp [(.nm 4), (.tp [(.nm 5), (.nm 6)])]) f1_check_yes)
    (sIf (tVal (e2 (p2 gtV) (eN (pN lenV) (aCons (eV 2) aNil)) (eN (pN lenV) (aCons (eV 3) aNil))))
      (sRaise "NoPaper" "at" (aCons (eN (pN lenV) (aCons (eV 3) aNil)) aNil))
      sPass)))
def fn_check_yes : Fn := fnOf 8 b_check_yes
def b_check_no : MSt :=
  (sSeq (sAsg (.tp [(.nm 3), (.nm 4), (.nm 5)]) (eV 2))
    (sSeq (sIf (tVal (e2 (p2 neV) (e2 (p2 atV) (eV 0) (eV 3)) (e2 (p2 atV) (eV 0) (eV 4))))
      (sRaise "NoPaper" "at" (aCons (eC (.int 0)) aNil))
      sPass)
    (sSeq (sIf (tVal (e2 (p2 neV) (e2 (p2 atV) (eV 1) (eV 4)) (e2 (p2 atV) (eV 1) (eV 5))))
      (sRaise "NoPaper" "at" (aCons (eC (.int 1)) aNil))
      sPass)
    (sIf (tVal (e2 (p2 isntV) (eN (gCall 4 fn_amid_of) (aCons (eV 1) (aCons (eV 0) (aCons (eV 3) (aCons (eV 5) aNil))))) (eC .non)))
      (sRaise "NoPaper" "at" (aCons (eC (.int 2)) aNil))
      sPass))))
def fn_check_no : Fn := fnOf 6 b_check_no
def b_check_permuted : MSt :=
  (sSeq (sExp (eN (gCall 2 fn_check_two) (aCons (eV 0) (aCons (eV 1) aNil))))
    (sSeq (sIf (tOr' (tNot' (tVal (e1 (p1 (isTy "tuple")) (eV 2)))) (tVal (e2 (p2 neV) (eN (pN lenV) (aCons (eV 2) aNil)) (eC (.int 2)))))
      (sRaise "NoPaper" "at" (aCons (e1 (p1 negV) (eC (.int 1))) aNil))
      sPass)
    (sIf (tAnd' (tVal (e2 (p2 eqV) (e2 (p2 atV) (eV 2) (eC (.int 0))) (eC (.str "yes")))) (tVal (e1 (p1 (isTy "list")) (e2 (p2 atV) (eV 2) (eC (.int 1))))))
      (sExp (eN (gCall 3 fn_check_yes) (aCons (eV 0) (aCons (eV 1) (aCons (e2 (p2 atV) (eV 2) (eC (.int 1))) aNil)))))
      (sIf (tAnd' (tVal (e2 (p2 eqV) (e2 (p2 atV) (eV 2) (eC (.int 0))) (eC (.str "no")))) (tVal (eN (gCall 3 fn_is_row) (aCons (e2 (p2 atV) (eV 2) (eC (.int 1))) (aCons (eC (.int 3)) (aCons (eN (pN lenV) (aCons (eV 0) aNil)) aNil))))))
      (sExp (eN (gCall 3 fn_check_no) (aCons (eV 0) (aCons (eV 1) (aCons (e2 (p2 atV) (eV 2) (eC (.int 1))) aNil)))))
      (sRaise "NoPaper" "at" (aCons (e1 (p1 negV) (eC (.int 1))) aNil))))))
def fn_check_permuted : Fn := fnOf 3 b_check_permuted
def b__law_said : MSt :=
  (sSeq (sAsg (.nm 3) (eC (.str "else")))
    (sSeq (sTry (sAsg (.nm 3) (eN (gCall 3 fn_check_permuted) (aCons (eV 0) (aCons (eV 1) (aCons (eV 2) aNil))))) [⟨"NoPaper", ["NoPaper"], ["NoFolding"], 4, (sAsg (.nm 3) (eN gTup (aCons (eC (.str "no paper")) (aCons (e1 (gXf ["NoPaper"] "at") (eV 4)) (aCons (eAnd (e1 (gIsX [("NoPaper", true)]) (eV 4)) (eNot (e1 (gIsX [("NoPaper", false)]) (eV 4)))) aNil)))))⟩])
    (sRet (eV 3))))
def fn__law_said : Fn := fnOf 5 b__law_said
def f1__law_right : MSt :=
  (sSeq (sAsg (.nm 3) (eN (gCall 2 fn__law_draw) (aCons (eV 0) (aCons (eC (.int 12)) aNil))))
    (sSeq (sAsg (.tp [(.nm 4), (.nm 5)]) (eN (gCall 2 fn__law_two) (aCons (eV 0) (aCons (eV 1) aNil))))
    (sSeq (sIf (tVal (e2 (p2 eqV) (e2 (p2 modV) (eV 2) (eC (.int 2))) (eC (.int 0))))
      (sAsg (.nm 6) (eN gTup (aCons (eC (.str "yes")) (aCons (eN (gCall 3 fn__law_list) (aCons (eV 0) (aCons (eV 4) (aCons (eV 5) aNil)))) aNil))))
      (sAsg (.nm 6) (eN gTup (aCons (eC (.str "no")) (aCons (eN (gCall 3 fn__law_three) (aCons (eV 0) (aCons (eV 4) (aCons (eV 5) aNil)))) aNil)))))
    (sSeq (sIf (tVal (e2 (p2 ltV) (eV 3) (eC (.int 5))))
      (sSeq (sAsg (.nm 7) (e2 (p2 atV) (eOfF (eN gLst (aCons (eC (.str "no")) (aCons (eC (.str "yes")) aNil)))) (e2 (p2 modV) (eV 2) (eC (.int 2)))))
    (sAsg (.nm 6) (e2 (p2 atV) (eOfF (eN gLst (aCons (eC .non) (aCons (eOfF (eN (pfN listF) (aCons (eV 6) aNil))) (aCons (e2 (p2 addV) (eV 6) (eN gTup (aCons (eC (.int 0)) aNil))) (aCons (eN gTup (aCons (eC (.str "maybe")) (aCons (e2 (p2 atV) (eV 6) (eC (.int 1))) aNil))) (aCons (eN gTup (aCons (eV 7) (aCons (e2 (p2 atV) (eV 6) (eC (.int 1))) aNil))) aNil))))))) (eV 3))))
      sPass)
    (sSeq (sAsg (.nm 8) (eN (gCall 3 fn__law_due) (aCons (eV 4) (aCons (eV 5) (aCons (eV 6) aNil)))))
    (sSeq (sIf (tVal (e2 (p2 neV) (eN (gCall 3 fn__law_said) (aCons (eV 4) (aCons (eV 5) (aCons (eV 6) aNil)))) (e2 (p2 atV) (eOfF (eN gLst (aCons (eN gTup (aCons (eC (.str "no paper")) (aCons (eV 8) (aCons (eC (.bl true)) aNil)))) (aCons (eC .non) aNil)))) (eN (pN intV) (aCons (e2 (p2 isV) (eV 8) (eC .non)) aNil)))))
      (sRet (eC (.bl false)))
      sPass)
    (sIf (tVal (e2 (p2 neV) (eV 8) (eN (gCall 3 fn__law_due) (aCons (eV 4) (aCons (eV 5) (aCons (eV 6) aNil))))))
      (sRet (eC (.bl false)))
      sPass)))))))
def b__law_right : MSt :=
  (sSeq (sAsg (.nm 1) (e2 (p2 addV) (eC (.int 1)) (eN (gCall 2 fn__law_draw) (aCons (eV 0) (aCons (eC (.int 5)) aNil)))))
    (sSeq (sFor (eN gRange1 (aCons (eC (.int 4)) aNil)) (.nm 2) f1__law_right)
    (sRet (eC (.bl true)))))
def fn__law_right : Fn := fnOf 9 b__law_right
def f1_law : MSt :=
  (sIf (tNot' (tVal (eN (gCall 1 fn__law_right) (aCons (eCellF (eN gLst (aCons (e2 (p2 mulV) (eV 2) (eN (pN intV) (aCons (e2 (p2 geV) (eV 2) (e2 (p2 powV) (eC (.int 10)) (eC (.int 18)))) aNil))) (aCons (e2 (p2 addV) (e2 (p2 modV) (eV 2) (eC (.int 2147483647))) (e2 (p2 mulV) (eC (.int 7919)) (eV 1))) (aCons (eC (.int 0)) aNil))))) aNil))))
      (sRet (eC (.bl false)))
      sPass)
def b_law : MSt :=
  (sSeq (sFor (eN gEnum (aCons (eOfF (eSl (fun l h => pf1 (slF l h)) (eOfF (e2 gScr (eV 0) (eOfF (eN gLst (aCons (eC (.int 0)) aNil))))) oNone (oSome (eC (.int 5))))) aNil)) (.tp [(.nm 1), (.nm 2)]) (sScope f1_law))
    (sRet (e2 (p2 isV) (eN (gCall 3 fn_check_permuted) (aCons (eN gTup (aCons (eC (.int 0)) (aCons (eC (.int 0)) (aCons (eC (.int 2)) aNil)))) (aCons (eN gTup (aCons (eC (.int 0)) (aCons (eC (.int 1)) (aCons (eC (.int 1)) aNil)))) (aCons (eN gTup (aCons (eC (.str "no")) (aCons (eN gTup (aCons (eC (.int 0)) (aCons (eC (.int 1)) (aCons (eC (.int 2)) aNil)))) aNil))) aNil)))) (eC .non))))
def fn_law : Fn := fnOf 3 b_law
end K58
namespace K58
open PySem PySem.Spec PyProof.Rows L2 PM
theorem is_whole_ok {d : PV} {μ : Store} (h : tyN d ≠ none) : fn_is_whole [.t d] μ = .ok (.t (.bl (isIntB d))) μ := by
  cases d <;> simp_all [fn_is_whole, b_is_whole, fnOf, startM, subT, isIntB, tyN]
theorem is_thing_ok {d : PV} {n : Int} {μ : Store} (h : tyN d ≠ none) : fn_is_thing [.t d, .t (.int n)] μ = .ok (.t (.bl (isThingB n d))) μ := by
  simp [fn_is_thing, b_is_thing, fnOf, startM, is_whole_ok h, eChain]
  cases d <;> simp [isIntB, isThingB]
  split <;> simp_all <;> omega
theorem is_row_ok {d : PV} {w n : Int} {k : Nat} {μ : Store} (h : SD k d) : fn_is_row [.t d, .t (.int w), .t (.int n)] μ = .ok (.t (.bl (isRowB d w n))) μ := by
  cases d with
  | tup l =>
    obtain ⟨m, rfl, hl, hm⟩ := h.tupE
    have e : lcL (.nm 3) tYes' e1_is_row l [some (.t (.tup l)), some (.t (.int w)), some (.t (.int n)), none] μ = .ok (l.map fun d => .bl (isThingB n d)) μ := lcL_map _ fun d hd => ⟨_, asg_nm, rfl, by simp [e1_is_row, is_thing_ok (hm d hd).ty]⟩
    have z : szF (l.map fun d => PV.bl (isThingB n d)) μ = .ok _ μ := szF_ok (by rw [List.length_map]; exact szL _ (by omega))
    by_cases hw : (l.length : Int) = w
    · simp [fn_is_row, b_is_row, fnOf, startM, subT, isRowB, hw, wipeM, e, z, allV_map]
    · simp [fn_is_row, b_is_row, fnOf, startM, subT, isRowB, hw]
  | obj C a b => exact absurd h SD_obj
  | _ => simp [fn_is_row, b_is_row, fnOf, startM, subT, isRowB]
/-! ### partings -/
theorem is_parting_ok {l : List Int} {n : Nat} {μ : Store} (h : RowI l n) (hn : n ≤ 1000) : fn_is_parting [.t (tupI l), .t (.int n)] μ = .ok (.t (.bl (partB l))) μ := by
  have hl := h.len
  have e : lcL (.tp [(.nm 2), (.nm 3)]) tYes' e1_is_parting (enumP (l.map .int)) [some (.t (tupI l)), some (.t (.int n)), none, none] μ = .ok ((List.range l.length).map fun i => .bl (decide (l.getD i 0 ≤ (i : Int)) && decide (l.getD (l.getD i 0).toNat 0 = l.getD i 0))) μ := by
    rw [enum_map, lcL_map (fun d => match d with | .tup [.int i, .int x] => .bl (decide (x ≤ i) && decide (l.getD x.toNat 0 = x)) | _ => .non) ?_]
    · rw [List.map_map]; rfl
    · intro d hd
      obtain ⟨i, hi, rfl⟩ := List.mem_map.mp hd
      have hi := List.mem_range.mp hi
      obtain ⟨x0, x1⟩ := h.inr _ (PM.getD_mem hi)
      obtain ⟨k, hk⟩ : ∃ k : Nat, l.getD i 0 = (k : Int) := ⟨(l.getD i 0).toNat, by omega⟩
      refine ⟨[some (.t (tupI l)), some (.t (.int n)), some (.t (.int i)), some (.t (.int (l.getD i 0)))], by simp, rfl, ?_⟩
      rw [hk] at x0 x1 ⊢
      by_cases hle : (k : Int) ≤ (i : Int)
      · simp [e1_is_parting, hle, at_int (l := l) (i := k) (by omega)]
      · simp [e1_is_parting, hle]
  have z : ∀ f : Nat → Bool, szF ((List.range l.length).map fun i => PV.bl (f i)) μ = .ok _ μ := fun f => szF_ok (by rw [List.length_map, List.length_range]; exact szL _ (by omega))
  have hr := is_row_ok (w := n) (n := n) (μ := μ) (SD_tupI (l := l) (k := 0) (by omega))
  simp [fn_is_parting, b_is_parting, fnOf, startM, hr, isRow_tupI h, wipeM, e, z, allV_map, partB]
theorem check_two_ok {l m : List Int} {n : Nat} {μ : Store} (h : RowI l n) (g : RowI m n) (hn : n ≤ 1000) (p : partB l = true) (q : partB m = true) : fn_check_two [.t (tupI l), .t (tupI m)] μ = .ok (.t .non) μ := by
  simp [fn_check_two, b_check_two, fnOf, startM, subT, h.len, is_parting_ok h hn, is_parting_ok g hn, p, q]
/-! ### amid -/
def amB (l m : List Int) (b e t : Nat) : Bool := decide (l.getD t 0 = l.getD b 0) && decide (m.getD t 0 = m.getD e 0)
def amids (l m : List Int) (b e : Nat) : List Nat := (List.range l.length).filter (amB l m b e)
theorem amids_len (l m : List Int) (b e : Nat) : (amids l m b e).length ≤ l.length := by
  have := List.length_filter_le (amB l m b e) (List.range l.length)
  rw [List.length_range] at this
  exact this
theorem amid_of_ok {l m : List Int} {b e : Nat} {μ : Store} (hl : l.length = m.length) (hn : l.length ≤ 1000) (hb : b < l.length) (he : e < l.length) : fn_amid_of [.t (tupI l), .t (tupI m), .t (.int b), .t (.int e)] μ = .ok (.t (match amids l m b e with | [] => .non | t :: _ => .int t)) μ := by
  have key : ∀ (ts : List Nat), (∀ t ∈ ts, t < l.length) → ∀ x, ∃ y, forL (.nm 4) f1_amid_of (ts.map fun (k : Nat) => .int (k : Int)) [some (.t (tupI l)), some (.t (tupI m)), some (.t (.int b)), some (.t (.int e)), x] μ =
      (match ts.filter (amB l m b e) with | [] => .nx [some (.t (tupI l)), some (.t (tupI m)), some (.t (.int b)), some (.t (.int e)), y] μ | t :: _ => .rt (.t (.int t)) μ) := by
    intro ts
    induction ts with
    | nil => intro _ x; exact ⟨x, rfl⟩
    | cons t ts ih =>
      intro h x
      have ht := h t List.mem_cons_self
      obtain ⟨y, ih⟩ := ih (fun t ht => h t (List.mem_cons_of_mem _ ht)) (some (.t (.int t)))
      refine ⟨y, ?_⟩
      rw [List.map_cons]
      unfold forL
      rw [asg_nm]
      have h1 := at_int (l := l) ht
      have h2 := at_int (l := l) hb
      have h3 := at_int (l := m) (i := t) (by omega)
      have h4 := at_int (l := m) (i := e) (by omega)
      by_cases c1 : l.getD t 0 = l.getD b 0
      · by_cases c2 : m.getD t 0 = m.getD e 0
        · rw [List.filter_cons_of_pos (by simp only [amB, c1, c2, decide_true, Bool.and_self])]
          simp [f1_amid_of, h1, h2, h3, h4, c1, c2, -List.getD_eq_getElem?_getD]
        · rw [List.filter_cons_of_neg (by simp only [amB, c2, decide_false, Bool.and_false]; decide)]
          simp [f1_amid_of, h1, h2, h3, h4, c1, c2, -List.getD_eq_getElem?_getD]
          exact ih
      · rw [List.filter_cons_of_neg (by simp only [amB, c1, decide_false, Bool.false_and]; decide)]
        simp [f1_amid_of, h1, h2, c1, -List.getD_eq_getElem?_getD]
        exact ih
  obtain ⟨y, k⟩ := key (List.range l.length) (fun t ht => List.mem_range.mp ht) none
  simp [fn_amid_of, b_amid_of, fnOf, startM, range1_ok (n := l.length) (by omega), rgI_nat, k]
  unfold amids
  cases (List.range l.length).filter (amB l m b e) <;> simp
/-! ### pairs -/
def endsOf (l m : List Int) (b : Nat) : List Nat := (List.range l.length).filter fun e => !(amids l m b e).isEmpty
def pairsTo (l m : List Int) (k : Nat) : List (Nat × Nat) := (List.range k).flatMap fun b => (endsOf l m b).map fun e => (b, e)
abbrev pairsL (l m : List Int) : List (Nat × Nat) := pairsTo l m l.length
def pairPV (p : Nat × Nat) : PV := .tup [.int (p.1 : Int), .int (p.2 : Int)]
theorem pairs_succ (l m : List Int) (k : Nat) : pairsTo l m (k + 1) = pairsTo l m k ++ (endsOf l m k).map fun e => (k, e) := by
  unfold pairsTo
  rw [List.range_succ, List.flatMap_append]
  simp
theorem pairs_len (l m : List Int) (k : Nat) : (pairsTo l m k).length ≤ k * l.length := by
  induction k with
  | zero => exact Nat.zero_le _
  | succ k ih =>
    rw [pairs_succ, List.length_append, List.length_map, Nat.add_mul, Nat.one_mul]
    have := List.length_filter_le (fun e => !(amids l m k e).isEmpty) (List.range l.length)
    rw [List.length_range] at this
    have : (endsOf l m k).length ≤ l.length := this
    omega
theorem pairs_mem {l m : List Int} {p : Nat × Nat} (h : p ∈ pairsL l m) : p.1 < l.length ∧ p.2 < l.length := by
  obtain ⟨b, hb, h⟩ := List.mem_flatMap.mp h
  obtain ⟨e, he, rfl⟩ := List.mem_map.mp h
  exact ⟨List.mem_range.mp hb, List.mem_range.mp (List.mem_filter.mp he).1⟩
theorem ends_led_ok {l m : List Int} {μ : Store} (hl : l.length = m.length) (hn : l.length ≤ 100) : fn_ends_led [.t (tupI l), .t (tupI m)] μ = .ok (.t (.lst ((pairsL l m).map pairPV))) μ := by
  have inner : ∀ (b : Nat) (f x : Option Val) (μ : Store), b < l.length → lcL (.nm 5) t1_ends_led e1_ends_led (rgI 0 l.length) [some (.t (tupI l)), some (.t (tupI m)), f, some (.t (.int b)), x, none] μ = .ok (natsPV (endsOf l m b)) μ := by
    intro b f x μ hb
    rw [rgI_nat, lcL_filter (fun d => match d with | .int i => !(amids l m b i.toNat).isEmpty | _ => false) (fun d => d) ?_]
    · unfold endsOf natsPV
      rw [List.map_id'' (fun _ => rfl), List.filter_map]
      rfl
    · intro d hd
      obtain ⟨e, he, rfl⟩ := List.mem_map.mp hd
      have he := List.mem_range.mp he
      have k1 := amid_of_ok (μ := μ) (b := b) (e := e) hl (by omega) hb he
      refine ⟨_, asg_nm, ?_, fun _ => by simp [e1_ends_led]⟩
      simp [t1_ends_led, k1]
      cases amids l m b e <;> rfl
  have inner2 : ∀ (b : Nat) (f x : Option Val) (μ : Store), lcL (.nm 5) tYes' e2_ends_led (natsPV (endsOf l m b)) [some (.t (tupI l)), some (.t (tupI m)), f, some (.t (.int b)), x, none] μ = .ok (((endsOf l m b).map fun e => (b, e)).map pairPV) μ := by
    intro b f x μ
    rw [lcL_map (fun d => .tup [.int b, d]) fun d hd => ⟨_, asg_nm, rfl, by simp [e2_ends_led]⟩]
    unfold natsPV
    rw [List.map_map, List.map_map]
    rfl
  have loop : ∃ y z, forL (.nm 3) f1_ends_led (rgI 0 l.length) [some (.t (tupI l)), some (.t (tupI m)), some (.c μ.length), none, none, none] (μ ++ [some (.lst [])]) = .nx [some (.t (tupI l)), some (.t (tupI m)), some (.c μ.length), y, z, none] (μ ++ [some (.lst ((pairsL l m).map pairPV))]) := by
    refine forL_inv (fun i σ μ' => μ' = μ ++ [some (.lst ((pairsTo l m i).map pairPV))] ∧ ∃ y z, σ = [some (.t (tupI l)), some (.t (tupI m)), some (.c μ.length), y, z, none]) (fun r => ∃ y z, r = .nx [some (.t (tupI l)), some (.t (tupI m)), some (.c μ.length), y, z, none] (μ ++ [some (.lst ((pairsL l m).map pairPV))])) ⟨rfl, none, none, rfl⟩ ?_ ?_
    · rintro i d σ μ' hd ⟨rfl, y, z, rfl⟩
      obtain ⟨hi, rfl⟩ := range_at hd
      have h1 := pairs_len l m i
      have h2 := pairs_len l m (i + 1)
      have hm : (i + 1) * l.length ≤ 100 * 100 := Nat.mul_le_mul (by omega) hn
      have h3 : (pairsTo l m (i + 1)).length = (pairsTo l m i).length + (endsOf l m i).length := by rw [pairs_succ, List.length_append, List.length_map]
      refine ⟨_, asg_nm, .inl ⟨_, _, .inl ?_, rfl, some (.t (.int i)), some (.t (.lst (natsPV (endsOf l m i)))), rfl⟩⟩
      have hr := range1_ok (n := l.length) (μ := μ ++ [some (.lst ((pairsTo l m i).map pairPV))]) (by omega)
      have k := inner i (some (.c μ.length)) z (μ ++ [some (.lst ((pairsTo l m i).map pairPV))]) hi
      have k2 := inner2 i (some (.c μ.length)) (some (.t (.lst (natsPV (endsOf l m i))))) (μ ++ [some (.lst ((pairsTo l m i).map pairPV))])
      have z1 : szF (natsPV (endsOf l m i)) (μ ++ [some (.lst ((pairsTo l m i).map pairPV))]) = .ok _ _ := szF_ok (szL _ (by unfold natsPV; rw [List.length_map]; omega))
      have z2 : szF (((endsOf l m i).map fun e => (i, e)).map pairPV) (μ ++ [some (.lst ((pairsTo l m i).map pairPV))]) = .ok _ _ := szF_ok (szL _ (by rw [List.length_map, List.length_map]; omega))
      have ad := extF_ok (μ := μ ++ [some (.lst ((pairsTo l m i).map pairPV))]) (k := μ.length) (ds := (pairsTo l m i).map pairPV) (es := ((endsOf l m i).map fun e => (i, e)).map pairPV) (by simp) (by rw [List.length_map, List.length_map, List.length_map]; omega)
      rw [List.map_map] at k2 z2 ad
      simp [f1_ends_led, hr, wipeM, k, k2, z1, z2, ad, pairs_succ, eMutG, lstAt]
    · rintro σ μ' ⟨rfl, y, z, rfl⟩
      refine ⟨y, z, ?_⟩
      rw [rgI_len]
  obtain ⟨y, z, loop⟩ := loop
  have hr := range1_ok (n := l.length) (μ := μ ++ [some (.lst [])]) (by omega)
  simp [fn_ends_led, b_ends_led, fnOf, startM, hr, loop, sFrz, frz1]
theorem draw_ok {a b c m : Int} {t : Store} (h0 : 0 < m) (h1 : m < 1073741824) : ∃ r a' b' c', fn__law_draw [.c 0, .t (.int m)] (wl a b c :: t) = .ok (.t (.int r)) (wl a' b' c' :: t) ∧ 0 ≤ r ∧ r < m := by
  by_cases ha : 0 < a
  · refine ⟨a % m, a / m, b, c, ?_, Int.emod_nonneg _ (by omega), Int.emod_lt_of_pos _ h0⟩
    simp [fn__law_draw, b__law_draw, fnOf, startM, p2, view, atI, ixN, ha, modV, fdiv_ok h0 h1, h0, sSetL, gSetL, lstAt, endM, fin]
  · have e : ∃ x, fn__law_draw [.c 0, .t (.int m)] (wl a b c :: t) = .ok (.t (.int (x % m))) (wl a b (c + 1) :: t) := by
      simp [fn__law_draw, b__law_draw, fnOf, startM, p2, view, atI, ixN, ha, modV, fdiv_ok (j := 1013) (by decide) (by decide), fdiv_ok (j := 2003) (by decide) (by decide), h0, sSetL, gSetL, lstAt, endM, fin, mulV, inW_mod, show inW 7907 = true by decide, show inW 48271 = true by decide]
      exact ⟨_, rfl⟩
    obtain ⟨x, e⟩ := e
    exact ⟨_, _, _, _, e, Int.emod_nonneg _ (by omega), Int.emod_lt_of_pos _ h0⟩
theorem law_amid_ok {l m : List Int} {b e : Nat} {μ : Store} (hl : l.length = m.length) (hn : l.length ≤ 1000) (hb : b < l.length) (he : e < l.length) : fn__law_amid [.t (tupI l), .t (tupI m), .t (.int b), .t (.int e)] μ = .ok (.t (.lst (natsPV (amids l m b e)))) μ := by
  have e1 : lcL (.nm 4) t1__law_amid e1__law_amid (rgI 0 l.length) [some (.t (tupI l)), some (.t (tupI m)), some (.t (.int b)), some (.t (.int e)), none] μ = .ok (natsPV (amids l m b e)) μ := by
    rw [rgI_nat, lcL_filter (fun d => match d with | .int i => amB l m b e i.toNat | _ => false) (fun d => d) ?_]
    · unfold natsPV amids
      rw [List.map_id'' (fun _ => rfl), List.filter_map]
      rfl
    · intro d hd
      obtain ⟨t, ht, rfl⟩ := List.mem_map.mp hd
      have ht := List.mem_range.mp ht
      refine ⟨_, asg_nm, ?_, fun _ => by simp [e1__law_amid]⟩
      have h1 := at_int (l := l) ht
      have h2 := at_int (l := l) hb
      have h3 := at_int (l := m) (i := t) (by omega)
      have h4 := at_int (l := m) (i := e) (by omega)
      simp only [Int.toNat_natCast]
      by_cases c1 : l.getD t 0 = l.getD b 0
      · simp [t1__law_amid, amB, h1, h2, h3, h4, c1, -List.getD_eq_getElem?_getD]
      · simp [t1__law_amid, amB, h1, h2, c1, -List.getD_eq_getElem?_getD]
  have hle := amids_len l m b e
  have z : szF (natsPV (amids l m b e)) μ = .ok _ μ := szF_ok (szL _ (by unfold natsPV; rw [List.length_map]; omega))
  simp [fn__law_amid, b__law_amid, fnOf, startM, range1_ok (n := l.length) (by omega), wipeM, e1, z]
theorem law_pairs_ok {l m : List Int} {μ : Store} (hl : l.length = m.length) (hn : l.length ≤ 100) : fn__law_pairs [.t (tupI l), .t (tupI m)] μ = .ok (.t (.lst ((pairsL l m).map pairPV))) μ := by
  have hr := range1_ok (n := l.length) (μ := μ) (by omega)
  have inner : ∀ (b : Nat) (f x : Option Val), b < l.length → lcL (.nm 4) t1__law_pairs e1__law_pairs (rgI 0 l.length) [some (.t (tupI l)), some (.t (tupI m)), f, some (.t (.int b)), none] μ = .ok (((endsOf l m b).map fun e => (b, e)).map pairPV) μ := by
    intro b f x hb
    rw [rgI_nat, lcL_filter (fun d => match d with | .int i => !(amids l m b i.toNat).isEmpty | _ => false) (fun d => .tup [.int b, d]) ?_]
    · unfold endsOf
      rw [List.filter_map, List.map_map, List.map_map]
      rfl
    · intro d hd
      obtain ⟨e, he, rfl⟩ := List.mem_map.mp hd
      have he := List.mem_range.mp he
      have k1 := law_amid_ok (μ := μ) (b := b) (e := e) hl (by omega) hb he
      have hle := amids_len l m b e
      have o1 : okD (.lst (natsPV (amids l m b e))) = true := (nats_SD (k := 0) (by omega)).ok
      have o2 : okD (.lst []) = true := rfl
      refine ⟨_, asg_nm, ?_, fun _ => by simp [e1__law_pairs]⟩
      simp [t1__law_pairs, k1, ne_ok o1 o2, eqB_nil]
      cases amids l m b e <;> rfl
  have loop : ∃ y, forL (.nm 3) f1__law_pairs (rgI 0 l.length) [some (.t (tupI l)), some (.t (tupI m)), some (.t (.lst [])), none, none] μ = .nx [some (.t (tupI l)), some (.t (tupI m)), some (.t (.lst ((pairsL l m).map pairPV))), y, none] μ := by
    refine forL_inv (fun i σ μ' => μ' = μ ∧ ∃ y, σ = [some (.t (tupI l)), some (.t (tupI m)), some (.t (.lst ((pairsTo l m i).map pairPV))), y, none]) (fun r => ∃ y, r = .nx [some (.t (tupI l)), some (.t (tupI m)), some (.t (.lst ((pairsL l m).map pairPV))), y, none] μ) ⟨rfl, none, rfl⟩ ?_ ?_
    · rintro i d σ μ' hd ⟨rfl, y, rfl⟩
      obtain ⟨hi, rfl⟩ := range_at hd
      refine ⟨_, asg_nm, .inl ⟨_, _, .inl ?_, rfl, some (.t (.int i)), rfl⟩⟩
      have h1 := pairs_len l m i
      have h2 := pairs_len l m (i + 1)
      have hm : (i + 1) * l.length ≤ 100 * 100 := Nat.mul_le_mul (by omega) hn
      have h3 : (pairsTo l m (i + 1)).length = (pairsTo l m i).length + (endsOf l m i).length := by rw [pairs_succ, List.length_append, List.length_map]
      have k := inner i (some (.t (.lst ((pairsTo l m i).map pairPV)))) none hi
      have z : szF (((endsOf l m i).map fun e => (i, e)).map pairPV) μ' = .ok _ μ' := szF_ok (szL _ (by rw [List.length_map, List.length_map]; omega))
      have ad := addF_ok (a := (pairsTo l m i).map pairPV) (b := ((endsOf l m i).map fun e => (i, e)).map pairPV) (by rw [List.length_map, List.length_map, List.length_map]; omega)
      rw [List.map_map] at k z ad
      simp [f1__law_pairs, hr, wipeM, k, z, ad, pairs_succ]
    · rintro σ μ' ⟨rfl, y, rfl⟩
      refine ⟨y, ?_⟩
      rw [rgI_len]
  obtain ⟨y, loop⟩ := loop
  simp [fn__law_pairs, b__law_pairs, fnOf, startM, hr, loop]
theorem law_is_thing_ok {d : PV} {n : Int} {μ : Store} (h : tyN d ≠ none) : fn__law_is_thing [.t d, .t (.int n)] μ = .ok (.t (.bl (isThingB n d))) μ := by
  cases d <;> simp_all [fn__law_is_thing, b__law_is_thing, fnOf, startM, eChain, subT, isThingB, tyN]
  split <;> simp_all <;> omega
theorem are_three_ok {d : PV} {n : Int} {k : Nat} {μ : Store} (h : SD k d) : fn__law_are_three [.t (.int n), .t d] μ = .ok (.t (.bl (isRowB d 3 n))) μ := by
  cases d with
  | tup l =>
    obtain ⟨m, rfl, hl, hm⟩ := h.tupE
    have e : lcL (.nm 2) tYes' e1__law_are_three l [some (.t (.int n)), some (.t (.tup l)), none] μ = .ok (l.map fun d => .bl (isThingB n d)) μ := lcL_map _ fun d hd => ⟨_, asg_nm, rfl, by simp [e1__law_are_three, law_is_thing_ok (hm d hd).ty]⟩
    have z : szF (l.map fun d => PV.bl (isThingB n d)) μ = .ok _ μ := szF_ok (by rw [List.length_map]; exact szL _ (by omega))
    by_cases hw : (l.length : Int) = 3
    · simp [fn__law_are_three, b__law_are_three, fnOf, startM, subT, isRowB, hw, wipeM, e, z, allV_map]
    · simp [fn__law_are_three, b__law_are_three, fnOf, startM, subT, isRowB, hw]
  | obj C a b => exact absurd h SD_obj
  | _ => simp [fn__law_are_three, b__law_are_three, fnOf, startM, subT, isRowB]
/-- three things, as numbers -/
theorem row3 {d : PV} {n : Nat} (h : isRowB d 3 n = true) : ∃ x y z : Nat, d = .tup [.int x, .int y, .int z] ∧ x < n ∧ y < n ∧ z < n := by
  unfold isRowB at h
  split at h
  · rename_i l
    rw [Bool.and_eq_true, decide_eq_true_eq, List.all_eq_true] at h
    match l, h with
    | [a, b, c], h =>
      have h1 := h.2 a (by simp)
      have h2 := h.2 b (by simp)
      have h3 := h.2 c (by simp)
      have key : ∀ d : PV, isThingB n d = true → ∃ x : Nat, d = .int x ∧ x < n := by
        intro d hd
        unfold isThingB at hd
        split at hd
        · rename_i i
          rw [Bool.and_eq_true, decide_eq_true_eq, decide_eq_true_eq] at hd
          exact ⟨i.toNat, by congr 1; omega, by omega⟩
        · cases hd
      obtain ⟨x, rfl, hx⟩ := key a h1
      obtain ⟨y, rfl, hy⟩ := key b h2
      obtain ⟨z, rfl, hz⟩ := key c h3
      exact ⟨x, y, z, rfl, hx, hy, hz⟩
    | [], h => simp at h
    | [_], h => simp at h
    | [_, _], h => simp at h
    | _ :: _ :: _ :: _ :: _, h => simp at h; omega
  · cases h
/-! ### what is due of yes -/
def okAt (l m : List Int) (d : PV) (p : Nat × Nat) : Bool := isRowB d 3 l.length && (match d with
  | .tup [.int x, .int y, .int z] => (decide (x = p.1) && decide (y = p.2)) && amB m l p.1 p.2 z.toNat
  | _ => false)
def yesS (l m : List Int) (told : List PV) : Nat → List (Nat × Nat) → Option Nat
  | k, [] => if told.length > k then some k else none
  | k, p :: ps => match told[k]? with
    | some d => if okAt l m d p then yesS l m told (k + 1) ps else some k
    | none => some k
def optPV : Option Nat → PV
  | some k => .int (k : Int)
  | none => .non
/-- a walk along the pairs, from place k on -/
def enumFrom' (k : Nat) : List (Nat × Nat) → List PV
  | [] => []
  | p :: ps => .tup [.int (k : Int), pairPV p] :: enumFrom' (k + 1) ps
theorem enum_from (ps : List (Nat × Nat)) : enumP (ps.map pairPV) = enumFrom' 0 ps := by
  have key : ∀ (ps : List (Nat × Nat)) (k : Nat), ((List.range ps.length).map (· + k)).zipWith (fun (k : Nat) d => PV.tup [.int (k : Int), d]) (ps.map pairPV) = enumFrom' k ps := by
    intro ps
    induction ps with
    | nil => intro k; rfl
    | cons p ps ih =>
      intro k
      rw [List.length_cons, List.range_succ_eq_map, List.map_cons, List.map_cons, List.zipWith_cons_cons]
      unfold enumFrom'
      rw [← ih (k + 1), List.map_map]
      have e : ((fun x => x + k) ∘ Nat.succ) = fun x => x + (k + 1) := by funext x; simp only [Function.comp]; omega
      rw [e, Nat.zero_add]
  have := key ps 0
  simp only [Nat.add_zero, List.map_id'] at this
  unfold enumP
  rw [List.length_map]
  exact this
theorem eqB_pair {x y : Int} {p : Nat × Nat} : eqB (.tup [.int x, .int y]) (pairPV p) = (decide (x = p.1) && decide (y = p.2)) := by
  simp [eqB, pairPV, PV.data, datas, PyData.eqv, PyData.eqvAll, Bool.beq_eq_decide_eq]
theorem cut2 {a b c : PV} : cutG [a, b, c] none (some 2) = [a, b] := rfl
theorem amid_mem {l m : List Int} {b e z : Nat} (hz : z < m.length) : (natsPV (amids m l b e)).any (fun w => eqB w (.int z)) = amB m l b e z := by
  unfold natsPV
  rw [List.any_map]
  have e1 : ((fun w => eqB w (.int (z : Int))) ∘ fun (t : Nat) => PV.int (t : Int)) = fun t => decide (t = z) := by
    funext t
    simp only [Function.comp, eqB, PV.data, PyData.eqv, Bool.beq_eq_decide_eq]
    congr 1
    exact propext ⟨fun h => by omega, fun h => by omega⟩
  rw [e1]
  cases hb : amB m l b e z with
  | true =>
    rw [List.any_eq_true]
    exact ⟨z, List.mem_filter.mpr ⟨List.mem_range.mpr hz, hb⟩, by simp⟩
  | false =>
    rw [List.any_eq_false]
    intro t ht hd
    have := of_decide_eq_true hd
    subst this
    have := (List.mem_filter.mp ht).2
    rw [hb] at this
    cases this
/-- one turn of both walks: a right entry goes on, a wrong one ends -/
theorem yes_turn {l m : List Int} {told : List PV} {k j : Nat} {p : Nat × Nat} {μ : Store} {pl : PV} (hl : l.length = m.length) (hn : l.length ≤ 100) (ht : ∀ d ∈ told, SD k d) (hp : p.1 < l.length ∧ p.2 < l.length) (hj : j ≤ told.length) :
    (∃ d, told[j]? = some d ∧ okAt l m d p = true ∧ f1__law_due_of_yes [some (.t (tupI l)), some (.t (tupI m)), some (.t (.lst told)), some (.t pl), some (.t (.int j)), some (.t (pairPV p))] μ = .nx [some (.t (tupI l)), some (.t (tupI m)), some (.t (.lst told)), some (.t pl), some (.t (.int j)), some (.t (pairPV p))] μ ∧
      ∀ x, f1_check_yes [some (.t (tupI l)), some (.t (tupI m)), some (.t (.lst told)), some (.t pl), some (.t (.int j)), some (.t (.int p.1)), some (.t (.int p.2)), x] μ = .nx [some (.t (tupI l)), some (.t (tupI m)), some (.t (.lst told)), some (.t pl), some (.t (.int j)), some (.t (.int p.1)), some (.t (.int p.2)), some (.t (match d with | .tup [_, _, z] => z | _ => .non))] μ) ∨
    ((∀ d, told[j]? = some d → okAt l m d p = false) ∧ f1__law_due_of_yes [some (.t (tupI l)), some (.t (tupI m)), some (.t (.lst told)), some (.t pl), some (.t (.int j)), some (.t (pairPV p))] μ = .rt (.t (.int j)) μ ∧
      ∀ x, ∃ σ, f1_check_yes [some (.t (tupI l)), some (.t (tupI m)), some (.t (.lst told)), some (.t pl), some (.t (.int j)), some (.t (.int p.1)), some (.t (.int p.2)), x] μ = .ex "NoPaper" (some ("at", .int j)) σ μ) := by
  obtain ⟨pb, pe⟩ := p
  dsimp only at hp ⊢
  by_cases hjl : j < told.length
  · have hsd := ht _ (List.getElem_mem hjl)
    rw [List.getElem?_eq_getElem hjl]
    generalize hd : told[j] = d at hsd
    have hat : atI told (j : Int) = some d := by rw [atI_nat' hjl, hd]
    have hne : ¬ ((j : Int) = (told.length : Int)) := by omega
    have k3 := are_three_ok (n := l.length) (μ := μ) hsd
    have k4 := is_row_ok (w := 3) (n := l.length) (μ := μ) hsd
    cases hr : isRowB d 3 l.length with
    | false =>
      rw [hr] at k3 k4
      refine .inr ⟨fun d' h => by cases h; simp only [okAt, hr, Bool.false_and], ?_, fun x => ?_⟩
      · simp [f1__law_due_of_yes, hne, hat, k3]
      · simp [f1_check_yes, hne, hat, k4, sRaise]
    | true =>
      rw [hr] at k3 k4
      obtain ⟨a, b, c, rfl, ha, hb, hc⟩ := row3 hr
      have o1 : okD (.tup [.int (a : Int), .int (b : Int)]) = true := rfl
      have o2 : okD (pairPV (pb, pe)) = true := rfl
      have nq := ne_ok o1 o2
      rw [eqB_pair] at nq
      have nq' : neV (.tup [.int (a : Int), .int (b : Int)]) (.tup [.int (pb : Int), .int (pe : Int)]) = some (.bl (!(decide ((a : Int) = pb) && decide ((b : Int) = pe)))) := nq
      by_cases hab : (a : Int) = pb ∧ (b : Int) = pe
      · obtain rfl : a = pb := by omega
        obtain rfl : b = pe := by omega
        simp only [decide_true, Bool.and_true, Bool.not_true] at nq nq'
        have am := law_amid_ok (l := m) (m := l) (b := a) (e := b) (μ := μ) hl.symm (by omega) (by omega) (by omega)
        have hle := amids_len m l a b
        have o3 : okD (.lst (natsPV (amids m l a b))) = true := (nats_SD (k := 0) (by omega)).ok
        have o4 : okD (.int (c : Int)) = true := rfl
        have mem := amid_mem (l := l) (m := m) (b := a) (e := b) (z := c) (by omega)
        have c2 : ∀ {a b c : PV}, atI [a, b, c] 2 = some c := rfl
        have p0 : atV (pairPV (a, b)) (.int 0) = some (.int (a : Int)) := rfl
        have p1' : atV (pairPV (a, b)) (.int 1) = some (.int (b : Int)) := rfl
        have m1 := at_int (l := m) (i := c) (by omega)
        have m2 := at_int (l := m) (i := a) (by omega)
        have l1 := at_int (l := l) (i := c) (by omega)
        have l2 := at_int (l := l) (i := b) (by omega)
        cases hm : amB m l a b c with
        | false =>
          refine .inr ⟨fun d' h => by cases h; simp only [okAt, Int.toNat_natCast, hm, Bool.and_false], ?_, fun x => ?_⟩
          · simp [f1__law_due_of_yes, hne, hat, k3, cut2, nq, am, notInPV, inV', o3, o4, mem, hm, c2, p0, p1']
          · by_cases q1 : m.getD c 0 = m.getD a 0
            · have q2 : ¬ l.getD c 0 = l.getD b 0 := fun q2 => by
                unfold amB at hm
                rw [decide_eq_true q1, decide_eq_true q2] at hm
                cases hm
              simp [f1_check_yes, hne, hat, k4, sRaise, cut2, nq', c2, m1, m2, l1, l2, q1, q2, -List.getD_eq_getElem?_getD]
            · simp [f1_check_yes, hne, hat, k4, sRaise, cut2, nq', c2, m1, m2, q1, -List.getD_eq_getElem?_getD]
        | true =>
          have q : m.getD c 0 = m.getD a 0 ∧ l.getD c 0 = l.getD b 0 := by
            unfold amB at hm
            rw [Bool.and_eq_true, decide_eq_true_eq, decide_eq_true_eq] at hm
            exact hm
          refine .inl ⟨_, rfl, by simp only [okAt, hr, hm, Int.toNat_natCast, decide_true, Bool.and_true], ?_, fun x => ?_⟩
          · simp [f1__law_due_of_yes, hne, hat, k3, cut2, nq, am, notInPV, inV', o3, o4, mem, hm, c2, p0, p1']
          · simp [f1_check_yes, hne, hat, k4, sRaise, cut2, nq', c2, m1, m2, l1, l2, q.1, q.2, -List.getD_eq_getElem?_getD]
      · have hab' : (decide ((a : Int) = pb) && decide ((b : Int) = pe)) = false := by
          rw [Bool.and_eq_false_iff, decide_eq_false_iff_not, decide_eq_false_iff_not]
          by_cases h1 : (a : Int) = pb
          · exact .inr fun h2 => hab ⟨h1, h2⟩
          · exact .inl h1
        rw [hab'] at nq nq'
        refine .inr ⟨fun d' h => by cases h; simp only [okAt, hab', Bool.false_and, Bool.and_false], ?_, fun x => ?_⟩
        · simp [f1__law_due_of_yes, hne, hat, k3, cut2, nq]
        · simp [f1_check_yes, hne, hat, k4, sRaise, cut2, nq']
  · have hj2 : j = told.length := by omega
    refine .inr ⟨fun d h => (by rw [List.getElem?_eq_none (by omega)] at h; cases h), ?_, fun x => ?_⟩
    · simp [f1__law_due_of_yes, hj2]
    · simp [f1_check_yes, hj2, sRaise]
theorem yes_walk {l m : List Int} {told : List PV} {k : Nat} {pl : PV} {μ : Store} (hl : l.length = m.length) (hn : l.length ≤ 100) (ht : ∀ d ∈ told, SD k d) : ∀ (ps : List (Nat × Nat)) (j : Nat), j ≤ told.length → (∀ p ∈ ps, p.1 < l.length ∧ p.2 < l.length) →
    (∀ x y, (∃ x' y', forL (.tp [(.nm 4), (.nm 5)]) f1__law_due_of_yes (enumFrom' j ps) [some (.t (tupI l)), some (.t (tupI m)), some (.t (.lst told)), some (.t pl), x, y] μ = .nx [some (.t (tupI l)), some (.t (tupI m)), some (.t (.lst told)), some (.t pl), x', y'] μ ∧ yesS l m told j ps = if told.length > j + ps.length then some (j + ps.length) else none) ∨
      (∃ i, forL (.tp [(.nm 4), (.nm 5)]) f1__law_due_of_yes (enumFrom' j ps) [some (.t (tupI l)), some (.t (tupI m)), some (.t (.lst told)), some (.t pl), x, y] μ = .rt (.t (.int (i : Nat))) μ ∧ yesS l m told j ps = some i)) ∧
    (∀ x y z u, (∃ x' y' z' u', forL (.tp [(.nm 4), (.tp [(.nm 5), (.nm 6)])]) f1_check_yes (enumFrom' j ps) [some (.t (tupI l)), some (.t (tupI m)), some (.t (.lst told)), some (.t pl), x, y, z, u] μ = .nx [some (.t (tupI l)), some (.t (tupI m)), some (.t (.lst told)), some (.t pl), x', y', z', u'] μ ∧ yesS l m told j ps = if told.length > j + ps.length then some (j + ps.length) else none) ∨
      (∃ i σ, forL (.tp [(.nm 4), (.tp [(.nm 5), (.nm 6)])]) f1_check_yes (enumFrom' j ps) [some (.t (tupI l)), some (.t (tupI m)), some (.t (.lst told)), some (.t pl), x, y, z, u] μ = .ex "NoPaper" (some ("at", .int (i : Nat))) σ μ ∧ yesS l m told j ps = some i)) := by
  intro ps
  induction ps with
  | nil => intro j hj _; exact ⟨fun x y => .inl ⟨x, y, rfl, rfl⟩, fun x y z u => .inl ⟨x, y, z, u, rfl, rfl⟩⟩
  | cons p ps ih =>
    intro j hj hps
    have hp := hps p List.mem_cons_self
    rcases yes_turn (μ := μ) (pl := pl) (p := p) (j := j) hl hn ht hp hj with ⟨d, h1, h2, h3, h4⟩ | ⟨h2, h3, h4⟩
    · have hj' : j + 1 ≤ told.length := (List.getElem?_eq_some_iff.mp h1).1
      obtain ⟨i1, i2⟩ := ih (j + 1) hj' (fun q hq => hps q (List.mem_cons_of_mem _ hq))
      have ey : yesS l m told j (p :: ps) = yesS l m told (j + 1) ps := by rw [yesS, h1]; simp only [h2, if_true]
      have el : j + (p :: ps).length = (j + 1) + ps.length := by rw [List.length_cons]; omega
      rw [ey, el]
      refine ⟨fun x y => ?_, fun x y z u => ?_⟩
      · have e : forL (.tp [(.nm 4), (.nm 5)]) f1__law_due_of_yes (enumFrom' j (p :: ps)) [some (.t (tupI l)), some (.t (tupI m)), some (.t (.lst told)), some (.t pl), x, y] μ = forL (.tp [(.nm 4), (.nm 5)]) f1__law_due_of_yes (enumFrom' (j + 1) ps) [some (.t (tupI l)), some (.t (tupI m)), some (.t (.lst told)), some (.t pl), some (.t (.int j)), some (.t (pairPV p))] μ := forL_nx (by simp) h3
        rw [e]
        exact i1 _ _
      · have e : ∃ u', forL (.tp [(.nm 4), (.tp [(.nm 5), (.nm 6)])]) f1_check_yes (enumFrom' j (p :: ps)) [some (.t (tupI l)), some (.t (tupI m)), some (.t (.lst told)), some (.t pl), x, y, z, u] μ = forL (.tp [(.nm 4), (.tp [(.nm 5), (.nm 6)])]) f1_check_yes (enumFrom' (j + 1) ps) [some (.t (tupI l)), some (.t (tupI m)), some (.t (.lst told)), some (.t pl), some (.t (.int j)), some (.t (.int p.1)), some (.t (.int p.2)), u'] μ := by
          exact ⟨_, forL_nx (by simp [pairPV]) (h4 u)⟩
        obtain ⟨u', e⟩ := e
        rw [e]
        exact i2 _ _ _ _
    · have ey : yesS l m told j (p :: ps) = some j := by
        rw [yesS]
        split
        · rename_i d hd
          rw [h2 d hd]
          rfl
        · rfl
      refine ⟨fun x y => .inr ⟨j, ?_, ey⟩, fun x y z u => .inr ⟨j, ?_⟩⟩
      · exact forL_rt (by simp) h3
      · obtain ⟨σ, h4⟩ := h4 u
        exact ⟨σ, forL_ex (by simp [pairPV]) h4, ey⟩
theorem due_of_yes_ok {l m : List Int} {told : List PV} {k : Nat} {μ : Store} (hl : l.length = m.length) (hn : l.length ≤ 100) (ht : ∀ d ∈ told, SD k d) : fn__law_due_of_yes [.t (tupI l), .t (tupI m), .t (.lst told)] μ = .ok (.t (optPV (yesS l m told 0 (pairsL l m)))) μ := by
  have hp := law_pairs_ok (μ := μ) hl hn
  obtain ⟨s, _⟩ := yes_walk (μ := μ) (pl := .lst ((pairsL l m).map pairPV)) hl hn ht (pairsL l m) 0 (Nat.zero_le _) (fun p hp => pairs_mem hp)
  rw [← enum_from] at s
  rcases s none none with ⟨x', y', h1, h2⟩ | ⟨i, h1, h2⟩
  · rw [h2]
    rw [Nat.zero_add]
    by_cases hg : told.length > (pairsL l m).length
    · have : ((pairsL l m).length : Int) < told.length := by omega
      simp [fn__law_due_of_yes, b__law_due_of_yes, fnOf, startM, hp, h1, hg, this, atI, ixN, optPV]
    · have : ¬ ((pairsL l m).length : Int) < told.length := by omega
      simp [fn__law_due_of_yes, b__law_due_of_yes, fnOf, startM, hp, h1, hg, this, atI, ixN, optPV]
  · rw [h2]
    simp [fn__law_due_of_yes, b__law_due_of_yes, fnOf, startM, hp, h1, optPV]
def outS (o : Option Nat) (μ : Store) : R Val := match o with
  | some k => .ex "NoPaper" (some ("at", .int (k : Int))) μ
  | none => .ok (.t .non) μ
theorem check_yes_ok {l m : List Int} {told : List PV} {k : Nat} {μ : Store} (hl : l.length = m.length) (hn : l.length ≤ 100) (ht : ∀ d ∈ told, SD k d) : fn_check_yes [.t (tupI l), .t (tupI m), .t (.lst told)] μ = outS (yesS l m told 0 (pairsL l m)) μ := by
  have hp := ends_led_ok (μ := μ) hl hn
  obtain ⟨_, s⟩ := yes_walk (μ := μ) (pl := .lst ((pairsL l m).map pairPV)) hl hn ht (pairsL l m) 0 (Nat.zero_le _) (fun p hp => pairs_mem hp)
  rw [← enum_from] at s
  rcases s none none none none with ⟨x', y', z', u', h1, h2⟩ | ⟨i, σ, h1, h2⟩
  · rw [h2]
    rw [Nat.zero_add]
    by_cases hg : told.length > (pairsL l m).length
    · have : ((pairsL l m).length : Int) < told.length := by omega
      simp [fn_check_yes, b_check_yes, fnOf, startM, hp, h1, hg, this, outS, sRaise]
    · have : ¬ ((pairsL l m).length : Int) < told.length := by omega
      simp [fn_check_yes, b_check_yes, fnOf, startM, hp, h1, hg, this, outS, sRaise]
  · rw [h2]
    simp [fn_check_yes, b_check_yes, fnOf, startM, hp, h1, outS]
theorem at2_0 {a b : PV} : atI [a, b] 0 = some a := rfl
theorem at2_1 {a b : PV} : atI [a, b] 1 = some b := rfl
/-! ### what is due -/
def noS (l m : List Int) (x y z : Nat) : Option Nat := if l.getD x 0 = l.getD y 0 then (if m.getD y 0 = m.getD z 0 then (if (amids m l x z).isEmpty then none else some 2) else some 1) else some 0
theorem due_of_no_ok {l m : List Int} {x y z : Nat} {μ : Store} (hl : l.length = m.length) (hn : l.length ≤ 100) (hx : x < l.length) (hy : y < l.length) (hz : z < l.length) : fn__law_due_of_no [.t (tupI l), .t (tupI m), .t (.tup [.int x, .int y, .int z])] μ = .ok (.t (optPV (noS l m x y z))) μ := by
  have l1 := at_int (l := l) hx
  have l2 := at_int (l := l) hy
  have m1 := at_int (l := m) (i := y) (by omega)
  have m2 := at_int (l := m) (i := z) (by omega)
  have am := law_amid_ok (l := m) (m := l) (b := x) (e := z) (μ := μ) hl.symm (by omega) (by omega) (by omega)
  have hle := amids_len m l x z
  have o1 : okD (.lst (natsPV (amids m l x z))) = true := (nats_SD (k := 0) (by omega)).ok
  have o2 : okD (.lst []) = true := rfl
  by_cases c1 : l.getD x 0 = l.getD y 0
  · by_cases c2 : m.getD y 0 = m.getD z 0
    · have q : neV (.lst (natsPV (amids m l x z))) (.lst []) = some (.bl (!(amids m l x z).isEmpty)) := by
        rw [ne_ok o1 o2, eqB_nil]
        cases amids m l x z <;> rfl
      cases ha : (amids m l x z).isEmpty with
      | true =>
        rw [ha] at q
        simp [fn__law_due_of_no, b__law_due_of_no, fnOf, startM, sAsg_tp, l1, l2, m1, m2, c1, c2, am, q, at2_0, at2_1, noS, ha, optPV, -List.getD_eq_getElem?_getD, -List.isEmpty_iff]
      | false =>
        rw [ha] at q
        simp [fn__law_due_of_no, b__law_due_of_no, fnOf, startM, sAsg_tp, l1, l2, m1, m2, c1, c2, am, q, at2_0, at2_1, noS, ha, optPV, -List.getD_eq_getElem?_getD, -List.isEmpty_iff]
    · simp [fn__law_due_of_no, b__law_due_of_no, fnOf, startM, sAsg_tp, l1, l2, m1, m2, c1, c2, noS, optPV, -List.getD_eq_getElem?_getD]
  · simp [fn__law_due_of_no, b__law_due_of_no, fnOf, startM, sAsg_tp, l1, l2, c1, noS, optPV, -List.getD_eq_getElem?_getD]
theorem check_no_ok {l m : List Int} {x y z : Nat} {μ : Store} (hl : l.length = m.length) (hn : l.length ≤ 100) (hx : x < l.length) (hy : y < l.length) (hz : z < l.length) : fn_check_no [.t (tupI l), .t (tupI m), .t (.tup [.int x, .int y, .int z])] μ = outS (noS l m x y z) μ := by
  have l1 := at_int (l := l) hx
  have l2 := at_int (l := l) hy
  have m1 := at_int (l := m) (i := y) (by omega)
  have m2 := at_int (l := m) (i := z) (by omega)
  have am := amid_of_ok (l := m) (m := l) (b := x) (e := z) (μ := μ) hl.symm (by omega) (by omega) (by omega)
  by_cases c1 : l.getD x 0 = l.getD y 0
  · by_cases c2 : m.getD y 0 = m.getD z 0
    · cases ha : amids m l x z with
      | nil =>
        rw [ha] at am
        simp [fn_check_no, b_check_no, fnOf, startM, sAsg_tp, l1, l2, m1, m2, c1, c2, am, isNon, noS, ha, outS, -List.getD_eq_getElem?_getD]
      | cons t ts =>
        rw [ha] at am
        simp [fn_check_no, b_check_no, fnOf, startM, sAsg_tp, l1, l2, m1, m2, c1, c2, am, isNon, noS, ha, outS, sRaise, -List.getD_eq_getElem?_getD]
    · simp [fn_check_no, b_check_no, fnOf, startM, sAsg_tp, l1, l2, m1, m2, c1, c2, noS, outS, sRaise, -List.getD_eq_getElem?_getD]
  · simp [fn_check_no, b_check_no, fnOf, startM, sAsg_tp, l1, l2, c1, noS, outS, sRaise, -List.getD_eq_getElem?_getD]
/-- none for a right answer, else where it is wrong -/
def dueS (l m : List Int) (ans : PV) : Option Int := match ans with
  | .tup [w, .lst told] => if eqB w (.str "yes") then (yesS l m told 0 (pairsL l m)).map fun (k : Nat) => (k : Int) else some (-1)
  | .tup [w, d] => if eqB w (.str "no") && isRowB d 3 l.length then (match d with
    | .tup [.int x, .int y, .int z] => (noS l m x.toNat y.toNat z.toNat).map fun (k : Nat) => (k : Int)
    | _ => some (-1)) else some (-1)
  | _ => some (-1)
def optI : Option Int → PV
  | some k => .int k
  | none => .non
def outI (o : Option Int) (μ : Store) : R Val := match o with
  | some k => .ex "NoPaper" (some ("at", .int k)) μ
  | none => .ok (.t .non) μ
theorem opt_map (o : Option Nat) : optI (o.map fun (k : Nat) => (k : Int)) = optPV o := by cases o <;> rfl
theorem out_map (o : Option Nat) (μ : Store) : outI (o.map fun (k : Nat) => (k : Int)) μ = outS o μ := by cases o <;> rfl
theorem len2 {l : List PV} (h : l.length = 2) : ∃ a b, l = [a, b] := by
  match l, h with
  | [a, b], _ => exact ⟨a, b, rfl⟩
theorem yes_no (w : PV) (h : eqB w (.str "yes") = true) : eqB w (.str "no") = false := by
  cases w with
  | str x =>
    have e : x = "yes" := by simpa [eqB, PV.data, PyData.eqv] using h
    rw [e]
    decide +kernel
  | _ => simp [eqB, PV.data, PyData.eqv] at h ⊢
theorem due_both {l m : List Int} {ans : PV} {k : Nat} {μ : Store} (hr : RowI l l.length) (hs : RowI m l.length) (hp : partB l = true) (hq : partB m = true) (hn : l.length ≤ 100) (ha : SD k ans) (hk : k ≤ 60) :
    fn__law_due [.t (tupI l), .t (tupI m), .t ans] μ = .ok (.t (optI (dueS l m ans))) μ ∧ fn_check_permuted [.t (tupI l), .t (tupI m), .t ans] μ = outI (dueS l m ans) μ := by
  have hl : l.length = m.length := hs.len.symm
  have c2 := check_two_ok (μ := μ) hr hs (by omega) hp hq
  cases ans with
  | obj C a b => exact absurd ha SD_obj
  | dic a b => exact absurd ha SD_dic
  | tup ds =>
    obtain ⟨k', rfl, hlen, hd⟩ := ha.tupE
    by_cases h2 : ds.length = 2
    · obtain ⟨w, d, rfl⟩ := len2 h2
      have sw := hd w (by simp)
      have sd := hd d (by simp)
      have ow : okD w = true := sw.ok (by omega)
      have oy : okD (.str "yes") = true := rfl
      have on : okD (.str "no") = true := rfl
      have r3 := are_three_ok (n := l.length) (μ := μ) sd
      have r4 := is_row_ok (w := 3) (n := l.length) (μ := μ) sd
      by_cases hy : eqB w (.str "yes") = true
      · have hno := yes_no w hy
        cases d with
        | lst told =>
          obtain ⟨k'', rfl, _, ht⟩ := sd.lstE
          have d1 := due_of_yes_ok (μ := μ) hl hn ht
          have d2 := check_yes_ok (μ := μ) hl hn ht
          have e : dueS l m (.tup [w, .lst told]) = (yesS l m told 0 (pairsL l m)).map fun (k : Nat) => (k : Int) := by simp only [dueS, hy, if_true]
          rw [e, opt_map, out_map]
          constructor
          · simp [fn__law_due, b__law_due, fnOf, startM, subT, at2_0, at2_1, eq_ok ow oy, hy, d1]
          · cases hyy : yesS l m told 0 (pairsL l m) with
            | none => rw [hyy] at d2; simp [fn_check_permuted, b_check_permuted, fnOf, startM, c2, subT, at2_0, at2_1, eq_ok ow oy, hy, d2, outS]
            | some q => rw [hyy] at d2; simp [fn_check_permuted, b_check_permuted, fnOf, startM, c2, subT, at2_0, at2_1, eq_ok ow oy, hy, d2, outS]
        | obj C a b => exact absurd sd SD_obj
        | dic a b => exact absurd sd SD_dic
        | _ =>
          constructor
          · simp [fn__law_due, b__law_due, fnOf, startM, subT, at2_0, at2_1, eq_ok ow oy, eq_ok ow on, hy, hno, dueS, optI]
          · simp [fn_check_permuted, b_check_permuted, fnOf, startM, c2, subT, at2_0, at2_1, eq_ok ow oy, eq_ok ow on, hy, hno, dueS, outI, sRaise]
      · have hy := Bool.eq_false_iff.mpr hy
        by_cases hno : eqB w (.str "no") = true
        · cases hr3 : isRowB d 3 l.length with
          | true =>
            rw [hr3] at r3 r4
            obtain ⟨x, y, z, rfl, hx, hy', hz⟩ := row3 hr3
            have d1 := due_of_no_ok (μ := μ) hl hn hx hy' hz
            have d2 := check_no_ok (μ := μ) hl hn hx hy' hz
            have e : dueS l m (.tup [w, .tup [.int x, .int y, .int z]]) = (noS l m x y z).map fun (k : Nat) => (k : Int) := by simp only [dueS, hno, hr3, Bool.and_self, if_true, Int.toNat_natCast]
            rw [e, opt_map, out_map]
            constructor
            · simp [fn__law_due, b__law_due, fnOf, startM, subT, at2_0, at2_1, eq_ok ow oy, eq_ok ow on, hy, hno, d1, r3]
            · cases hyy : noS l m x y z with
              | none => rw [hyy] at d2; simp [fn_check_permuted, b_check_permuted, fnOf, startM, c2, subT, at2_0, at2_1, eq_ok ow oy, eq_ok ow on, hy, hno, d2, r4, outS]
              | some q => rw [hyy] at d2; simp [fn_check_permuted, b_check_permuted, fnOf, startM, c2, subT, at2_0, at2_1, eq_ok ow oy, eq_ok ow on, hy, hno, d2, r4, outS]
          | false =>
            rw [hr3] at r3 r4
            have e : dueS l m (.tup [w, d]) = some (-1) := by
              cases d <;> simp [dueS, hy, hr3]
            rw [e]
            constructor
            · simp [fn__law_due, b__law_due, fnOf, startM, subT, at2_0, at2_1, eq_ok ow oy, eq_ok ow on, hy, hno, r3, optI]
            · simp [fn_check_permuted, b_check_permuted, fnOf, startM, c2, subT, at2_0, at2_1, eq_ok ow oy, eq_ok ow on, hy, hno, r4, outI, sRaise]
        · have hno := Bool.eq_false_iff.mpr hno
          have e : dueS l m (.tup [w, d]) = some (-1) := by
            cases d <;> simp [dueS, hy, hno]
          rw [e]
          constructor
          · simp [fn__law_due, b__law_due, fnOf, startM, subT, at2_0, at2_1, eq_ok ow oy, eq_ok ow on, hy, hno, optI]
          · simp [fn_check_permuted, b_check_permuted, fnOf, startM, c2, subT, at2_0, at2_1, eq_ok ow oy, eq_ok ow on, hy, hno, outI, sRaise]
    · have h2' : ¬ ((ds.length : Int) = 2) := by omega
      have e : dueS l m (.tup ds) = some (-1) := by
        unfold dueS
        split
        · rename_i h; cases h; exact absurd rfl h2
        · rename_i h; cases h; exact absurd rfl h2
        · rfl
      rw [e]
      constructor
      · simp [fn__law_due, b__law_due, fnOf, startM, subT, h2', optI]
      · simp [fn_check_permuted, b_check_permuted, fnOf, startM, c2, subT, h2', outI, sRaise]
  | _ =>
    constructor
    · simp [fn__law_due, b__law_due, fnOf, startM, subT, dueS, optI]
    · simp [fn_check_permuted, b_check_permuted, fnOf, startM, c2, subT, dueS, outI, sRaise]
def saidS (o : Option Int) : PV := match o with
  | some k => .tup [.str "no paper", .int k, .bl true]
  | none => .non
theorem said_ok {l m : List Int} {ans : PV} {μ : Store} (h : fn_check_permuted [.t (tupI l), .t (tupI m), .t ans] μ = outI (dueS l m ans) μ) : fn__law_said [.t (tupI l), .t (tupI m), .t ans] μ = .ok (.t (saidS (dueS l m ans))) μ := by
  cases hd : dueS l m ans with
  | none =>
    rw [hd] at h
    simp [fn__law_said, b__law_said, fnOf, startM, sTry, h, outI, saidS]
  | some k =>
    rw [hd] at h
    have n1 : ("NoPaper" : Str) ∈ (["NoPaper"] : List Str) := List.mem_singleton.mpr rfl
    simp [fn__law_said, b__law_said, fnOf, startM, sTry, h, outI, saidS, handle, gXf, gIsX, List.lookup, RS.unset, plainO, Val.plain]
/-! ### parts drawn -/
theorem eqB_int {a b : Int} : eqB (.int a) (.int b) = decide (a = b) := by
  simp [eqB, PV.data, PyData.eqv, Bool.beq_eq_decide_eq]
def marksOf (ms : List Int) : List Int := ms.map fun x => (ms.idxOf x : Int)
theorem idxB_int {ms : List Int} {x : Int} (h : x ∈ ms) : idxB (ms.map .int) (.int x) = some (ms.idxOf x) := by
  unfold idxB
  rw [List.findIdx?_map]
  have e : ((fun z => eqB z (.int x)) ∘ PV.int) = fun z => z == x := by
    funext z
    simp only [Function.comp, eqB_int, Bool.beq_eq_decide_eq]
  rw [e, List.findIdx?_eq_some_iff_findIdx_eq]
  exact ⟨List.idxOf_lt_length_of_mem h, rfl⟩
theorem marks_len (ms : List Int) : (marksOf ms).length = ms.length := by unfold marksOf; rw [List.length_map]
theorem marks_at {ms : List Int} {i : Nat} (h : i < ms.length) : (marksOf ms).getD i 0 = (ms.idxOf ms[i] : Int) := by
  unfold marksOf
  rw [List.getD_eq_getElem?_getD, List.getElem?_map, List.getElem?_eq_getElem h]
  rfl
theorem marks_row (ms : List Int) : RowI (marksOf ms) ms.length := by
  refine ⟨marks_len ms, fun x hx => ?_⟩
  obtain ⟨y, hy, rfl⟩ := List.mem_map.mp hx
  have := List.idxOf_lt_length_of_mem hy
  omega
theorem marks_part (ms : List Int) : partB (marksOf ms) = true := by
  unfold partB
  rw [List.all_eq_true]
  intro i hi
  have hi := List.mem_range.mp hi
  rw [marks_len] at hi
  have hm : ms[i] ∈ ms := List.getElem_mem hi
  have hj := List.idxOf_lt_length_of_mem hm
  rw [marks_at hi, Bool.and_eq_true, decide_eq_true_eq, decide_eq_true_eq, Int.toNat_natCast, marks_at hj]
  constructor
  · by_cases hle : ms.idxOf ms[i] ≤ i
    · omega
    · have := List.not_of_lt_findIdx (p := fun z => z == ms[i]) (xs := ms) (i := i) (by unfold List.idxOf at hle; omega)
      simp at this
  · rw [List.getElem_idxOf hj]
theorem of_marks_ok {ms : List Int} {μ : Store} (hn : ms.length ≤ 100) : fn__law_of_marks [.t (.lst (ms.map .int))] μ = .ok (.t (tupI (marksOf ms))) μ := by
  have o1 : okD (.lst (ms.map .int)) = true := (SD_lst (n := 0).mpr ⟨by rw [List.length_map]; omega, SD_ints⟩).ok
  have e : lcL (.nm 1) tYes' e1__law_of_marks (ms.map .int) [some (.t (.lst (ms.map .int))), none] μ = .ok ((marksOf ms).map .int) μ := by
    rw [lcL_map (fun d => match d with | .int x => .int (ms.idxOf x : Int) | d => d)]
    · unfold marksOf
      rw [List.map_map, List.map_map]
      rfl
    · intro d hd
      obtain ⟨x, hx, rfl⟩ := List.mem_map.mp hd
      have o2 : okD (.int x) = true := rfl
      exact ⟨_, asg_nm, rfl, by simp [e1__law_of_marks, eIndex, isLst, gIndex, views, o1, o2, idxB_int hx]⟩
  have z : szF ((marksOf ms).map .int) μ = .ok _ μ := szF_ok (szL _ (by rw [List.length_map, marks_len]; omega))
  simp [fn__law_of_marks, b__law_of_marks, fnOf, startM, wipeM, e, z, tupI]
theorem ints_of {P : Int → Prop} : ∀ {ys : List PV}, (∀ y ∈ ys, ∃ r : Int, y = .int r ∧ P r) → ∃ l : List Int, ys = l.map .int ∧ ∀ x ∈ l, P x
  | [], _ => ⟨[], rfl, fun _ h => nomatch h⟩
  | y :: ys, h => by
    obtain ⟨r, rfl, hr⟩ := h y List.mem_cons_self
    obtain ⟨l, rfl, hl⟩ := ints_of fun z hz => h z (List.mem_cons_of_mem _ hz)
    exact ⟨r :: l, rfl, fun x hx => (List.mem_cons.mp hx).elim (fun e => e ▸ hr) (hl x)⟩
theorem draws_ok {e : ME} (he : e = e1__law_two ∨ e = e2__law_two) {n : Nat} {σ : Sl} {a b c : Int} {t : Store} (h0 : σ[0]? = some (some (.c 0))) : ∃ (ms : List Int) (a' b' c' : Int), lcL (.nm 8) tYes' e (rgI 0 n) σ (wl a b c :: t) = .ok (ms.map .int) (wl a' b' c' :: t) ∧ ms.length = n := by
  obtain ⟨ys, μ', h1, ⟨a', b', c', rfl⟩, h3, h4⟩ := lcL_inv (T := .nm 8) (test := tYes') (elt := e) (items := rgI 0 n) (σ := σ) (μ := wl a b c :: t) (fun _ μ => ∃ a b c, μ = wl a b c :: t) (fun y => ∃ r : Int, y = .int r ∧ True) ⟨a, b, c, rfl⟩ (by
    rintro i d μ hd ⟨a, b, c, rfl⟩
    obtain ⟨r, a', b', c', k, _⟩ := draw_ok (a := a) (b := b) (c := c) (t := t) (m := 3) (by decide) (by decide)
    have h0' : (σ.set 8 (some (.t d)))[0]? = some (some (.c 0)) := by rw [List.getElem?_set_ne (by decide)]; exact h0
    refine ⟨_, .int r, _, asg_nm, rfl, ?_, ⟨a', b', c', rfl⟩, r, rfl, trivial⟩
    rcases he with rfl | rfl
    · simp [e1__law_two, h0', k]
    · simp [e2__law_two, h0', k])
  obtain ⟨l, rfl, _⟩ := ints_of h4
  exact ⟨l, a', b', c', h1, by rw [List.length_map, rgI_len] at h3; exact h3⟩
theorem erase_map {α β : Type} (f : α → β) : ∀ (l : List α) (j : Nat), (l.map f).eraseIdx j = (l.eraseIdx j).map f
  | [], _ => rfl
  | _ :: _, 0 => rfl
  | x :: l, j + 1 => congrArg (f x :: ·) (erase_map f l j)
theorem seq_nat {i n : Nat} (h : i < n) : seqIndex? (i : Int) n = some i := by
  unfold seqIndex?
  simp; omega
theorem pops_ok {n : Nat} {σ : Sl} {a b c : Int} {t : Store} (hn : n ≤ 100) (h0 : σ[0]? = some (some (.c 0))) (h6 : σ[6]? = some (some (.c (t.length + 1)))) : ∃ (ms : List Int) (a' b' c' : Int) (z : Option Cell), lcL (.nm 8) tYes' e3__law_two (rgI 0 n) σ (wl a b c :: t ++ [some (.lst (rgI 0 n))]) = .ok (ms.map .int) (wl a' b' c' :: t ++ [z]) ∧ ms.length = n := by
  obtain ⟨ys, μ', h1, ⟨a', b', c', rest, rfl, _⟩, h3, h4⟩ := lcL_inv (T := .nm 8) (test := tYes') (elt := e3__law_two) (items := rgI 0 n) (σ := σ) (μ := wl a b c :: t ++ [some (.lst (rgI 0 n))]) (fun i μ => ∃ a b c, ∃ rest : List Int, μ = wl a b c :: t ++ [some (.lst (rest.map .int))] ∧ rest.length = n - i) (fun y => ∃ r : Int, y = .int r ∧ True)
    ⟨a, b, c, (List.range n).map fun (k : Nat) => (k : Int), by rw [rgI_nat, List.map_map]; rfl, by simp⟩ (by
    rintro i d μ hd ⟨a, b, c, rest, rfl, hr⟩
    obtain ⟨hi, rfl⟩ := range_at hd
    obtain ⟨r, a', b', c', k, k1, k2⟩ := draw_ok (a := a) (b := b) (c := c) (t := t ++ [some (.lst (rest.map .int))]) (m := rest.length) (by omega) (by omega)
    have h0' : (σ.set 8 (some (.t (.int i))))[0]? = some (some (.c 0)) := by rw [List.getElem?_set_ne (by decide)]; exact h0
    have h6' : (σ.set 8 (some (.t (.int i))))[6]? = some (some (.c (t.length + 1))) := by rw [List.getElem?_set_ne (by decide)]; exact h6
    obtain ⟨j, rfl⟩ : ∃ j : Nat, r = j := ⟨r.toNat, by omega⟩
    have hj : j < rest.length := by omega
    have lb : bnd (j : Int) = true := Nat.ble_eq_true_of_le (by omega)
    have at' : (wl a b c :: (t ++ [some (.lst (rest.map .int))]))[t.length + 1]? = some (some (.lst (rest.map .int))) := by simp
    have at'' : (wl a' b' c' :: (t ++ [some (.lst (rest.map .int))]))[t.length + 1]? = some (some (.lst (rest.map .int))) := by simp
    refine ⟨_, .int rest[j], wl a' b' c' :: (t ++ [some (.lst ((rest.eraseIdx j).map .int))]), asg_nm, rfl, ?_, ⟨a', b', c', rest.eraseIdx j, rfl, by rw [List.length_eraseIdx_of_lt hj]; omega⟩, rest[j], rfl, trivial⟩
    have es : (wl a' b' c' :: (t ++ [some (.lst (rest.map .int))])).set (t.length + 1) (some (.lst ((rest.map .int).eraseIdx j))) = wl a' b' c' :: (t ++ [some (.lst ((rest.eraseIdx j).map .int))]) := by
      rw [List.set_cons_succ, List.set_append_right _ _ (by omega), erase_map]
      simp
    have lb2 : (rest.map PV.int)[j]? = some (.int rest[j]) := by rw [List.getElem?_map, List.getElem?_eq_getElem hj]; rfl
    have vw : view (wl a b c :: (t ++ [some (.lst (rest.map .int))])) (.c (t.length + 1)) = some (.lst (rest.map .int)) := by unfold view; dsimp only; rw [at']
    have ln : pN lenV [.c (t.length + 1)] (wl a b c :: (t ++ [some (.lst (rest.map .int))])) = .ok (.t (.int rest.length)) (wl a b c :: (t ++ [some (.lst (rest.map .int))])) := by
      unfold pN views
      rw [vw]
      simp [views]
    simp [e3__law_two, eMutG, lstAt, h0', h6', at', ln, k, gMut, at'', mPopAt, lb, seq_nat hj, List.getElem?_eq_getElem hj, erase_map])
  obtain ⟨l, rfl, _⟩ := ints_of h4
  exact ⟨l, a', b', c', _, h1, by rw [List.length_map, rgI_len] at h3; exact h3⟩
theorem two_ok {n : Nat} {a b c : Int} {t : Store} (h0 : 0 < n) (hn : n ≤ 100) : ∃ (l m : List Int) (a' b' c' : Int), fn__law_two [.c 0, .t (.int n)] (wl a b c :: t) = .ok (.t (.tup [tupI l, tupI m])) (wl a' b' c' :: t) ∧ RowI l n ∧ RowI m n ∧ partB l = true ∧ partB m = true := by
  obtain ⟨r1, a1, b1, c1, d1, p1, q1⟩ := draw_ok (a := a) (b := b) (c := c) (t := t) (m := 3) (by decide) (by decide)
  obtain ⟨r2, a2, b2, c2, d2, p2, q2⟩ := draw_ok (a := a1) (b := b1) (c := c1) (t := t) (m := 3) (by decide) (by decide)
  obtain ⟨m3, a3, b3, c3, d3, k3⟩ := draws_ok (.inl rfl) (n := n) (a := a2) (b := b2) (c := c2) (t := t) (σ := [some (.c 0), some (.t (.int n)), some (.t (.int r1)), some (.t (.int (1 + r2))), none, none, none, none, none, none]) rfl
  obtain ⟨m4, a4, b4, c4, d4, k4⟩ := draws_ok (.inr rfl) (n := n) (a := a3) (b := b3) (c := c3) (t := t) (σ := [some (.c 0), some (.t (.int n)), some (.t (.int r1)), some (.t (.int (1 + r2))), some (.t (.lst (m3.map .int))), none, none, none, none, none]) rfl
  obtain ⟨m5, a5, b5, c5, z, d5, k5⟩ := pops_ok (n := n) (a := a4) (b := b4) (c := c4) (t := t) (σ := [some (.c 0), some (.t (.int n)), some (.t (.int r1)), some (.t (.int (1 + r2))), some (.t (.lst (m3.map .int))), some (.t (.lst (m4.map .int))), some (.c (t.length + 1)), none, none, none]) hn rfl rfl
  have sz : ∀ {ms : List Int} {μ : Store}, ms.length ≤ 100 → szF (ms.map .int) μ = .ok (ms.map .int) μ := fun h => szF_ok (szL _ (by rw [List.length_map]; omega))
  have rg : ∀ {μ : Store}, gRange1 [.t (.int (n : Int))] μ = .ok (rgI 0 n) μ := range1_ok (by omega)
  have lr : ∀ {μ : Store}, gLR1 (.t (.int (n : Int))) μ = .ok (rgI 0 n) μ := by
    intro μ
    unfold gLR1 gRg
    have h1 : bnd 0 = true := rfl
    have h2 : bnd (n : Int) = true := Nat.ble_eq_true_of_le (by omega)
    have h3 : Nat.ble ((n : Int) - 0).toNat 16777216 = true := Nat.ble_eq_true_of_le (by omega)
    dsimp only
    rw [h1, h2, h3]
    have h4 : ((n : Int) - 0).toNat = n := by omega
    rw [h4]
    rfl
  simp only [List.cons_append] at d5
  by_cases hg : 0 < r1
  · have e4 : ∀ {σ : Sl} {μ : Store}, σ[3]? = some (some (.t (.int (1 + r2)))) → 9 < σ.length → lcL (.nm 9) tYes' e4__law_two (m5.map .int) σ μ = .ok ((m5.map fun x => x / (1 + r2)).map .int) μ := by
      intro σ μ h3 h9
      rw [lcL_map (fun d => match d with | .int x => .int (x / (1 + r2)) | d => d)]
      · rw [List.map_map, List.map_map]; rfl
      · intro d hd
        obtain ⟨x, hx, rfl⟩ := List.mem_map.mp hd
        refine ⟨_, asg_nm, rfl, ?_⟩
        have h3' : (σ.set 9 (some (.t (.int x))))[3]? = some (some (.t (.int (1 + r2)))) := by rw [List.getElem?_set_ne (by decide)]; exact h3
        have h9' : (σ.set 9 (some (.t (.int x))))[9]? = some (some (.t (.int x))) := List.getElem?_set_self h9
        simp [e4__law_two, h3', h9', fdiv_ok (i := x) (j := 1 + r2) (by omega) (by omega)]
    have e5 : ∀ {σ : Sl} {μ : Store}, σ[3]? = some (some (.t (.int (1 + r2)))) → 9 < σ.length → lcL (.nm 9) tYes' e5__law_two (m5.map .int) σ μ = .ok ((m5.map fun x => x % (1 + r2)).map .int) μ := by
      intro σ μ h3 h9
      rw [lcL_map (fun d => match d with | .int x => .int (x % (1 + r2)) | d => d)]
      · rw [List.map_map, List.map_map]; rfl
      · intro d hd
        obtain ⟨x, hx, rfl⟩ := List.mem_map.mp hd
        refine ⟨_, asg_nm, rfl, ?_⟩
        have h3' : (σ.set 9 (some (.t (.int x))))[3]? = some (some (.t (.int (1 + r2)))) := by rw [List.getElem?_set_ne (by decide)]; exact h3
        have h9' : (σ.set 9 (some (.t (.int x))))[9]? = some (some (.t (.int x))) := List.getElem?_set_self h9
        simp [e5__law_two, h3', h9', mod_ok (i := x) (j := 1 + r2) (by omega)]
    refine ⟨marksOf (m5.map fun x => x / (1 + r2)), marksOf (m5.map fun x => x % (1 + r2)), a5, b5, c5, ?_, ?_, ?_, marks_part _, marks_part _⟩
    · have o3 := of_marks_ok (ms := m5.map fun x => x / (1 + r2)) (μ := wl a5 b5 c5 :: (t ++ [z])) (by rw [List.length_map]; omega)
      have o4 := of_marks_ok (ms := m5.map fun x => x % (1 + r2)) (μ := wl a5 b5 c5 :: (t ++ [z])) (by rw [List.length_map]; omega)
      have s3 := sz (ms := m5.map fun x => x / (1 + r2)) (μ := wl a5 b5 c5 :: (t ++ [z])) (by rw [List.length_map]; omega)
      have s4 := sz (ms := m5.map fun x => x % (1 + r2)) (μ := wl a5 b5 c5 :: (t ++ [z])) (by rw [List.length_map]; omega)
      simp [fn__law_two, b__law_two, fnOf, startM, d1, d2, rg, lr, wipeM, d3, d4, sz (ms := m3) (by omega), sz (ms := m4) (by omega), sz (ms := m5) (by omega), d5, hg, o3, o4, e4, e5, s3, s4, -List.map_map]
    · have := marks_row (m5.map fun x => x / (1 + r2)); rw [List.length_map, k5] at this; exact this
    · have := marks_row (m5.map fun x => x % (1 + r2)); rw [List.length_map, k5] at this; exact this
  · refine ⟨marksOf m3, marksOf m4, a5, b5, c5, ?_, k3 ▸ marks_row m3, k4 ▸ marks_row m4, marks_part m3, marks_part m4⟩
    have o3 := of_marks_ok (ms := m3) (μ := wl a5 b5 c5 :: (t ++ [z])) (by omega)
    have o4 := of_marks_ok (ms := m4) (μ := wl a5 b5 c5 :: (t ++ [z])) (by omega)
    simp [fn__law_two, b__law_two, fnOf, startM, d1, d2, rg, lr, wipeM, d3, d4, sz (ms := m3) (by omega), sz (ms := m4) (by omega), sz (ms := m5) (by omega), d5, hg, o3, o4]
/-! ### lists told -/
def T3 (d : PV) : Prop := ∃ x y z : Int, d = .tup [.int x, .int y, .int z]
theorem T3.sd {d : PV} (h : T3 d) : SD (0 + 1) d := by
  obtain ⟨x, y, z, rfl⟩ := h
  simp [SD_tup]
theorem cut_mem {l : List PV} {lo hi : Option Int} {d : PV} (h : d ∈ cutG l lo hi) : d ∈ l := List.mem_of_mem_drop (List.mem_of_mem_take h)
theorem cut_len {l : List PV} {lo hi : Option Int} : (cutG l lo hi).length ≤ l.length := by
  unfold cutG
  rw [List.length_take, List.length_drop]
  omega
theorem nats_int {ts : List Nat} {r : Int} (h0 : 0 ≤ r) (h1 : r < (natsPV ts).length) : ∃ x : Int, atI (natsPV ts) r = some (.int x) := by
  obtain ⟨j, rfl⟩ : ∃ j : Nat, r = j := ⟨r.toNat, by omega⟩
  have hj : j < (natsPV ts).length := by omega
  obtain ⟨x, _, hx⟩ := List.mem_map.mp (show (natsPV ts)[j] ∈ ts.map _ from List.getElem_mem hj)
  exact ⟨x, by rw [atI_nat' hj, ← hx]⟩
theorem list_step {l m : List Int} {p : Nat × Nat} {a b c : Int} {t : Store} {told : List PV} {s3 s4 x y z s9 s10 s11 s12 : Option Val} (hl : l.length = m.length) (hn : l.length ≤ 100) (hp : p.1 < l.length ∧ p.2 < l.length) (ht : told.length < 100000) :
    ∃ a' b' c' d z', T3 d ∧ f1__law_list [some (.c 0), some (.t (tupI l)), some (.t (tupI m)), s3, s4, some (.c (t.length + 1)), some (.t (.int p.1)), some (.t (.int p.2)), z, s9, s10, s11, s12] (wl a b c :: (t ++ [some (.lst told)])) =
      .nx [some (.c 0), some (.t (tupI l)), some (.t (tupI m)), s3, s4, some (.c (t.length + 1)), some (.t (.int p.1)), some (.t (.int p.2)), z', s9, s10, s11, s12] (wl a' b' c' :: (t ++ [some (.lst (told ++ [d]))])) := by
  have am := law_amid_ok (l := m) (m := l) (b := p.1) (e := p.2) (μ := wl a b c :: (t ++ [some (.lst told)])) hl.symm (by omega) (by omega) (by omega)
  have hle := amids_len m l p.1 p.2
  have ln : (natsPV (amids m l p.1 p.2)).length = (amids m l p.1 p.2).length := by unfold natsPV; rw [List.length_map]
  have ad := addF_ok (a := natsPV (amids m l p.1 p.2)) (b := [.int (p.1 : Int)]) (by rw [ln]; simp; omega)
  have ew : natsPV (amids m l p.1 p.2) ++ [.int (p.1 : Int)] = natsPV (amids m l p.1 p.2 ++ [p.1]) := by unfold natsPV; rw [List.map_append]; rfl
  rw [ew] at ad
  have hi := @nats_int (amids m l p.1 p.2 ++ [p.1])
  have hw : (natsPV (amids m l p.1 p.2 ++ [p.1])).length = (amids m l p.1 p.2).length + 1 := by unfold natsPV; rw [List.length_map, List.length_append]; rfl
  generalize natsPV (amids m l p.1 p.2 ++ [p.1]) = ws at ad hi hw
  obtain ⟨mm, mx, h1, h2⟩ : ∃ mm : Int, maxV [.int 1, .int ((ws.length : Int) - 1)] = some (.int mm) ∧ 0 < mm ∧ mm ≤ ws.length := by
    refine ⟨_, rfl, ?_, ?_⟩ <;> split <;> omega
  obtain ⟨r, a', b', c', k, k1, k2⟩ := draw_ok (a := a) (b := b) (c := c) (t := t ++ [some (.lst told)]) (m := mm) h1 (by omega)
  obtain ⟨w, hw'⟩ := hi (r := r) k1 (by omega)
  have hs : told.length < sizeLine := szL (told.length + 1) (by omega)
  refine ⟨a', b', c', .tup [.int p.1, .int p.2, .int w], some (.t (.lst ws)), ⟨_, _, _, rfl⟩, ?_⟩
  simp [f1__law_list, am, ad, eMutG, lstAt, mx, k, hw', gMut, mAppend, hs]
theorem list_loop {l m : List Int} {a b c : Int} {t : Store} {s3 s4 s9 s10 s11 s12 : Option Val} (hl : l.length = m.length) (hn : l.length ≤ 100) :
    ∃ (a' b' c' : Int) (told : List PV) (x y z : Option Val), told.length ≤ 10000 ∧ (∀ d ∈ told, T3 d) ∧ forL (.tp [(.nm 6), (.nm 7)]) f1__law_list ((pairsL l m).map pairPV) [some (.c 0), some (.t (tupI l)), some (.t (tupI m)), s3, s4, some (.c (t.length + 1)), none, none, none, s9, s10, s11, s12] (wl a b c :: (t ++ [some (.lst [])])) =
      .nx [some (.c 0), some (.t (tupI l)), some (.t (tupI m)), s3, s4, some (.c (t.length + 1)), x, y, z, s9, s10, s11, s12] (wl a' b' c' :: (t ++ [some (.lst told)])) := by
  have hL : (pairsL l m).length ≤ 10000 := by
    have h1 : (pairsL l m).length ≤ l.length * l.length := pairs_len l m l.length
    have h2 : l.length * l.length ≤ 100 * 100 := Nat.mul_le_mul hn hn
    omega
  refine forL_inv (fun (i : Nat) (σ : Sl) (μ : Store) => ∃ (a' b' c' : Int) (told : List PV) (x y z : Option Val), told.length = i ∧ (∀ d ∈ told, T3 d) ∧ σ = [some (.c 0), some (.t (tupI l)), some (.t (tupI m)), s3, s4, some (.c (t.length + 1)), x, y, z, s9, s10, s11, s12] ∧ μ = wl a' b' c' :: (t ++ [some (.lst told)]))
    (fun (r : RS) => ∃ (a' b' c' : Int) (told : List PV) (x y z : Option Val), told.length ≤ 10000 ∧ (∀ d ∈ told, T3 d) ∧ r = .nx [some (.c 0), some (.t (tupI l)), some (.t (tupI m)), s3, s4, some (.c (t.length + 1)), x, y, z, s9, s10, s11, s12] (wl a' b' c' :: (t ++ [some (.lst told)]))) ⟨a, b, c, [], none, none, none, rfl, fun _ h => (nomatch h), rfl, rfl⟩ ?_ ?_
  · rintro i d σ μ hd ⟨a, b, c, told, x, y, z, h1, h2, rfl, rfl⟩
    have hm := List.mem_of_getElem? hd
    obtain ⟨p, hp, rfl⟩ := List.mem_map.mp hm
    have hi : i < (pairsL l m).length := by
      have := (List.getElem?_eq_some_iff.mp hd).1
      rwa [List.length_map] at this
    obtain ⟨a', b', c', d, z', h3, h4⟩ := list_step (l := l) (m := m) (p := p) (a := a) (b := b) (c := c) (t := t) (told := told) (s3 := s3) (s4 := s4) (x := x) (y := y) (z := z) (s9 := s9) (s10 := s10) (s11 := s11) (s12 := s12) hl hn (pairs_mem hp) (by omega)
    refine ⟨[some (.c 0), some (.t (tupI l)), some (.t (tupI m)), s3, s4, some (.c (t.length + 1)), some (.t (.int p.1)), some (.t (.int p.2)), z, s9, s10, s11, s12], by simp [pairPV], .inl ⟨_, _, .inl h4, a', b', c', told ++ [d], _, _, z', by rw [List.length_append, h1]; rfl, fun e he => ?_, rfl, rfl⟩⟩
    rcases List.mem_append.mp he with he | he
    · exact h2 e he
    · cases List.mem_singleton.mp he; exact h3
  · rintro σ μ ⟨a', b', c', told, x, y, z, h1, h2, rfl, rfl⟩
    rw [List.length_map] at h1
    exact ⟨a', b', c', told, x, y, z, by omega, h2, rfl⟩
theorem app3_SD {a b : List PV} {d : PV} (ha : ∀ x ∈ a, SD (0 + 1) x) (hb : ∀ x ∈ b, SD (0 + 1) x) (hd : SD (0 + 1) d) : ∀ x ∈ a ++ [d] ++ b, SD (0 + 1) x := by
  intro x hx
  rcases List.mem_append.mp hx with hx | hx
  · rcases List.mem_append.mp hx with hx | hx
    · exact ha x hx
    · cases List.mem_singleton.mp hx; exact hd
  · exact hb x hx
theorem list_ok {l m : List Int} {a b c : Int} {t : Store} (hl : l.length = m.length) (h0 : 0 < l.length) (hn : l.length ≤ 100) : ∃ (ds : List PV) (a' b' c' : Int), fn__law_list [.c 0, .t (tupI l), .t (tupI m)] (wl a b c :: t) = .ok (.t (.lst ds)) (wl a' b' c' :: t) ∧ SD (0 + 1 + 1) (.lst ds) := by
  obtain ⟨r1, a1, b1, c1, d1, p1', q1⟩ := draw_ok (a := a) (b := b) (c := c) (t := t) (m := 7) (by decide) (by decide)
  obtain ⟨r2, a2, b2, c2, d2, p2', q2⟩ := draw_ok (a := a1) (b := b1) (c := c1) (t := t) (m := 100003) (by decide) (by decide)
  obtain ⟨a', b', c', told, x, y, z, hlen, hT, lp⟩ := list_loop (l := l) (m := m) (a := a2) (b := b2) (c := c2) (t := t) (s3 := some (.t (.int r1))) (s4 := some (.t (.int r2))) (s9 := none) (s10 := none) (s11 := none) (s12 := none) hl hn
  have pr := law_pairs_ok (l := l) (m := m) (μ := wl a2 b2 c2 :: (t ++ [some (.lst [])])) hl hn
  have vw : view (wl a' b' c' :: (t ++ [some (.lst told)])) (.c (t.length + 1)) = some (.lst told) := by simp [view]
  have lnf : pN lenV [.c (t.length + 1)] (wl a' b' c' :: (t ++ [some (.lst told)])) = .ok (.t (.int told.length)) (wl a' b' c' :: (t ++ [some (.lst told)])) := by
    unfold pN views
    rw [vw]
    simp [views]
  have md := mod_ok (i := r2) (j := (told.length : Int) + 1) (by omega)
  obtain ⟨q, hq⟩ : ∃ q : Nat, r2 % ((told.length : Int) + 1) = q := ⟨(r2 % ((told.length : Int) + 1)).toNat, by have := Int.emod_nonneg r2 (b := (told.length : Int) + 1) (by omega); omega⟩
  have hq2 : q < told.length + 1 := by have := Int.emod_lt_of_pos r2 (b := (told.length : Int) + 1) (by omega); omega
  rw [hq] at md
  obtain ⟨t1, t2, t3, ht⟩ : ∃ x y z : Int, atI (told ++ [.tup [.int 0, .int 0, .int 0]]) (q : Int) = some (.tup [.int x, .int y, .int z]) := by
    have hj : q < (told ++ [PV.tup [.int 0, .int 0, .int 0]]).length := by rw [List.length_append]; exact hq2
    rw [atI_nat' hj]
    have hm := List.getElem_mem hj
    rcases List.mem_append.mp hm with hm | hm
    · obtain ⟨x, y, z, e⟩ := hT _ hm
      exact ⟨x, y, z, congrArg some e⟩
    · exact ⟨0, 0, 0, congrArg some (List.mem_singleton.mp hm)⟩
  have sl : ∀ lo hi, p1 (slV lo hi) (.c (t.length + 1)) (wl a' b' c' :: (t ++ [some (.lst told)])) = .ok (.t (.lst (cutG told lo hi))) (wl a' b' c' :: (t ++ [some (.lst told)])) := by
    intro lo hi
    unfold p1
    rw [vw]
    simp
  have ad : pf2 addF (.c (t.length + 1)) (.t (.lst [.tup [.int 0, .int 0, .int 0]])) (wl a' b' c' :: (t ++ [some (.lst told)])) = .ok (told ++ [.tup [.int 0, .int 0, .int 0]]) (wl a' b' c' :: (t ++ [some (.lst told)])) := by
    unfold pf2
    rw [vw]
    simp [addF_ok (a := told) (b := [.tup [.int 0, .int 0, .int 0]]) (by simp; omega)]
  have cl : ∀ lo hi, (cutG told lo hi).length ≤ 10000 := fun lo hi => Nat.le_trans cut_len hlen
  have cs : ∀ lo hi, ∀ x ∈ cutG told lo hi, SD (0 + 1) x := fun lo hi x hx => (hT x (cut_mem hx)).sd
  have a1' : ∀ {lo hi lo' hi'}, addV (.lst (cutG told lo hi)) (.lst (cutG told lo' hi')) = some (.lst (cutG told lo hi ++ cutG told lo' hi')) := fun {lo hi lo' hi'} => addV_lst (by have := cl lo hi; have := cl lo' hi'; omega)
  have a2' : ∀ {lo hi d}, addF (.lst (cutG told lo hi)) (.lst [d]) = some (cutG told lo hi ++ [d]) := fun {lo hi d} => addF_ok (by have := cl lo hi; simp; omega)
  have a3' : ∀ {lo hi d lo' hi'}, addF (.lst (cutG told lo hi ++ [d])) (.lst (cutG told lo' hi')) = some (cutG told lo hi ++ [d] ++ cutG told lo' hi') := fun {lo hi d lo' hi'} => addF_ok (by have := cl lo hi; have := cl lo' hi'; simp; omega)
  have fin3 : ∀ {lo hi d lo' hi'}, SD (0 + 1) d → SD (0 + 1 + 1) (.lst (cutG told lo hi ++ [d] ++ cutG told lo' hi')) := fun {lo hi d lo' hi'} h => SD_lst.mpr ⟨by have := cl lo hi; have := cl lo' hi'; simp; omega, app3_SD (cs _ _) (cs _ _) h⟩
  have rk : r1 = 0 ∨ r1 = 1 ∨ r1 = 2 ∨ r1 = 3 ∨ r1 = 4 ∨ r1 = 5 ∨ r1 = 6 := by omega
  rcases rk with rfl | rfl | rfl | rfl | rfl | rfl | rfl
  · refine ⟨told, a', b', c', ?_, SD_lst.mpr ⟨by omega, fun x hx => (hT x hx).sd⟩⟩
    simp [fn__law_list, b__law_list, fnOf, startM, d1, d2, pr, lp, lnf, md, ad, ht, sFrz, frz1]
  · refine ⟨cutG told none (some q) ++ cutG told (some (q + 1)) none, a', b', c', ?_, SD_lst.mpr ⟨by have := cl none (some q); have := cl (some (q + 1)) none; rw [List.length_append]; omega, fun x hx => (List.mem_append.mp hx).elim (cs _ _ x) (cs _ _ x)⟩⟩
    simp [fn__law_list, b__law_list, fnOf, startM, d1, d2, pr, lp, lnf, md, ad, ht, sl, a1']
  · refine ⟨cutG told none (some q) ++ [.tup [.int t1, .int t2, .int t3]] ++ cutG told (some q) none, a', b', c', ?_, fin3 (by simp [SD_tup])⟩
    simp [fn__law_list, b__law_list, fnOf, startM, d1, d2, pr, lp, lnf, md, ad, ht, sl, a2', a3', -List.append_assoc]
  · have a4 : addV (.lst (cutG told none (some q))) (.lst (cutG told (some q) (some (q + 2))).reverse) = some (.lst (cutG told none (some q) ++ (cutG told (some q) (some (q + 2))).reverse)) := addV_lst (by have := cl none (some q); have := cl (some q) (some (q + 2)); rw [List.length_reverse]; omega)
    have a5 : addV (.lst (cutG told none (some q) ++ (cutG told (some q) (some (q + 2))).reverse)) (.lst (cutG told (some (q + 2)) none)) = some (.lst (cutG told none (some q) ++ (cutG told (some q) (some (q + 2))).reverse ++ cutG told (some (q + 2)) none)) := addV_lst (by have := cl none (some q); have := cl (some q) (some (q + 2)); have := cl (some (q + 2)) none; rw [List.length_append, List.length_reverse]; omega)
    refine ⟨cutG told none (some q) ++ (cutG told (some q) (some (q + 2))).reverse ++ cutG told (some (q + 2)) none, a', b', c', ?_, SD_lst.mpr ⟨by have := cl none (some q); have := cl (some q) (some (q + 2)); have := cl (some (q + 2)) none; rw [List.length_append, List.length_append, List.length_reverse]; omega, fun x hx => ?_⟩⟩
    · simp [fn__law_list, b__law_list, fnOf, startM, d1, d2, pr, lp, lnf, md, ad, ht, sl, a4, a5, -List.append_assoc]
    · rcases List.mem_append.mp hx with hx | hx
      · rcases List.mem_append.mp hx with hx | hx
        · exact cs _ _ x hx
        · exact cs _ _ x (List.mem_reverse.mp hx)
      · exact cs _ _ x hx
  · obtain ⟨v, hv, sv⟩ : ∃ v, atI [PV.int (r2 / 21 % l.length), .bl true, .int (-1), .int l.length, .non] (r2 / 210 % 5) = some v ∧ SD 0 v := by
      have h1 := Int.emod_nonneg (r2 / 210) (b := 5) (by decide)
      have h2 := Int.emod_lt_of_pos (r2 / 210) (b := 5) (by decide)
      generalize r2 / 210 % 5 = j at h1 h2
      obtain rfl | rfl | rfl | rfl | rfl : j = 0 ∨ j = 1 ∨ j = 2 ∨ j = 3 ∨ j = 4 := by omega
      · exact ⟨_, rfl, SD_int⟩
      · exact ⟨_, rfl, SD_bl⟩
      · exact ⟨_, rfl, SD_int⟩
      · exact ⟨_, rfl, SD_int⟩
      · exact ⟨_, rfl, SD_non⟩
    have f1 := fdiv_ok (i := r2) (j := 21) (by decide) (by decide)
    have f2 := fdiv_ok (i := r2) (j := 210) (by decide) (by decide)
    have f3 := fdiv_ok (i := r2) (j := 7) (by decide) (by decide)
    have g1 := mod_ok (i := r2 / 21) (j := l.length) (by omega)
    have g2 := mod_ok (i := r2 / 210) (j := 5) (by decide)
    have g3 := mod_ok (i := r2 / 7) (j := 3) (by decide)
    have h1 := Int.emod_nonneg (r2 / 7) (b := 3) (by decide)
    have h2 := Int.emod_lt_of_pos (r2 / 7) (b := 3) (by decide)
    generalize r2 / 7 % 3 = j at g3 h1 h2
    have at2 : ∀ L : List PV, (wl a' b' c' :: (t ++ [some (.lst told)] ++ [some (.lst L)]))[t.length + 2]? = some (some (.lst L)) := by intro L; simp
    have st2 : ∀ L L' : List PV, (wl a' b' c' :: (t ++ [some (.lst told)] ++ [some (.lst L)])).set (t.length + 2) (some (.lst L')) = wl a' b' c' :: (t ++ [some (.lst told)] ++ [some (.lst L')]) := by intro L L'; simp
    have tk2 : ∀ L : List PV, (wl a' b' c' :: (t ++ [some (.lst told)] ++ [some (.lst L)])).take (t.length + 1) = wl a' b' c' :: t := by intro L; simp
    have tu : ∀ L : List PV, pN tupleV [.c (t.length + 2)] (wl a' b' c' :: (t ++ [some (.lst told)] ++ [some (.lst L)])) = .ok (.t (.tup L)) (wl a' b' c' :: (t ++ [some (.lst told)] ++ [some (.lst L)])) := by
      intro L
      have vw : view (wl a' b' c' :: (t ++ [some (.lst told)] ++ [some (.lst L)])) (.c (t.length + 2)) = some (.lst L) := by unfold view; dsimp only; rw [at2]
      unfold pN views
      rw [vw]
      simp [views]
    have sl2 : ∀ lo hi (L : List PV), p1 (slV lo hi) (.c (t.length + 1)) (wl a' b' c' :: (t ++ [some (.lst told)] ++ [some (.lst L)])) = .ok (.t (.lst (cutG told lo hi))) (wl a' b' c' :: (t ++ [some (.lst told)] ++ [some (.lst L)])) := by
      intro lo hi L
      have vw : view (wl a' b' c' :: (t ++ [some (.lst told)] ++ [some (.lst L)])) (.c (t.length + 1)) = some (.lst told) := by simp [view]
      unfold p1
      rw [vw]
      simp
    obtain rfl | rfl | rfl : j = 0 ∨ j = 1 ∨ j = 2 := by omega
    · refine ⟨cutG told none (some q) ++ [.tup [v, .int t2, .int t3]] ++ cutG told (some (q + 1)) none, a', b', c', ?_, fin3 (by simp [SD_tup, sv])⟩
      simp [fn__law_list, b__law_list, fnOf, startM, d1, d2, pr, lp, lnf, md, ad, ht, f1, f2, f3, g1, g2, g3, hv, sSetL, gSetL, lstAt, at2, ixN, st2, tu, sl2, a2', a3', tk2, -List.append_assoc]
    · refine ⟨cutG told none (some q) ++ [.tup [.int t1, v, .int t3]] ++ cutG told (some (q + 1)) none, a', b', c', ?_, fin3 (by simp [SD_tup, sv])⟩
      simp [fn__law_list, b__law_list, fnOf, startM, d1, d2, pr, lp, lnf, md, ad, ht, f1, f2, f3, g1, g2, g3, hv, sSetL, gSetL, lstAt, at2, ixN, st2, tu, sl2, a2', a3', tk2, -List.append_assoc]
    · refine ⟨cutG told none (some q) ++ [.tup [.int t1, .int t2, v]] ++ cutG told (some (q + 1)) none, a', b', c', ?_, fin3 (by simp [SD_tup, sv])⟩
      simp [fn__law_list, b__law_list, fnOf, startM, d1, d2, pr, lp, lnf, md, ad, ht, f1, f2, f3, g1, g2, g3, hv, sSetL, gSetL, lstAt, at2, ixN, st2, tu, sl2, a2', a3', tk2, -List.append_assoc]
  · obtain ⟨v, hv, sv⟩ : ∃ v, atI [PV.lst [.int t1, .int t2, .int t3], .tup [.int t1, .int t2], .tup [.int t1, .int t2, .int t3, .int 0], .non, .tup [], .tup [.int t3, .int t2, .int t1]] (r2 / 11 % 6) = some v ∧ SD (0 + 1) v := by
      have h1 := Int.emod_nonneg (r2 / 11) (b := 6) (by decide)
      have h2 := Int.emod_lt_of_pos (r2 / 11) (b := 6) (by decide)
      generalize r2 / 11 % 6 = j at h1 h2
      obtain rfl | rfl | rfl | rfl | rfl | rfl : j = 0 ∨ j = 1 ∨ j = 2 ∨ j = 3 ∨ j = 4 ∨ j = 5 := by omega
      · exact ⟨_, rfl, by simp [SD_lst]⟩
      · exact ⟨_, rfl, by simp [SD_tup]⟩
      · exact ⟨_, rfl, by simp [SD_tup]⟩
      · exact ⟨_, rfl, SD_non⟩
      · exact ⟨_, rfl, by simp [SD_tup]⟩
      · exact ⟨_, rfl, by simp [SD_tup]⟩
    have f1 := fdiv_ok (i := r2) (j := 11) (by decide) (by decide)
    have g1 := mod_ok (i := r2 / 11) (j := 6) (by decide)
    have at0 := addV_tup (a := [.int t1, .int t2, .int t3]) (b := [.int 0]) (by simp)
    refine ⟨cutG told none (some q) ++ [v] ++ cutG told (some (q + 1)) none, a', b', c', ?_, fin3 sv⟩
    simp [fn__law_list, b__law_list, fnOf, startM, d1, d2, pr, lp, lnf, md, ad, ht, f1, g1, cut2, at0, hv, sl, a2', a3', -List.append_assoc]
  · refine ⟨told, a', b', c', ?_, SD_lst.mpr ⟨by omega, fun x hx => (hT x hx).sd⟩⟩
    simp [fn__law_list, b__law_list, fnOf, startM, d1, d2, pr, lp, lnf, md, ad, ht, sFrz, frz1]
theorem at3a {a b c : PV} : atI [a, b, c] 0 = some a := rfl
theorem at3b {a b c : PV} : atI [a, b, c] 1 = some b := rfl
theorem at3c {a b c : PV} : atI [a, b, c] 2 = some c := rfl
theorem at8 {a b c d e f g h : PV} : atI [a, b, c, d, e, f, g, h] 0 = some a ∧ atI [a, b, c, d, e, f, g, h] 1 = some b ∧ atI [a, b, c, d, e, f, g, h] 2 = some c ∧ atI [a, b, c, d, e, f, g, h] 3 = some d ∧ atI [a, b, c, d, e, f, g, h] 4 = some e ∧ atI [a, b, c, d, e, f, g, h] 5 = some f ∧ atI [a, b, c, d, e, f, g, h] 6 = some g ∧ atI [a, b, c, d, e, f, g, h] 7 = some h := ⟨rfl, rfl, rfl, rfl, rfl, rfl, rfl, rfl⟩
/-! ### three things told -/
theorem filt {l : List Int} {σ : Sl} {μ : Store} {x : Nat} {T : Sl → Store → R Bool} {E : ME} (hx : x < l.length) (hT : ∀ i : Nat, i < l.length → T (σ.set 8 (some (.t (.int i)))) μ = .ok (decide (l.getD i 0 = l.getD x 0)) μ) (hE : ∀ i : Nat, E (σ.set 8 (some (.t (.int i)))) μ = .ok (.t (.int i)) μ) :
    ∃ ts : List Nat, lcL (.nm 8) T E (rgI 0 l.length) σ μ = .ok (natsPV ts) μ ∧ 0 < ts.length ∧ ts.length ≤ l.length ∧ ∀ i ∈ ts, i < l.length := by
  refine ⟨(List.range l.length).filter fun i => decide (l.getD i 0 = l.getD x 0), ?_, ?_, ?_, ?_⟩
  · rw [rgI_nat, lcL_filter (fun d => match d with | .int i => decide (l.getD i.toNat 0 = l.getD x 0) | _ => false) (fun d => d) ?_]
    · unfold natsPV
      rw [List.map_id'' (fun _ => rfl), List.filter_map]
      rfl
    · intro d hd
      obtain ⟨i, hi, rfl⟩ := List.mem_map.mp hd
      exact ⟨_, asg_nm, hT i (List.mem_range.mp hi), fun _ => hE i⟩
  · exact List.length_pos_of_mem (List.mem_filter.mpr ⟨List.mem_range.mpr hx, decide_eq_true rfl⟩)
  · have := List.length_filter_le (fun i => decide (l.getD i 0 = l.getD x 0)) (List.range l.length)
    rw [List.length_range] at this
    exact this
  · intro i hi
    exact List.mem_range.mp (List.mem_filter.mp hi).1
theorem pick_nat {ts : List Nat} {n : Nat} {r : Int} (h : ∀ i ∈ ts, i < n) (h0 : 0 ≤ r) (h1 : r < (ts.length : Int)) : ∃ x : Nat, atI (natsPV ts) r = some (.int x) ∧ x < n := by
  obtain ⟨j, rfl⟩ : ∃ j : Nat, r = j := ⟨r.toNat, by omega⟩
  have hj : j < (natsPV ts).length := by unfold natsPV; rw [List.length_map]; omega
  obtain ⟨x, hm, hx⟩ := List.mem_map.mp (show (natsPV ts)[j] ∈ ts.map _ from List.getElem_mem hj)
  exact ⟨x, by rw [atI_nat' hj, ← hx], h x hm⟩
theorem nats_len (ts : List Nat) : (natsPV ts).length = ts.length := by unfold natsPV; rw [List.length_map]
theorem three_ok {l m : List Int} {a b c : Int} {t : Store} (hl : l.length = m.length) (h0 : 0 < l.length) (hn : l.length ≤ 100) : ∃ (d : PV) (a' b' c' : Int), fn__law_three [.c 0, .t (tupI l), .t (tupI m)] (wl a b c :: t) = .ok (.t d) (wl a' b' c' :: t) ∧ SD (0 + 1) d := by
  have rg : ∀ {μ : Store}, gRange1 [.t (.int (l.length : Int))] μ = .ok (rgI 0 l.length) μ := range1_ok (by omega)
  obtain ⟨r1, a1, b1, c1, d1, p1', q1⟩ := draw_ok (a := a) (b := b) (c := c) (t := t) (m := 8) (by decide) (by decide)
  obtain ⟨r2, a2, b2, c2, d2, p2', q2⟩ := draw_ok (a := a1) (b := b1) (c := c1) (t := t) (m := l.length) (by omega) (by omega)
  obtain ⟨x1, rfl⟩ : ∃ j : Nat, r2 = j := ⟨r2.toNat, by omega⟩
  have lx := at_int (l := l) (i := x1) (by omega)
  obtain ⟨ts, e1, s1, s2, s3⟩ := filt (l := l) (x := x1) (T := t1__law_three) (E := e1__law_three) (μ := wl a2 b2 c2 :: t) (σ := [some (.c 0), some (.t (tupI l)), some (.t (tupI m)), some (.t (.int r1)), some (.t (.int x1)), none, none, none, none]) (by omega)
    (fun i hi => by have := at_int (l := l) hi; simp [t1__law_three, lx, this, -List.getD_eq_getElem?_getD]) (fun i => by simp [e1__law_three])
  have z1 : szF (natsPV ts) (wl a2 b2 c2 :: t) = .ok _ _ := szF_ok (szL _ (by rw [nats_len]; omega))
  obtain ⟨r3, a3, b3, c3, d3, p3', q3⟩ := draw_ok (a := a2) (b := b2) (c := c2) (t := t) (m := ts.length) (by omega) (by omega)
  obtain ⟨x2, k2, k2'⟩ := pick_nat s3 p3' q3
  have mx := at_int (l := m) (i := x2) (by omega)
  obtain ⟨us, e2, u1, u2, u3⟩ := filt (l := m) (x := x2) (T := t2__law_three) (E := e2__law_three) (μ := wl a3 b3 c3 :: t) (σ := [some (.c 0), some (.t (tupI l)), some (.t (tupI m)), some (.t (.int r1)), some (.t (.int x1)), some (.t (.lst (natsPV ts))), some (.t (.int x2)), none, none]) (by omega)
    (fun i hi => by have := at_int (l := m) hi; simp [t2__law_three, mx, this, -List.getD_eq_getElem?_getD]) (fun i => by simp [e2__law_three])
  rw [← hl] at e2
  have z2 : szF (natsPV us) (wl a3 b3 c3 :: t) = .ok _ _ := szF_ok (szL _ (by rw [nats_len]; omega))
  obtain ⟨r4, a4, b4, c4, d4, p4', q4⟩ := draw_ok (a := a3) (b := b3) (c := c3) (t := t) (m := us.length) (by omega) (by omega)
  obtain ⟨x3, k3, k3'⟩ := pick_nat u3 p4' q4
  obtain rfl | rfl | rfl | rfl | rfl | rfl | rfl | rfl : r1 = 0 ∨ r1 = 1 ∨ r1 = 2 ∨ r1 = 3 ∨ r1 = 4 ∨ r1 = 5 ∨ r1 = 6 ∨ r1 = 7 := by omega
  · obtain ⟨r5, a5, b5, c5, d5, p5', q5⟩ := draw_ok (a := a4) (b := b4) (c := c4) (t := t ++ [some (.lst [.int x1, .int x2, .int x3])]) (m := l.length) (by omega) (by omega)
    refine ⟨.tup [.int r5, .int x2, .int x3], a5, b5, c5, ?_, by simp [SD_tup]⟩
    simp [fn__law_three, b__law_three, fnOf, startM, rg, d1, d2, wipeM, e1, z1, nats_len, d3, k2, e2, z2, d4, k3, d5, sSetL, gSetL, lstAt, ixN, sFrz, frz1, at3a, at8, cut2]
  · obtain ⟨r5, a5, b5, c5, d5, p5', q5⟩ := draw_ok (a := a4) (b := b4) (c := c4) (t := t ++ [some (.lst [.int x1, .int x2, .int x3])]) (m := l.length) (by omega) (by omega)
    refine ⟨.tup [.int x1, .int r5, .int x3], a5, b5, c5, ?_, by simp [SD_tup]⟩
    simp [fn__law_three, b__law_three, fnOf, startM, rg, d1, d2, wipeM, e1, z1, nats_len, d3, k2, e2, z2, d4, k3, d5, sSetL, gSetL, lstAt, ixN, sFrz, frz1, at3a, at8, cut2]
  · obtain ⟨r5, a5, b5, c5, d5, p5', q5⟩ := draw_ok (a := a4) (b := b4) (c := c4) (t := t ++ [some (.lst [.int x1, .int x2, .int x3])]) (m := l.length) (by omega) (by omega)
    refine ⟨.tup [.int x1, .int x2, .int r5], a5, b5, c5, ?_, by simp [SD_tup]⟩
    simp [fn__law_three, b__law_three, fnOf, startM, rg, d1, d2, wipeM, e1, z1, nats_len, d3, k2, e2, z2, d4, k3, d5, sSetL, gSetL, lstAt, ixN, sFrz, frz1, at3a, at8, cut2]
  · obtain ⟨r5, a5, b5, c5, d5, p5', q5⟩ := draw_ok (a := a4) (b := b4) (c := c4) (t := t ++ [some (.lst [.int x1, .int x2, .int x3])]) (m := 4) (by decide) (by decide)
    obtain ⟨r6, a6, b6, c6, d6, p6', q6⟩ := draw_ok (a := a5) (b := b5) (c := c5) (t := t ++ [some (.lst [.int x1, .int x2, .int x3])]) (m := 3) (by decide) (by decide)
    obtain ⟨v, hv, sv⟩ : ∃ v, atI [PV.bl true, .int (-1), .int l.length, .non] r5 = some v ∧ SD 0 v := by
      obtain rfl | rfl | rfl | rfl : r5 = 0 ∨ r5 = 1 ∨ r5 = 2 ∨ r5 = 3 := by omega
      · exact ⟨_, rfl, SD_bl⟩
      · exact ⟨_, rfl, SD_int⟩
      · exact ⟨_, rfl, SD_int⟩
      · exact ⟨_, rfl, SD_non⟩
    obtain rfl | rfl | rfl : r6 = 0 ∨ r6 = 1 ∨ r6 = 2 := by omega
    · refine ⟨.tup [v, .int x2, .int x3], a6, b6, c6, ?_, by simp [SD_tup, sv]⟩
      simp [fn__law_three, b__law_three, fnOf, startM, rg, d1, d2, wipeM, e1, z1, nats_len, d3, k2, e2, z2, d4, k3, d5, hv, d6, sSetL, gSetL, lstAt, ixN, sFrz, frz1, at3a, at8, cut2]
    · refine ⟨.tup [.int x1, v, .int x3], a6, b6, c6, ?_, by simp [SD_tup, sv]⟩
      simp [fn__law_three, b__law_three, fnOf, startM, rg, d1, d2, wipeM, e1, z1, nats_len, d3, k2, e2, z2, d4, k3, d5, hv, d6, sSetL, gSetL, lstAt, ixN, sFrz, frz1, at3a, at8, cut2]
    · refine ⟨.tup [.int x1, .int x2, v], a6, b6, c6, ?_, by simp [SD_tup, sv]⟩
      simp [fn__law_three, b__law_three, fnOf, startM, rg, d1, d2, wipeM, e1, z1, nats_len, d3, k2, e2, z2, d4, k3, d5, hv, d6, sSetL, gSetL, lstAt, ixN, sFrz, frz1, at3a, at8, cut2]
  · refine ⟨.tup [.int x1, .int x2, .int x3], a4, b4, c4, ?_, by simp [SD_tup]⟩
    simp [fn__law_three, b__law_three, fnOf, startM, rg, d1, d2, wipeM, e1, z1, nats_len, d3, k2, e2, z2, d4, k3, sFrz, frz1, at3a, at3b, at3c, at8, cut2]
  · refine ⟨.tup [.int x1, .int x2, .int x3], a4, b4, c4, ?_, by simp [SD_tup]⟩
    simp [fn__law_three, b__law_three, fnOf, startM, rg, d1, d2, wipeM, e1, z1, nats_len, d3, k2, e2, z2, d4, k3, sFrz, frz1, at3a, at3b, at3c, at8, cut2]
  · refine ⟨.lst [.int x1, .int x2, .int x3], a4, b4, c4, ?_, by simp [SD_lst]⟩
    simp [fn__law_three, b__law_three, fnOf, startM, rg, d1, d2, wipeM, e1, z1, nats_len, d3, k2, e2, z2, d4, k3, sFrz, frz1, at3a, at3b, at3c, at8, cut2]
  · refine ⟨.tup [.int x1, .int x2], a4, b4, c4, ?_, by simp [SD_tup]⟩
    simp [fn__law_three, b__law_three, fnOf, startM, rg, d1, d2, wipeM, e1, z1, nats_len, d3, k2, e2, z2, d4, k3, sFrz, frz1, at3a, at3b, at3c, at8, cut2]
/-! ### the law -/
theorem ne_said (o : Option Int) : ∃ w, atI [PV.tup [.str "no paper", optI o, .bl true], .non] (if isNon (optI o) = true then 1 else 0) = some w ∧ neV (saidS o) w = some (.bl false) := by
  cases o with
  | none => exact ⟨_, rfl, rfl⟩
  | some k =>
    refine ⟨_, rfl, ?_⟩
    have o1 : okD (.tup [.str "no paper", .int k, .bl true]) = true := rfl
    have e : eqB (.tup [.str "no paper", .int k, .bl true]) (.tup [.str "no paper", .int k, .bl true]) = true := by
      simp [eqB, PV.data, datas, PyData.eqv, PyData.eqvAll]
    exact (ne_ok o1 o1).trans (by rw [e]; rfl)
theorem ne_due (o : Option Int) : neV (optI o) (optI o) = some (.bl false) := by
  cases o with
  | none => rfl
  | some k => simp [optI]
theorem pick_ans {w d : PV} {k : Int} {v : PV} (hw : SD 0 w) (hd : SD (0 + 1 + 1) d) (h0 : 0 ≤ k) (h1 : k < 5) (hv : SD 0 v) : ∃ ans, atI [PV.non, .lst [w, d], .tup [w, d, .int 0], .tup [.str "maybe", d], .tup [v, d]] k = some ans ∧ SD (0 + 1 + 1 + 1) ans := by
  have hw' := hw.up (m := 0 + 1 + 1) (by omega)
  have hv' := hv.up (m := 0 + 1 + 1) (by omega)
  obtain rfl | rfl | rfl | rfl | rfl : k = 0 ∨ k = 1 ∨ k = 2 ∨ k = 3 ∨ k = 4 := by omega
  · exact ⟨_, rfl, SD_non⟩
  · exact ⟨_, rfl, SD_lst.mpr ⟨by simp, by simp [hw', hd]⟩⟩
  · exact ⟨_, rfl, SD_tup.mpr ⟨by simp, by simp [hw', hd]⟩⟩
  · exact ⟨_, rfl, SD_tup.mpr ⟨by simp, by simp [hd]⟩⟩
  · exact ⟨_, rfl, SD_tup.mpr ⟨by simp, by simp [hv', hd]⟩⟩
theorem right_step {n i : Nat} {a b c : Int} {t : Store} {s3 s4 s5 s6 s7 s8 : Option Val} (h0 : 0 < n) (hn : n ≤ 100) : ∃ (a' b' c' : Int) (s3' s4' s5' s6' s7' s8' : Option Val), f1__law_right [some (.c 0), some (.t (.int n)), some (.t (.int i)), s3, s4, s5, s6, s7, s8] (wl a b c :: t) = .nx [some (.c 0), some (.t (.int n)), some (.t (.int i)), s3', s4', s5', s6', s7', s8'] (wl a' b' c' :: t) := by
  obtain ⟨k, a1, b1, c1, d1, p1', q1⟩ := draw_ok (a := a) (b := b) (c := c) (t := t) (m := 12) (by decide) (by decide)
  obtain ⟨l, m, a2, b2, c2, d2, r1, r2, pl, pm⟩ := two_ok (n := n) (a := a1) (b := b1) (c := c1) (t := t) h0 hn
  obtain rfl := r1.len
  have hl : l.length = m.length := r2.len.symm
  have md := mod_ok (i := (i : Int)) (j := 2) (by decide)
  have due : ∀ {ans : PV} {μ : Store}, SD (0 + 1 + 1 + 1) ans → fn__law_due [.t (tupI l), .t (tupI m), .t ans] μ = .ok (.t (optI (dueS l m ans))) μ := fun h => (due_both r1 r2 pl pm hn h (by decide)).1
  have sd : ∀ {ans : PV} {μ : Store}, SD (0 + 1 + 1 + 1) ans → fn__law_said [.t (tupI l), .t (tupI m), .t ans] μ = .ok (.t (saidS (dueS l m ans))) μ := fun h => said_ok (due_both r1 r2 pl pm hn h (by decide)).2
  have hm : (i : Int) % 2 = 0 ∨ (i : Int) % 2 = 1 := by omega
  rcases hm with hm | hm
  · rw [hm] at md
    obtain ⟨ds, a3, b3, c3, d3, q3⟩ := list_ok (a := a2) (b := b2) (c := c2) (t := t) hl h0 hn
    have base : SD (0 + 1 + 1 + 1) (.tup [.str "yes", .lst ds]) := SD_tup.mpr ⟨by simp, by simp [q3]⟩
    have at0 := addV_tup (a := [.str "yes", .lst ds]) (b := [.int 0]) (by simp)
    by_cases hk : k < 5
    · obtain ⟨ans, e1, e2⟩ := pick_ans (w := .str "yes") (v := .str "no") SD_str q3 p1' hk SD_str
      obtain ⟨w, w1, w2⟩ := ne_said (dueS l m ans)
      refine ⟨a3, b3, c3, some (.t (.int k)), some (.t (tupI l)), some (.t (tupI m)), some (.t ans), some (.t (.str "no")), some (.t (optI (dueS l m ans))), ?_⟩
      simp [f1__law_right, d1, d2, sAsg_tp, md, d3, hk, at2_0, at2_1, at0, e1, due e2, sd e2, w1, w2, ne_due]
    · obtain ⟨w, w1, w2⟩ := ne_said (dueS l m (.tup [.str "yes", .lst ds]))
      refine ⟨a3, b3, c3, some (.t (.int k)), some (.t (tupI l)), some (.t (tupI m)), some (.t (.tup [.str "yes", .lst ds])), s7, some (.t (optI (dueS l m (.tup [.str "yes", .lst ds])))), ?_⟩
      simp [f1__law_right, d1, d2, sAsg_tp, md, d3, hk, due base, sd base, w1, w2, ne_due]
  · rw [hm] at md
    obtain ⟨d, a3, b3, c3, d3, q3⟩ := three_ok (a := a2) (b := b2) (c := c2) (t := t) hl h0 hn
    have q3 := q3.up (m := 0 + 1 + 1) (by omega)
    have base : SD (0 + 1 + 1 + 1) (.tup [.str "no", d]) := SD_tup.mpr ⟨by simp, by simp [q3]⟩
    have at0 := addV_tup (a := [.str "no", d]) (b := [.int 0]) (by simp)
    by_cases hk : k < 5
    · obtain ⟨ans, e1, e2⟩ := pick_ans (w := .str "no") (v := .str "yes") SD_str q3 p1' hk SD_str
      obtain ⟨w, w1, w2⟩ := ne_said (dueS l m ans)
      refine ⟨a3, b3, c3, some (.t (.int k)), some (.t (tupI l)), some (.t (tupI m)), some (.t ans), some (.t (.str "yes")), some (.t (optI (dueS l m ans))), ?_⟩
      simp [f1__law_right, d1, d2, sAsg_tp, md, d3, hk, at2_0, at2_1, at0, e1, due e2, sd e2, w1, w2, ne_due]
    · obtain ⟨w, w1, w2⟩ := ne_said (dueS l m (.tup [.str "no", d]))
      refine ⟨a3, b3, c3, some (.t (.int k)), some (.t (tupI l)), some (.t (tupI m)), some (.t (.tup [.str "no", d])), s7, some (.t (optI (dueS l m (.tup [.str "no", d])))), ?_⟩
      simp [f1__law_right, d1, d2, sAsg_tp, md, d3, hk, due base, sd base, w1, w2, ne_due]
theorem right_ok {a b c : Int} {t : Store} : ∃ a' b' c', fn__law_right [.c 0] (wl a b c :: t) = .ok (.t (.bl true)) (wl a' b' c' :: t) := by
  obtain ⟨r, a1, b1, c1, d1, p1', q1⟩ := draw_ok (a := a) (b := b) (c := c) (t := t) (m := 5) (by decide) (by decide)
  obtain ⟨j, rfl⟩ : ∃ j : Nat, r = j := ⟨r.toNat, by omega⟩
  have ej : (1 : Int) + (j : Int) = ((1 + j : Nat) : Int) := by omega
  have rg : ∀ {μ : Store}, gRange1 [.t (.int 4)] μ = .ok (rgI 0 4) μ := range1_ok (n := 4) (by omega)
  have loop : ∃ (a' b' c' : Int) (σ : Sl), forL (.nm 2) f1__law_right (rgI 0 4) [some (.c 0), some (.t (.int (1 + j : Nat))), none, none, none, none, none, none, none] (wl a1 b1 c1 :: t) = .nx σ (wl a' b' c' :: t) := by
    refine forL_inv (fun (_ : Nat) (σ : Sl) (μ : Store) => ∃ (a' b' c' : Int) (s2 s3 s4 s5 s6 s7 s8 : Option Val), σ = [some (.c 0), some (.t (.int (1 + j : Nat))), s2, s3, s4, s5, s6, s7, s8] ∧ μ = wl a' b' c' :: t) (fun (r : RS) => ∃ (a' b' c' : Int) (σ : Sl), r = .nx σ (wl a' b' c' :: t)) ⟨a1, b1, c1, none, none, none, none, none, none, none, rfl, rfl⟩ ?_ ?_
    · rintro i d σ μ hd ⟨a, b, c, s2, s3, s4, s5, s6, s7, s8, rfl, rfl⟩
      obtain ⟨hi, rfl⟩ := range_at hd
      obtain ⟨a', b', c', s3', s4', s5', s6', s7', s8', h⟩ := right_step (n := 1 + j) (i := i) (a := a) (b := b) (c := c) (t := t) (s3 := s3) (s4 := s4) (s5 := s5) (s6 := s6) (s7 := s7) (s8 := s8) (by omega) (by omega)
      exact ⟨_, asg_nm, .inl ⟨_, _, .inl h, a', b', c', _, _, _, _, _, _, _, rfl, rfl⟩⟩
    · rintro σ μ ⟨a', b', c', s2, s3, s4, s5, s6, s7, s8, rfl, rfl⟩
      exact ⟨a', b', c', _, rfl⟩
  obtain ⟨a', b', c', σ, loop⟩ := loop
  refine ⟨a', b', c', ?_⟩
  rw [← ej] at loop
  simp [fn__law_right, b__law_right, fnOf, startM, d1, rg, loop]
theorem last_ok {μ : Store} : fn_check_permuted [.t (tupI [0, 0, 2]), .t (tupI [0, 1, 1]), .t (.tup [.str "no", .tup [.int 0, .int 1, .int 2]])] μ = .ok (.t .non) μ := by
  have h := (due_both (l := [0, 0, 2]) (m := [0, 1, 1]) (ans := .tup [.str "no", .tup [.int 0, .int 1, .int 2]]) (k := 0 + 1 + 1) (μ := μ) ⟨rfl, by decide⟩ ⟨rfl, by decide⟩ (by decide) (by decide) (by decide) (by simp [SD_tup]) (by decide)).2
  have e : dueS [0, 0, 2] [0, 1, 1] (.tup [.str "no", .tup [.int 0, .int 1, .int 2]]) = none := by decide +kernel
  rw [e] at h
  exact h
theorem turn_ok {ns : List Int} {i : Nat} {n : Int} : sScope f1_law [some (.s ns), some (.t (.int i)), some (.t (.int n))] [] = .nx [some (.s ns), some (.t (.int i)), some (.t (.int n))] [] := by
  have md := mod_ok (i := n) (j := 2147483647) (by decide)
  have pw : powV (.int 10) (.int 18) = some (.int 1000000000000000000) := rfl
  have key : ∃ z, f1_law [some (.s ns), some (.t (.int i)), some (.t (.int n))] [] = .nx [some (.s ns), some (.t (.int i)), some (.t (.int n))] [z] := by
    have w1 : inW 0 = true := by decide
    have w2 : inW 1 = true := by decide
    have w3 : inW 7919 = true := by decide
    by_cases hn : (1000000000000000000 : Int) ≤ n
    · obtain ⟨a', b', c', r⟩ := right_ok (a := n * 1) (b := n % 2147483647 + 7919 * i) (c := 0) (t := [])
      refine ⟨wl a' b' c', ?_⟩
      simp only [wl] at r
      simp [f1_law, pw, hn, mulV, w1, w2, w3, md]
      simp at r
      simp [r, wl]
    · obtain ⟨a', b', c', r⟩ := right_ok (a := n * 0) (b := n % 2147483647 + 7919 * i) (c := 0) (t := [])
      refine ⟨wl a' b' c', ?_⟩
      simp only [wl] at r
      simp [f1_law, pw, hn, mulV, w1, w2, w3, md]
      simp at r
      simp [r, wl]
  obtain ⟨z, key⟩ := key
  unfold sScope
  rw [key]
  rfl
theorem law_true : ∀ ns : List Int, ns.length ≤ 63 → fn_law [.s ns] [] = .ok (.t (.bl true)) [] := by
  intro ns hn
  have sz : ns.length + 1 ≤ sizeLine := szL _ (by omega)
  have hint : ∀ d ∈ cutG (ns.map PV.int ++ [.int 0]) none (some 5), ∃ n : Int, d = .int n := by
    intro d hd
    rcases List.mem_append.mp (cut_mem hd) with h | h
    · obtain ⟨n, _, rfl⟩ := List.mem_map.mp h
      exact ⟨n, rfl⟩
    · exact ⟨0, List.mem_singleton.mp h⟩
  have loop : ∃ s1 s2, forL (.tp [(.nm 1), (.nm 2)]) (sScope f1_law) (enumP (cutG (ns.map PV.int ++ [.int 0]) none (some 5))) [some (.s ns), none, none] [] = .nx [some (.s ns), s1, s2] [] := by
    refine forL_inv (fun (_ : Nat) (σ : Sl) (μ : Store) => μ = [] ∧ ∃ s1 s2 : Option Val, σ = [some (.s ns), s1, s2]) (fun (r : RS) => ∃ s1 s2, r = .nx [some (.s ns), s1, s2] []) ⟨rfl, none, none, rfl⟩ ?_ ?_
    · rintro i d σ μ hd ⟨rfl, s1, s2, rfl⟩
      obtain ⟨z, hz, rfl⟩ := enumP_at hd
      obtain ⟨n, rfl⟩ := hint z (List.mem_of_getElem? hz)
      exact ⟨[some (.s ns), some (.t (.int i)), some (.t (.int n))], by simp, .inl ⟨_, _, .inl turn_ok, rfl, _, _, rfl⟩⟩
    · rintro σ μ ⟨rfl, s1, s2, rfl⟩
      exact ⟨s1, s2, rfl⟩
  obtain ⟨s1, s2, loop⟩ := loop
  have lo := last_ok (μ := [])
  simp only [tupI, List.map_cons, List.map_nil] at lo
  simp [fn_law, b_law, fnOf, startM, gScr, sz, loop, lo, isNon]
end K58
namespace K58
open PySem PySem.Spec PyProof.Rows L2
open PM (MSt Fn fnOf)
def topS (i : Nat) : Stmt := PySem.Challenge.pw_wishdeeds_k58_papers_of_permuting_checke.main.body.getD i (.Pass ⟨0, 0, 0, 0⟩)
abbrev s__law_draw : Stmt := topS 19
theorem sc__law_draw : FnScope ["_law_well", "_law_many", "_law_found", "_law_number"] ["_law_well", "_law_many"] (defScope s__law_draw) := ⟨rfl, rfl, rfl, by decide +kernel, rfl, by decide +kernel, by decide +kernel⟩
abbrev s__law_of_marks : Stmt := topS 20
theorem sc__law_of_marks : FnScope ["_law_marks", "_law_mark"] ["_law_marks"] (defScope s__law_of_marks) := ⟨rfl, rfl, rfl, by decide +kernel, rfl, by decide +kernel, by decide +kernel⟩
abbrev s__law_two : Stmt := topS 21
theorem sc__law_two : FnScope ["_law_well", "_law_size", "_law_way", "_law_wide", "_law_one", "_law_other", "_law_left", "_law_called", "_law_k", "_law_thing"] ["_law_well", "_law_size"] (defScope s__law_two) := ⟨rfl, rfl, rfl, by decide +kernel, rfl, by decide +kernel, by decide +kernel⟩
abbrev s__law_amid : Stmt := topS 22
theorem sc__law_amid : FnScope ["_law_one", "_law_other", "_law_begin", "_law_end", "_law_thing"] ["_law_one", "_law_other", "_law_begin", "_law_end"] (defScope s__law_amid) := ⟨rfl, rfl, rfl, by decide +kernel, rfl, by decide +kernel, by decide +kernel⟩
abbrev s__law_pairs : Stmt := topS 23
theorem sc__law_pairs : FnScope ["_law_one", "_law_other", "_law_found", "_law_begin", "_law_end"] ["_law_one", "_law_other"] (defScope s__law_pairs) := ⟨rfl, rfl, rfl, by decide +kernel, rfl, by decide +kernel, by decide +kernel⟩
abbrev s__law_list : Stmt := topS 29
theorem sc__law_list : FnScope ["_law_well", "_law_one", "_law_other", "_law_way", "_law_number", "_law_told", "_law_begin", "_law_end", "_law_some", "_law_at", "_law_entry", "_law_things", "_law_odd"] ["_law_well", "_law_one", "_law_other"] (defScope s__law_list) := ⟨rfl, rfl, rfl, by decide +kernel, rfl, by decide +kernel, by decide +kernel⟩
abbrev s__law_three : Stmt := topS 30
theorem sc__law_three : FnScope ["_law_well", "_law_one", "_law_other", "_law_way", "_law_begin", "_law_near", "_law_amid_here", "_law_told", "_law_thing"] ["_law_well", "_law_one", "_law_other"] (defScope s__law_three) := ⟨rfl, rfl, rfl, by decide +kernel, rfl, by decide +kernel, by decide +kernel⟩
abbrev s__law_is_thing : Stmt := topS 24
theorem sc__law_is_thing : FnScope ["_law_thing", "_law_size"] ["_law_thing", "_law_size"] (defScope s__law_is_thing) := ⟨rfl, rfl, rfl, by decide +kernel, rfl, by decide +kernel, by decide +kernel⟩
abbrev s__law_are_three : Stmt := topS 25
theorem sc__law_are_three : FnScope ["_law_size", "_law_told", "_law_thing"] ["_law_size", "_law_told"] (defScope s__law_are_three) := ⟨rfl, rfl, rfl, by decide +kernel, rfl, by decide +kernel, by decide +kernel⟩
abbrev s__law_due_of_yes : Stmt := topS 26
theorem sc__law_due_of_yes : FnScope ["_law_one", "_law_other", "_law_told", "_law_pairs_here", "_law_at", "_law_pair"] ["_law_one", "_law_other", "_law_told"] (defScope s__law_due_of_yes) := ⟨rfl, rfl, rfl, by decide +kernel, rfl, by decide +kernel, by decide +kernel⟩
abbrev s__law_due_of_no : Stmt := topS 27
theorem sc__law_due_of_no : FnScope ["_law_one", "_law_other", "_law_told", "_law_begin", "_law_amid_here", "_law_end"] ["_law_one", "_law_other", "_law_told"] (defScope s__law_due_of_no) := ⟨rfl, rfl, rfl, by decide +kernel, rfl, by decide +kernel, by decide +kernel⟩
abbrev s__law_due : Stmt := topS 28
theorem sc__law_due : FnScope ["_law_one", "_law_other", "_law_answer"] ["_law_one", "_law_other", "_law_answer"] (defScope s__law_due) := ⟨rfl, rfl, rfl, by decide +kernel, rfl, by decide +kernel, by decide +kernel⟩
abbrev s_is_whole : Stmt := topS 6
theorem sc_is_whole : FnScope ["thing"] ["thing"] (defScope s_is_whole) := ⟨rfl, rfl, rfl, by decide +kernel, rfl, by decide +kernel, by decide +kernel⟩
abbrev s_is_thing : Stmt := topS 7
theorem sc_is_thing : FnScope ["thing", "size"] ["thing", "size"] (defScope s_is_thing) := ⟨rfl, rfl, rfl, by decide +kernel, rfl, by decide +kernel, by decide +kernel⟩
abbrev s_is_row : Stmt := topS 8
theorem sc_is_row : FnScope ["row", "wide", "size", "one"] ["row", "wide", "size"] (defScope s_is_row) := ⟨rfl, rfl, rfl, by decide +kernel, rfl, by decide +kernel, by decide +kernel⟩
abbrev s_is_parting : Stmt := topS 10
theorem sc_is_parting : FnScope ["thing", "size", "one", "least"] ["thing", "size"] (defScope s_is_parting) := ⟨rfl, rfl, rfl, by decide +kernel, rfl, by decide +kernel, by decide +kernel⟩
abbrev s_NoFolding_init : Stmt := inClass (topS 4) 0
theorem sc_NoFolding_init : FnScope ["self", "at"] ["self", "at"] (defScope s_NoFolding_init) := ⟨rfl, rfl, rfl, by decide +kernel, rfl, by decide +kernel, by decide +kernel⟩
abbrev s_check_two : Stmt := topS 12
theorem sc_check_two : FnScope ["one", "other"] ["one", "other"] (defScope s_check_two) := ⟨rfl, rfl, rfl, by decide +kernel, rfl, by decide +kernel, by decide +kernel⟩
abbrev s_NoPaper_init : Stmt := inClass (topS 3) 0
theorem sc_NoPaper_init : FnScope ["self", "at"] ["self", "at"] (defScope s_NoPaper_init) := ⟨rfl, rfl, rfl, by decide +kernel, rfl, by decide +kernel, by decide +kernel⟩
abbrev s_amid_of : Stmt := topS 13
theorem sc_amid_of : FnScope ["one", "other", "begin", "end", "thing"] ["one", "other", "begin", "end"] (defScope s_amid_of) := ⟨rfl, rfl, rfl, by decide +kernel, rfl, by decide +kernel, by decide +kernel⟩
abbrev s_ends_led : Stmt := topS 14
theorem sc_ends_led : FnScope ["one", "other", "found", "begin", "ends", "end"] ["one", "other"] (defScope s_ends_led) := ⟨rfl, rfl, rfl, by decide +kernel, rfl, by decide +kernel, by decide +kernel⟩
abbrev s_check_yes : Stmt := topS 15
theorem sc_check_yes : FnScope ["one", "other", "told", "due", "at", "begin", "end", "home"] ["one", "other", "told"] (defScope s_check_yes) := ⟨rfl, rfl, rfl, by decide +kernel, rfl, by decide +kernel, by decide +kernel⟩
abbrev s_check_no : Stmt := topS 16
theorem sc_check_no : FnScope ["one", "other", "things", "begin", "amid", "end"] ["one", "other", "things"] (defScope s_check_no) := ⟨rfl, rfl, rfl, by decide +kernel, rfl, by decide +kernel, by decide +kernel⟩
abbrev s_check_permuted : Stmt := topS 17
theorem sc_check_permuted : FnScope ["one", "other", "answer"] ["one", "other", "answer"] (defScope s_check_permuted) := ⟨rfl, rfl, rfl, by decide +kernel, rfl, by decide +kernel, by decide +kernel⟩
abbrev s__law_said : Stmt := topS 31
theorem sc__law_said : FnScope ["_law_one", "_law_other", "_law_answer", "_law_told", "e"] ["_law_one", "_law_other", "_law_answer"] (defScope s__law_said) := ⟨rfl, rfl, rfl, by decide +kernel, rfl, by decide +kernel, by decide +kernel⟩
abbrev s__law_right : Stmt := topS 32
theorem sc__law_right : FnScope ["_law_well", "_law_size", "_law_turn", "_law_odd", "_law_one", "_law_other", "_law_answer", "_law_other_word", "_law_at"] ["_law_well"] (defScope s__law_right) := ⟨rfl, rfl, rfl, by decide +kernel, rfl, by decide +kernel, by decide +kernel⟩
abbrev s_law : Stmt := topS 33
theorem sc_law : FnScope ["_law_script", "_law_k", "_law_cell"] ["_law_script"] (defScope s_law) := ⟨rfl, rfl, rfl, by decide +kernel, rfl, by decide +kernel, by decide +kernel⟩
def d__law_draw : He.DefD := ⟨("_law_draw", none), "_law_draw", "_law_draw", defArgs s__law_draw, defBody s__law_draw, defScope s__law_draw, [], []⟩
def d__law_of_marks : He.DefD := ⟨("_law_of_marks", none), "_law_of_marks", "_law_of_marks", defArgs s__law_of_marks, defBody s__law_of_marks, defScope s__law_of_marks, [], []⟩
def d__law_two : He.DefD := ⟨("_law_two", none), "_law_two", "_law_two", defArgs s__law_two, defBody s__law_two, defScope s__law_two, [], []⟩
def d__law_amid : He.DefD := ⟨("_law_amid", none), "_law_amid", "_law_amid", defArgs s__law_amid, defBody s__law_amid, defScope s__law_amid, [], []⟩
def d__law_pairs : He.DefD := ⟨("_law_pairs", none), "_law_pairs", "_law_pairs", defArgs s__law_pairs, defBody s__law_pairs, defScope s__law_pairs, [], []⟩
def d__law_list : He.DefD := ⟨("_law_list", none), "_law_list", "_law_list", defArgs s__law_list, defBody s__law_list, defScope s__law_list, [], []⟩
def d__law_three : He.DefD := ⟨("_law_three", none), "_law_three", "_law_three", defArgs s__law_three, defBody s__law_three, defScope s__law_three, [], []⟩
def d__law_is_thing : He.DefD := ⟨("_law_is_thing", none), "_law_is_thing", "_law_is_thing", defArgs s__law_is_thing, defBody s__law_is_thing, defScope s__law_is_thing, [], []⟩
def d__law_are_three : He.DefD := ⟨("_law_are_three", none), "_law_are_three", "_law_are_three", defArgs s__law_are_three, defBody s__law_are_three, defScope s__law_are_three, [], []⟩
def d__law_due_of_yes : He.DefD := ⟨("_law_due_of_yes", none), "_law_due_of_yes", "_law_due_of_yes", defArgs s__law_due_of_yes, defBody s__law_due_of_yes, defScope s__law_due_of_yes, [], []⟩
def d__law_due_of_no : He.DefD := ⟨("_law_due_of_no", none), "_law_due_of_no", "_law_due_of_no", defArgs s__law_due_of_no, defBody s__law_due_of_no, defScope s__law_due_of_no, [], []⟩
def d__law_due : He.DefD := ⟨("_law_due", none), "_law_due", "_law_due", defArgs s__law_due, defBody s__law_due, defScope s__law_due, [], []⟩
def d_is_whole : He.DefD := ⟨("is_whole", none), "is_whole", "is_whole", defArgs s_is_whole, defBody s_is_whole, defScope s_is_whole, [], []⟩
def d_is_thing : He.DefD := ⟨("is_thing", none), "is_thing", "is_thing", defArgs s_is_thing, defBody s_is_thing, defScope s_is_thing, [], []⟩
def d_is_row : He.DefD := ⟨("is_row", none), "is_row", "is_row", defArgs s_is_row, defBody s_is_row, defScope s_is_row, [], []⟩
def d_is_parting : He.DefD := ⟨("is_parting", none), "is_parting", "is_parting", defArgs s_is_parting, defBody s_is_parting, defScope s_is_parting, [], []⟩
def d_NoFolding_init : He.DefD := ⟨("NoFolding", some "__init__"), "__init__", "NoFolding.__init__", defArgs s_NoFolding_init, defBody s_NoFolding_init, defScope s_NoFolding_init, [], []⟩
def d_check_two : He.DefD := ⟨("check_two", none), "check_two", "check_two", defArgs s_check_two, defBody s_check_two, defScope s_check_two, [], []⟩
def d_NoPaper_init : He.DefD := ⟨("NoPaper", some "__init__"), "__init__", "NoPaper.__init__", defArgs s_NoPaper_init, defBody s_NoPaper_init, defScope s_NoPaper_init, [], []⟩
def d_amid_of : He.DefD := ⟨("amid_of", none), "amid_of", "amid_of", defArgs s_amid_of, defBody s_amid_of, defScope s_amid_of, [], []⟩
def d_ends_led : He.DefD := ⟨("ends_led", none), "ends_led", "ends_led", defArgs s_ends_led, defBody s_ends_led, defScope s_ends_led, [], []⟩
def d_check_yes : He.DefD := ⟨("check_yes", none), "check_yes", "check_yes", defArgs s_check_yes, defBody s_check_yes, defScope s_check_yes, [], []⟩
def d_check_no : He.DefD := ⟨("check_no", none), "check_no", "check_no", defArgs s_check_no, defBody s_check_no, defScope s_check_no, [], []⟩
def d_check_permuted : He.DefD := ⟨("check_permuted", none), "check_permuted", "check_permuted", defArgs s_check_permuted, defBody s_check_permuted, defScope s_check_permuted, [], []⟩
def d__law_said : He.DefD := ⟨("_law_said", none), "_law_said", "_law_said", defArgs s__law_said, defBody s__law_said, defScope s__law_said, [], []⟩
def d__law_right : He.DefD := ⟨("_law_right", none), "_law_right", "_law_right", defArgs s__law_right, defBody s__law_right, defScope s__law_right, [], []⟩
def d_law : He.DefD := ⟨("law", none), "law", "law", defArgs s_law, defBody s_law, defScope s_law, [], []⟩
def fn : List He.DefD := [d__law_draw, d__law_of_marks, d__law_two, d__law_amid, d__law_pairs, d__law_list, d__law_three, d__law_is_thing, d__law_are_three, d__law_due_of_yes, d__law_due_of_no, d__law_due, d_is_whole, d_is_thing, d_is_row, d_is_parting, d_NoFolding_init, d_check_two, d_NoPaper_init, d_amid_of, d_ends_led, d_check_yes, d_check_no, d_check_permuted, d__law_said, d__law_right, d_law]
def fa : List He.Fa := [.free "ValueError", .free "all", .free "bool", .free "enumerate", .free "int", .free "isinstance", .free "len", .free "list", .free "max", .free "range", .free "tuple", .glo "NoFolding", .glo "NoPaper", .glo "NoRow", .glo "WishError", .glo "_law_draw", .glo "_law_of_marks", .glo "_law_two", .glo "_law_amid", .glo "_law_pairs", .glo "_law_list", .glo "_law_three", .glo "_law_is_thing", .glo "_law_are_three", .glo "_law_due_of_yes", .glo "_law_due_of_no", .glo "_law_due", .glo "is_whole", .glo "is_thing", .glo "is_row", .glo "is_parting", .glo "check_two", .glo "amid_of", .glo "ends_led", .glo "check_yes", .glo "check_no", .glo "check_permuted", .glo "_law_said", .glo "_law_right", .glo "law", .exm "NoFolding" "NoFolding" true, .exm "NoFolding" "NoPaper" false, .exm "NoFolding" "NoRow" false, .exm "NoPaper" "NoFolding" false, .exm "NoPaper" "NoPaper" true, .exm "NoPaper" "NoRow" false]
def fx : List WD.Fx := [.oex "NoFolding", .ini "NoFolding", .noa "NoFolding" "at", .exd "NoFolding", .oex "NoPaper", .ini "NoPaper", .noa "NoPaper" "at", .exd "NoPaper", .par "WishError", .kit "NoFolding" "NoFolding" true, .kit "NoFolding" "NoPaper" false, .kit "NoFolding" "NoRow" false, .kiv "NoFolding" "ValueError" true, .kit "NoPaper" "NoFolding" false, .kit "NoPaper" "NoPaper" true, .kit "NoPaper" "NoRow" false, .kiv "NoPaper" "ValueError" true]
structure Tx (K : PySem.W.Frag) (mg : Str → Option Value) : Prop where
  z_ValueError : mg "ValueError" = none
  z_all : mg "all" = none
  z_bool : mg "bool" = none
  z_enumerate : mg "enumerate" = none
  z_int : mg "int" = none
  z_isinstance : mg "isinstance" = none
  z_len : mg "len" = none
  z_list : mg "list" = none
  z_max : mg "max" = none
  z_range : mg "range" = none
  z_tuple : mg "tuple" = none
  g_NoFolding : mg "NoFolding" = some (.ref (He.ga K "NoFolding"))
  g_NoPaper : mg "NoPaper" = some (.ref (He.ga K "NoPaper"))
  g_NoRow : mg "NoRow" = some (.ref (He.ga K "NoRow"))
  g_WishError : mg "WishError" = some (.ref (He.ga K "WishError"))
  g__law_draw : mg "_law_draw" = some (.ref (He.ga K "_law_draw"))
  g__law_of_marks : mg "_law_of_marks" = some (.ref (He.ga K "_law_of_marks"))
  g__law_two : mg "_law_two" = some (.ref (He.ga K "_law_two"))
  g__law_amid : mg "_law_amid" = some (.ref (He.ga K "_law_amid"))
  g__law_pairs : mg "_law_pairs" = some (.ref (He.ga K "_law_pairs"))
  g__law_list : mg "_law_list" = some (.ref (He.ga K "_law_list"))
  g__law_three : mg "_law_three" = some (.ref (He.ga K "_law_three"))
  g__law_is_thing : mg "_law_is_thing" = some (.ref (He.ga K "_law_is_thing"))
  g__law_are_three : mg "_law_are_three" = some (.ref (He.ga K "_law_are_three"))
  g__law_due_of_yes : mg "_law_due_of_yes" = some (.ref (He.ga K "_law_due_of_yes"))
  g__law_due_of_no : mg "_law_due_of_no" = some (.ref (He.ga K "_law_due_of_no"))
  g__law_due : mg "_law_due" = some (.ref (He.ga K "_law_due"))
  g_is_whole : mg "is_whole" = some (.ref (He.ga K "is_whole"))
  g_is_thing : mg "is_thing" = some (.ref (He.ga K "is_thing"))
  g_is_row : mg "is_row" = some (.ref (He.ga K "is_row"))
  g_is_parting : mg "is_parting" = some (.ref (He.ga K "is_parting"))
  g_check_two : mg "check_two" = some (.ref (He.ga K "check_two"))
  g_amid_of : mg "amid_of" = some (.ref (He.ga K "amid_of"))
  g_ends_led : mg "ends_led" = some (.ref (He.ga K "ends_led"))
  g_check_yes : mg "check_yes" = some (.ref (He.ga K "check_yes"))
  g_check_no : mg "check_no" = some (.ref (He.ga K "check_no"))
  g_check_permuted : mg "check_permuted" = some (.ref (He.ga K "check_permuted"))
  g__law_said : mg "_law_said" = some (.ref (He.ga K "_law_said"))
  g__law_right : mg "_law_right" = some (.ref (He.ga K "_law_right"))
  g_law : mg "law" = some (.ref (He.ga K "law"))
  ox_NoFolding : OexC K (He.ga K "NoFolding")
  ix_NoFolding : PySem.W.findIn K (.ref (He.ga K "NoFolding")) "__init__" = some (some (.ref (He.ma K (He.ga K "NoFolding") "__init__"))) ∧ PySem.W.typeIn K (.ref (He.ma K (He.ga K "NoFolding") "__init__")) = some (.type "function")
  nx_NoFolding : PySem.W.findIn K (.ref (He.ga K "NoFolding")) "at" = some none
  ex_NoFolding : WD.ExD K (He.ga K "NoFolding")
  ox_NoPaper : OexC K (He.ga K "NoPaper")
  ix_NoPaper : PySem.W.findIn K (.ref (He.ga K "NoPaper")) "__init__" = some (some (.ref (He.ma K (He.ga K "NoPaper") "__init__"))) ∧ PySem.W.typeIn K (.ref (He.ma K (He.ga K "NoPaper") "__init__")) = some (.type "function")
  nx_NoPaper : PySem.W.findIn K (.ref (He.ga K "NoPaper")) "at" = some none
  ex_NoPaper : WD.ExD K (He.ga K "NoPaper")
  px_WishError : WD.Par K (He.ga K "WishError")
  em_NoFolding_NoFolding : PySem.W.exmOne K (.ref (He.ga K "NoFolding")) (.ref (He.ga K "NoFolding")) = some true
  ki_NoFolding_NoFolding : PySem.W.kitOne K (.ref (He.ga K "NoFolding")) (.ref (He.ga K "NoFolding")) = some true
  em_NoFolding_NoPaper : PySem.W.exmOne K (.ref (He.ga K "NoFolding")) (.ref (He.ga K "NoPaper")) = some false
  ki_NoFolding_NoPaper : PySem.W.kitOne K (.ref (He.ga K "NoFolding")) (.ref (He.ga K "NoPaper")) = some false
  em_NoFolding_NoRow : PySem.W.exmOne K (.ref (He.ga K "NoFolding")) (.ref (He.ga K "NoRow")) = some false
  ki_NoFolding_NoRow : PySem.W.kitOne K (.ref (He.ga K "NoFolding")) (.ref (He.ga K "NoRow")) = some false
  kv_NoFolding : PySem.W.kitOne K (.ref (He.ga K "NoFolding")) (.type "ValueError") = some true
  em_NoPaper_NoFolding : PySem.W.exmOne K (.ref (He.ga K "NoPaper")) (.ref (He.ga K "NoFolding")) = some false
  ki_NoPaper_NoFolding : PySem.W.kitOne K (.ref (He.ga K "NoPaper")) (.ref (He.ga K "NoFolding")) = some false
  em_NoPaper_NoPaper : PySem.W.exmOne K (.ref (He.ga K "NoPaper")) (.ref (He.ga K "NoPaper")) = some true
  ki_NoPaper_NoPaper : PySem.W.kitOne K (.ref (He.ga K "NoPaper")) (.ref (He.ga K "NoPaper")) = some true
  em_NoPaper_NoRow : PySem.W.exmOne K (.ref (He.ga K "NoPaper")) (.ref (He.ga K "NoRow")) = some false
  ki_NoPaper_NoRow : PySem.W.kitOne K (.ref (He.ga K "NoPaper")) (.ref (He.ga K "NoRow")) = some false
  kv_NoPaper : PySem.W.kitOne K (.ref (He.ga K "NoPaper")) (.type "ValueError") = some true
  F__law_draw : ∃ fd, FunD K "_law_draw" "_law_draw" (defArgs s__law_draw) (defBody s__law_draw) (defScope s__law_draw) [] [] (He.ga K "_law_draw") fd
  F__law_of_marks : ∃ fd, FunD K "_law_of_marks" "_law_of_marks" (defArgs s__law_of_marks) (defBody s__law_of_marks) (defScope s__law_of_marks) [] [] (He.ga K "_law_of_marks") fd
  F__law_two : ∃ fd, FunD K "_law_two" "_law_two" (defArgs s__law_two) (defBody s__law_two) (defScope s__law_two) [] [] (He.ga K "_law_two") fd
  F__law_amid : ∃ fd, FunD K "_law_amid" "_law_amid" (defArgs s__law_amid) (defBody s__law_amid) (defScope s__law_amid) [] [] (He.ga K "_law_amid") fd
  F__law_pairs : ∃ fd, FunD K "_law_pairs" "_law_pairs" (defArgs s__law_pairs) (defBody s__law_pairs) (defScope s__law_pairs) [] [] (He.ga K "_law_pairs") fd
  F__law_list : ∃ fd, FunD K "_law_list" "_law_list" (defArgs s__law_list) (defBody s__law_list) (defScope s__law_list) [] [] (He.ga K "_law_list") fd
  F__law_three : ∃ fd, FunD K "_law_three" "_law_three" (defArgs s__law_three) (defBody s__law_three) (defScope s__law_three) [] [] (He.ga K "_law_three") fd
  F__law_is_thing : ∃ fd, FunD K "_law_is_thing" "_law_is_thing" (defArgs s__law_is_thing) (defBody s__law_is_thing) (defScope s__law_is_thing) [] [] (He.ga K "_law_is_thing") fd
  F__law_are_three : ∃ fd, FunD K "_law_are_three" "_law_are_three" (defArgs s__law_are_three) (defBody s__law_are_three) (defScope s__law_are_three) [] [] (He.ga K "_law_are_three") fd
  F__law_due_of_yes : ∃ fd, FunD K "_law_due_of_yes" "_law_due_of_yes" (defArgs s__law_due_of_yes) (defBody s__law_due_of_yes) (defScope s__law_due_of_yes) [] [] (He.ga K "_law_due_of_yes") fd
  F__law_due_of_no : ∃ fd, FunD K "_law_due_of_no" "_law_due_of_no" (defArgs s__law_due_of_no) (defBody s__law_due_of_no) (defScope s__law_due_of_no) [] [] (He.ga K "_law_due_of_no") fd
  F__law_due : ∃ fd, FunD K "_law_due" "_law_due" (defArgs s__law_due) (defBody s__law_due) (defScope s__law_due) [] [] (He.ga K "_law_due") fd
  F_is_whole : ∃ fd, FunD K "is_whole" "is_whole" (defArgs s_is_whole) (defBody s_is_whole) (defScope s_is_whole) [] [] (He.ga K "is_whole") fd
  F_is_thing : ∃ fd, FunD K "is_thing" "is_thing" (defArgs s_is_thing) (defBody s_is_thing) (defScope s_is_thing) [] [] (He.ga K "is_thing") fd
  F_is_row : ∃ fd, FunD K "is_row" "is_row" (defArgs s_is_row) (defBody s_is_row) (defScope s_is_row) [] [] (He.ga K "is_row") fd
  F_is_parting : ∃ fd, FunD K "is_parting" "is_parting" (defArgs s_is_parting) (defBody s_is_parting) (defScope s_is_parting) [] [] (He.ga K "is_parting") fd
  F_NoFolding_init : ∃ fd, FunD K "__init__" "NoFolding.__init__" (defArgs s_NoFolding_init) (defBody s_NoFolding_init) (defScope s_NoFolding_init) [] [] (He.ma K (He.ga K "NoFolding") "__init__") fd
  F_check_two : ∃ fd, FunD K "check_two" "check_two" (defArgs s_check_two) (defBody s_check_two) (defScope s_check_two) [] [] (He.ga K "check_two") fd
  F_NoPaper_init : ∃ fd, FunD K "__init__" "NoPaper.__init__" (defArgs s_NoPaper_init) (defBody s_NoPaper_init) (defScope s_NoPaper_init) [] [] (He.ma K (He.ga K "NoPaper") "__init__") fd
  F_amid_of : ∃ fd, FunD K "amid_of" "amid_of" (defArgs s_amid_of) (defBody s_amid_of) (defScope s_amid_of) [] [] (He.ga K "amid_of") fd
  F_ends_led : ∃ fd, FunD K "ends_led" "ends_led" (defArgs s_ends_led) (defBody s_ends_led) (defScope s_ends_led) [] [] (He.ga K "ends_led") fd
  F_check_yes : ∃ fd, FunD K "check_yes" "check_yes" (defArgs s_check_yes) (defBody s_check_yes) (defScope s_check_yes) [] [] (He.ga K "check_yes") fd
  F_check_no : ∃ fd, FunD K "check_no" "check_no" (defArgs s_check_no) (defBody s_check_no) (defScope s_check_no) [] [] (He.ga K "check_no") fd
  F_check_permuted : ∃ fd, FunD K "check_permuted" "check_permuted" (defArgs s_check_permuted) (defBody s_check_permuted) (defScope s_check_permuted) [] [] (He.ga K "check_permuted") fd
  F__law_said : ∃ fd, FunD K "_law_said" "_law_said" (defArgs s__law_said) (defBody s__law_said) (defScope s__law_said) [] [] (He.ga K "_law_said") fd
  F__law_right : ∃ fd, FunD K "_law_right" "_law_right" (defArgs s__law_right) (defBody s__law_right) (defScope s__law_right) [] [] (He.ga K "_law_right") fd
  F_law : ∃ fd, FunD K "law" "law" (defArgs s_law) (defBody s_law) (defScope s_law) [] [] (He.ga K "law") fd
theorem mkTx {K : PySem.W.Frag} {h : Heap} {mg : Str → Option Value} (X : K.In h) (G : h.Ns mainGlobals mg) (c : WD.SaysE fa fn fx K) : Tx K mg :=
  { z_ValueError := He.free_ok X G (c.says.fact 0 (f := .free "ValueError") rfl),
    z_all := He.free_ok X G (c.says.fact 1 (f := .free "all") rfl),
    z_bool := He.free_ok X G (c.says.fact 2 (f := .free "bool") rfl),
    z_enumerate := He.free_ok X G (c.says.fact 3 (f := .free "enumerate") rfl),
    z_int := He.free_ok X G (c.says.fact 4 (f := .free "int") rfl),
    z_isinstance := He.free_ok X G (c.says.fact 5 (f := .free "isinstance") rfl),
    z_len := He.free_ok X G (c.says.fact 6 (f := .free "len") rfl),
    z_list := He.free_ok X G (c.says.fact 7 (f := .free "list") rfl),
    z_max := He.free_ok X G (c.says.fact 8 (f := .free "max") rfl),
    z_range := He.free_ok X G (c.says.fact 9 (f := .free "range") rfl),
    z_tuple := He.free_ok X G (c.says.fact 10 (f := .free "tuple") rfl),
    g_NoFolding := He.glo_ok X G (c.says.fact 11 (f := .glo "NoFolding") rfl),
    g_NoPaper := He.glo_ok X G (c.says.fact 12 (f := .glo "NoPaper") rfl),
    g_NoRow := He.glo_ok X G (c.says.fact 13 (f := .glo "NoRow") rfl),
    g_WishError := He.glo_ok X G (c.says.fact 14 (f := .glo "WishError") rfl),
    g__law_draw := He.glo_ok X G (c.says.fact 15 (f := .glo "_law_draw") rfl),
    g__law_of_marks := He.glo_ok X G (c.says.fact 16 (f := .glo "_law_of_marks") rfl),
    g__law_two := He.glo_ok X G (c.says.fact 17 (f := .glo "_law_two") rfl),
    g__law_amid := He.glo_ok X G (c.says.fact 18 (f := .glo "_law_amid") rfl),
    g__law_pairs := He.glo_ok X G (c.says.fact 19 (f := .glo "_law_pairs") rfl),
    g__law_list := He.glo_ok X G (c.says.fact 20 (f := .glo "_law_list") rfl),
    g__law_three := He.glo_ok X G (c.says.fact 21 (f := .glo "_law_three") rfl),
    g__law_is_thing := He.glo_ok X G (c.says.fact 22 (f := .glo "_law_is_thing") rfl),
    g__law_are_three := He.glo_ok X G (c.says.fact 23 (f := .glo "_law_are_three") rfl),
    g__law_due_of_yes := He.glo_ok X G (c.says.fact 24 (f := .glo "_law_due_of_yes") rfl),
    g__law_due_of_no := He.glo_ok X G (c.says.fact 25 (f := .glo "_law_due_of_no") rfl),
    g__law_due := He.glo_ok X G (c.says.fact 26 (f := .glo "_law_due") rfl),
    g_is_whole := He.glo_ok X G (c.says.fact 27 (f := .glo "is_whole") rfl),
    g_is_thing := He.glo_ok X G (c.says.fact 28 (f := .glo "is_thing") rfl),
    g_is_row := He.glo_ok X G (c.says.fact 29 (f := .glo "is_row") rfl),
    g_is_parting := He.glo_ok X G (c.says.fact 30 (f := .glo "is_parting") rfl),
    g_check_two := He.glo_ok X G (c.says.fact 31 (f := .glo "check_two") rfl),
    g_amid_of := He.glo_ok X G (c.says.fact 32 (f := .glo "amid_of") rfl),
    g_ends_led := He.glo_ok X G (c.says.fact 33 (f := .glo "ends_led") rfl),
    g_check_yes := He.glo_ok X G (c.says.fact 34 (f := .glo "check_yes") rfl),
    g_check_no := He.glo_ok X G (c.says.fact 35 (f := .glo "check_no") rfl),
    g_check_permuted := He.glo_ok X G (c.says.fact 36 (f := .glo "check_permuted") rfl),
    g__law_said := He.glo_ok X G (c.says.fact 37 (f := .glo "_law_said") rfl),
    g__law_right := He.glo_ok X G (c.says.fact 38 (f := .glo "_law_right") rfl),
    g_law := He.glo_ok X G (c.says.fact 39 (f := .glo "law") rfl),
    ox_NoFolding := WD.oex_ok (c.own 0 (f := .oex "NoFolding") rfl),
    ix_NoFolding := WD.ini_ok (c.own 1 (f := .ini "NoFolding") rfl),
    nx_NoFolding := WD.noa_ok (c.own 2 (f := .noa "NoFolding" "at") rfl),
    ex_NoFolding := WD.exd_ok' (c.own 3 (f := .exd "NoFolding") rfl),
    ox_NoPaper := WD.oex_ok (c.own 4 (f := .oex "NoPaper") rfl),
    ix_NoPaper := WD.ini_ok (c.own 5 (f := .ini "NoPaper") rfl),
    nx_NoPaper := WD.noa_ok (c.own 6 (f := .noa "NoPaper" "at") rfl),
    ex_NoPaper := WD.exd_ok' (c.own 7 (f := .exd "NoPaper") rfl),
    px_WishError := WD.par_ok (c.own 8 (f := .par "WishError") rfl),
    em_NoFolding_NoFolding := He.exm_ok (c.says.fact 40 (f := .exm "NoFolding" "NoFolding" true) rfl),
    ki_NoFolding_NoFolding := WD.kit_ok (c.own 9 (f := .kit "NoFolding" "NoFolding" true) rfl),
    em_NoFolding_NoPaper := He.exm_ok (c.says.fact 41 (f := .exm "NoFolding" "NoPaper" false) rfl),
    ki_NoFolding_NoPaper := WD.kit_ok (c.own 10 (f := .kit "NoFolding" "NoPaper" false) rfl),
    em_NoFolding_NoRow := He.exm_ok (c.says.fact 42 (f := .exm "NoFolding" "NoRow" false) rfl),
    ki_NoFolding_NoRow := WD.kit_ok (c.own 11 (f := .kit "NoFolding" "NoRow" false) rfl),
    kv_NoFolding := WD.kiv_ok (c.own 12 (f := .kiv "NoFolding" "ValueError" true) rfl),
    em_NoPaper_NoFolding := He.exm_ok (c.says.fact 43 (f := .exm "NoPaper" "NoFolding" false) rfl),
    ki_NoPaper_NoFolding := WD.kit_ok (c.own 13 (f := .kit "NoPaper" "NoFolding" false) rfl),
    em_NoPaper_NoPaper := He.exm_ok (c.says.fact 44 (f := .exm "NoPaper" "NoPaper" true) rfl),
    ki_NoPaper_NoPaper := WD.kit_ok (c.own 14 (f := .kit "NoPaper" "NoPaper" true) rfl),
    em_NoPaper_NoRow := He.exm_ok (c.says.fact 45 (f := .exm "NoPaper" "NoRow" false) rfl),
    ki_NoPaper_NoRow := WD.kit_ok (c.own 15 (f := .kit "NoPaper" "NoRow" false) rfl),
    kv_NoPaper := WD.kiv_ok (c.own 16 (f := .kiv "NoPaper" "ValueError" true) rfl),
    F__law_draw := c.says.def_ 0 (d := d__law_draw) rfl,
    F__law_of_marks := c.says.def_ 1 (d := d__law_of_marks) rfl,
    F__law_two := c.says.def_ 2 (d := d__law_two) rfl,
    F__law_amid := c.says.def_ 3 (d := d__law_amid) rfl,
    F__law_pairs := c.says.def_ 4 (d := d__law_pairs) rfl,
    F__law_list := c.says.def_ 5 (d := d__law_list) rfl,
    F__law_three := c.says.def_ 6 (d := d__law_three) rfl,
    F__law_is_thing := c.says.def_ 7 (d := d__law_is_thing) rfl,
    F__law_are_three := c.says.def_ 8 (d := d__law_are_three) rfl,
    F__law_due_of_yes := c.says.def_ 9 (d := d__law_due_of_yes) rfl,
    F__law_due_of_no := c.says.def_ 10 (d := d__law_due_of_no) rfl,
    F__law_due := c.says.def_ 11 (d := d__law_due) rfl,
    F_is_whole := c.says.def_ 12 (d := d_is_whole) rfl,
    F_is_thing := c.says.def_ 13 (d := d_is_thing) rfl,
    F_is_row := c.says.def_ 14 (d := d_is_row) rfl,
    F_is_parting := c.says.def_ 15 (d := d_is_parting) rfl,
    F_NoFolding_init := c.says.def_ 16 (d := d_NoFolding_init) rfl,
    F_check_two := c.says.def_ 17 (d := d_check_two) rfl,
    F_NoPaper_init := c.says.def_ 18 (d := d_NoPaper_init) rfl,
    F_amid_of := c.says.def_ 19 (d := d_amid_of) rfl,
    F_ends_led := c.says.def_ 20 (d := d_ends_led) rfl,
    F_check_yes := c.says.def_ 21 (d := d_check_yes) rfl,
    F_check_no := c.says.def_ 22 (d := d_check_no) rfl,
    F_check_permuted := c.says.def_ 23 (d := d_check_permuted) rfl,
    F__law_said := c.says.def_ 24 (d := d__law_said) rfl,
    F__law_right := c.says.def_ 25 (d := d__law_right) rfl,
    F_law := c.says.def_ 26 (d := d_law) rfl }
section
variable {P : Program} {w : World} {K : PySem.W.Frag} {mg : Str → Option Value} {base : Heap}
theorem ok__law_draw (T : Tx K mg) : WD.Cal P w K mg base (L2.CX P w) 1 "_law_draw" (He.ga K "_law_draw") (PM.SpF K 2 fn__law_draw) [] := by
  obtain ⟨fd, F⟩ := T.F__law_draw
  exact ⟨PM.fn_ok (b := b__law_draw) F sc__law_draw (fun _ _ _ _ _ _ us hl => match us, hl with | [_, _], _ => rfl) (fun cdv A outer s H E hr =>
    (PM.ss_cons (PM.s_if (ps_if (PM.t_cmp (PM.op_gtV) (PM.i_ix (PM.i_pv (pv 0)) PM.i_int (fun _ _ => rfl)) PM.i_int (nomark _))
        (PM.ss_cons (PM.s_set (ps_set (i := 2) sc__law_draw.nd rfl (.inl rfl) (PM.i_op PM.op_modV (PM.i_ix (PM.i_pv (pv 0)) PM.i_int (fun _ _ => rfl)) (PM.i_pv (pv 1)))))
      (PM.ss_cons (PM.s_setL (ps_asg (PM.i_op PM.op_fdivV (PM.i_ix (PM.i_pv (pv 0)) PM.i_int (fun _ _ => rfl)) (PM.i_pv (pv 1))) (pg_sub (PM.i_pv (pv 0)) PM.i_int set_list)))
      (PM.ss_one (PM.s_ret (ps_ret (PM.i_pv (pv 2)))))))
        PM.ss_nil))
      (PM.ss_cons (PM.s_setL (ps_asg (PM.i_op PM.op_addV (PM.i_ix (PM.i_pv (pv 0)) PM.i_int (fun _ _ => rfl)) PM.i_int) (pg_sub (PM.i_pv (pv 0)) PM.i_int set_list)))
      (PM.ss_cons (PM.s_set (ps_set (i := 3) sc__law_draw.nd rfl (.inl rfl) (PM.i_op PM.op_modV (PM.i_op PM.op_mulV (PM.i_op PM.op_addV (PM.i_op PM.op_addV (PM.i_ix (PM.i_pv (pv 0)) PM.i_int (fun _ _ => rfl)) (PM.i_op PM.op_mulV PM.i_int (PM.i_ix (PM.i_pv (pv 0)) PM.i_int (fun _ _ => rfl)))) PM.i_int) PM.i_int) PM.i_int)))
      (PM.ss_cons (PM.s_set (ps_set (i := 3) sc__law_draw.nd rfl (.inl rfl) (PM.i_op PM.op_modV (PM.i_op PM.op_mulV (PM.i_pv (pv 3)) (PM.i_op PM.op_addV (PM.i_op PM.op_fdivV (PM.i_pv (pv 3)) PM.i_int) PM.i_int)) PM.i_int)))
      (PM.ss_one (PM.s_ret (ps_ret (PM.i_op PM.op_modV (PM.i_op PM.op_modV (PM.i_op PM.op_mulV (PM.i_pv (pv 3)) (PM.i_op PM.op_addV (PM.i_op PM.op_fdivV (PM.i_pv (pv 3)) PM.i_int) PM.i_int)) PM.i_int) (PM.i_pv (pv 1))))))))))), F.kp, T.g__law_draw⟩
end
section
variable {P : Program} {w : World} {K : PySem.W.Frag} {mg : Str → Option Value} {base : Heap}
theorem ok__law_of_marks (T : Tx K mg) : WD.Cal P w K mg base (L2.CX P w) 1 "_law_of_marks" (He.ga K "_law_of_marks") (PM.SpF K 1 fn__law_of_marks) [] := by
  obtain ⟨fd, F⟩ := T.F__law_of_marks
  exact ⟨PM.fn_ok (b := b__law_of_marks) F sc__law_of_marks (fun _ _ _ _ _ _ us hl => match us, hl with | [_], _ => rfl) (fun cdv A outer s H E hr =>
    (PM.ss_one (PM.s_ret (ps_ret (PM.i_callTy PM.cr_tupleV (by rfl) T.z_tuple WD.bt_tuple (PM.a_cons (PM.i_ofF (PM.f_lc (pe_lc (own := [("_law_mark", 1)]) rfl sc__law_of_marks.nd (PM.ii_val (PM.i_pv (pv 0))) (blkOk_by (N := ["_law_marks", "_law_mark"]) (sc := defScope s__law_of_marks) (by decide +kernel)) (fun _ _ _ _ _ => (PM.g_name (pg_name (i := 1) sc__law_of_marks.nd rfl (.inl rfl)))) (fun _ _ _ _ _ => PM.ts_yes) (fun _ _ _ _ _ => (PM.i_index (WD.hu65 hr) (PM.i_pv (pv 0)) (PM.a_cons (PM.i_pv (pv 1)) PM.a_nil) (fun ho ha => WD.k_pe_bm K PySem.F.plainAttrs_list PySem.F.slot_list_index PySem.F.type_list_index (WD.k_mt_indexD K (WD.hu65 hr)) ho ha)))))) PM.a_nil)))))), F.kp, T.g__law_of_marks⟩
end
section
variable {P : Program} {w : World} {K : PySem.W.Frag} {mg : Str → Option Value} {base : Heap}
theorem ok__law_two (T : Tx K mg) : WD.Cal P w K mg base (L2.CX P w) 2 "_law_two" (He.ga K "_law_two") (PM.SpF K 2 fn__law_two) [] := by
  obtain ⟨fd, F⟩ := T.F__law_two
  exact ⟨PM.fn_ok (b := b__law_two) F sc__law_two (fun _ _ _ _ _ _ us hl => match us, hl with | [_, _], _ => rfl) (fun cdv A outer s H E hr =>
    (PM.ss_cons (PM.s_set (ps_set (i := 2) sc__law_two.nd rfl (.inl rfl) (PM.i_call (ok__law_draw T) (takes_of rfl rfl rfl rfl) (hr.mono (by decide)) (by rfl) (PM.a_cons (PM.i_pv (pv 0)) (PM.a_cons PM.i_int PM.a_nil)))))
      (PM.ss_cons (PM.s_set (ps_set (i := 3) sc__law_two.nd rfl (.inr rfl) (PM.i_op PM.op_addV PM.i_int (PM.i_call (ok__law_draw T) (takes_of rfl rfl rfl rfl) (hr.mono (by decide)) (by rfl) (PM.a_cons (PM.i_pv (pv 0)) (PM.a_cons PM.i_int PM.a_nil))))))
      (PM.ss_cons (PM.s_lcT (ps_setLc (i := 4) (own := [("_law_k", 8)]) rfl sc__law_two.nd rfl rfl (sw_true rfl rfl rfl (by decide +kernel)) (PM.ii_range1 (by rfl) T.z_range (PM.a_cons (PM.i_pv (pv 1)) PM.a_nil)) (blkOk_by (N := ["_law_well", "_law_size", "_law_way", "_law_wide", "_law_one", "_law_other", "_law_left", "_law_called", "_law_k", "_law_thing"]) (sc := defScope s__law_two) (by decide +kernel)) (fun _ _ _ _ _ => (PM.g_name (pg_name (i := 8) sc__law_two.nd rfl (.inl rfl)))) (fun _ _ _ _ _ => PM.ts_yes) (fun _ _ _ _ _ => (PM.i_call (ok__law_draw T) takes0 (hr.mono (by decide)) (by rfl) (PM.a_cons (PM.i_pv (pv 0)) (PM.a_cons PM.i_int PM.a_nil))))))
      (PM.ss_cons (PM.s_lcT (ps_setLc (i := 5) (own := [("_law_k", 8)]) rfl sc__law_two.nd rfl rfl (sw_true rfl rfl rfl (by decide +kernel)) (PM.ii_range1 (by rfl) T.z_range (PM.a_cons (PM.i_pv (pv 1)) PM.a_nil)) (blkOk_by (N := ["_law_well", "_law_size", "_law_way", "_law_wide", "_law_one", "_law_other", "_law_left", "_law_called", "_law_k", "_law_thing"]) (sc := defScope s__law_two) (by decide +kernel)) (fun _ _ _ _ _ => (PM.g_name (pg_name (i := 8) sc__law_two.nd rfl (.inl rfl)))) (fun _ _ _ _ _ => PM.ts_yes) (fun _ _ _ _ _ => (PM.i_call (ok__law_draw T) takes0 (hr.mono (by decide)) (by rfl) (PM.a_cons (PM.i_pv (pv 0)) (PM.a_cons PM.i_int PM.a_nil))))))
      (PM.ss_cons (PM.s_set (ps_set (i := 6) sc__law_two.nd rfl (.inr rfl) (PM.i_cellF (PM.f_listRg1 rfl (by rfl) T.z_list (by rfl) T.z_range (PM.i_pv (pv 1))))))
      (PM.ss_cons (PM.s_lcT (ps_setLc (i := 7) (own := [("_law_k", 8)]) rfl sc__law_two.nd rfl rfl (sw_true rfl rfl rfl (by decide +kernel)) (PM.ii_range1 (by rfl) T.z_range (PM.a_cons (PM.i_pv (pv 1)) PM.a_nil)) (blkOk_by (N := ["_law_well", "_law_size", "_law_way", "_law_wide", "_law_one", "_law_other", "_law_left", "_law_called", "_law_k", "_law_thing"]) (sc := defScope s__law_two) (by decide +kernel)) (fun _ _ _ _ _ => (PM.g_name (pg_name (i := 8) sc__law_two.nd rfl (.inl rfl)))) (fun _ _ _ _ _ => PM.ts_yes) (fun _ _ _ _ _ => (PM.i_mut PySem.F.slot_list_pop PySem.F.type_list_pop PM.mt_popAtM (PM.i_pv (pv 6)) (PM.a_cons (PM.i_call (ok__law_draw T) takes0 (hr.mono (by decide)) (by rfl) (PM.a_cons (PM.i_pv (pv 0)) (PM.a_cons (PM.i_callB (PM.cr_lenV) (by rfl) T.z_len WD.bt_len (PM.a_cons (PM.i_pv (pv 6)) PM.a_nil)) PM.a_nil))) PM.a_nil) (fun hm ho ha => WD.k_pe_bm K PySem.F.plainAttrs_list PySem.F.slot_list_pop PySem.F.type_list_pop hm ho ha)))))
      (PM.ss_cons (PM.s_if (ps_if (PM.t_cmp (PM.op_gtV) (PM.i_pv (pv 2)) PM.i_int (nomark _))
        (PM.ss_cons (PM.s_lcT (ps_setLc (i := 4) (own := [("_law_thing", 9)]) rfl sc__law_two.nd rfl rfl (sw_true rfl rfl rfl (by decide +kernel)) (PM.ii_val (PM.i_pv (pv 7))) (blkOk_by (N := ["_law_well", "_law_size", "_law_way", "_law_wide", "_law_one", "_law_other", "_law_left", "_law_called", "_law_k", "_law_thing"]) (sc := defScope s__law_two) (by decide +kernel)) (fun _ _ _ _ _ => (PM.g_name (pg_name (i := 9) sc__law_two.nd rfl (.inl rfl)))) (fun _ _ _ _ _ => PM.ts_yes) (fun _ _ _ _ _ => (PM.i_op PM.op_fdivV (PM.i_pv (pv 9)) (PM.i_pv (pv 3))))))
      (PM.ss_one (PM.s_lcT (ps_setLc (i := 5) (own := [("_law_thing", 9)]) rfl sc__law_two.nd rfl rfl (sw_true rfl rfl rfl (by decide +kernel)) (PM.ii_val (PM.i_pv (pv 7))) (blkOk_by (N := ["_law_well", "_law_size", "_law_way", "_law_wide", "_law_one", "_law_other", "_law_left", "_law_called", "_law_k", "_law_thing"]) (sc := defScope s__law_two) (by decide +kernel)) (fun _ _ _ _ _ => (PM.g_name (pg_name (i := 9) sc__law_two.nd rfl (.inl rfl)))) (fun _ _ _ _ _ => PM.ts_yes) (fun _ _ _ _ _ => (PM.i_op PM.op_modV (PM.i_pv (pv 9)) (PM.i_pv (pv 3))))))))
        PM.ss_nil))
      (PM.ss_one (PM.s_ret (ps_ret (PM.i_tup (PM.a_cons (PM.i_call (ok__law_of_marks T) (takes_of rfl rfl rfl rfl) (hr.mono (by decide)) (by rfl) (PM.a_cons (PM.i_pv (pv 4)) PM.a_nil)) (PM.a_cons (PM.i_call (ok__law_of_marks T) (takes_of rfl rfl rfl rfl) (hr.mono (by decide)) (by rfl) (PM.a_cons (PM.i_pv (pv 5)) PM.a_nil)) PM.a_nil)))))))))))))), F.kp, T.g__law_two⟩
end
section
variable {P : Program} {w : World} {K : PySem.W.Frag} {mg : Str → Option Value} {base : Heap}
theorem ok__law_amid (T : Tx K mg) : WD.Cal P w K mg base (L2.CX P w) 1 "_law_amid" (He.ga K "_law_amid") (PM.SpF K 4 fn__law_amid) [] := by
  obtain ⟨fd, F⟩ := T.F__law_amid
  exact ⟨PM.fn_ok (b := b__law_amid) F sc__law_amid (fun _ _ _ _ _ _ us hl => match us, hl with | [_, _, _, _], _ => rfl) (fun cdv A outer s H E hr =>
    (PM.ss_one (PM.s_ret (ps_ret (PM.i_ofF (PM.f_lc (pe_lc (own := [("_law_thing", 4)]) rfl sc__law_amid.nd (PM.ii_range1 (by rfl) T.z_range (PM.a_cons (PM.i_callB (PM.cr_lenV) (by rfl) T.z_len WD.bt_len (PM.a_cons (PM.i_pv (pv 0)) PM.a_nil)) PM.a_nil)) (blkOk_by (N := ["_law_one", "_law_other", "_law_begin", "_law_end", "_law_thing"]) (sc := defScope s__law_amid) (by decide +kernel)) (fun _ _ _ _ _ => (PM.g_name (pg_name (i := 4) sc__law_amid.nd rfl (.inl rfl)))) (fun _ _ _ _ _ => (pts_one (PW.pt (PM.w_and (PM.t_cmp (PM.op_eqV hr.units) (PM.i_ix (PM.i_pv (pv 0)) (PM.i_pv (pv 4)) (fun _ _ => rfl)) (PM.i_ix (PM.i_pv (pv 0)) (PM.i_pv (pv 2)) (fun _ _ => rfl)) (nomark _)) (pw_and1 (PM.t_cmp (PM.op_eqV hr.units) (PM.i_ix (PM.i_pv (pv 1)) (PM.i_pv (pv 4)) (fun _ _ => rfl)) (PM.i_ix (PM.i_pv (pv 1)) (PM.i_pv (pv 3)) (fun _ _ => rfl)) (nomark _))))))) (fun _ _ _ _ _ => (PM.i_pv (pv 4)))))))))), F.kp, T.g__law_amid⟩
end
section
variable {P : Program} {w : World} {K : PySem.W.Frag} {mg : Str → Option Value} {base : Heap}
theorem ok__law_pairs (T : Tx K mg) : WD.Cal P w K mg base (L2.CX P w) 2 "_law_pairs" (He.ga K "_law_pairs") (PM.SpF K 2 fn__law_pairs) [] := by
  obtain ⟨fd, F⟩ := T.F__law_pairs
  exact ⟨PM.fn_ok (b := b__law_pairs) F sc__law_pairs (fun _ _ _ _ _ _ us hl => match us, hl with | [_, _], _ => rfl) (fun cdv A outer s H E hr =>
    (PM.ss_cons (PM.s_set (ps_set (i := 2) sc__law_pairs.nd rfl (.inl rfl) (PM.i_ofF (PM.f_lst PM.a_nil))))
      (PM.ss_cons (PM.s_for (passes_of rfl) rfl (PM.ii_range1 (by rfl) T.z_range (PM.a_cons (PM.i_callB (PM.cr_lenV) (by rfl) T.z_len WD.bt_len (PM.a_cons (PM.i_pv (pv 0)) PM.a_nil)) PM.a_nil)) (PM.g_name (pg_name (i := 3) sc__law_pairs.nd rfl (.inr rfl)))
        (PM.ss_one (PM.s_set (ps_set (i := 2) sc__law_pairs.nd rfl (.inl rfl) (PM.i_ofF (PM.f_op PM.op_addF (PM.i_pv (pv 2)) (PM.i_ofF (PM.f_lc (pe_lc (own := [("_law_end", 4)]) rfl sc__law_pairs.nd (PM.ii_range1 (by rfl) T.z_range (PM.a_cons (PM.i_callB (PM.cr_lenV) (by rfl) T.z_len WD.bt_len (PM.a_cons (PM.i_pv (pv 0)) PM.a_nil)) PM.a_nil)) (blkOk_by (N := ["_law_one", "_law_other", "_law_found", "_law_begin", "_law_end"]) (sc := defScope s__law_pairs) (by decide +kernel)) (fun _ _ _ _ _ => (PM.g_name (pg_name (i := 4) sc__law_pairs.nd rfl (.inl rfl)))) (fun _ _ _ _ _ => (pts_one (PM.t_cmp (PM.op_neV hr.units) (PM.i_call (ok__law_amid T) takes0 (hr.mono (by decide)) (by rfl) (PM.a_cons (PM.i_pv (pv 0)) (PM.a_cons (PM.i_pv (pv 1)) (PM.a_cons (PM.i_pv (pv 3)) (PM.a_cons (PM.i_pv (pv 4)) PM.a_nil))))) (PM.i_ofF (PM.f_lst PM.a_nil)) (nomark _)))) (fun _ _ _ _ _ => (PM.i_tup (PM.a_cons (PM.i_pv (pv 3)) (PM.a_cons (PM.i_pv (pv 4)) PM.a_nil)))))))))))))
      (PM.ss_one (PM.s_ret (ps_ret (PM.i_pv (pv 2)))))))), F.kp, T.g__law_pairs⟩
end
section
variable {P : Program} {w : World} {K : PySem.W.Frag} {mg : Str → Option Value} {base : Heap}
theorem ok__law_list (T : Tx K mg) : WD.Cal P w K mg base (L2.CX P w) 3 "_law_list" (He.ga K "_law_list") (PM.SpF K 3 fn__law_list) [] := by
  obtain ⟨fd, F⟩ := T.F__law_list
  exact ⟨PM.fn_ok (b := b__law_list) F sc__law_list (fun _ _ _ _ _ _ us hl => match us, hl with | [_, _, _], _ => rfl) (fun cdv A outer s H E hr =>
    (PM.ss_cons (PM.s_set (ps_set (i := 3) sc__law_list.nd rfl (.inl rfl) (PM.i_call (ok__law_draw T) (takes_of rfl rfl rfl rfl) (hr.mono (by decide)) (by rfl) (PM.a_cons (PM.i_pv (pv 0)) (PM.a_cons PM.i_int PM.a_nil)))))
      (PM.ss_cons (PM.s_set (ps_set (i := 4) sc__law_list.nd rfl (.inl rfl) (PM.i_call (ok__law_draw T) (takes_of rfl rfl rfl rfl) (hr.mono (by decide)) (by rfl) (PM.a_cons (PM.i_pv (pv 0)) (PM.a_cons PM.i_int PM.a_nil)))))
      (PM.ss_cons (PM.s_set (ps_set (i := 5) sc__law_list.nd rfl (.inl rfl) (PM.i_cellF (PM.f_lst PM.a_nil))))
      (PM.ss_cons (PM.s_for (passes_of rfl) rfl (PM.ii_val (PM.i_call (ok__law_pairs T) (takes_of rfl rfl rfl rfl) (hr.mono (by decide)) (by rfl) (PM.a_cons (PM.i_pv (pv 1)) (PM.a_cons (PM.i_pv (pv 2)) PM.a_nil)))) (PM.g_tup (PM.gs_cons (PM.g_name (pg_name (i := 6) sc__law_list.nd rfl (.inl rfl))) (PM.gs_cons (PM.g_name (pg_name (i := 7) sc__law_list.nd rfl (.inl rfl))) PM.gs_nil)) rfl)
        (PM.ss_cons (PM.s_set (ps_set (i := 8) sc__law_list.nd rfl (.inl rfl) (PM.i_ofF (PM.f_op PM.op_addF (PM.i_call (ok__law_amid T) (takes_of rfl rfl rfl rfl) (hr.mono (by decide)) (by rfl) (PM.a_cons (PM.i_pv (pv 2)) (PM.a_cons (PM.i_pv (pv 1)) (PM.a_cons (PM.i_pv (pv 6)) (PM.a_cons (PM.i_pv (pv 7)) PM.a_nil))))) (PM.i_ofF (PM.f_lst (PM.a_cons (PM.i_pv (pv 6)) PM.a_nil)))))))
      (PM.ss_one (PM.s_exp (PM.i_mut PySem.F.slot_list_append PySem.F.type_list_append PM.mt_appendM (PM.i_pv (pv 5)) (PM.a_cons (PM.i_tup (PM.a_cons (PM.i_pv (pv 6)) (PM.a_cons (PM.i_pv (pv 7)) (PM.a_cons (PM.i_ix (PM.i_pv (pv 8)) (PM.i_call (ok__law_draw T) (takes_of rfl rfl rfl rfl) (hr.mono (by decide)) (by rfl) (PM.a_cons (PM.i_pv (pv 0)) (PM.a_cons (PM.i_callB (PM.cr_maxV rfl) (by rfl) T.z_max WD.bt_max (PM.a_cons PM.i_int (PM.a_cons (PM.i_op PM.op_subV (PM.i_callB (PM.cr_lenV) (by rfl) T.z_len WD.bt_len (PM.a_cons (PM.i_pv (pv 8)) PM.a_nil)) PM.i_int) PM.a_nil))) PM.a_nil))) (fun _ _ => rfl)) PM.a_nil)))) PM.a_nil) (fun hm ho ha => WD.k_pe_bm K PySem.F.plainAttrs_list PySem.F.slot_list_append PySem.F.type_list_append hm ho ha))))))
      (PM.ss_cons (PM.s_set (ps_set (i := 9) sc__law_list.nd rfl (.inl rfl) (PM.i_op PM.op_modV (PM.i_pv (pv 4)) (PM.i_op PM.op_addV (PM.i_callB (PM.cr_lenV) (by rfl) T.z_len WD.bt_len (PM.a_cons (PM.i_pv (pv 5)) PM.a_nil)) PM.i_int))))
      (PM.ss_cons (PM.s_set (ps_set (i := 10) sc__law_list.nd rfl (.inl rfl) (PM.i_ix (PM.i_ofF (PM.f_op PM.op_addF (PM.i_pv (pv 5)) (PM.i_ofF (PM.f_lst (PM.a_cons (PM.i_tup (PM.a_cons PM.i_int (PM.a_cons PM.i_int (PM.a_cons PM.i_int PM.a_nil)))) PM.a_nil))))) (PM.i_pv (pv 9)) (fun _ _ => rfl))))
      (PM.ss_cons (PM.s_if (ps_if (PM.t_cmp (PM.op_eqV hr.units) (PM.i_pv (pv 3)) PM.i_int (nomark _))
        (PM.ss_one (PM.s_ret (ps_ret (PM.i_op PM.op_addV (PM.i_sl (PM.i_pv (pv 5)) PM.o_none (PM.o_some (PM.i_pv (pv 9)))) (PM.i_sl (PM.i_pv (pv 5)) (PM.o_some (PM.i_op PM.op_addV (PM.i_pv (pv 9)) PM.i_int)) PM.o_none)))))
        PM.ss_nil))
      (PM.ss_cons (PM.s_if (ps_if (PM.t_cmp (PM.op_eqV hr.units) (PM.i_pv (pv 3)) PM.i_int (nomark _))
        (PM.ss_one (PM.s_ret (ps_ret (PM.i_ofF (PM.f_op PM.op_addF (PM.i_ofF (PM.f_op PM.op_addF (PM.i_sl (PM.i_pv (pv 5)) PM.o_none (PM.o_some (PM.i_pv (pv 9)))) (PM.i_ofF (PM.f_lst (PM.a_cons (PM.i_pv (pv 10)) PM.a_nil))))) (PM.i_sl (PM.i_pv (pv 5)) (PM.o_some (PM.i_pv (pv 9))) PM.o_none))))))
        PM.ss_nil))
      (PM.ss_cons (PM.s_if (ps_if (PM.t_cmp (PM.op_eqV hr.units) (PM.i_pv (pv 3)) PM.i_int (nomark _))
        (PM.ss_one (PM.s_ret (ps_ret (PM.i_op PM.op_addV (PM.i_op PM.op_addV (PM.i_sl (PM.i_pv (pv 5)) PM.o_none (PM.o_some (PM.i_pv (pv 9)))) (PM.i_rev (PM.i_sl (PM.i_pv (pv 5)) (PM.o_some (PM.i_pv (pv 9))) (PM.o_some (PM.i_op PM.op_addV (PM.i_pv (pv 9)) PM.i_int))))) (PM.i_sl (PM.i_pv (pv 5)) (PM.o_some (PM.i_op PM.op_addV (PM.i_pv (pv 9)) PM.i_int)) PM.o_none)))))
        PM.ss_nil))
      (PM.ss_cons (PM.s_if (ps_if (PM.t_cmp (PM.op_eqV hr.units) (PM.i_pv (pv 3)) PM.i_int (nomark _))
        (PM.ss_cons (PM.s_set (ps_set (i := 11) sc__law_list.nd rfl (.inl rfl) (PM.i_cellF (PM.f_callTy PM.cr_listF (by rfl) T.z_list WD.bt_list (PM.a_cons (PM.i_pv (pv 10)) PM.a_nil)))))
      (PM.ss_cons (PM.s_setL (ps_asg (PM.i_ix (PM.i_ofF (PM.f_lst (PM.a_cons (PM.i_op PM.op_modV (PM.i_op PM.op_fdivV (PM.i_pv (pv 4)) PM.i_int) (PM.i_callB (PM.cr_lenV) (by rfl) T.z_len WD.bt_len (PM.a_cons (PM.i_pv (pv 1)) PM.a_nil))) (PM.a_cons PM.i_bl (PM.a_cons (PM.i_un PM.un_negV PM.i_int) (PM.a_cons (PM.i_callB (PM.cr_lenV) (by rfl) T.z_len WD.bt_len (PM.a_cons (PM.i_pv (pv 1)) PM.a_nil)) (PM.a_cons PM.i_non PM.a_nil))))))) (PM.i_op PM.op_modV (PM.i_op PM.op_fdivV (PM.i_pv (pv 4)) PM.i_int) PM.i_int) (fun _ _ => rfl)) (pg_sub (PM.i_pv (pv 11)) (PM.i_op PM.op_modV (PM.i_op PM.op_fdivV (PM.i_pv (pv 4)) PM.i_int) PM.i_int) set_list)))
      (PM.ss_one (PM.s_ret (ps_ret (PM.i_ofF (PM.f_op PM.op_addF (PM.i_ofF (PM.f_op PM.op_addF (PM.i_sl (PM.i_pv (pv 5)) PM.o_none (PM.o_some (PM.i_pv (pv 9)))) (PM.i_ofF (PM.f_lst (PM.a_cons (PM.i_callTy PM.cr_tupleV (by rfl) T.z_tuple WD.bt_tuple (PM.a_cons (PM.i_pv (pv 11)) PM.a_nil)) PM.a_nil))))) (PM.i_sl (PM.i_pv (pv 5)) (PM.o_some (PM.i_op PM.op_addV (PM.i_pv (pv 9)) PM.i_int)) PM.o_none))))))))
        PM.ss_nil))
      (PM.ss_cons (PM.s_if (ps_if (PM.t_cmp (PM.op_eqV hr.units) (PM.i_pv (pv 3)) PM.i_int (nomark _))
        (PM.ss_cons (PM.s_set (ps_set (i := 12) sc__law_list.nd rfl (.inl rfl) (PM.i_ix (PM.i_ofF (PM.f_lst (PM.a_cons (PM.i_ofF (PM.f_callTy PM.cr_listF (by rfl) T.z_list WD.bt_list (PM.a_cons (PM.i_pv (pv 10)) PM.a_nil))) (PM.a_cons (PM.i_sl (PM.i_pv (pv 10)) PM.o_none (PM.o_some PM.i_int)) (PM.a_cons (PM.i_op PM.op_addV (PM.i_pv (pv 10)) (PM.i_tup (PM.a_cons PM.i_int PM.a_nil))) (PM.a_cons PM.i_non (PM.a_cons (PM.i_tup PM.a_nil) (PM.a_cons (PM.i_rev (PM.i_pv (pv 10))) PM.a_nil)))))))) (PM.i_op PM.op_modV (PM.i_op PM.op_fdivV (PM.i_pv (pv 4)) PM.i_int) PM.i_int) (fun _ _ => rfl))))
      (PM.ss_one (PM.s_ret (ps_ret (PM.i_ofF (PM.f_op PM.op_addF (PM.i_ofF (PM.f_op PM.op_addF (PM.i_sl (PM.i_pv (pv 5)) PM.o_none (PM.o_some (PM.i_pv (pv 9)))) (PM.i_ofF (PM.f_lst (PM.a_cons (PM.i_pv (pv 12)) PM.a_nil))))) (PM.i_sl (PM.i_pv (pv 5)) (PM.o_some (PM.i_op PM.op_addV (PM.i_pv (pv 9)) PM.i_int)) PM.o_none)))))))
        PM.ss_nil))
      (PM.ss_frz (i := 5) (PM.ss_one (PM.s_ret (ps_ret (PM.i_pv (pv 5)))))))))))))))))), F.kp, T.g__law_list⟩
end
section
variable {P : Program} {w : World} {K : PySem.W.Frag} {mg : Str → Option Value} {base : Heap}
theorem ok__law_three (T : Tx K mg) : WD.Cal P w K mg base (L2.CX P w) 2 "_law_three" (He.ga K "_law_three") (PM.SpF K 3 fn__law_three) [] := by
  obtain ⟨fd, F⟩ := T.F__law_three
  exact ⟨PM.fn_ok (b := b__law_three) F sc__law_three (fun _ _ _ _ _ _ us hl => match us, hl with | [_, _, _], _ => rfl) (fun cdv A outer s H E hr =>
    (PM.ss_cons (PM.s_set (ps_set (i := 3) sc__law_three.nd rfl (.inl rfl) (PM.i_call (ok__law_draw T) (takes_of rfl rfl rfl rfl) (hr.mono (by decide)) (by rfl) (PM.a_cons (PM.i_pv (pv 0)) (PM.a_cons PM.i_int PM.a_nil)))))
      (PM.ss_cons (PM.s_set (ps_set (i := 4) sc__law_three.nd rfl (.inr rfl) (PM.i_call (ok__law_draw T) (takes_of rfl rfl rfl rfl) (hr.mono (by decide)) (by rfl) (PM.a_cons (PM.i_pv (pv 0)) (PM.a_cons (PM.i_callB (PM.cr_lenV) (by rfl) T.z_len WD.bt_len (PM.a_cons (PM.i_pv (pv 1)) PM.a_nil)) PM.a_nil)))))
      (PM.ss_cons (PM.s_lcT (ps_setLc (i := 5) (own := [("_law_thing", 8)]) rfl sc__law_three.nd rfl rfl (sw_true rfl rfl rfl (by decide +kernel)) (PM.ii_range1 (by rfl) T.z_range (PM.a_cons (PM.i_callB (PM.cr_lenV) (by rfl) T.z_len WD.bt_len (PM.a_cons (PM.i_pv (pv 1)) PM.a_nil)) PM.a_nil)) (blkOk_by (N := ["_law_well", "_law_one", "_law_other", "_law_way", "_law_begin", "_law_near", "_law_amid_here", "_law_told", "_law_thing"]) (sc := defScope s__law_three) (by decide +kernel)) (fun _ _ _ _ _ => (PM.g_name (pg_name (i := 8) sc__law_three.nd rfl (.inl rfl)))) (fun _ _ _ _ _ => (pts_one (PM.t_cmp (PM.op_eqV hr.units) (PM.i_ix (PM.i_pv (pv 1)) (PM.i_pv (pv 8)) (fun _ _ => rfl)) (PM.i_ix (PM.i_pv (pv 1)) (PM.i_pv (pv 4)) (fun _ _ => rfl)) (nomark _)))) (fun _ _ _ _ _ => (PM.i_pv (pv 8)))))
      (PM.ss_cons (PM.s_set (ps_set (i := 6) sc__law_three.nd rfl (.inr rfl) (PM.i_ix (PM.i_pv (pv 5)) (PM.i_call (ok__law_draw T) (takes_of rfl rfl rfl rfl) (hr.mono (by decide)) (by rfl) (PM.a_cons (PM.i_pv (pv 0)) (PM.a_cons (PM.i_callB (PM.cr_lenV) (by rfl) T.z_len WD.bt_len (PM.a_cons (PM.i_pv (pv 5)) PM.a_nil)) PM.a_nil))) (fun _ _ => rfl))))
      (PM.ss_cons (PM.s_lcT (ps_setLc (i := 5) (own := [("_law_thing", 8)]) rfl sc__law_three.nd rfl rfl (sw_true rfl rfl rfl (by decide +kernel)) (PM.ii_range1 (by rfl) T.z_range (PM.a_cons (PM.i_callB (PM.cr_lenV) (by rfl) T.z_len WD.bt_len (PM.a_cons (PM.i_pv (pv 1)) PM.a_nil)) PM.a_nil)) (blkOk_by (N := ["_law_well", "_law_one", "_law_other", "_law_way", "_law_begin", "_law_near", "_law_amid_here", "_law_told", "_law_thing"]) (sc := defScope s__law_three) (by decide +kernel)) (fun _ _ _ _ _ => (PM.g_name (pg_name (i := 8) sc__law_three.nd rfl (.inl rfl)))) (fun _ _ _ _ _ => (pts_one (PM.t_cmp (PM.op_eqV hr.units) (PM.i_ix (PM.i_pv (pv 2)) (PM.i_pv (pv 8)) (fun _ _ => rfl)) (PM.i_ix (PM.i_pv (pv 2)) (PM.i_pv (pv 6)) (fun _ _ => rfl)) (nomark _)))) (fun _ _ _ _ _ => (PM.i_pv (pv 8)))))
      (PM.ss_cons (PM.s_set (ps_set (i := 7) sc__law_three.nd rfl (.inl rfl) (PM.i_cellF (PM.f_lst (PM.a_cons (PM.i_pv (pv 4)) (PM.a_cons (PM.i_pv (pv 6)) (PM.a_cons (PM.i_ix (PM.i_pv (pv 5)) (PM.i_call (ok__law_draw T) (takes_of rfl rfl rfl rfl) (hr.mono (by decide)) (by rfl) (PM.a_cons (PM.i_pv (pv 0)) (PM.a_cons (PM.i_callB (PM.cr_lenV) (by rfl) T.z_len WD.bt_len (PM.a_cons (PM.i_pv (pv 5)) PM.a_nil)) PM.a_nil))) (fun _ _ => rfl)) PM.a_nil)))))))
      (PM.ss_cons (PM.s_if (ps_if (PM.t_cmp (PM.op_ltV hr.units0) (PM.i_pv (pv 3)) PM.i_int (nomark _))
        (PM.ss_one (PM.s_setL (ps_asg (PM.i_call (ok__law_draw T) (takes_of rfl rfl rfl rfl) (hr.mono (by decide)) (by rfl) (PM.a_cons (PM.i_pv (pv 0)) (PM.a_cons (PM.i_callB (PM.cr_lenV) (by rfl) T.z_len WD.bt_len (PM.a_cons (PM.i_pv (pv 1)) PM.a_nil)) PM.a_nil))) (pg_sub (PM.i_pv (pv 7)) (PM.i_pv (pv 3)) set_list))))
        PM.ss_nil))
      (PM.ss_cons (PM.s_if (ps_if (PM.t_cmp (PM.op_eqV hr.units) (PM.i_pv (pv 3)) PM.i_int (nomark _))
        (PM.ss_one (PM.s_setL (ps_asg (PM.i_ix (PM.i_ofF (PM.f_lst (PM.a_cons PM.i_bl (PM.a_cons (PM.i_un PM.un_negV PM.i_int) (PM.a_cons (PM.i_callB (PM.cr_lenV) (by rfl) T.z_len WD.bt_len (PM.a_cons (PM.i_pv (pv 1)) PM.a_nil)) (PM.a_cons PM.i_non PM.a_nil)))))) (PM.i_call (ok__law_draw T) (takes_of rfl rfl rfl rfl) (hr.mono (by decide)) (by rfl) (PM.a_cons (PM.i_pv (pv 0)) (PM.a_cons PM.i_int PM.a_nil))) (fun _ _ => rfl)) (pg_sub (PM.i_pv (pv 7)) (PM.i_call (ok__law_draw T) (takes_of rfl rfl rfl rfl) (hr.mono (by decide)) (by rfl) (PM.a_cons (PM.i_pv (pv 0)) (PM.a_cons PM.i_int PM.a_nil))) set_list))))
        PM.ss_nil))
      (PM.ss_frz (i := 7) (PM.ss_one (PM.s_ret (ps_ret (PM.i_ix (PM.i_ofF (PM.f_lst (PM.a_cons (PM.i_callTy PM.cr_tupleV (by rfl) T.z_tuple WD.bt_tuple (PM.a_cons (PM.i_pv (pv 7)) PM.a_nil)) (PM.a_cons (PM.i_pv (pv 7)) (PM.a_cons (PM.i_callTy PM.cr_tupleV (by rfl) T.z_tuple WD.bt_tuple (PM.a_cons (PM.i_sl (PM.i_pv (pv 7)) PM.o_none (PM.o_some PM.i_int)) PM.a_nil)) PM.a_nil))))) (PM.i_ix (PM.i_ofF (PM.f_lst (PM.a_cons PM.i_int (PM.a_cons PM.i_int (PM.a_cons PM.i_int (PM.a_cons PM.i_int (PM.a_cons PM.i_int (PM.a_cons PM.i_int (PM.a_cons PM.i_int (PM.a_cons PM.i_int PM.a_nil)))))))))) (PM.i_pv (pv 3)) (fun _ _ => rfl)) (fun _ _ => rfl))))))))))))))), F.kp, T.g__law_three⟩
end
section
variable {P : Program} {w : World} {K : PySem.W.Frag} {mg : Str → Option Value} {base : Heap}
theorem ok__law_is_thing (T : Tx K mg) : WD.Cal P w K mg base (L2.CX P w) 1 "_law_is_thing" (He.ga K "_law_is_thing") (PM.SpF K 2 fn__law_is_thing) [] := by
  obtain ⟨fd, F⟩ := T.F__law_is_thing
  exact ⟨PM.fn_ok (b := b__law_is_thing) F sc__law_is_thing (fun _ _ _ _ _ _ us hl => match us, hl with | [_, _], _ => rfl) (fun cdv A outer s H E hr =>
    (PM.ss_one (PM.s_ret (ps_ret (PM.i_and (PM.i_isT (PM.i_pv (pv 0)) (pe_bltn (v := .ty "int") (by rfl) T.z_int WD.bt_int rfl) (by decide) (by rfl) T.z_isinstance) (PM.i_and (PM.i_not (PM.i_isT (PM.i_pv (pv 0)) (pe_bltn (v := .ty "bool") (by rfl) T.z_bool WD.bt_bool rfl) (by decide) (by rfl) T.z_isinstance)) (pe_one (PM.i_chain (PM.op_leV) (PM.op_ltV hr.units0) PM.i_int (PM.i_pv (pv 0)) (PM.i_pv (pv 1)))))))))), F.kp, T.g__law_is_thing⟩
end
section
variable {P : Program} {w : World} {K : PySem.W.Frag} {mg : Str → Option Value} {base : Heap}
theorem ok__law_are_three (T : Tx K mg) : WD.Cal P w K mg base (L2.CX P w) 2 "_law_are_three" (He.ga K "_law_are_three") (PM.SpF K 2 fn__law_are_three) [] := by
  obtain ⟨fd, F⟩ := T.F__law_are_three
  exact ⟨PM.fn_ok (b := b__law_are_three) F sc__law_are_three (fun _ _ _ _ _ _ us hl => match us, hl with | [_, _], _ => rfl) (fun cdv A outer s H E hr =>
    (PM.ss_one (PM.s_ret (ps_ret (PM.i_and (PM.i_isT (PM.i_pv (pv 1)) (pe_bltn (v := .ty "tuple") (by rfl) T.z_tuple WD.bt_tuple rfl) (by decide) (by rfl) T.z_isinstance) (PM.i_and (PM.i_cmp (PM.op_eqV hr.units) (PM.i_callB (PM.cr_lenV) (by rfl) T.z_len WD.bt_len (PM.a_cons (PM.i_pv (pv 1)) PM.a_nil)) PM.i_int (nomark _)) (pe_one (PM.i_callB (PM.cr_allV rfl) (by rfl) T.z_all WD.bt_all (PM.a_cons (PM.i_ofF (PM.f_lc (pe_lc (own := [("_law_thing", 2)]) rfl sc__law_are_three.nd (PM.ii_val (PM.i_pv (pv 1))) (blkOk_by (N := ["_law_size", "_law_told", "_law_thing"]) (sc := defScope s__law_are_three) (by decide +kernel)) (fun _ _ _ _ _ => (PM.g_name (pg_name (i := 2) sc__law_are_three.nd rfl (.inl rfl)))) (fun _ _ _ _ _ => PM.ts_yes) (fun _ _ _ _ _ => (PM.i_call (ok__law_is_thing T) takes0 (hr.mono (by decide)) (by rfl) (PM.a_cons (PM.i_pv (pv 2)) (PM.a_cons (PM.i_pv (pv 0)) PM.a_nil))))))) PM.a_nil))))))))), F.kp, T.g__law_are_three⟩
end
section
variable {P : Program} {w : World} {K : PySem.W.Frag} {mg : Str → Option Value} {base : Heap}
theorem ok__law_due_of_yes (T : Tx K mg) : WD.Cal P w K mg base (L2.CX P w) 3 "_law_due_of_yes" (He.ga K "_law_due_of_yes") (PM.SpF K 3 fn__law_due_of_yes) [] := by
  obtain ⟨fd, F⟩ := T.F__law_due_of_yes
  exact ⟨PM.fn_ok (b := b__law_due_of_yes) F sc__law_due_of_yes (fun _ _ _ _ _ _ us hl => match us, hl with | [_, _, _], _ => rfl) (fun cdv A outer s H E hr =>
    (PM.ss_cons (PM.s_set (ps_set (i := 3) sc__law_due_of_yes.nd rfl (.inl rfl) (PM.i_call (ok__law_pairs T) (takes_of rfl rfl rfl rfl) (hr.mono (by decide)) (by rfl) (PM.a_cons (PM.i_pv (pv 0)) (PM.a_cons (PM.i_pv (pv 1)) PM.a_nil)))))
      (PM.ss_cons (PM.s_for (passes_of rfl) rfl (PM.ii_enum (by rfl) T.z_enumerate (PM.a_cons (PM.i_pv (pv 3)) PM.a_nil)) (PM.g_tup (PM.gs_cons (PM.g_name (pg_name (i := 4) sc__law_due_of_yes.nd rfl (.inl rfl))) (PM.gs_cons (PM.g_name (pg_name (i := 5) sc__law_due_of_yes.nd rfl (.inl rfl))) PM.gs_nil)) rfl)
        (PM.ss_cons (PM.s_if (ps_if (PW.pt (PM.w_or (PM.t_cmp (PM.op_eqV hr.units) (PM.i_pv (pv 4)) (PM.i_callB (PM.cr_lenV) (by rfl) T.z_len WD.bt_len (PM.a_cons (PM.i_pv (pv 2)) PM.a_nil)) (nomark _)) (PM.w_or (PM.t_not (PM.t_val (PM.i_call (ok__law_are_three T) (takes_of rfl rfl rfl rfl) (hr.mono (by decide)) (by rfl) (PM.a_cons (PM.i_callB (PM.cr_lenV) (by rfl) T.z_len WD.bt_len (PM.a_cons (PM.i_pv (pv 0)) PM.a_nil)) (PM.a_cons (PM.i_ix (PM.i_pv (pv 2)) (PM.i_pv (pv 4)) (fun _ _ => rfl)) PM.a_nil))))) (pw_or1 (PM.t_cmp (PM.op_neV hr.units) (PM.i_sl (PM.i_ix (PM.i_pv (pv 2)) (PM.i_pv (pv 4)) (fun _ _ => rfl)) PM.o_none (PM.o_some PM.i_int)) (PM.i_pv (pv 5)) (nomark _))))))
        (PM.ss_one (PM.s_ret (ps_ret (PM.i_pv (pv 4)))))
        PM.ss_nil))
      (PM.ss_one (PM.s_if (ps_if (PM.t_cmp (PM.op_notInV (WD.hu65 hr)) (PM.i_ix (PM.i_ix (PM.i_pv (pv 2)) (PM.i_pv (pv 4)) (fun _ _ => rfl)) PM.i_int (fun _ _ => rfl)) (PM.i_call (ok__law_amid T) (takes_of rfl rfl rfl rfl) (hr.mono (by decide)) (by rfl) (PM.a_cons (PM.i_pv (pv 1)) (PM.a_cons (PM.i_pv (pv 0)) (PM.a_cons (PM.i_ix (PM.i_pv (pv 5)) PM.i_int (fun _ _ => rfl)) (PM.a_cons (PM.i_ix (PM.i_pv (pv 5)) PM.i_int (fun _ _ => rfl)) PM.a_nil))))) (by rfl))
        (PM.ss_one (PM.s_ret (ps_ret (PM.i_pv (pv 4)))))
        PM.ss_nil)))))
      (PM.ss_one (PM.s_ret (ps_ret (PM.i_ix (PM.i_ofF (PM.f_lst (PM.a_cons PM.i_non (PM.a_cons (PM.i_callB (PM.cr_lenV) (by rfl) T.z_len WD.bt_len (PM.a_cons (PM.i_pv (pv 3)) PM.a_nil)) PM.a_nil)))) (PM.i_callTy PM.cr_intV (by rfl) T.z_int WD.bt_int (PM.a_cons (PM.i_cmp (PM.op_gtV) (PM.i_callB (PM.cr_lenV) (by rfl) T.z_len WD.bt_len (PM.a_cons (PM.i_pv (pv 2)) PM.a_nil)) (PM.i_callB (PM.cr_lenV) (by rfl) T.z_len WD.bt_len (PM.a_cons (PM.i_pv (pv 3)) PM.a_nil)) (nomark _)) PM.a_nil)) (fun _ _ => rfl)))))))), F.kp, T.g__law_due_of_yes⟩
end
section
variable {P : Program} {w : World} {K : PySem.W.Frag} {mg : Str → Option Value} {base : Heap}
theorem ok__law_due_of_no (T : Tx K mg) : WD.Cal P w K mg base (L2.CX P w) 2 "_law_due_of_no" (He.ga K "_law_due_of_no") (PM.SpF K 3 fn__law_due_of_no) [] := by
  obtain ⟨fd, F⟩ := T.F__law_due_of_no
  exact ⟨PM.fn_ok (b := b__law_due_of_no) F sc__law_due_of_no (fun _ _ _ _ _ _ us hl => match us, hl with | [_, _, _], _ => rfl) (fun cdv A outer s H E hr =>
    (PM.ss_cons (PM.s_asg (ps_asg (PM.i_pv (pv 2)) (PM.g_tup (PM.gs_cons (PM.g_name (pg_name (i := 3) sc__law_due_of_no.nd rfl (.inl rfl))) (PM.gs_cons (PM.g_name (pg_name (i := 4) sc__law_due_of_no.nd rfl (.inl rfl))) (PM.gs_cons (PM.g_name (pg_name (i := 5) sc__law_due_of_no.nd rfl (.inl rfl))) PM.gs_nil))) rfl)))
      (PM.ss_cons (PM.s_if (ps_if (PM.t_cmp (PM.op_neV hr.units) (PM.i_ix (PM.i_pv (pv 0)) (PM.i_pv (pv 3)) (fun _ _ => rfl)) (PM.i_ix (PM.i_pv (pv 0)) (PM.i_pv (pv 4)) (fun _ _ => rfl)) (nomark _))
        (PM.ss_one (PM.s_ret (ps_ret PM.i_int)))
        PM.ss_nil))
      (PM.ss_cons (PM.s_if (ps_if (PM.t_cmp (PM.op_neV hr.units) (PM.i_ix (PM.i_pv (pv 1)) (PM.i_pv (pv 4)) (fun _ _ => rfl)) (PM.i_ix (PM.i_pv (pv 1)) (PM.i_pv (pv 5)) (fun _ _ => rfl)) (nomark _))
        (PM.ss_one (PM.s_ret (ps_ret PM.i_int)))
        PM.ss_nil))
      (PM.ss_one (PM.s_ret (ps_ret (PM.i_ix (PM.i_ofF (PM.f_lst (PM.a_cons PM.i_non (PM.a_cons PM.i_int PM.a_nil)))) (PM.i_callTy PM.cr_intV (by rfl) T.z_int WD.bt_int (PM.a_cons (PM.i_cmp (PM.op_neV hr.units) (PM.i_call (ok__law_amid T) (takes_of rfl rfl rfl rfl) (hr.mono (by decide)) (by rfl) (PM.a_cons (PM.i_pv (pv 1)) (PM.a_cons (PM.i_pv (pv 0)) (PM.a_cons (PM.i_pv (pv 3)) (PM.a_cons (PM.i_pv (pv 5)) PM.a_nil))))) (PM.i_ofF (PM.f_lst PM.a_nil)) (nomark _)) PM.a_nil)) (fun _ _ => rfl))))))))), F.kp, T.g__law_due_of_no⟩
end
section
variable {P : Program} {w : World} {K : PySem.W.Frag} {mg : Str → Option Value} {base : Heap}
theorem ok__law_due (T : Tx K mg) : WD.Cal P w K mg base (L2.CX P w) 4 "_law_due" (He.ga K "_law_due") (PM.SpF K 3 fn__law_due) [] := by
  obtain ⟨fd, F⟩ := T.F__law_due
  exact ⟨PM.fn_ok (b := b__law_due) F sc__law_due (fun _ _ _ _ _ _ us hl => match us, hl with | [_, _, _], _ => rfl) (fun cdv A outer s H E hr =>
    (PM.ss_cons (PM.s_if (ps_if (PW.pt (PM.w_or (PM.t_not (PM.t_val (PM.i_isT (PM.i_pv (pv 2)) (pe_bltn (v := .ty "tuple") (by rfl) T.z_tuple WD.bt_tuple rfl) (by decide) (by rfl) T.z_isinstance))) (pw_or1 (PM.t_cmp (PM.op_neV hr.units) (PM.i_callB (PM.cr_lenV) (by rfl) T.z_len WD.bt_len (PM.a_cons (PM.i_pv (pv 2)) PM.a_nil)) PM.i_int (nomark _)))))
        (PM.ss_one (PM.s_ret (ps_ret (PM.i_un PM.un_negV PM.i_int))))
        PM.ss_nil))
      (PM.ss_cons (PM.s_if (ps_if (PW.pt (PM.w_and (PM.t_cmp (PM.op_eqV hr.units) (PM.i_ix (PM.i_pv (pv 2)) PM.i_int (fun _ _ => rfl)) PM.i_str (nomark _)) (pw_and1 (PM.t_val (PM.i_isT (PM.i_ix (PM.i_pv (pv 2)) PM.i_int (fun _ _ => rfl)) (pe_bltn (v := .ty "list") (by rfl) T.z_list WD.bt_list rfl) (by decide) (by rfl) T.z_isinstance)))))
        (PM.ss_one (PM.s_ret (ps_ret (PM.i_call (ok__law_due_of_yes T) (takes_of rfl rfl rfl rfl) (hr.mono (by decide)) (by rfl) (PM.a_cons (PM.i_pv (pv 0)) (PM.a_cons (PM.i_pv (pv 1)) (PM.a_cons (PM.i_ix (PM.i_pv (pv 2)) PM.i_int (fun _ _ => rfl)) PM.a_nil)))))))
        PM.ss_nil))
      (PM.ss_cons (PM.s_if (ps_if (PW.pt (PM.w_and (PM.t_cmp (PM.op_eqV hr.units) (PM.i_ix (PM.i_pv (pv 2)) PM.i_int (fun _ _ => rfl)) PM.i_str (nomark _)) (pw_and1 (PM.t_val (PM.i_call (ok__law_are_three T) (takes_of rfl rfl rfl rfl) (hr.mono (by decide)) (by rfl) (PM.a_cons (PM.i_callB (PM.cr_lenV) (by rfl) T.z_len WD.bt_len (PM.a_cons (PM.i_pv (pv 0)) PM.a_nil)) (PM.a_cons (PM.i_ix (PM.i_pv (pv 2)) PM.i_int (fun _ _ => rfl)) PM.a_nil)))))))
        (PM.ss_one (PM.s_ret (ps_ret (PM.i_call (ok__law_due_of_no T) (takes_of rfl rfl rfl rfl) (hr.mono (by decide)) (by rfl) (PM.a_cons (PM.i_pv (pv 0)) (PM.a_cons (PM.i_pv (pv 1)) (PM.a_cons (PM.i_ix (PM.i_pv (pv 2)) PM.i_int (fun _ _ => rfl)) PM.a_nil)))))))
        PM.ss_nil))
      (PM.ss_one (PM.s_ret (ps_ret (PM.i_un PM.un_negV PM.i_int)))))))), F.kp, T.g__law_due⟩
end
section
variable {P : Program} {w : World} {K : PySem.W.Frag} {mg : Str → Option Value} {base : Heap}
theorem ok_is_whole (T : Tx K mg) : WD.Cal P w K mg base (L2.CX P w) 1 "is_whole" (He.ga K "is_whole") (PM.SpF K 1 fn_is_whole) [] := by
  obtain ⟨fd, F⟩ := T.F_is_whole
  exact ⟨PM.fn_ok (b := b_is_whole) F sc_is_whole (fun _ _ _ _ _ _ us hl => match us, hl with | [_], _ => rfl) (fun cdv A outer s H E hr =>
    (PM.ss_one (PM.s_ret (ps_ret (PM.i_and (PM.i_isT (PM.i_pv (pv 0)) (pe_bltn (v := .ty "int") (by rfl) T.z_int WD.bt_int rfl) (by decide) (by rfl) T.z_isinstance) (pe_one (PM.i_not (PM.i_isT (PM.i_pv (pv 0)) (pe_bltn (v := .ty "bool") (by rfl) T.z_bool WD.bt_bool rfl) (by decide) (by rfl) T.z_isinstance)))))))), F.kp, T.g_is_whole⟩
end
section
variable {P : Program} {w : World} {K : PySem.W.Frag} {mg : Str → Option Value} {base : Heap}
theorem ok_is_thing (T : Tx K mg) : WD.Cal P w K mg base (L2.CX P w) 2 "is_thing" (He.ga K "is_thing") (PM.SpF K 2 fn_is_thing) [] := by
  obtain ⟨fd, F⟩ := T.F_is_thing
  exact ⟨PM.fn_ok (b := b_is_thing) F sc_is_thing (fun _ _ _ _ _ _ us hl => match us, hl with | [_, _], _ => rfl) (fun cdv A outer s H E hr =>
    (PM.ss_one (PM.s_ret (ps_ret (PM.i_and (PM.i_call (ok_is_whole T) (takes_of rfl rfl rfl rfl) (hr.mono (by decide)) (by rfl) (PM.a_cons (PM.i_pv (pv 0)) PM.a_nil)) (pe_one (PM.i_chain (PM.op_leV) (PM.op_ltV hr.units0) PM.i_int (PM.i_pv (pv 0)) (PM.i_pv (pv 1))))))))), F.kp, T.g_is_thing⟩
end
section
variable {P : Program} {w : World} {K : PySem.W.Frag} {mg : Str → Option Value} {base : Heap}
theorem ok_is_row (T : Tx K mg) : WD.Cal P w K mg base (L2.CX P w) 3 "is_row" (He.ga K "is_row") (PM.SpF K 3 fn_is_row) [] := by
  obtain ⟨fd, F⟩ := T.F_is_row
  exact ⟨PM.fn_ok (b := b_is_row) F sc_is_row (fun _ _ _ _ _ _ us hl => match us, hl with | [_, _, _], _ => rfl) (fun cdv A outer s H E hr =>
    (PM.ss_one (PM.s_ret (ps_ret (PM.i_and (PM.i_isT (PM.i_pv (pv 0)) (pe_bltn (v := .ty "tuple") (by rfl) T.z_tuple WD.bt_tuple rfl) (by decide) (by rfl) T.z_isinstance) (PM.i_and (PM.i_cmp (PM.op_eqV hr.units) (PM.i_callB (PM.cr_lenV) (by rfl) T.z_len WD.bt_len (PM.a_cons (PM.i_pv (pv 0)) PM.a_nil)) (PM.i_pv (pv 1)) (nomark _)) (pe_one (PM.i_callB (PM.cr_allV rfl) (by rfl) T.z_all WD.bt_all (PM.a_cons (PM.i_ofF (PM.f_lc (pe_lc (own := [("one", 3)]) rfl sc_is_row.nd (PM.ii_val (PM.i_pv (pv 0))) (blkOk_by (N := ["row", "wide", "size", "one"]) (sc := defScope s_is_row) (by decide +kernel)) (fun _ _ _ _ _ => (PM.g_name (pg_name (i := 3) sc_is_row.nd rfl (.inl rfl)))) (fun _ _ _ _ _ => PM.ts_yes) (fun _ _ _ _ _ => (PM.i_call (ok_is_thing T) takes0 (hr.mono (by decide)) (by rfl) (PM.a_cons (PM.i_pv (pv 3)) (PM.a_cons (PM.i_pv (pv 2)) PM.a_nil))))))) PM.a_nil))))))))), F.kp, T.g_is_row⟩
end
section
variable {P : Program} {w : World} {K : PySem.W.Frag} {mg : Str → Option Value} {base : Heap}
theorem ok_is_parting (T : Tx K mg) : WD.Cal P w K mg base (L2.CX P w) 4 "is_parting" (He.ga K "is_parting") (PM.SpF K 2 fn_is_parting) [] := by
  obtain ⟨fd, F⟩ := T.F_is_parting
  exact ⟨PM.fn_ok (b := b_is_parting) F sc_is_parting (fun _ _ _ _ _ _ us hl => match us, hl with | [_, _], _ => rfl) (fun cdv A outer s H E hr =>
    (PM.ss_cons (PM.s_if (ps_if (PM.t_not (PM.t_val (PM.i_call (ok_is_row T) (takes_of rfl rfl rfl rfl) (hr.mono (by decide)) (by rfl) (PM.a_cons (PM.i_pv (pv 0)) (PM.a_cons (PM.i_pv (pv 1)) (PM.a_cons (PM.i_pv (pv 1)) PM.a_nil))))))
        (PM.ss_one (PM.s_ret (ps_ret PM.i_bl)))
        PM.ss_nil))
      (PM.ss_one (PM.s_ret (ps_ret (PM.i_callB (PM.cr_allV rfl) (by rfl) T.z_all WD.bt_all (PM.a_cons (PM.i_ofF (PM.f_lc (pe_lc (own := [("one", 2), ("least", 3)]) rfl sc_is_parting.nd (PM.ii_enum (by rfl) T.z_enumerate (PM.a_cons (PM.i_pv (pv 0)) PM.a_nil)) (blkOk_by (N := ["thing", "size", "one", "least"]) (sc := defScope s_is_parting) (by decide +kernel)) (fun _ _ _ _ _ => (PM.g_tup (PM.gs_cons (PM.g_name (pg_name (i := 2) sc_is_parting.nd rfl (.inl rfl))) (PM.gs_cons (PM.g_name (pg_name (i := 3) sc_is_parting.nd rfl (.inl rfl))) PM.gs_nil)) rfl)) (fun _ _ _ _ _ => PM.ts_yes) (fun _ _ _ _ _ => (PM.i_and (PM.i_cmp (PM.op_leV) (PM.i_pv (pv 3)) (PM.i_pv (pv 2)) (nomark _)) (pe_one (PM.i_cmp (PM.op_eqV hr.units) (PM.i_ix (PM.i_pv (pv 0)) (PM.i_pv (pv 3)) (fun _ _ => rfl)) (PM.i_pv (pv 3)) (nomark _)))))))) PM.a_nil))))))), F.kp, T.g_is_parting⟩
end
section
variable {P : Program} {w : World} {K : PySem.W.Frag} {mg : Str → Option Value} {base : Heap}
theorem xm_NoFolding (T : Tx K mg) : WD.Xmk P w K mg base 1 "NoFolding" (He.ga K "NoFolding") (He.ma K (He.ga K "NoFolding") "__init__") "at" := by
  obtain ⟨fd, F⟩ := T.F_NoFolding_init
  refine ⟨WD.fn0_of F sc_NoFolding_init (fun vs H Q E h => ?_) (fun _ _ _ _ _ _ us hl => match us, hl with | [_, _], _ => rfl) (fun cdv A outer s H vs Q E hr h => ?_), T.ox_NoFolding, T.ix_NoFolding, T.g_NoFolding⟩
  · obtain ⟨a, v, rfl, ha, k⟩ := h
    rfl
  · obtain ⟨a, v, rfl, ha, k⟩ := h
    refine ⟨_, (pss_cons (ps_expr (WD.pe_oinit (by rfl) T.g_WishError T.px_WishError (pa_cons (pv 0) (pa_cons pe_str pa_nil))))
      (pss_one (ps_ost (pv 0) (pv 1)))), ?_⟩
    refine ⟨_, rfl, a, He.ga K "NoFolding", [_], rfl, by show 1 ≤ 1000; decide, T.ox_NoFolding, ha, ?_⟩
    exact ⟨_, rfl, _, rfl, a, He.ga K "NoFolding", rfl, T.ox_NoFolding, T.nx_NoFolding, .inl ⟨ha, k⟩⟩
end
section
variable {P : Program} {w : World} {K : PySem.W.Frag} {mg : Str → Option Value} {base : Heap}
theorem ok_check_two (T : Tx K mg) : WD.Cal P w K mg base (L2.CX P w) 5 "check_two" (He.ga K "check_two") (PM.SpF K 2 fn_check_two) [] := by
  obtain ⟨fd, F⟩ := T.F_check_two
  exact ⟨PM.fn_ok (b := b_check_two) F sc_check_two (fun _ _ _ _ _ _ us hl => match us, hl with | [_, _], _ => rfl) (fun cdv A outer s H E hr =>
    (PM.ss_one (PM.s_if (ps_if (PW.pt (PM.w_or (PM.t_not (PM.t_val (PM.i_isT (PM.i_pv (pv 0)) (pe_bltn (v := .ty "tuple") (by rfl) T.z_tuple WD.bt_tuple rfl) (by decide) (by rfl) T.z_isinstance))) (PM.w_or (PM.t_not (PM.t_val (PM.i_call (ok_is_parting T) (takes_of rfl rfl rfl rfl) (hr.mono (by decide)) (by rfl) (PM.a_cons (PM.i_pv (pv 0)) (PM.a_cons (PM.i_callB (PM.cr_lenV) (by rfl) T.z_len WD.bt_len (PM.a_cons (PM.i_pv (pv 0)) PM.a_nil)) PM.a_nil))))) (pw_or1 (PM.t_not (PM.t_val (PM.i_call (ok_is_parting T) (takes_of rfl rfl rfl rfl) (hr.mono (by decide)) (by rfl) (PM.a_cons (PM.i_pv (pv 1)) (PM.a_cons (PM.i_callB (PM.cr_lenV) (by rfl) T.z_len WD.bt_len (PM.a_cons (PM.i_pv (pv 0)) PM.a_nil)) PM.a_nil)))))))))
        (PM.ss_one (PM.s_raise (ps_raise rfl (takes_of rfl rfl rfl rfl) (WD.pmk_x (xm_NoFolding T) (hr.mono (by decide)) (by rfl) (PM.a_cons (PM.i_un PM.un_negV PM.i_int) PM.a_nil)))))
        PM.ss_nil)))), F.kp, T.g_check_two⟩
end
section
variable {P : Program} {w : World} {K : PySem.W.Frag} {mg : Str → Option Value} {base : Heap}
theorem xm_NoPaper (T : Tx K mg) : WD.Xmk P w K mg base 1 "NoPaper" (He.ga K "NoPaper") (He.ma K (He.ga K "NoPaper") "__init__") "at" := by
  obtain ⟨fd, F⟩ := T.F_NoPaper_init
  refine ⟨WD.fn0_of F sc_NoPaper_init (fun vs H Q E h => ?_) (fun _ _ _ _ _ _ us hl => match us, hl with | [_, _], _ => rfl) (fun cdv A outer s H vs Q E hr h => ?_), T.ox_NoPaper, T.ix_NoPaper, T.g_NoPaper⟩
  · obtain ⟨a, v, rfl, ha, k⟩ := h
    rfl
  · obtain ⟨a, v, rfl, ha, k⟩ := h
    refine ⟨_, (pss_cons (ps_expr (WD.pe_oinit (by rfl) T.g_WishError T.px_WishError (pa_cons (pv 0) (pa_cons pe_str pa_nil))))
      (pss_one (ps_ost (pv 0) (pv 1)))), ?_⟩
    refine ⟨_, rfl, a, He.ga K "NoPaper", [_], rfl, by show 1 ≤ 1000; decide, T.ox_NoPaper, ha, ?_⟩
    exact ⟨_, rfl, _, rfl, a, He.ga K "NoPaper", rfl, T.ox_NoPaper, T.nx_NoPaper, .inl ⟨ha, k⟩⟩
end
section
variable {P : Program} {w : World} {K : PySem.W.Frag} {mg : Str → Option Value} {base : Heap}
theorem ok_amid_of (T : Tx K mg) : WD.Cal P w K mg base (L2.CX P w) 1 "amid_of" (He.ga K "amid_of") (PM.SpF K 4 fn_amid_of) [] := by
  obtain ⟨fd, F⟩ := T.F_amid_of
  exact ⟨PM.fn_ok (b := b_amid_of) F sc_amid_of (fun _ _ _ _ _ _ us hl => match us, hl with | [_, _, _, _], _ => rfl) (fun cdv A outer s H E hr =>
    (PM.ss_cons (PM.s_for (passes_of rfl) rfl (PM.ii_range1 (by rfl) T.z_range (PM.a_cons (PM.i_callB (PM.cr_lenV) (by rfl) T.z_len WD.bt_len (PM.a_cons (PM.i_pv (pv 0)) PM.a_nil)) PM.a_nil)) (PM.g_name (pg_name (i := 4) sc_amid_of.nd rfl (.inl rfl)))
        (PM.ss_one (PM.s_if (ps_if (PW.pt (PM.w_and (PM.t_cmp (PM.op_eqV hr.units) (PM.i_ix (PM.i_pv (pv 0)) (PM.i_pv (pv 4)) (fun _ _ => rfl)) (PM.i_ix (PM.i_pv (pv 0)) (PM.i_pv (pv 2)) (fun _ _ => rfl)) (nomark _)) (pw_and1 (PM.t_cmp (PM.op_eqV hr.units) (PM.i_ix (PM.i_pv (pv 1)) (PM.i_pv (pv 4)) (fun _ _ => rfl)) (PM.i_ix (PM.i_pv (pv 1)) (PM.i_pv (pv 3)) (fun _ _ => rfl)) (nomark _)))))
        (PM.ss_one (PM.s_ret (ps_ret (PM.i_pv (pv 4)))))
        PM.ss_nil))))
      (PM.ss_one (PM.s_ret (ps_ret PM.i_non))))), F.kp, T.g_amid_of⟩
end
section
variable {P : Program} {w : World} {K : PySem.W.Frag} {mg : Str → Option Value} {base : Heap}
theorem ok_ends_led (T : Tx K mg) : WD.Cal P w K mg base (L2.CX P w) 2 "ends_led" (He.ga K "ends_led") (PM.SpF K 2 fn_ends_led) [] := by
  obtain ⟨fd, F⟩ := T.F_ends_led
  exact ⟨PM.fn_ok (b := b_ends_led) F sc_ends_led (fun _ _ _ _ _ _ us hl => match us, hl with | [_, _], _ => rfl) (fun cdv A outer s H E hr =>
    (PM.ss_cons (PM.s_set (ps_set (i := 2) sc_ends_led.nd rfl (.inl rfl) (PM.i_cellF (PM.f_lst PM.a_nil))))
      (PM.ss_cons (PM.s_for (passes_of rfl) rfl (PM.ii_range1 (by rfl) T.z_range (PM.a_cons (PM.i_callB (PM.cr_lenV) (by rfl) T.z_len WD.bt_len (PM.a_cons (PM.i_pv (pv 0)) PM.a_nil)) PM.a_nil)) (PM.g_name (pg_name (i := 3) sc_ends_led.nd rfl (.inr rfl)))
        (PM.ss_cons (PM.s_lcT (ps_setLc (i := 4) (own := [("end", 5)]) rfl sc_ends_led.nd rfl rfl (sw_true rfl rfl rfl (by decide +kernel)) (PM.ii_range1 (by rfl) T.z_range (PM.a_cons (PM.i_callB (PM.cr_lenV) (by rfl) T.z_len WD.bt_len (PM.a_cons (PM.i_pv (pv 0)) PM.a_nil)) PM.a_nil)) (blkOk_by (N := ["one", "other", "found", "begin", "ends", "end"]) (sc := defScope s_ends_led) (by decide +kernel)) (fun _ _ _ _ _ => (PM.g_name (pg_name (i := 5) sc_ends_led.nd rfl (.inl rfl)))) (fun _ _ _ _ _ => (pts_one (PM.t_cmp (PM.op_isntV) (PM.i_call (ok_amid_of T) takes0 (hr.mono (by decide)) (by rfl) (PM.a_cons (PM.i_pv (pv 0)) (PM.a_cons (PM.i_pv (pv 1)) (PM.a_cons (PM.i_pv (pv 3)) (PM.a_cons (PM.i_pv (pv 5)) PM.a_nil))))) PM.i_non (nomark _)))) (fun _ _ _ _ _ => (PM.i_pv (pv 5)))))
      (PM.ss_one (PM.s_exp (PM.i_ext (PM.i_pv (pv 2)) (PM.a_cons (PM.i_ofF (PM.f_lc (pe_lc (own := [("end", 5)]) rfl sc_ends_led.nd (PM.ii_val (PM.i_pv (pv 4))) (blkOk_by (N := ["one", "other", "found", "begin", "ends", "end"]) (sc := defScope s_ends_led) (by decide +kernel)) (fun _ _ _ _ _ => (PM.g_name (pg_name (i := 5) sc_ends_led.nd rfl (.inl rfl)))) (fun _ _ _ _ _ => PM.ts_yes) (fun _ _ _ _ _ => (PM.i_tup (PM.a_cons (PM.i_pv (pv 3)) (PM.a_cons (PM.i_pv (pv 5)) PM.a_nil))))))) PM.a_nil) (fun ho ha => WD.k_pe_bm K PySem.F.plainAttrs_list PySem.F.slot_list_extend PySem.F.type_list_extend mt_extend ho ha))))))
      (PM.ss_frz (i := 2) (PM.ss_one (PM.s_ret (ps_ret (PM.i_pv (pv 2))))))))), F.kp, T.g_ends_led⟩
end
section
variable {P : Program} {w : World} {K : PySem.W.Frag} {mg : Str → Option Value} {base : Heap}
theorem ok_check_yes (T : Tx K mg) : WD.Cal P w K mg base (L2.CX P w) 4 "check_yes" (He.ga K "check_yes") (PM.SpF K 3 fn_check_yes) [] := by
  obtain ⟨fd, F⟩ := T.F_check_yes
  exact ⟨PM.fn_ok (b := b_check_yes) F sc_check_yes (fun _ _ _ _ _ _ us hl => match us, hl with | [_, _, _], _ => rfl) (fun cdv A outer s H E hr =>
    (PM.ss_cons (PM.s_set (ps_set (i := 3) sc_check_yes.nd rfl (.inl rfl) (PM.i_call (ok_ends_led T) (takes_of rfl rfl rfl rfl) (hr.mono (by decide)) (by rfl) (PM.a_cons (PM.i_pv (pv 0)) (PM.a_cons (PM.i_pv (pv 1)) PM.a_nil)))))
      (PM.ss_cons (PM.s_for (passes_of rfl) rfl (PM.ii_enum (by rfl) T.z_enumerate (PM.a_cons (PM.i_pv (pv 3)) PM.a_nil)) (PM.g_tup (PM.gs_cons (PM.g_name (pg_name (i := 4) sc_check_yes.nd rfl (.inl rfl))) (PM.gs_cons (PM.g_tup (PM.gs_cons (PM.g_name (pg_name (i := 5) sc_check_yes.nd rfl (.inl rfl))) (PM.gs_cons (PM.g_name (pg_name (i := 6) sc_check_yes.nd rfl (.inl rfl))) PM.gs_nil)) rfl) PM.gs_nil)) rfl)
        (PM.ss_cons (PM.s_if (ps_if (PW.pt (PM.w_or (PM.t_cmp (PM.op_eqV hr.units) (PM.i_pv (pv 4)) (PM.i_callB (PM.cr_lenV) (by rfl) T.z_len WD.bt_len (PM.a_cons (PM.i_pv (pv 2)) PM.a_nil)) (nomark _)) (PM.w_or (PM.t_not (PM.t_val (PM.i_call (ok_is_row T) (takes_of rfl rfl rfl rfl) (hr.mono (by decide)) (by rfl) (PM.a_cons (PM.i_ix (PM.i_pv (pv 2)) (PM.i_pv (pv 4)) (fun _ _ => rfl)) (PM.a_cons PM.i_int (PM.a_cons (PM.i_callB (PM.cr_lenV) (by rfl) T.z_len WD.bt_len (PM.a_cons (PM.i_pv (pv 0)) PM.a_nil)) PM.a_nil)))))) (pw_or1 (PM.t_cmp (PM.op_neV hr.units) (PM.i_sl (PM.i_ix (PM.i_pv (pv 2)) (PM.i_pv (pv 4)) (fun _ _ => rfl)) PM.o_none (PM.o_some PM.i_int)) (PM.i_tup (PM.a_cons (PM.i_pv (pv 5)) (PM.a_cons (PM.i_pv (pv 6)) PM.a_nil))) (nomark _))))))
        (PM.ss_one (PM.s_raise (ps_raise rfl (takes_of rfl rfl rfl rfl) (WD.pmk_x (xm_NoPaper T) (hr.mono (by decide)) (by rfl) (PM.a_cons (PM.i_pv (pv 4)) PM.a_nil)))))
        PM.ss_nil))
      (PM.ss_cons (PM.s_set (ps_set (i := 7) sc_check_yes.nd rfl (.inl rfl) (PM.i_ix (PM.i_ix (PM.i_pv (pv 2)) (PM.i_pv (pv 4)) (fun _ _ => rfl)) PM.i_int (fun _ _ => rfl))))
      (PM.ss_one (PM.s_if (ps_if (PW.pt (PM.w_or (PM.t_cmp (PM.op_neV hr.units) (PM.i_ix (PM.i_pv (pv 1)) (PM.i_pv (pv 7)) (fun _ _ => rfl)) (PM.i_ix (PM.i_pv (pv 1)) (PM.i_pv (pv 5)) (fun _ _ => rfl)) (nomark _)) (pw_or1 (PM.t_cmp (PM.op_neV hr.units) (PM.i_ix (PM.i_pv (pv 0)) (PM.i_pv (pv 7)) (fun _ _ => rfl)) (PM.i_ix (PM.i_pv (pv 0)) (PM.i_pv (pv 6)) (fun _ _ => rfl)) (nomark _)))))
        (PM.ss_one (PM.s_raise (ps_raise rfl (takes_of rfl rfl rfl rfl) (WD.pmk_x (xm_NoPaper T) (hr.mono (by decide)) (by rfl) (PM.a_cons (PM.i_pv (pv 4)) PM.a_nil)))))
        PM.ss_nil))))))
      (PM.ss_one (PM.s_if (ps_if (PM.t_cmp (PM.op_gtV) (PM.i_callB (PM.cr_lenV) (by rfl) T.z_len WD.bt_len (PM.a_cons (PM.i_pv (pv 2)) PM.a_nil)) (PM.i_callB (PM.cr_lenV) (by rfl) T.z_len WD.bt_len (PM.a_cons (PM.i_pv (pv 3)) PM.a_nil)) (nomark _))
        (PM.ss_one (PM.s_raise (ps_raise rfl (takes_of rfl rfl rfl rfl) (WD.pmk_x (xm_NoPaper T) (hr.mono (by decide)) (by rfl) (PM.a_cons (PM.i_callB (PM.cr_lenV) (by rfl) T.z_len WD.bt_len (PM.a_cons (PM.i_pv (pv 3)) PM.a_nil)) PM.a_nil)))))
        PM.ss_nil)))))), F.kp, T.g_check_yes⟩
end
section
variable {P : Program} {w : World} {K : PySem.W.Frag} {mg : Str → Option Value} {base : Heap}
theorem ok_check_no (T : Tx K mg) : WD.Cal P w K mg base (L2.CX P w) 3 "check_no" (He.ga K "check_no") (PM.SpF K 3 fn_check_no) [] := by
  obtain ⟨fd, F⟩ := T.F_check_no
  exact ⟨PM.fn_ok (b := b_check_no) F sc_check_no (fun _ _ _ _ _ _ us hl => match us, hl with | [_, _, _], _ => rfl) (fun cdv A outer s H E hr =>
    (PM.ss_cons (PM.s_asg (ps_asg (PM.i_pv (pv 2)) (PM.g_tup (PM.gs_cons (PM.g_name (pg_name (i := 3) sc_check_no.nd rfl (.inl rfl))) (PM.gs_cons (PM.g_name (pg_name (i := 4) sc_check_no.nd rfl (.inl rfl))) (PM.gs_cons (PM.g_name (pg_name (i := 5) sc_check_no.nd rfl (.inl rfl))) PM.gs_nil))) rfl)))
      (PM.ss_cons (PM.s_if (ps_if (PM.t_cmp (PM.op_neV hr.units) (PM.i_ix (PM.i_pv (pv 0)) (PM.i_pv (pv 3)) (fun _ _ => rfl)) (PM.i_ix (PM.i_pv (pv 0)) (PM.i_pv (pv 4)) (fun _ _ => rfl)) (nomark _))
        (PM.ss_one (PM.s_raise (ps_raise rfl (takes_of rfl rfl rfl rfl) (WD.pmk_x (xm_NoPaper T) (hr.mono (by decide)) (by rfl) (PM.a_cons PM.i_int PM.a_nil)))))
        PM.ss_nil))
      (PM.ss_cons (PM.s_if (ps_if (PM.t_cmp (PM.op_neV hr.units) (PM.i_ix (PM.i_pv (pv 1)) (PM.i_pv (pv 4)) (fun _ _ => rfl)) (PM.i_ix (PM.i_pv (pv 1)) (PM.i_pv (pv 5)) (fun _ _ => rfl)) (nomark _))
        (PM.ss_one (PM.s_raise (ps_raise rfl (takes_of rfl rfl rfl rfl) (WD.pmk_x (xm_NoPaper T) (hr.mono (by decide)) (by rfl) (PM.a_cons PM.i_int PM.a_nil)))))
        PM.ss_nil))
      (PM.ss_one (PM.s_if (ps_if (PM.t_cmp (PM.op_isntV) (PM.i_call (ok_amid_of T) (takes_of rfl rfl rfl rfl) (hr.mono (by decide)) (by rfl) (PM.a_cons (PM.i_pv (pv 1)) (PM.a_cons (PM.i_pv (pv 0)) (PM.a_cons (PM.i_pv (pv 3)) (PM.a_cons (PM.i_pv (pv 5)) PM.a_nil))))) PM.i_non (nomark _))
        (PM.ss_one (PM.s_raise (ps_raise rfl (takes_of rfl rfl rfl rfl) (WD.pmk_x (xm_NoPaper T) (hr.mono (by decide)) (by rfl) (PM.a_cons PM.i_int PM.a_nil)))))
        PM.ss_nil))))))), F.kp, T.g_check_no⟩
end
section
variable {P : Program} {w : World} {K : PySem.W.Frag} {mg : Str → Option Value} {base : Heap}
theorem ok_check_permuted (T : Tx K mg) : WD.Cal P w K mg base (L2.CX P w) 6 "check_permuted" (He.ga K "check_permuted") (PM.SpF K 3 fn_check_permuted) [] := by
  obtain ⟨fd, F⟩ := T.F_check_permuted
  exact ⟨PM.fn_ok (b := b_check_permuted) F sc_check_permuted (fun _ _ _ _ _ _ us hl => match us, hl with | [_, _, _], _ => rfl) (fun cdv A outer s H E hr =>
    (PM.ss_cons (PM.s_exp (PM.i_call (ok_check_two T) (takes_of rfl rfl rfl rfl) (hr.mono (by decide)) (by rfl) (PM.a_cons (PM.i_pv (pv 0)) (PM.a_cons (PM.i_pv (pv 1)) PM.a_nil))))
      (PM.ss_cons (PM.s_if (ps_if (PW.pt (PM.w_or (PM.t_not (PM.t_val (PM.i_isT (PM.i_pv (pv 2)) (pe_bltn (v := .ty "tuple") (by rfl) T.z_tuple WD.bt_tuple rfl) (by decide) (by rfl) T.z_isinstance))) (pw_or1 (PM.t_cmp (PM.op_neV hr.units) (PM.i_callB (PM.cr_lenV) (by rfl) T.z_len WD.bt_len (PM.a_cons (PM.i_pv (pv 2)) PM.a_nil)) PM.i_int (nomark _)))))
        (PM.ss_one (PM.s_raise (ps_raise rfl (takes_of rfl rfl rfl rfl) (WD.pmk_x (xm_NoPaper T) (hr.mono (by decide)) (by rfl) (PM.a_cons (PM.i_un PM.un_negV PM.i_int) PM.a_nil)))))
        PM.ss_nil))
      (PM.ss_one (PM.s_if (ps_if (PW.pt (PM.w_and (PM.t_cmp (PM.op_eqV hr.units) (PM.i_ix (PM.i_pv (pv 2)) PM.i_int (fun _ _ => rfl)) PM.i_str (nomark _)) (pw_and1 (PM.t_val (PM.i_isT (PM.i_ix (PM.i_pv (pv 2)) PM.i_int (fun _ _ => rfl)) (pe_bltn (v := .ty "list") (by rfl) T.z_list WD.bt_list rfl) (by decide) (by rfl) T.z_isinstance)))))
        (PM.ss_one (PM.s_exp (PM.i_call (ok_check_yes T) (takes_of rfl rfl rfl rfl) (hr.mono (by decide)) (by rfl) (PM.a_cons (PM.i_pv (pv 0)) (PM.a_cons (PM.i_pv (pv 1)) (PM.a_cons (PM.i_ix (PM.i_pv (pv 2)) PM.i_int (fun _ _ => rfl)) PM.a_nil))))))
        (PM.ss_one (PM.s_if (ps_if (PW.pt (PM.w_and (PM.t_cmp (PM.op_eqV hr.units) (PM.i_ix (PM.i_pv (pv 2)) PM.i_int (fun _ _ => rfl)) PM.i_str (nomark _)) (pw_and1 (PM.t_val (PM.i_call (ok_is_row T) (takes_of rfl rfl rfl rfl) (hr.mono (by decide)) (by rfl) (PM.a_cons (PM.i_ix (PM.i_pv (pv 2)) PM.i_int (fun _ _ => rfl)) (PM.a_cons PM.i_int (PM.a_cons (PM.i_callB (PM.cr_lenV) (by rfl) T.z_len WD.bt_len (PM.a_cons (PM.i_pv (pv 0)) PM.a_nil)) PM.a_nil))))))))
        (PM.ss_one (PM.s_exp (PM.i_call (ok_check_no T) (takes_of rfl rfl rfl rfl) (hr.mono (by decide)) (by rfl) (PM.a_cons (PM.i_pv (pv 0)) (PM.a_cons (PM.i_pv (pv 1)) (PM.a_cons (PM.i_ix (PM.i_pv (pv 2)) PM.i_int (fun _ _ => rfl)) PM.a_nil))))))
        (PM.ss_one (PM.s_raise (ps_raise rfl (takes_of rfl rfl rfl rfl) (WD.pmk_x (xm_NoPaper T) (hr.mono (by decide)) (by rfl) (PM.a_cons (PM.i_un PM.un_negV PM.i_int) PM.a_nil)))))))))))))), F.kp, T.g_check_permuted⟩
end
section
variable {P : Program} {w : World} {K : PySem.W.Frag} {mg : Str → Option Value} {base : Heap}
theorem ok__law_said (T : Tx K mg) : WD.Cal P w K mg base (L2.CX P w) 7 "_law_said" (He.ga K "_law_said") (PM.SpF K 3 fn__law_said) [] := by
  obtain ⟨fd, F⟩ := T.F__law_said
  exact ⟨PM.fn_ok (b := b__law_said) F sc__law_said (fun _ _ _ _ _ _ us hl => match us, hl with | [_, _, _], _ => rfl) (fun cdv A outer s H E hr =>
    (PM.ss_cons (PM.s_set (ps_set (i := 3) sc__law_said.nd rfl (.inl rfl) PM.i_str))
      (PM.ss_cons (PM.s_try rfl rfl sc__law_said.nd (takes_of rfl rfl rfl rfl) (fun W pn xe tk => (PM.ss_one (PM.s_set (ps_set (i := 3) sc__law_said.nd rfl (.inl rfl) (PM.i_call (ok_check_permuted T) tk (hr.mono (by decide)) (by rfl) (PM.a_cons (PM.i_pv (pv 0)) (PM.a_cons (PM.i_pv (pv 1)) (PM.a_cons (PM.i_pv (pv 2)) PM.a_nil))))))))
        (WD.Clauses.cons (i := 4) (c := .ref (He.ga K "NoPaper")) ⟨by rfl, by decide, .inl T.g_NoPaper⟩ rfl rfl (fun a oe cls d pn hz hf => (PM.ss_one (PM.s_set (ps_set (i := 3) sc__law_said.nd rfl (.inl rfl) (PM.i_tup (PM.a_cons PM.i_str (PM.a_cons (PM.i_xf (cs := ["NoPaper"]) hz hf (PM.i_pv (pv 4)) (PM.fa_cons ⟨T.ex_NoPaper, T.nx_NoPaper⟩ PM.fa_nil)) (PM.a_cons (PM.i_and (PM.i_isX (tab := [("NoPaper", true)]) (cv := (.type "ValueError")) hz hf (PM.i_pv (pv 4)) (pe_bltn (v := .ty "ValueError") (by rfl) T.z_ValueError WD.bt_ValueError rfl) (fun _ h => h) (PM.fa_cons ⟨T.ex_NoPaper, T.kv_NoPaper⟩ PM.fa_nil) (by rfl) T.z_isinstance) (pe_one (PM.i_not (PM.i_isXT (tab := [("NoPaper", false)]) (us2 := [(.ref (He.ga K "NoFolding")), (.ref (He.ga K "NoRow"))]) hz hf (PM.i_pv (pv 4)) (PM.pa_c (pe_glob (v := .ref (He.ga K "NoFolding")) (by rfl) T.g_NoFolding rfl) (PM.pa_c (pe_glob (v := .ref (He.ga K "NoRow")) (by rfl) T.g_NoRow rfl) PM.pa_c0)) (.cons (.own _) (.cons (.own _) .nil)) (by show 2 ≤ sizeLine; decide) (PM.fa_cons ⟨T.ex_NoPaper, (kitAny_cons (b := false) T.ki_NoPaper_NoFolding (fun _ => (kitAny_cons (b := false) T.ki_NoPaper_NoRow (fun _ => kitAny_nil) (fun z => Bool.noConfusion z))) (fun z => Bool.noConfusion z))⟩ PM.fa_nil) (by rfl) T.z_isinstance)))) PM.a_nil)))))))) WD.Clauses.nil) ⟨(PM.fa_cons T.em_NoPaper_NoPaper PM.fa_nil), (PM.fa_cons T.em_NoFolding_NoPaper PM.fa_nil), trivial⟩)
      (PM.ss_one (PM.s_ret (ps_ret (PM.i_pv (pv 3)))))))), F.kp, T.g__law_said⟩
end
section
variable {P : Program} {w : World} {K : PySem.W.Frag} {mg : Str → Option Value} {base : Heap}
theorem ok__law_right (T : Tx K mg) : WD.Cal P w K mg base (L2.CX P w) 8 "_law_right" (He.ga K "_law_right") (PM.SpF K 1 fn__law_right) [] := by
  obtain ⟨fd, F⟩ := T.F__law_right
  exact ⟨PM.fn_ok (b := b__law_right) F sc__law_right (fun _ _ _ _ _ _ us hl => match us, hl with | [_], _ => rfl) (fun cdv A outer s H E hr =>
    (PM.ss_cons (PM.s_set (ps_set (i := 1) sc__law_right.nd rfl (.inl rfl) (PM.i_op PM.op_addV PM.i_int (PM.i_call (ok__law_draw T) (takes_of rfl rfl rfl rfl) (hr.mono (by decide)) (by rfl) (PM.a_cons (PM.i_pv (pv 0)) (PM.a_cons PM.i_int PM.a_nil))))))
      (PM.ss_cons (PM.s_for (passes_of rfl) rfl (PM.ii_range1 (by rfl) T.z_range (PM.a_cons PM.i_int PM.a_nil)) (PM.g_name (pg_name (i := 2) sc__law_right.nd rfl (.inl rfl)))
        (PM.ss_cons (PM.s_set (ps_set (i := 3) sc__law_right.nd rfl (.inl rfl) (PM.i_call (ok__law_draw T) (takes_of rfl rfl rfl rfl) (hr.mono (by decide)) (by rfl) (PM.a_cons (PM.i_pv (pv 0)) (PM.a_cons PM.i_int PM.a_nil)))))
      (PM.ss_cons (PM.s_asg (ps_asg (PM.i_call (ok__law_two T) (takes_of rfl rfl rfl rfl) (hr.mono (by decide)) (by rfl) (PM.a_cons (PM.i_pv (pv 0)) (PM.a_cons (PM.i_pv (pv 1)) PM.a_nil))) (PM.g_tup (PM.gs_cons (PM.g_name (pg_name (i := 4) sc__law_right.nd rfl (.inl rfl))) (PM.gs_cons (PM.g_name (pg_name (i := 5) sc__law_right.nd rfl (.inl rfl))) PM.gs_nil)) rfl)))
      (PM.ss_cons (PM.s_if (ps_if (PM.t_cmp (PM.op_eqV hr.units) (PM.i_op PM.op_modV (PM.i_pv (pv 2)) PM.i_int) PM.i_int (nomark _))
        (PM.ss_one (PM.s_set (ps_set (i := 6) sc__law_right.nd rfl (.inl rfl) (PM.i_tup (PM.a_cons PM.i_str (PM.a_cons (PM.i_call (ok__law_list T) (takes_of rfl rfl rfl rfl) (hr.mono (by decide)) (by rfl) (PM.a_cons (PM.i_pv (pv 0)) (PM.a_cons (PM.i_pv (pv 4)) (PM.a_cons (PM.i_pv (pv 5)) PM.a_nil)))) PM.a_nil))))))
        (PM.ss_one (PM.s_set (ps_set (i := 6) sc__law_right.nd rfl (.inl rfl) (PM.i_tup (PM.a_cons PM.i_str (PM.a_cons (PM.i_call (ok__law_three T) (takes_of rfl rfl rfl rfl) (hr.mono (by decide)) (by rfl) (PM.a_cons (PM.i_pv (pv 0)) (PM.a_cons (PM.i_pv (pv 4)) (PM.a_cons (PM.i_pv (pv 5)) PM.a_nil)))) PM.a_nil))))))))
      (PM.ss_cons (PM.s_if (ps_if (PM.t_cmp (PM.op_ltV hr.units0) (PM.i_pv (pv 3)) PM.i_int (nomark _))
        (PM.ss_cons (PM.s_set (ps_set (i := 7) sc__law_right.nd rfl (.inl rfl) (PM.i_ix (PM.i_ofF (PM.f_lst (PM.a_cons PM.i_str (PM.a_cons PM.i_str PM.a_nil)))) (PM.i_op PM.op_modV (PM.i_pv (pv 2)) PM.i_int) (fun _ _ => rfl))))
      (PM.ss_one (PM.s_set (ps_set (i := 6) sc__law_right.nd rfl (.inl rfl) (PM.i_ix (PM.i_ofF (PM.f_lst (PM.a_cons PM.i_non (PM.a_cons (PM.i_ofF (PM.f_callTy PM.cr_listF (by rfl) T.z_list WD.bt_list (PM.a_cons (PM.i_pv (pv 6)) PM.a_nil))) (PM.a_cons (PM.i_op PM.op_addV (PM.i_pv (pv 6)) (PM.i_tup (PM.a_cons PM.i_int PM.a_nil))) (PM.a_cons (PM.i_tup (PM.a_cons PM.i_str (PM.a_cons (PM.i_ix (PM.i_pv (pv 6)) PM.i_int (fun _ _ => rfl)) PM.a_nil))) (PM.a_cons (PM.i_tup (PM.a_cons (PM.i_pv (pv 7)) (PM.a_cons (PM.i_ix (PM.i_pv (pv 6)) PM.i_int (fun _ _ => rfl)) PM.a_nil))) PM.a_nil))))))) (PM.i_pv (pv 3)) (fun _ _ => rfl))))))
        PM.ss_nil))
      (PM.ss_cons (PM.s_set (ps_set (i := 8) sc__law_right.nd rfl (.inl rfl) (PM.i_call (ok__law_due T) (takes_of rfl rfl rfl rfl) (hr.mono (by decide)) (by rfl) (PM.a_cons (PM.i_pv (pv 4)) (PM.a_cons (PM.i_pv (pv 5)) (PM.a_cons (PM.i_pv (pv 6)) PM.a_nil))))))
      (PM.ss_cons (PM.s_if (ps_if (PM.t_cmp (PM.op_neV hr.units) (PM.i_call (ok__law_said T) (takes_of rfl rfl rfl rfl) (hr.mono (by decide)) (by rfl) (PM.a_cons (PM.i_pv (pv 4)) (PM.a_cons (PM.i_pv (pv 5)) (PM.a_cons (PM.i_pv (pv 6)) PM.a_nil)))) (PM.i_ix (PM.i_ofF (PM.f_lst (PM.a_cons (PM.i_tup (PM.a_cons PM.i_str (PM.a_cons (PM.i_pv (pv 8)) (PM.a_cons PM.i_bl PM.a_nil)))) (PM.a_cons PM.i_non PM.a_nil)))) (PM.i_callTy PM.cr_intV (by rfl) T.z_int WD.bt_int (PM.a_cons (PM.i_cmp (PM.op_isV) (PM.i_pv (pv 8)) PM.i_non (nomark _)) PM.a_nil)) (fun _ _ => rfl)) (nomark _))
        (PM.ss_one (PM.s_ret (ps_ret PM.i_bl)))
        PM.ss_nil))
      (PM.ss_one (PM.s_if (ps_if (PM.t_cmp (PM.op_neV hr.units) (PM.i_pv (pv 8)) (PM.i_call (ok__law_due T) (takes_of rfl rfl rfl rfl) (hr.mono (by decide)) (by rfl) (PM.a_cons (PM.i_pv (pv 4)) (PM.a_cons (PM.i_pv (pv 5)) (PM.a_cons (PM.i_pv (pv 6)) PM.a_nil)))) (nomark _))
        (PM.ss_one (PM.s_ret (ps_ret PM.i_bl)))
        PM.ss_nil))))))))))
      (PM.ss_one (PM.s_ret (ps_ret PM.i_bl)))))), F.kp, T.g__law_right⟩
end
section
variable {P : Program} {w : World} {K : PySem.W.Frag} {mg : Str → Option Value} {base : Heap}
theorem law_fn {fd : FuncData} (T : Tx K mg) (hb : ∀ ns : List Int, ns.length ≤ 63 → fn_law [.s ns] [] = .ok (.t (.bl true)) []) (F : FunD K "law" "law" (defArgs s_law) (defBody s_law) (defScope s_law) [] [] (He.ga K "law") fd) : FnOk P w K mg base CX0 9 (He.ga K "law") fd ["_law_script"] (PM.spLaw K) := by
  refine F.ok sc_law (fun vs H Q E h => ?_) (fun cdv A outer s H vs Q E hr h => ?_)
  · obtain ⟨a, ns, rfl, _⟩ := h
    rfl
  · have D : PM.ISs K none PM.W0 (cxOf CX0 P w K mg base ["_law_script", "_law_k", "_law_cell"] "law" (defScope s_law) (He.ga K "law") cdv A outer s H E).nox (defBody s_law) b_law := (PM.ss_cons (PM.s_for PassesOwn.never rfl (PM.ii_enum (by rfl) T.z_enumerate (PM.a_cons (PM.i_ofF (PM.f_sl (PM.i_ofF (PM.f_scr (PM.i_pv (pv 0)) (PM.i_ofF (PM.f_lst (PM.a_cons PM.i_int PM.a_nil))))) PM.o_none (PM.o_some PM.i_int))) PM.a_nil)) (PM.g_tup (PM.gs_cons (PM.g_name (pg_name (i := 1) sc_law.nd rfl (.inl rfl))) (PM.gs_cons (PM.g_name (pg_name (i := 2) sc_law.nd rfl (.inl rfl))) PM.gs_nil)) rfl)
        (PM.s_scope (PM.ss_one (PM.s_if (ps_if (PM.t_not (PM.t_val (PM.i_call (ok__law_right T) takes0 (hr.mono (by decide)) (by rfl) (PM.a_cons (PM.i_cellF (PM.f_lst (PM.a_cons (PM.i_op PM.op_mulV (PM.i_pv (pv 2)) (PM.i_callTy PM.cr_intV (by rfl) T.z_int WD.bt_int (PM.a_cons (PM.i_cmp (PM.op_geV) (PM.i_pv (pv 2)) (PM.i_op PM.op_powV PM.i_int PM.i_int) (nomark _)) PM.a_nil))) (PM.a_cons (PM.i_op PM.op_addV (PM.i_op PM.op_modV (PM.i_pv (pv 2)) PM.i_int) (PM.i_op PM.op_mulV PM.i_int (PM.i_pv (pv 1)))) (PM.a_cons PM.i_int PM.a_nil))))) PM.a_nil))))
        (PM.ss_one (PM.s_ret (ps_ret PM.i_bl)))
        PM.ss_nil)))))
      (PM.ss_one (PM.s_ret (ps_ret (PM.i_cmp (PM.op_isV) (PM.i_call (ok_check_permuted T) takes0 (hr.mono (by decide)) (by rfl) (PM.a_cons (PM.i_tup (PM.a_cons PM.i_int (PM.a_cons PM.i_int (PM.a_cons PM.i_int PM.a_nil)))) (PM.a_cons (PM.i_tup (PM.a_cons PM.i_int (PM.a_cons PM.i_int (PM.a_cons PM.i_int PM.a_nil)))) (PM.a_cons (PM.i_tup (PM.a_cons PM.i_str (PM.a_cons (PM.i_tup (PM.a_cons PM.i_int (PM.a_cons PM.i_int (PM.a_cons PM.i_int PM.a_nil)))) PM.a_nil))) PM.a_nil)))) PM.i_non (nomark _))))))
    exact ⟨_, PSs.nox D, PM.law_read (b := b_law) (Nm := ["_law_script", "_law_k", "_law_cell"]) hb h⟩
end
end K58
namespace K58
open PySem PySem.Spec PyProof.Rows L2
abbrev R : PySem.W.OpenRow := PySem.W.OpenLaw.row PySem.Challenge.rw_wishdeeds_k58_papers_of_permuting_checke
abbrev hk : PySem.W.Hook := WD.hookE 5 fa fn fx
def ob (s : PySem.W.SharedT) : He.AlD := WD.obsEG 5 fa fn fx (HandSHeadRun.getT s)
theorem ob_eq (s : PySem.W.SharedT) : ob s = hk.obs s.abs := WD.obsEG_eq (HandSHeadRun.getT_eq s)
def loose : List PySem.Str := (["WishError", "NoRow", "NoPaper", "NoFolding", "is_whole", "is_thing", "is_row", "is_parting", "check_two", "amid_of", "ends_led", "check_yes", "check_no", "check_permuted", "_law_draw", "_law_of_marks", "_law_two", "_law_amid", "_law_pairs", "_law_is_thing", "_law_are_three", "_law_due_of_yes", "_law_due_of_no", "_law_due", "_law_list", "_law_three", "_law_said", "_law_right"] : List PySem.Str)
theorem run (w : World) : HandSHeadRun.RunEq R (PySem.W.view R.prog [33]) hk ob 6000 loose w := by
  intro os
  kernel_rfl
theorem facts {P : Program} {w : World} {K : PySem.W.Frag} {h : Heap} {mg : Str → Option Value} {f : Addr} (X : K.In h) (G : h.Ns mainGlobals mg) (hfa : mg ("law" : Str) = some (.ref f)) (c : WD.SaysE fa fn fx K) :
    ∃ fd : FuncData, (∀ (s : Shared) (v : Value), BindsTo s fd ⟨[v], []⟩ [("_law_script", v)]) ∧ ∀ base : Heap, K.In base → base.Ns mainGlobals mg → FnOk P w K mg base CX0 9 f fd ["_law_script"] (PM.spLaw K) := by
  have T := mkTx X G c
  obtain ⟨fd, F⟩ := T.F_law
  have e := hfa.symm.trans T.g_law
  cases e
  have b := FunD.bindsA (ps := ["_law_script"]) F fun _ _ _ _ _ _ us hl => match us, hl with | [_], _ => rfl
  exact ⟨fd, fun s v => b s [v] rfl, fun base _ _ => law_fn T law_true F⟩
end K58
open PySem PySem.W PySem.Calls PyProof.Rows
set_option maxHeartbeats 0 in
theorem PySem.Challenge.cw_wishdeeds_k58_papers_of_permuting_checke_holds : PySem.Challenge.rw_wishdeeds_k58_papers_of_permuting_checke.Holds := by
  w_on; o_law
  refine HandSHeadRun.head_any (r := OpenLaw.row PySem.Challenge.rw_wishdeeds_k58_papers_of_permuting_checke) (q := view (OpenLaw.row PySem.Challenge.rw_wishdeeds_k58_papers_of_permuting_checke).prog [33]) (H := K58.hk) (ob := K58.ob) (M := 6000) (loose := K58.loose) (d := HandSHeadRun.topDef (OpenLaw.row PySem.Challenge.rw_wishdeeds_k58_papers_of_permuting_checke).prog 33) (kwd := []) K58.ob_eq
    (by kernel_rfl) (fun s => by kernel_rfl) K58.run (by kernel_rfl) (by kernel_rfl) (by kernel_rfl) (by rfl) (by first | assumption | decide +kernel) (by decide +kernel) ⟨rfl, rfl, rfl, rfl, rfl, by decide +kernel⟩ ?hw ?hc
  case hw => w_witness2
  case hc =>
    refine L2.walk_ofE (l := PySem.Challenge.rw_wishdeeds_k58_papers_of_permuting_checke) (n := 63) (k := 9) (x := "_law_script") (CX := L2.CX0) rfl (by decide) (by kernel_rfl) ⟨rfl, by decide, by decide⟩ ?F (fun _ _ _ _ z => z)
    intro w mg fa h Y G hmg0
    obtain ⟨K, KX, c⟩ := Y
    have hmg : mg ("law" : PySem.Str) = some (.ref fa) := by
      have e : (HandSHeadRun.topDef (OpenLaw.row PySem.Challenge.rw_wishdeeds_k58_papers_of_permuting_checke).prog 33).name = ("law" : PySem.Str) := by kernel_rfl
      rw [← e]
      exact hmg0
    obtain ⟨fd, hb, hF⟩ := K58.facts (P := (PySem.Challenge.rw_wishdeeds_k58_papers_of_permuting_checke).prog) (w := w) KX G hmg c
    exact ⟨K, fd, PM.spLaw K, KX, hb, fun H a ns hl _ hS => PM.spLaw_ask hl hS, hF⟩
