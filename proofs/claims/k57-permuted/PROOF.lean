import PyProof.Rows.All
import Wide.All
import OpenK.AllK
import Wide.FinOn
import KE.KStateDown
import KE.KTupSum
import KE.DataMinMax
import HandS.ForMost
import HandS.IsInst
import HandS.Walk
import HandS.Conv
import HandS.Zip
import HandS.TupLe
import HandS.TupAny
import HandS.Evl
import HandS.Deep
import HandS.Defaults
import HandS.HeadHook1
import HandS.HeadHook2
import HandS.Head0
import HandS.Head1
import HandS.Head2
import HandS.HeadEnd
import HandS.WordsExc
import HandS.Steps
import KE.KDictList
import HandS.ListItems
import HandS.Codes
import KE.KExcIs
import HandS.ExcInit
import HandS.ExcIs
import HandS.ExcField
import HandS.TryMany
import KE.DataFind
import PySem.Challenge.RW_wishdeeds_k57_whole_permuted_or_not
set_option Elab.async false
set_option linter.all false
set_option maxRecDepth 100000
set_option maxHeartbeats 4000000
namespace WD
open PySem PySem.Spec PyProof.Rows L2

/-! ### frames -/
abbrev MS := Addr → Prop
structure Fr (M : MS) (H H' : Hp) : Prop where
  keep : ∀ a o, ¬ M a → H a = some o → H' a = some o
  dom : ∀ a, H' a = none → H a = none
abbrev M0 : MS := fun _ => False
abbrev plus (M : MS) (D : Addr) : MS := fun x => M x ∨ x = D
theorem Fr.refl {M : MS} (H : Hp) : Fr M H H := ⟨fun _ _ _ h => h, fun _ h => h⟩
theorem Fr.trans {M : MS} {H H1 H2 : Hp} (a : Fr M H H1) (b : Fr M H1 H2) : Fr M H H2 :=
  ⟨fun x o n h => b.keep x o n (a.keep x o n h), fun x h => a.dom x (b.dom x h)⟩
theorem Fr.mono {M M' : MS} {H H' : Hp} (a : Fr M H H') (s : ∀ x, M x → M' x) : Fr M' H H' :=
  ⟨fun x o n h => a.keep x o (fun z => n (s x z)) h, a.dom⟩
theorem upd_none {H : Hp} {p a : Addr} {o : HO} (h : upd H p o a = none) : a ≠ p ∧ H a = none := by
  by_cases e : a = p
  · subst e; rw [upd_same] at h; cases h
  · rw [upd_ne e] at h; exact ⟨e, h⟩
theorem Fr.new {M : MS} {H : Hp} {p : Addr} {o : HO} (h : H p = none) : Fr M H (upd H p o) :=
  ⟨fun a u _ e => by rw [upd_ne (ne_of_none e h)]; exact e, fun a e => (upd_none e).2⟩
theorem Fr.mutNew {M : MS} {H H' : Hp} {p : Addr} {o : HO} (f : Fr M H H') (h : H p = none) : Fr M H (upd H' p o) :=
  ⟨fun a u n e => by rw [upd_ne (ne_of_none e h)]; exact f.keep a u n e, fun a e => f.dom a (upd_none e).2⟩
theorem Fr.mut {M : MS} {H : Hp} {p : Addr} {o : HO} (h : M p) : Fr M H (upd H p o) :=
  ⟨fun a u n e => by rw [upd_ne (fun z : a = p => n (by rw [z]; exact h))]; exact e, fun a e => (upd_none e).2⟩
theorem Fr.of_plus {M : MS} {H H' : Hp} {D : Addr} (f : Fr (plus M D) H H') (h : H D = none) : Fr M H H' :=
  ⟨fun a o n e => f.keep a o (fun z => z.elim n (fun q => by rw [q, h] at e; cases e)) e, f.dom⟩
def MIn (M : MS) (H : Hp) : Prop := ∀ a, M a → H a ≠ none
theorem MIn.to {M M' : MS} {H H' : Hp} (m : MIn M H) (f : Fr M' H H') : MIn M H' := fun a h z => m a h (f.dom a z)
theorem MIn.no {M : MS} {H : Hp} {p : Addr} (m : MIn M H) (h : H p = none) : ¬ M p := fun z => m p z h
theorem MIn.plus {M : MS} {H : Hp} {D : Addr} {o : HO} (m : MIn M H) (h : H D = some o) : MIn (plus M D) H := fun a z => z.elim (m a) (fun q => by rw [q, h]; exact fun e => nomatch e)
theorem MIn.zero {H : Hp} : MIn M0 H := fun _ h => h.elim

/-! ### relations: a value in a heap and the datum that it is -/
abbrev Rl (α : Type) := MS → Hp → V → α → Prop
class Rep {α : Type} (R : Rl α) : Prop where
  st : ∀ {M : MS} {H H' : Hp} {v : V} {a : α}, Fr M H H' → R M H v a → R M H' v a
  wk : ∀ {M M' : MS} {H : Hp} {v : V} {a : α}, (∀ x, M x → M' x) → R M' H v a → R M H v a
  ad : ∀ {M : MS} {H : Hp} {v : V} {a : α} {D : Addr}, H D = none → R M H v a → R (plus M D) H v a
/-- what was known there is known here -/
def Tr (M : MS) (H : Hp) (M' : MS) (H' : Hp) : Prop := ∀ {α : Type} {R : Rl α} [Rep R] {v : V} {a : α}, R M H v a → R M' H' v a
theorem Fr.tr {M : MS} {H H' : Hp} (f : Fr M H H') : Tr M H M H' := fun h => Rep.st f h
theorem Tr.refl {M : MS} {H : Hp} : Tr M H M H := fun h => h
theorem Tr.trans {M M1 M2 : MS} {H H1 H2 : Hp} (a : Tr M H M1 H1) (b : Tr M1 H1 M2 H2) : Tr M H M2 H2 := fun h => b (a h)
theorem Tr.ad {M : MS} {H : Hp} {D : Addr} (h : H D = none) : Tr M H (plus M D) H := fun x => Rep.ad h x
theorem Tr.wk {M M' : MS} {H : Hp} (s : ∀ x, M x → M' x) : Tr M' H M H := fun x => Rep.wk s x
theorem Tr.of_plus {M : MS} {H : Hp} {D : Addr} : Tr (plus M D) H M H := Tr.wk fun _ h => .inl h

def All2 {α : Type} (R : V → α → Prop) : List V → List α → Prop
  | [], [] => True
  | v :: vs, a :: as => R v a ∧ All2 R vs as
  | _, _ => False
section
variable {α β : Type} {R : V → α → Prop}
theorem All2.len : ∀ {vs : List V} {as : List α}, All2 R vs as → vs.length = as.length
  | [], [], _ => rfl
  | _ :: _, _ :: _, h => congrArg Nat.succ h.2.len
  | [], _ :: _, h => h.elim
  | _ :: _, [], h => h.elim
theorem All2.imp {R' : V → α → Prop} (f : ∀ v a, R v a → R' v a) : ∀ {vs : List V} {as : List α}, All2 R vs as → All2 R' vs as
  | [], [], _ => trivial
  | _ :: _, _ :: _, h => ⟨f _ _ h.1, h.2.imp f⟩
  | [], _ :: _, h => h.elim
  | _ :: _, [], h => h.elim
theorem All2.app : ∀ {vs ws : List V} {as bs : List α}, All2 R vs as → All2 R ws bs → All2 R (vs ++ ws) (as ++ bs)
  | [], _, [], _, _, h => h
  | _ :: _, _, _ :: _, _, g, h => ⟨g.1, g.2.app h⟩
  | [], _, _ :: _, _, g, _ => g.elim
  | _ :: _, _, [], _, g, _ => g.elim
theorem All2.one {v : V} {a : α} (h : R v a) : All2 R [v] [a] := ⟨h, trivial⟩
theorem All2.get : ∀ {vs : List V} {as : List α} {i : Nat} {v : V}, All2 R vs as → vs[i]? = some v → ∃ a, as[i]? = some a ∧ R v a
  | [], [], _, _, _, e => by simp at e
  | x :: _, a :: _, 0, v, h, e => ⟨a, rfl, by
      have z : x = v := Option.some.inj e
      rw [← z]; exact h.1⟩
  | _ :: _, _ :: _, i + 1, v, h, e => All2.get (i := i) h.2 e
  | [], _ :: _, _, _, h, _ => h.elim
  | _ :: _, [], _, _, h, _ => h.elim
theorem All2.at_ : ∀ {vs : List V} {as : List α} {i : Nat} {a : α}, All2 R vs as → as[i]? = some a → ∃ v, vs[i]? = some v ∧ R v a
  | [], [], _, _, _, e => by simp at e
  | v :: _, x :: _, 0, a, h, e => ⟨v, rfl, by
      have z : x = a := Option.some.inj e
      rw [← z]; exact h.1⟩
  | _ :: _, _ :: _, i + 1, v, h, e => All2.at_ (i := i) h.2 e
  | [], _ :: _, _, _, h, _ => h.elim
  | _ :: _, [], _, _, h, _ => h.elim
theorem All2.take : ∀ {vs : List V} {as : List α} (n : Nat), All2 R vs as → All2 R (vs.take n) (as.take n)
  | [], [], n, _ => by cases n <;> exact trivial
  | _ :: _, _ :: _, 0, _ => trivial
  | _ :: _, _ :: _, n + 1, h => ⟨h.1, h.2.take n⟩
  | [], _ :: _, _, h => h.elim
  | _ :: _, [], _, h => h.elim
theorem All2.drop : ∀ {vs : List V} {as : List α} (n : Nat), All2 R vs as → All2 R (vs.drop n) (as.drop n)
  | [], [], n, _ => by cases n <;> exact trivial
  | _ :: _, _ :: _, 0, h => h
  | _ :: _, _ :: _, n + 1, h => h.2.drop n
  | [], _ :: _, _, h => h.elim
  | _ :: _, [], _, h => h.elim
theorem All2.of_map {f : α → V} (h : ∀ a, R (f a) a) : ∀ (as : List α), All2 R (as.map f) as
  | [] => trivial
  | a :: as => ⟨h a, All2.of_map h as⟩
theorem All2.eq_map {f : α → V} (h : ∀ v a, R v a → v = f a) : ∀ {vs : List V} {as : List α}, All2 R vs as → vs = as.map f
  | [], [], _ => rfl
  | _ :: _, _ :: _, g => by rw [List.map_cons, ← h _ _ g.1, ← g.2.eq_map h]
  | [], _ :: _, g => g.elim
  | _ :: _, [], g => g.elim
end

def rI : Rl Int := fun _ _ v i => v = .int i
def rB : Rl Bool := fun _ _ v b => v = .bl b
def rS : Rl Str := fun _ _ v x => v = .str x ∧ PyData.strOk x = true
def rN : Rl Unit := fun _ _ v _ => v = .non
instance : Rep rI := ⟨fun _ h => h, fun _ h => h, fun _ h => h⟩
instance : Rep rB := ⟨fun _ h => h, fun _ h => h, fun _ h => h⟩
instance : Rep rS := ⟨fun _ h => h, fun _ h => h, fun _ h => h⟩
instance : Rep rN := ⟨fun _ h => h, fun _ h => h, fun _ h => h⟩
section
variable {α β γ : Type}
def rL (R : Rl α) : Rl (List α) := fun M H v l => ∃ a vs, v = .ref a ∧ ¬ M a ∧ H a = some (.lst vs) ∧ All2 (R M H) vs l
def rT (R : Rl α) : Rl (List α) := fun M H v l => ∃ a vs, v = .ref a ∧ ¬ M a ∧ H a = some (.tup vs) ∧ All2 (R M H) vs l
def rP (R : Rl α) (S : Rl β) : Rl (α × β) := fun M H v p => ∃ a v1 v2, v = .ref a ∧ ¬ M a ∧ H a = some (.tup [v1, v2]) ∧ R M H v1 p.1 ∧ S M H v2 p.2
def rP3 (R : Rl α) (S : Rl β) (T : Rl γ) : Rl (α × β × γ) := fun M H v p => ∃ a v1 v2 v3, v = .ref a ∧ ¬ M a ∧ H a = some (.tup [v1, v2, v3]) ∧ R M H v1 p.1 ∧ S M H v2 p.2.1 ∧ T M H v3 p.2.2
theorem ad_ne {M : MS} {H : Hp} {a D : Addr} {o : HO} (h : H a = some o) (n : ¬ M a) (hD : H D = none) : ¬ plus M D a := fun z => z.elim n (fun e => by rw [e, hD] at h; cases h)
instance {R : Rl α} [Rep R] : Rep (rL R) := ⟨fun f ⟨a, vs, e, n, h, g⟩ => ⟨a, vs, e, n, f.keep a _ n h, g.imp fun _ _ x => Rep.st f x⟩,
  fun s ⟨a, vs, e, n, h, g⟩ => ⟨a, vs, e, fun z => n (s a z), h, g.imp fun _ _ x => Rep.wk s x⟩, fun hD ⟨a, vs, e, n, h, g⟩ => ⟨a, vs, e, ad_ne h n hD, h, g.imp fun _ _ x => Rep.ad hD x⟩⟩
instance {R : Rl α} [Rep R] : Rep (rT R) := ⟨fun f ⟨a, vs, e, n, h, g⟩ => ⟨a, vs, e, n, f.keep a _ n h, g.imp fun _ _ x => Rep.st f x⟩,
  fun s ⟨a, vs, e, n, h, g⟩ => ⟨a, vs, e, fun z => n (s a z), h, g.imp fun _ _ x => Rep.wk s x⟩, fun hD ⟨a, vs, e, n, h, g⟩ => ⟨a, vs, e, ad_ne h n hD, h, g.imp fun _ _ x => Rep.ad hD x⟩⟩
instance {R : Rl α} {S : Rl β} [Rep R] [Rep S] : Rep (rP R S) := ⟨fun f ⟨a, v1, v2, e, n, h, g1, g2⟩ => ⟨a, v1, v2, e, n, f.keep a _ n h, Rep.st f g1, Rep.st f g2⟩,
  fun s ⟨a, v1, v2, e, n, h, g1, g2⟩ => ⟨a, v1, v2, e, fun z => n (s a z), h, Rep.wk s g1, Rep.wk s g2⟩, fun hD ⟨a, v1, v2, e, n, h, g1, g2⟩ => ⟨a, v1, v2, e, ad_ne h n hD, h, Rep.ad hD g1, Rep.ad hD g2⟩⟩
instance {R : Rl α} {S : Rl β} {T : Rl γ} [Rep R] [Rep S] [Rep T] : Rep (rP3 R S T) := ⟨fun f ⟨a, v1, v2, v3, e, n, h, g1, g2, g3⟩ => ⟨a, v1, v2, v3, e, n, f.keep a _ n h, Rep.st f g1, Rep.st f g2, Rep.st f g3⟩,
  fun s ⟨a, v1, v2, v3, e, n, h, g1, g2, g3⟩ => ⟨a, v1, v2, v3, e, fun z => n (s a z), h, Rep.wk s g1, Rep.wk s g2, Rep.wk s g3⟩, fun hD ⟨a, v1, v2, v3, e, n, h, g1, g2, g3⟩ => ⟨a, v1, v2, v3, e, ad_ne h n hD, h, Rep.ad hD g1, Rep.ad hD g2, Rep.ad hD g3⟩⟩
theorem ints_of {M : MS} {H : Hp} {vs : List V} {l : List Int} (h : All2 (rI M H) vs l) : vs = l.map V.int := h.eq_map fun _ _ e => e
theorem of_ints {M : MS} {H : Hp} (l : List Int) : All2 (rI M H) (l.map V.int) l := All2.of_map (f := V.int) (fun _ => rfl) l
/-- a tuple of ints | a list of ints, written out -/
theorem tupI {M : MS} {H : Hp} {v : V} {l : List Int} (h : rT rI M H v l) : ∃ a, v = .ref a ∧ ¬ M a ∧ H a = some (.tup (l.map V.int)) := by
  obtain ⟨a, vs, e, n, h, g⟩ := h
  rw [ints_of g] at h
  exact ⟨a, e, n, h⟩
theorem lstI {M : MS} {H : Hp} {v : V} {l : List Int} (h : rL rI M H v l) : ∃ a, v = .ref a ∧ ¬ M a ∧ H a = some (.lst (l.map V.int)) := by
  obtain ⟨a, vs, e, n, h, g⟩ := h
  rw [ints_of g] at h
  exact ⟨a, e, n, h⟩
theorem mkTupI {M : MS} {H : Hp} {a : Addr} {l : List Int} (n : ¬ M a) (h : H a = some (.tup (l.map V.int))) : rT rI M H (.ref a) l := ⟨a, _, rfl, n, h, of_ints l⟩
theorem mkLstI {M : MS} {H : Hp} {a : Addr} {l : List Int} (n : ¬ M a) (h : H a = some (.lst (l.map V.int))) : rL rI M H (.ref a) l := ⟨a, _, rfl, n, h, of_ints l⟩
end

/-! ### == of data -/
structure EncOk {α : Type} [DecidableEq α] (R : Rl α) (enc : α → PyData) (n : Nat) : Prop where
  dp : ∀ {K : PySem.W.Frag} {M : MS} {H : Hp} {v : V} {a : α}, R M H v a → Dp K H v (enc a) ∧ (enc a).canLay0 = true
  dep : ∀ a, (enc a).depth ≤ n
  eq : ∀ a b, PyData.eqv (enc a) (enc b) = decide (a = b)
section
variable {α β γ : Type} [DecidableEq α] [DecidableEq β] [DecidableEq γ] {R : Rl α} {S : Rl β} {T : Rl γ} {e1 : α → PyData} {e2 : β → PyData} {e3 : γ → PyData} {n : Nat}
theorem shaped_of {d : PyData} {n : Nat} (h1 : d.canLay0 = true) (h2 : d.depth ≤ n) (hn : n ≤ 64) : SeqAt.shaped d = true := by
  show (d.canLay0 && decide (d.depth ≤ 64)) = true
  rw [h1, decide_eq_true (Nat.le_trans h2 hn)]; rfl
theorem encI : EncOk rI PyData.int 0 := ⟨fun h => by cases h; exact ⟨.int _, rfl⟩, fun _ => Nat.le_refl _, fun a b => by
  show (a == b) = decide (a = b)
  exact Bool.beq_eq_decide_eq a b⟩
theorem encB : EncOk rB PyData.bool 0 := ⟨fun h => by cases h; exact ⟨.bl _, rfl⟩, fun _ => Nat.le_refl _, fun a b => by
  show (a == b) = decide (a = b)
  exact Bool.beq_eq_decide_eq a b⟩
theorem encS : EncOk rS PyData.str 0 := ⟨fun h => by obtain ⟨rfl, h⟩ := h; exact ⟨.str _, h⟩, fun _ => Nat.le_refl _, fun a b => by
  show (a == b) = decide (a = b)
  exact Bool.beq_eq_decide_eq a b⟩
theorem encAll {K : PySem.W.Frag} {M : MS} {H : Hp} (E : EncOk R e1 n) : ∀ {vs : List V} {as : List α}, All2 (R M H) vs as → DpAll K H vs (as.map e1) ∧ PyData.canLayAll0 (as.map e1) = true
  | [], [], _ => ⟨.nil, rfl⟩
  | v :: vs, a :: as, h => by
    obtain ⟨h1, h2⟩ := E.dp (K := K) h.1
    obtain ⟨h3, h4⟩ := encAll (K := K) E h.2
    exact ⟨.cons h1 h3, by show ((e1 a).canLay0 && PyData.canLayAll0 (as.map e1)) = true; rw [h2, h4]; rfl⟩
  | [], _ :: _, h => h.elim
  | _ :: _, [], h => h.elim
theorem encDep (E : EncOk R e1 n) : ∀ (as : List α), PyData.depthAll (as.map e1) ≤ n
  | [] => Nat.zero_le _
  | a :: as => by
    show max (e1 a).depth (PyData.depthAll (as.map e1)) ≤ n
    exact Nat.max_le.mpr ⟨E.dep a, encDep E as⟩
theorem encEqAll (E : EncOk R e1 n) : ∀ (as bs : List α), PyData.eqvAll (as.map e1) (bs.map e1) = decide (as = bs)
  | [], [] => by simp [PyData.eqvAll]
  | [], _ :: _ => by simp [PyData.eqvAll]
  | _ :: _, [] => by simp [PyData.eqvAll]
  | a :: as, b :: bs => by
    show (PyData.eqv (e1 a) (e1 b) && PyData.eqvAll (as.map e1) (bs.map e1)) = _
    rw [E.eq, encEqAll E as bs]
    by_cases h1 : a = b <;> by_cases h2 : as = bs <;> simp [h1, h2]
theorem encL (E : EncOk R e1 n) : EncOk (rL R) (fun l => .list (l.map e1)) (n + 1) := ⟨fun h => by
    obtain ⟨a, vs, rfl, _, h, g⟩ := h
    obtain ⟨g1, g2⟩ := encAll E g
    exact ⟨.lst (SqL.of h) g1, g2⟩, fun l => Nat.succ_le_succ (encDep E l), fun a b => encEqAll E a b⟩
theorem encT (E : EncOk R e1 n) : EncOk (rT R) (fun l => .tuple (l.map e1)) (n + 1) := ⟨fun h => by
    obtain ⟨a, vs, rfl, _, h, g⟩ := h
    obtain ⟨g1, g2⟩ := encAll E g
    exact ⟨.tup (SqT.of h) g1, g2⟩, fun l => Nat.succ_le_succ (encDep E l), fun a b => encEqAll E a b⟩
theorem encP (E : EncOk R e1 n) (F : EncOk S e2 n) : EncOk (rP R S) (fun p => .tuple [e1 p.1, e2 p.2]) (n + 1) := ⟨fun {K _ _ _ _} h => by
    obtain ⟨a, v1, v2, rfl, _, h, g1, g2⟩ := h
    obtain ⟨h1, h2⟩ := E.dp (K := K) g1
    obtain ⟨h3, h4⟩ := F.dp (K := K) g2
    exact ⟨.tup (SqT.of h) (.cons h1 (.cons h3 .nil)), by
      show ((e1 _).canLay0 && ((e2 _).canLay0 && true)) = true
      rw [h2, h4]; rfl⟩, fun p => by
    show max (e1 p.1).depth (max (e2 p.2).depth 0) + 1 ≤ n + 1
    have := E.dep p.1; have := F.dep p.2; omega, fun p q => by
    show (PyData.eqv (e1 p.1) (e1 q.1) && (PyData.eqv (e2 p.2) (e2 q.2) && true)) = _
    obtain ⟨a, b⟩ := p; obtain ⟨c, d⟩ := q
    rw [E.eq, F.eq]
    by_cases h1 : a = c <;> by_cases h2 : b = d <;> simp [h1, h2]⟩
theorem encP3 (E : EncOk R e1 n) (F : EncOk S e2 n) (G : EncOk T e3 n) : EncOk (rP3 R S T) (fun p => .tuple [e1 p.1, e2 p.2.1, e3 p.2.2]) (n + 1) := ⟨fun {K _ _ _ _} h => by
    obtain ⟨a, v1, v2, v3, rfl, _, h, g1, g2, g3⟩ := h
    obtain ⟨h1, h2⟩ := E.dp (K := K) g1
    obtain ⟨h3, h4⟩ := F.dp (K := K) g2
    obtain ⟨h5, h6⟩ := G.dp (K := K) g3
    exact ⟨.tup (SqT.of h) (.cons h1 (.cons h3 (.cons h5 .nil))), by
      show ((e1 _).canLay0 && ((e2 _).canLay0 && ((e3 _).canLay0 && true))) = true
      rw [h2, h4, h6]; rfl⟩, fun p => by
    show max (e1 p.1).depth (max (e2 p.2.1).depth (max (e3 p.2.2).depth 0)) + 1 ≤ n + 1
    have := E.dep p.1; have := F.dep p.2.1; have := G.dep p.2.2; omega, fun p q => by
    show (PyData.eqv (e1 p.1) (e1 q.1) && (PyData.eqv (e2 p.2.1) (e2 q.2.1) && (PyData.eqv (e3 p.2.2) (e3 q.2.2) && true))) = _
    obtain ⟨a, b, c⟩ := p; obtain ⟨a', b', c'⟩ := q
    rw [E.eq, F.eq, G.eq]
    by_cases h1 : a = a' <;> by_cases h2 : b = b' <;> by_cases h3 : c = c' <;> simp [h1, h2, h3]⟩
theorem EncOk.up {m : Nat} (E : EncOk R e1 n) (h : n ≤ m) : EncOk R e1 m := ⟨E.dp, fun a => Nat.le_trans (E.dep a) h, E.eq⟩
theorem eqD_of {K : PySem.W.Frag} {M M' : MS} {H : Hp} {x y : V} {a b : α} {Q : VK} (E : EncOk R e1 n) (h1 : R M H x a) (h2 : R M' H y b) (q : Q (.bl (decide (a = b))) H) (hn : n ≤ 64 := by decide) : rEqD K x y H Q := by
  obtain ⟨d1, l1⟩ := E.dp (K := K) h1
  obtain ⟨d2, l2⟩ := E.dp (K := K) h2
  exact ⟨_, _, d1, d2, shaped_of l1 (E.dep a) hn, shaped_of l2 (E.dep b) hn, by rw [E.eq]; exact q⟩
theorem neD_of {K : PySem.W.Frag} {M M' : MS} {H : Hp} {x y : V} {a b : α} {Q : VK} (E : EncOk R e1 n) (h1 : R M H x a) (h2 : R M' H y b) (q : Q (.bl (!decide (a = b))) H) (hn : n ≤ 64 := by decide) : rNeD K x y H Q := by
  obtain ⟨d1, l1⟩ := E.dp (K := K) h1
  obtain ⟨d2, l2⟩ := E.dp (K := K) h2
  exact ⟨_, _, d1, d2, shaped_of l1 (E.dep a) hn, shaped_of l2 (E.dep b) hn, by rw [E.eq]; exact q⟩
end
end WD
namespace WD
open PySem PySem.Spec PyProof.Rows L2

/-! ### what holds of the changing objects -/
def JOk (M : MS) (J : Hp → Prop) : Prop := ∀ H H', (∀ x, M x → H' x = H x) → J H → J H'
abbrev J0 : Hp → Prop := fun _ => True
theorem jok0 {M : MS} : JOk M J0 := fun _ _ _ _ => trivial
/-- the well: a list of three ints -/
def Well (w : Addr) (H : Hp) : Prop := ∃ a b c : Int, H w = some (.lst [.int a, .int b, .int c])
theorem jokW {M : MS} {w : Addr} (h : M w) : JOk M (Well w) := fun H H' e ⟨a, b, c, q⟩ => ⟨a, b, c, by rw [e w h]; exact q⟩
abbrev only (w : Addr) : MS := fun x => x = w
theorem Well.ne {w : Addr} {H : Hp} (h : Well w H) : H w ≠ none := fun z => by
  obtain ⟨a, b, c, e⟩ := h
  rw [z] at e; cases e
theorem Well.in_ {w : Addr} {H : Hp} (h : Well w H) : MIn (only w) H := fun a e => by rw [e]; exact h.ne
theorem Well.upd {w p : Addr} {H : Hp} {o : HO} (h : Well w H) (n : H p = none) : Well w (upd H p o) := by
  obtain ⟨a, b, c, e⟩ := h
  exact ⟨a, b, c, by rw [upd_ne (ne_of_none e n)]; exact e⟩
theorem Well.fr {M : MS} {w : Addr} {H H' : Hp} (h : Well w H) (n : ¬ M w) (f : Fr M H H') : Well w H' := by
  obtain ⟨a, b, c, e⟩ := h
  exact ⟨a, b, c, f.keep _ _ n e⟩

/-! ### comprehensions -/
theorem filterMap_snoc {α : Type} (l : List (Option α)) (o : Option α) : (l ++ [o]).filterMap id = l.filterMap id ++ (match o with | some a => [a] | none => []) := by
  rw [List.filterMap_append]
  cases o <;> rfl
theorem lc_gen {α : Type} {R : Rl α} [Rep R] {W : It} {n : Nat} {G : Hp → Prop} {Y : Nat → Hp → V → Hp → Prop} (w : Walk W n G Y) {g : TG} {tt : TT} {te : TE} {vs : List Nat} {σ : L2.St} {H1 : Hp} {Q : Addr → Hp → Prop}
    {M Mf : MS} {J : Hp → Prop} (hMf : ∀ x, Mf x → M x) (hJm : JOk Mf J) (hn : n ≤ 1000000) (hM : MIn M H1) (hJ : J H1) (P : Nat → Option α → Prop)
    (hG : ∀ M' H', Tr M H1 M' H' → Fr Mf H1 H' → G H')
    (hb : ∀ i M' H', i < n → Tr M H1 M' H' → Fr Mf H1 H' → MIn M' H' → (∀ x, M x → M' x) → J H' → ∀ (Ky : V → Hp → Prop) (Kn : Hp → Prop),
      (∀ y H4 a, P i (some a) → Fr Mf H' H4 → J H4 → R M' H4 y a → Ky y H4) → (∀ H3, P i none → Fr Mf H' H3 → J H3 → Kn H3) →
      ∀ x H'', Y i H' x H'' → g x (wipe σ vs) H'' fun σ2 H2 => wipe σ2 vs = wipe σ vs ∧ tt σ2 H2 fun b H3 => if b = true then te σ2 H3 Ky else Kn H3)
    (k : ∀ (D : Addr) (l : List (Option α)) (H' : Hp), H1 D = none → l.length = n → (∀ i o, l[i]? = some o → P i o) → Fr Mf H1 H' → J H' → rL R M H' (.ref D) (l.filterMap id) → Q D H') :
    ∀ D, H1 D = none → ∃ W' : Nat → Nat → Hp → Prop, (∃ m, W' 0 m (upd H1 D (.lst []))) ∧ ∀ i m H, W' i m H →
      (W.stop i H ∧ Q D H) ∨ (W.go i H ∧ ∃ Nx : Hp → Prop, (∀ H', Nx H' → ∃ m', m' < m ∧ W' (i + 1) m' H') ∧ ∀ x H', W.yld i H x H' → g x (wipe σ vs) H' fun σ2 H2 => wipe σ2 vs = wipe σ vs ∧ tt σ2 H2 fun b H3 =>
        if b = true then te σ2 H3 fun y H4 => ∃ acc, H4 D = some (.lst acc) ∧ acc.length < sizeLine ∧ Nx (upd H4 D (.lst (acc ++ [y]))) else Nx H3) := by
  intro D hD
  have nD : ¬ M D := hM.no hD
  have nDf : ¬ Mf D := fun z => nD (hMf D z)
  have jup : ∀ {H : Hp} {o : HO}, J H → J (upd H D o) := fun {H o} h => hJm H _ (fun x hx => upd_ne (fun z => nDf (z ▸ hx))) h
  have base : Tr M H1 (plus M D) (upd H1 D (.lst [])) := fun {_ _ _ _ _} h => Rep.st (Fr.new hD) (Rep.ad hD h)
  have up : ∀ {H H' : Hp}, Fr Mf H H' → Fr (plus M D) H H' := fun f => f.mono fun x z => .inl (hMf x z)
  refine lc_it w (fun i H => ∃ l : List (Option α), l.length = i ∧ (∀ j o, l[j]? = some o → P j o) ∧ Fr Mf H1 H ∧ J H ∧ Tr M H1 (plus M D) H ∧ MIn (plus M D) H ∧ ∃ acc, H D = some (.lst acc) ∧ All2 (R (plus M D) H) acc (l.filterMap id))
    ⟨[], rfl, fun j o e => by simp at e, Fr.new hD, jup hJ, base, (hM.to (M' := M) (Fr.new hD)).plus upd_same, [], upd_same, trivial⟩ (fun i H _ ⟨l, _, _, f, _, t, _⟩ => hG _ _ t f) (fun i x H H' hi ⟨l, ll, lP, f, j, t, mi, acc, ha, al⟩ hy => ?_) (fun H ⟨l, ll, lP, f, j, t, mi, acc, ha, al⟩ => ?_)
  · refine hb i (plus M D) H hi t f mi (fun x h => .inl h) j _ _ (fun y H4 a pa f4 j4 r4 => ?_) (fun H3 pn f3 j3 => ?_) x H' hy
    · have hD4 : H4 D = some (.lst acc) := f4.keep D _ nDf ha
      have sz : acc.length < sizeLine := by
        have h1 := al.len
        have h2 : (l.filterMap id).length ≤ l.length := List.length_filterMap_le _ _
        have h3 := sizeLine_eq
        omega
      refine ⟨acc, hD4, sz, l ++ [some a], by rw [List.length_append, ll]; rfl, fun j o e => ?_, (f.trans f4).mutNew hD, jup j4, ?_, ?_, acc ++ [y], upd_same, ?_⟩
      · by_cases hj : j < l.length
        · rw [List.getElem?_append_left hj] at e; exact lP j o e
        · rw [List.getElem?_append_right (by omega)] at e
          have hj2 : j - l.length = 0 := by
            have := (List.getElem?_eq_some_iff.mp e).1
            simp at this; omega
          rw [hj2] at e
          have ej : j = i := by omega
          rw [ej, ← Option.some.inj e]
          exact pa
      · intro β S _ v b h
        exact Rep.st (M := plus M D) (Fr.mut (.inr rfl)) (Rep.st (up f4) (t h))
      · exact (mi.to f4).to (M' := plus M D) (Fr.mut (.inr rfl))
      · rw [filterMap_snoc]
        refine All2.app (al.imp fun v b z => ?_) (All2.one ?_)
        · exact Rep.st (M := plus M D) (Fr.mut (.inr rfl)) (Rep.st (up f4) z)
        · exact Rep.st (M := plus M D) (Fr.mut (.inr rfl)) r4
    · have hD3 : H3 D = some (.lst acc) := f3.keep D _ nDf ha
      refine ⟨l ++ [none], by rw [List.length_append, ll]; rfl, fun j o e => ?_, f.trans f3, j3, ?_, mi.to f3, acc, hD3, ?_⟩
      · by_cases hj : j < l.length
        · rw [List.getElem?_append_left hj] at e; exact lP j o e
        · rw [List.getElem?_append_right (by omega)] at e
          have hj2 : j - l.length = 0 := by
            have := (List.getElem?_eq_some_iff.mp e).1
            simp at this; omega
          rw [hj2] at e
          have ej : j = i := by omega
          rw [ej, ← Option.some.inj e]
          exact pn
      · intro β S _ v b h
        exact Rep.st (up f3) (t h)
      · rw [filterMap_snoc]
        show All2 _ _ (l.filterMap id ++ [])
        rw [List.append_nil]
        exact al.imp fun v b z => Rep.st (up f3) z
  · exact k D l H hD ll lP f j ⟨D, acc, rfl, nD, ha, al.imp fun v b z => Rep.wk (fun _ q => .inl q) z⟩
/-- no test, what comes at turn i is f i -/
theorem all_some {α : Type} {n : Nat} {l : List (Option α)} {f : Nat → α} (h1 : l.length = n) (h2 : ∀ i o, l[i]? = some o → o = some (f i)) : l.filterMap id = (List.range n).map f := by
  have e : l = (List.range n).map fun i => some (f i) := by
    refine List.ext_getElem? fun i => ?_
    by_cases hi : i < n
    · have hi2 : i < l.length := by omega
      rw [List.getElem?_eq_getElem hi2, h2 i _ (List.getElem?_eq_getElem hi2)]
      simp [hi]
    · rw [List.getElem?_eq_none (by omega), List.getElem?_eq_none (by simp; omega)]
  rw [e, List.filterMap_map]
  exact congrFun (List.filterMap_eq_map (f := f)) _
theorem all_opt {α : Type} {n : Nat} {l : List (Option α)} {f : Nat → Option α} (h1 : l.length = n) (h2 : ∀ i o, l[i]? = some o → o = f i) : l.filterMap id = (List.range n).filterMap f := by
  have e : l = (List.range n).map f := by
    refine List.ext_getElem? fun i => ?_
    by_cases hi : i < n
    · have hi2 : i < l.length := by omega
      rw [List.getElem?_eq_getElem hi2, h2 i _ (List.getElem?_eq_getElem hi2)]
      simp [hi]
    · rw [List.getElem?_eq_none (by omega), List.getElem?_eq_none (by simp; omega)]
  rw [e, List.filterMap_map]
  rfl
/-- no test, something of which P i -/
theorem all_of {α : Type} {n : Nat} {l : List (Option α)} {P : Nat → α → Prop} (h1 : l.length = n) (h2 : ∀ i o, l[i]? = some o → ∃ a, o = some a ∧ P i a) : (l.filterMap id).length = n ∧ ∀ i a, (l.filterMap id)[i]? = some a → P i a := by
  have key : ∀ (l : List (Option α)) (P : Nat → α → Prop), (∀ i o, l[i]? = some o → ∃ a, o = some a ∧ P i a) → (l.filterMap id).length = l.length ∧ ∀ i a, (l.filterMap id)[i]? = some a → P i a := by
    intro l
    induction l with
    | nil => intro P _; exact ⟨rfl, fun i a e => by simp at e⟩
    | cons o l ih =>
      intro P h
      obtain ⟨a, rfl, pa⟩ := h 0 o rfl
      obtain ⟨h3, h4⟩ := ih (fun i => P (i + 1)) fun i o e => h (i + 1) o e
      have z : (some a :: l).filterMap id = a :: l.filterMap id := rfl
      rw [z]
      refine ⟨congrArg Nat.succ h3, fun i b e => ?_⟩
      cases i with
      | zero =>
        have e2 : a = b := Option.some.inj e
        rw [← e2]; exact pa
      | succ i => exact h4 i b e
  obtain ⟨h3, h4⟩ := key l P h2
  exact ⟨h3.trans h1, h4⟩

theorem mapRange {α β : Type} (f : α → β) (d : α) (l : List α) {n : Nat} (hn : n = l.length) : (List.range n).map (fun i => f (l.getD i d)) = l.map f := by
  subst hn
  refine List.ext_getElem (by simp) fun j h1 h2 => ?_
  have hj : j < l.length := by simpa using h2
  rw [List.getElem_map, List.getElem_map, List.getElem_range, List.getD_eq_getElem?_getD, List.getElem?_eq_getElem hj]
  rfl
/-- a comprehension without a test, what comes at turn i is f i, nothing changes -/
theorem lc_map {α : Type} {R : Rl α} [Rep R] {W : It} {n : Nat} {G : Hp → Prop} {Y : Nat → Hp → V → Hp → Prop} (w : Walk W n G Y) (f : Nat → α) {g : TG} {te : TE} {vs : List Nat} {σ : L2.St} {H1 : Hp} {Q : Addr → Hp → Prop}
    {M : MS} (hM : MIn M H1) (hn : n ≤ 1000000) (hG : ∀ H', Fr M0 H1 H' → G H')
    (hb : ∀ i M' H', i < n → Tr M H1 M' H' → Fr M0 H1 H' → MIn M' H' → ∀ Ky : V → Hp → Prop, (∀ y H4, Fr M0 H' H4 → R M' H4 y (f i) → Ky y H4) →
      ∀ x H'', Y i H' x H'' → g x (wipe σ vs) H'' fun σ2 H2 => wipe σ2 vs = wipe σ vs ∧ te σ2 H2 Ky)
    (k : ∀ (D : Addr) (H' : Hp), H1 D = none → Fr M0 H1 H' → rL R M H' (.ref D) ((List.range n).map f) → Q D H') :
    ∀ D, H1 D = none → ∃ W' : Nat → Nat → Hp → Prop, (∃ m, W' 0 m (upd H1 D (.lst []))) ∧ ∀ i m H, W' i m H →
      (W.stop i H ∧ Q D H) ∨ (W.go i H ∧ ∃ Nx : Hp → Prop, (∀ H', Nx H' → ∃ m', m' < m ∧ W' (i + 1) m' H') ∧ ∀ x H', W.yld i H x H' → g x (wipe σ vs) H' fun σ2 H2 => wipe σ2 vs = wipe σ vs ∧ tYes σ2 H2 fun b H3 =>
        if b = true then te σ2 H3 fun y H4 => ∃ acc, H4 D = some (.lst acc) ∧ acc.length < sizeLine ∧ Nx (upd H4 D (.lst (acc ++ [y]))) else Nx H3) :=
  lc_gen w (Mf := M0) (fun _ h => h.elim) jok0 hn hM trivial (fun i o => o = some (f i)) (fun _ H' _ fr => hG H' fr) (fun i M' H' hi t fr mi _ _ Ky Kn ky _ x H'' hy =>
      hb i M' H' hi t fr mi Ky (fun y H4 f4 r4 => ky y H4 (f i) rfl f4 trivial r4) x H'' hy)
    (fun D l H' hD ll lP fr _ r => k D H' hD fr (by rw [all_some ll lP] at r; exact r))
/-- .. with a test: what comes at turn i is f i, or nothing -/
theorem lc_sift {α : Type} {R : Rl α} [Rep R] {W : It} {n : Nat} {G : Hp → Prop} {Y : Nat → Hp → V → Hp → Prop} (w : Walk W n G Y) (f : Nat → Option α) {g : TG} {tt : TT} {te : TE} {vs : List Nat} {σ : L2.St} {H1 : Hp} {Q : Addr → Hp → Prop}
    {M : MS} (hM : MIn M H1) (hn : n ≤ 1000000) (hG : ∀ H', Fr M0 H1 H' → G H')
    (hb : ∀ i M' H', i < n → Tr M H1 M' H' → Fr M0 H1 H' → MIn M' H' → ∀ (Ky : V → Hp → Prop) (Kn : Hp → Prop), (∀ y H4 a, f i = some a → Fr M0 H' H4 → R M' H4 y a → Ky y H4) → (∀ H3, f i = none → Fr M0 H' H3 → Kn H3) →
      ∀ x H'', Y i H' x H'' → g x (wipe σ vs) H'' fun σ2 H2 => wipe σ2 vs = wipe σ vs ∧ tt σ2 H2 fun b H3 => if b = true then te σ2 H3 Ky else Kn H3)
    (k : ∀ (D : Addr) (H' : Hp), H1 D = none → Fr M0 H1 H' → rL R M H' (.ref D) ((List.range n).filterMap f) → Q D H') :
    ∀ D, H1 D = none → ∃ W' : Nat → Nat → Hp → Prop, (∃ m, W' 0 m (upd H1 D (.lst []))) ∧ ∀ i m H, W' i m H →
      (W.stop i H ∧ Q D H) ∨ (W.go i H ∧ ∃ Nx : Hp → Prop, (∀ H', Nx H' → ∃ m', m' < m ∧ W' (i + 1) m' H') ∧ ∀ x H', W.yld i H x H' → g x (wipe σ vs) H' fun σ2 H2 => wipe σ2 vs = wipe σ vs ∧ tt σ2 H2 fun b H3 =>
        if b = true then te σ2 H3 fun y H4 => ∃ acc, H4 D = some (.lst acc) ∧ acc.length < sizeLine ∧ Nx (upd H4 D (.lst (acc ++ [y]))) else Nx H3) :=
  lc_gen w (Mf := M0) (fun _ h => h.elim) jok0 hn hM trivial (fun i o => o = f i) (fun _ H' _ fr => hG H' fr) (fun i M' H' hi t fr mi _ _ Ky Kn ky kn x H'' hy =>
      hb i M' H' hi t fr mi Ky Kn (fun y H4 a e f4 r4 => ky y H4 a e.symm f4 trivial r4) (fun H3 e f3 => kn H3 e.symm f3 trivial) x H'' hy)
    (fun D l H' hD ll lP fr _ r => k D H' hD fr (by rw [all_opt ll lP] at r; exact r))
/-! ### the draw -/
def spDraw : Sp := fun vs H Q _ => ∃ (w : Addr) (m : Int), vs = [.ref w, .int m] ∧ Well w H ∧ 0 < m ∧ m < 1073741824 ∧ ∀ r H', 0 ≤ r → r < m → Fr (only w) H H' → Well w H' → (∀ x, x ≠ w → H' x = H x) → Q (.int r) H'

/-! ### further rules -/
section
variable {X : Cx}
/-- xs + ys of lists, each to be read -/
def rCatL (K : PySem.W.Frag) : R2 := fun x y H Q => ∃ l b xs zs, x = .ref l ∧ y = .ref b ∧ SqL K H l xs ∧ SqL K H b zs ∧ xs.length + zs.length ≤ sizeLine ∧ ∀ p, H p = none → Q (.ref p) (upd H p (.lst (xs ++ zs)))
theorem op_catL : OpR X (binaryOp .Add) (rCatL X.K) := by
  intro pins s σ H x y v u Q I rx ry h
  obtain ⟨l, b, xs, zs, rfl, rfl, hH, hB, hz, q⟩ := h
  cases rx
  cases ry
  obtain ⟨its, r, ⟨⟨cls, dd, data, sl⟩, n, ho, hc, _, hd⟩, _⟩ := I.list hH
  obtain ⟨its2, r2, ⟨⟨cls2, dd2, data2, sl2⟩, n2, ho2, hc2, _, hd2⟩, _⟩ := I.list hB
  simp only at hc hd hc2 hd2
  subst hc hd hc2 hd2
  have h1 := r.length
  have h2 := r2.length
  have e : its.toArray ++ its2.toArray = (its ++ its2).toArray := by simp
  refine concat_meets ⟨_, ho, rfl⟩ ⟨_, ho2, rfl⟩ noFill_list_add seq_list_add PySem.F.slot_list_add PySem.F.entry_list_add (PySem.F.args_list_add_2 _ _) (list_addW l b its.toArray its2.toArray n n2 dd dd2 sl sl2 (by simp; omega)) ⟨ho, ho2, ?_⟩
  rw [e]
  exact ⟨.ref _, _, I.lnew (t' := s.toks) (r.append r2) (by rw [List.length_append]; omega), rfl, q _ I.fresh⟩
/-- sum of a tuple of ints; min, max: one of them -/
def rSumT (K : PySem.W.Frag) : List V → Hp → VK → Prop := fun vs H Q => ∃ (a : Addr) (ns : List Int), vs = [V.ref a] ∧ SqT K H a (ns.map V.int) ∧ Q (.int ns.sum) H
def rOneT (K : PySem.W.Frag) : List V → Hp → VK → Prop := fun vs H Q => ∃ (a : Addr) (ns : List Int), vs = [V.ref a] ∧ SqT K H a (ns.map V.int) ∧ ns ≠ [] ∧ ∀ m, m ∈ ns → Q (.int m) H
theorem cr_sumT (hc : X.calm = true) : CallR X (.builtin "sum") (rSumT X.K) := by
  intro pins s σ H vs us Q I r h
  obtain ⟨a, ns, rfl, hs, q⟩ := h
  obtain ⟨its, rv, hl, _⟩ := I.tuple hs
  rw [Vals.ref1 r]
  have hi := rv.ints
  obtain ⟨xs, e⟩ := hi.allInts.items
  have hn : numsOf (intItems xs).toList = ns := by rw [← e]; exact hi.numsOf
  rw [nums_intItems] at hn
  have hl2 : s.heap.IsTuple a its.toArray := hl
  rw [e] at hl2
  refine PySem.W.ktm_sumG (I.ok.hd hc) hl2 fun h' tk t' hk => ?_
  rw [PySem.preSum_eq, List.take_of_length_le (by simp), hn]
  exact ⟨.int _, H, I.kept hk, ⟨_, rfl⟩, q⟩
theorem dpInts {K : PySem.W.Frag} {H : Hp} : ∀ ns : List Int, DpAll K H (ns.map V.int) (ns.map PyData.int)
  | [] => .nil
  | n :: ns => .cons (.int n) (dpInts ns)
theorem alike_ints (ns : List Int) : PySem.W.AlikeAll (ns.map PyData.int) := by
  refine ⟨fun x hx y hy => ?_, fun x hx => ?_⟩
  · obtain ⟨i, _, rfl⟩ := List.mem_map.mp hx
    obtain ⟨j, _, rfl⟩ := List.mem_map.mp hy
    rfl
  · obtain ⟨i, _, rfl⟩ := List.mem_map.mp hx
    exact fun z => nomatch z
theorem depth_ints : ∀ ns : List Int, PyData.depthAll (ns.map PyData.int) = 0
  | [] => rfl
  | n :: ns => by
    show max 0 (PyData.depthAll (ns.map PyData.int)) = 0
    rw [depth_ints ns]; rfl
theorem cr_minT (hc : X.calm = true) (hu : X.A.units + 1 < cLine) : CallR X (.builtin "min") (rOneT X.K) := by
  intro pins s σ H vs us Q I r h
  obtain ⟨a, ns, rfl, hs, hne, q⟩ := h
  obtain ⟨its, rv, hl, _⟩ := I.tuple hs
  rw [Vals.ref1 r]
  obtain ⟨as, hr⟩ := Dp.readsAll I _ _ its (dpInts ns) rv
  cases ns with
  | nil => exact absurd rfl hne
  | cons n ns =>
    refine PySem.W.min_tuple_data (x := .int n) (xs := ns.map PyData.int) (as := as) (I.ok.hd hc) hl hr (alike_ints (n :: ns)) (by rw [show PyData.depthAll (.int n :: ns.map PyData.int) = 0 from depth_ints (n :: ns)]; omega) fun i v h' tk bs hv _ hk => ?_
    have hv2 : its[i]? = some v := by simpa using hv
    obtain ⟨hi, _⟩ := List.getElem?_eq_some_iff.mp hv2
    have hlen := rv.length
    have hx : ((n :: ns).map V.int)[i]? = some (V.int (n :: ns)[i]!) := by
      have : i < (n :: ns).length := by simpa using (by omega : i < ((n :: ns).map V.int).length)
      rw [List.getElem?_map, List.getElem?_eq_getElem this, getElem!_pos (n :: ns) i this]; rfl
    obtain ⟨u, e1, e2⟩ := rv.get hx
    rw [hv2] at e1
    cases e1
    refine ⟨.int _, H, I.kept hk, e2, q _ ?_⟩
    have : i < (n :: ns).length := by simpa using (by omega : i < ((n :: ns).map V.int).length)
    rw [getElem!_pos (n :: ns) i this]
    exact List.getElem_mem _
theorem cr_maxT (hc : X.calm = true) (hu : X.A.units + 1 < cLine) : CallR X (.builtin "max") (rOneT X.K) := by
  intro pins s σ H vs us Q I r h
  obtain ⟨a, ns, rfl, hs, hne, q⟩ := h
  obtain ⟨its, rv, hl, _⟩ := I.tuple hs
  rw [Vals.ref1 r]
  obtain ⟨as, hr⟩ := Dp.readsAll I _ _ its (dpInts ns) rv
  cases ns with
  | nil => exact absurd rfl hne
  | cons n ns =>
    refine PySem.W.max_tuple_data (x := .int n) (xs := ns.map PyData.int) (as := as) (I.ok.hd hc) hl hr (alike_ints (n :: ns)) (by rw [show PyData.depthAll (.int n :: ns.map PyData.int) = 0 from depth_ints (n :: ns)]; omega) fun i v h' tk bs hv _ hk => ?_
    have hv2 : its[i]? = some v := by simpa using hv
    obtain ⟨hi, _⟩ := List.getElem?_eq_some_iff.mp hv2
    have hlen := rv.length
    have hx : ((n :: ns).map V.int)[i]? = some (V.int (n :: ns)[i]!) := by
      have : i < (n :: ns).length := by simpa using (by omega : i < ((n :: ns).map V.int).length)
      rw [List.getElem?_map, List.getElem?_eq_getElem this, getElem!_pos (n :: ns) i this]; rfl
    obtain ⟨u, e1, e2⟩ := rv.get hx
    rw [hv2] at e1
    cases e1
    refine ⟨.int _, H, I.kept hk, e2, q _ ?_⟩
    have : i < (n :: ns).length := by simpa using (by omega : i < ((n :: ns).map V.int).length)
    rw [getElem!_pos (n :: ns) i this]
    exact List.getElem_mem _
end
end WD
namespace WD
open PySem PySem.Spec PyProof.Rows L2

/-! ### defs as callables -/
structure Cal (P : Program) (w : World) (K : PySem.W.Frag) (mg : Str → Option Value) (base : Heap) (CX : CXT) (k : Nat) (x : Str) (f : Addr) (sp : Sp) (dvs : List V) : Prop where
  ex : ∃ (fd : FuncData) (ps : List Str) (ds : List Value), FnOk P w K mg base CX k f fd ps sp ∧ Binds K fd ps ds ∧ Vals dvs ds
  kp : PySem.W.keepIn K (.ref f) = true
  g : mg x = some (.ref f)
structure Met (P : Program) (w : World) (K : PySem.W.Frag) (mg : Str → Option Value) (base : Heap) (CX : CXT) (k : Nat) (C : Addr) (m : Str) (f : Addr) (sp : Sp) (dvs : List V) : Prop where
  ex : ∃ (fd : FuncData) (ps : List Str) (ds : List Value), FnOk P w K mg base CX k f fd ps sp ∧ Binds K fd ps ds ∧ Vals dvs ds
  cl : Cls K C
  mt : Meth K C m f
structure Mak (P : Program) (w : World) (K : PySem.W.Frag) (mg : Str → Option Value) (base : Heap) (CX : CXT) (k : Nat) (x : Str) (C f : Addr) (sp : Sp) (dvs : List V) : Prop where
  ex : ∃ (fd : FuncData) (ps : List Str) (ds : List Value), FnOk P w K mg base CX k f fd ps sp ∧ Binds K fd ps ds ∧ Vals dvs ds
  made : Mk K C f
  g : mg x = some (.ref C)
section
variable {P : Program} {w : World} {K : PySem.W.Frag} {mg : Str → Option Value} {base : Heap} {x qual : Str} {params : Arguments} {body : List Stmt} {scope : Scope} {f C : Addr} {fd : FuncData} {N ps : List Str} {k : Nat} {sp : Sp}
theorem fn0_of (F : FunD K x qual params body scope [] [] f fd) (S : FnScope N ps scope) (len : ∀ vs H Q E, sp vs H Q E → vs.length = ps.length)
    (bind : ∀ (kV doc pm : Value) (an : Option Addr) (cdv ct : Value) (us : List Value), us.length = ps.length → bindArgs (PySem.W.fnOf x qual params body scope .none kV doc pm an cdv ct) ⟨us, []⟩ = pure (ps.zip us))
    (hbody : ∀ (cdv : Value) (A : Around) (outer : List Env) (s : Shared) (H : Hp) (vs : List V) (Q : VK) (E : XK), Room k (A.deeper (envOfC qual scope s.heap.objs.size f cdv)) → sp vs H Q E →
      ∃ t, PSs (cxOf CX0 P w K mg base N qual scope f cdv A outer s H E).nox body t ∧ t { nx := fun _ H' => Q .non H', rt := Q } (start N vs) H) :
    ∃ (fd : FuncData) (ps : List Str) (ds : List Value), FnOk P w K mg base CX0 (k + 1) f fd ps sp ∧ Binds K fd ps ds ∧ Vals [] ds :=
  ⟨fd, ps, [], F.ok S len fun cdv A outer s H vs Q E hr h => by
    obtain ⟨t, h1, h2⟩ := hbody cdv A outer s H vs Q E hr h
    exact ⟨t, h1.nox, h2⟩, F.bindsN bind, .nil⟩
theorem fnX_of (F : FunD K x qual params body scope [] [] f fd) (S : FnScope N ps scope) (len : ∀ vs H Q E, sp vs H Q E → vs.length = ps.length)
    (bind : ∀ (kV doc pm : Value) (an : Option Addr) (cdv ct : Value) (us : List Value), us.length = ps.length → bindArgs (PySem.W.fnOf x qual params body scope .none kV doc pm an cdv ct) ⟨us, []⟩ = pure (ps.zip us))
    (hbody : ∀ (cdv : Value) (A : Around) (outer : List Env) (s : Shared) (H : Hp) (vs : List V) (Q : VK) (E : XK), Room k (A.deeper (envOfC qual scope s.heap.objs.size f cdv)) → sp vs H Q E →
      ∃ t, PSs (cxOf (L2.CX P w) P w K mg base N qual scope f cdv A outer s H E) body t ∧ t { nx := fun _ H' => Q .non H', rt := Q } (start N vs) H) :
    ∃ (fd : FuncData) (ps : List Str) (ds : List Value), FnOk P w K mg base (L2.CX P w) (k + 1) f fd ps sp ∧ Binds K fd ps ds ∧ Vals [] ds :=
  ⟨fd, ps, [], F.ok S len hbody, F.bindsN bind, .nil⟩
end
section
variable {X : Cx} {k j : Nat} {x : Str} {f C : Addr} {sp : Sp} {dvs : List V} {p pos apos : Pos} {e o : Expr} {es : List Expr} {t : TA} {ta : TE} {m : Str}
theorem pe_cal (c : Cal X.prog X.w X.K X.mg X.base CX0 k x f sp dvs) (hr : Room k X.A) (hg : Gl X x) (ha : PA X (e :: es) t) (hdb : (x == ("__debug__" : Str)) = false := by decide)
    (he : starEach (e :: es) X.env = (false, eval e X.env) :: starEach es X.env := by rfl) (hpl : (backTo pos (starEach es X.env)).any (·.1) = false := by rfl) : PE X (.Call (.Name x p) (e :: es) [] pos) (tCall sp dvs E0 t) := by
  obtain ⟨fd, ps, ds, h1, h2, h3⟩ := c.ex
  exact pe_call h1 hr hg c.g c.kp h2 h3 pass0 ha hdb he hpl
theorem pe_cal0 (c : Cal X.prog X.w X.K X.mg X.base CX0 k x f sp dvs) (hr : Room k X.A) (hg : Gl X x) (hdb : (x == ("__debug__" : Str)) = false := by decide) : PE X (.Call (.Name x p) [] [] pos) (tCall sp dvs E0 tNil) := by
  obtain ⟨fd, ps, ds, h1, h2, h3⟩ := c.ex
  exact pe_call0 h1 hr hg c.g c.kp h2 h3 pass0 hdb
theorem pe_mak (c : Mak X.prog X.w X.K X.mg X.base CX0 k x C f sp dvs) (hr : Room (k + 1) X.A) (hg : Gl X x) (ha : PA X (e :: es) t) (hdb : (x == ("__debug__" : Str)) = false := by decide)
    (he : starEach (e :: es) X.env = (false, eval e X.env) :: starEach es X.env := by rfl) (hpl : (backTo pos (starEach es X.env)).any (·.1) = false := by rfl) : PE X (.Call (.Name x p) (e :: es) [] pos) (tMake C sp dvs E0 t) := by
  obtain ⟨fd, ps, ds, h1, h2, h3⟩ := c.ex
  exact pe_make c.made h1 hr hg c.g h2 h3 pass0 ha hdb he hpl
theorem pe_met {pl : Sem Bool} (c : Met X.prog X.w X.K X.mg X.base CX0 k C m f sp dvs) (hr : Room k X.A) (he : PE X o ta) (ha : PA X (e :: es) t)
    (hst : starEach (e :: es) X.env = (false, eval e X.env) :: starEach es X.env := by rfl) (hpl : (backTo pos (starEach es X.env)).any (·.1) = false := by rfl)
    (ht : eval (.Call (.Attribute o m apos) (e :: es) [] pos) X.env = (do
      let ov ← eval o X.env
      standAt apos.atName
      let (f, first) ← holding [ov] (getMethod ov m pl)
      callWith pos f first (backTo pos (starEach (e :: es) X.env)) (backToKw pos (keywordEach [] X.env))) := by rfl) : PE X (.Call (.Attribute o m apos) (e :: es) [] pos) (tMeth C m sp dvs E0 ta t) := by
  obtain ⟨fd, ps, ds, h1, h2, h3⟩ := c.ex
  exact pe_meth he c.cl c.mt h1 hr h2 h3 pass0 ha hst hpl ht
theorem pe_met0 {pl : Sem Bool} (c : Met X.prog X.w X.K X.mg X.base CX0 k C m f sp dvs) (hr : Room k X.A) (he : PE X o ta)
    (ht : eval (.Call (.Attribute o m apos) [] [] pos) X.env = (do
      let ov ← eval o X.env
      standAt apos.atName
      let (f, first) ← holding [ov] (getMethod ov m pl)
      callWith pos f first (backTo pos (starEach [] X.env)) (backToKw pos (keywordEach [] X.env))) := by rfl) : PE X (.Call (.Attribute o m apos) [] [] pos) (tMeth C m sp dvs E0 ta tNil) := by
  obtain ⟨fd, ps, ds, h1, h2, h3⟩ := c.ex
  exact pe_meth0 he c.cl c.mt h1 hr h2 h3 pass0 ht
theorem pe_gi {x : Str} {i : Int} {pos : Pos} (hg : Gl X x) (h : ∃ t, X.mg x = some (.int i t)) (hd : (x == ("__debug__" : Str)) = false := by decide) : PE X (.Name x pos) (tC (.int i)) := by
  obtain ⟨t, e⟩ := h
  exact pe_glob hg e ⟨t, rfl⟩ hd
theorem pe_gs {x z : Str} {pos : Pos} (hg : Gl X x) (h : ∃ t, X.mg x = some (.str z t)) (hd : (x == ("__debug__" : Str)) = false := by decide) : PE X (.Name x pos) (tC (.str z)) := by
  obtain ⟨t, e⟩ := h
  exact pe_glob hg e ⟨t, rfl⟩ hd
end
theorem iteD {c A B : Prop} {_ : Decidable c} (h1 : c → A) (h2 : ¬ c → B) : if decide c = true then A else B := by
  by_cases h : c
  · rw [decide_eq_true h]; exact iteT (h1 h)
  · rw [decide_eq_false h]; exact iteF (h2 h)
theorem iteN {c A B : Prop} {_ : Decidable c} (h1 : ¬ c → A) (h2 : c → B) : if (!decide c) = true then A else B := by
  by_cases h : c
  · rw [decide_eq_true h]; exact iteF (h2 h)
  · rw [decide_eq_false h]; exact iteT (h1 h)
theorem huD {k : Nat} {A : Around} (hr : Room k A) : A.units + 1 < cLine := hu_of hr
theorem hu65 {k : Nat} {A : Around} (hr : Room k A) : A.units + 65 < cLine := by have := hr.un; omega
theorem bt_len : bootBuiltins "len" = some (.builtin "len") := by decide +kernel
theorem bt_isinstance : bootBuiltins "isinstance" = some (.builtin "isinstance") := by decide +kernel
theorem bt_all : bootBuiltins "all" = some (.builtin "all") := by decide +kernel
theorem bt_any : bootBuiltins "any" = some (.builtin "any") := by decide +kernel
theorem bt_sum : bootBuiltins "sum" = some (.builtin "sum") := by decide +kernel
theorem bt_min : bootBuiltins "min" = some (.builtin "min") := by decide +kernel
theorem bt_max : bootBuiltins "max" = some (.builtin "max") := by decide +kernel
theorem bt_sorted : bootBuiltins "sorted" = some (.builtin "sorted") := by decide +kernel
theorem bt_repr : bootBuiltins "repr" = some (.builtin "repr") := by decide +kernel
theorem bt_int : bootBuiltins "int" = some (.type "int") := by decide +kernel
theorem bt_bool : bootBuiltins "bool" = some (.type "bool") := by decide +kernel
theorem bt_str : bootBuiltins "str" = some (.type "str") := by decide +kernel
theorem bt_tuple : bootBuiltins "tuple" = some (.type "tuple") := by decide +kernel
theorem bt_list : bootBuiltins "list" = some (.type "list") := by decide +kernel
theorem bt_dict : bootBuiltins "dict" = some (.type "dict") := by decide +kernel
theorem bt_set : bootBuiltins "set" = some (.type "set") := by decide +kernel
theorem bt_ValueError : bootBuiltins "ValueError" = some (.type "ValueError") := by decide +kernel
end WD
namespace WD
open PySem PySem.Spec PyProof.Rows L2
section
variable {X : Cx} {e : Expr} {te : TE} {p apos cpos pos : Pos}
/-- list(e.values()) -/
def tListVals (te : TE) : TE := fun σ H Q => te σ H fun x H1 => ∃ (d : Addr) (kvs : List (Key × V)), x = .ref d ∧ H1 d = some (.dK kvs) ∧ ∀ q, H1 q = none → Q (.ref q) (upd H1 q (.lst (kvs.map (·.2))))
theorem pe_listVals (hc : X.calm = true) (hg : Gl X "list") (hm : X.mg "list" = none) (he : PE X e te) (hbase : attributeBase e "values" X.env (eval e X.env) = eval e X.env := by rfl) (hline : (apos.endLine == cpos.line) = true := by rfl)
    (hs : starEach [.Call (.Attribute e "values" apos) [] [] cpos] X.env = (false, eval (.Call (.Attribute e "values" apos) [] [] cpos) X.env) :: starEach [] X.env := by rfl) :
    PE X (.Call (.Name "list" p) [.Call (.Attribute e "values" apos) [] [] cpos] [] pos) (tListVals te) := by
  refine ⟨fun pins s σ H Q I hq => ?_⟩
  refine wpAny_Call_Name_kw (ld_blt I hg hm bt_list ?_)
  refine PyProof.Rows.callWith_type1 ?_ hs rfl
  rw [hs]
  show wpAny _ _ (spliced ((false, eval (.Call (.Attribute e "values" apos) [] [] cpos) X.env) :: backTo pos (starEach [] X.env))) _ _ s
  refine Calls.spliced_cons ?_
  refine wpAny_Call_method (T := "dict") (id := "dict.values") hbase rfl hline F.plainAttrs_dict F.slot_dict_values F.type_dict_values (thn (he.run pins s σ H _ I hq) fun u s1 ⟨x, H1, I1, rx, d, kvs, ex, hd, q⟩ => ?_)
  subst ex
  obtain rfl : u = Value.ref d := rx
  obtain ⟨hz, hs0, vs, kv, hdo⟩ := I1.hok d _ hd
  obtain ⟨ep, hat⟩ := hdo.dictAt
  have lk : kvs.length = vs.length := Paired.length kv
  have I2 : Inv X pins σ H1 { s1 with heap := s1.heap.push { cls := .type "dict_values", data := .fields #[.ref d] } } := I1.kept (t' := s1.toks) fun b ob q => Heap.get?_push_of_some _ q
  refine ⟨hdo.typeIs, hdo.mapOf.noDict, ?_⟩
  show wpAny _ _ (callWith cpos (.builtin "dict.values") [.ref d] [] []) _ X.xe s1
  refine method_meetsIn F.slot_dict_values F.entry_dict_values rfl (PySem.evalArgs_none ⟨rfl, hdo.typeIs, F.args_dict_values_1 _, _, meets_dict_values (mixKind X.prog X.w) d hs0, ⟨vs, hdo⟩, ?_⟩)
  refine Calls.spliced_nil ?_
  refine PySem.W.kdl_call (PySem.W.kdl_values (knd := mixKind X.prog X.w) (kvs := vs) (ep := ep)) (I1.ok.hd hc) ⟨⟨_, Heap.get?_push_size _ rfl, rfl, rfl⟩, hat.push _⟩ (by omega) fun h' tk acc c hkeep hS hacc => ?_
  refine ⟨.ref _, _, I2.laid hkeep (Nat.le_refl _) (show ObjOk X.prog X.w _ _ _ (.lst (kvs.map (·.2))) from ⟨by rw [List.length_map]; exact hz, acc.toList, c, ?_, by rw [Array.toArray_toList]; exact hS⟩), rfl, q _ (I2.hok.fresh (Nat.le_refl _))⟩
  have el : acc.toList.length = acc.size := by simp
  refine vals_of_at (by rw [List.length_map, el, hacc.1, lk]) fun j x w h1 h2 => ?_
  obtain ⟨k, hky⟩ := hacc.2 j w (by rw [← Array.getElem?_toList]; exact h2)
  rw [List.getElem?_map] at h1
  obtain ⟨kx, e1, e2⟩ := Option.map_eq_some_iff.mp h1
  obtain ⟨y, g1, g2, g3⟩ := LiI.paired_get kv e1
  rw [hky] at g1
  cases g1
  rw [← e2]
  exact g3
end
end WD
namespace WD
open PySem PySem.Spec PyProof.Rows L2

/-! ### houses: data -/
def SMALL : Str := "abcdefghijklmnopqrstuvwxyz"
def nameOk (z : Str) : Bool := decide (2 ≤ z.length) && (decide (z.length ≤ 8) && z.cps.toList.all fun c => decide (c ∈ SMALL.cps.toList))
abbrev Deed := Str × Int × List Int
def inR (n x : Int) : Bool := decide (0 ≤ x) && decide (x < n)
def rowOk (ns : List Int) (wide size : Int) : Bool := decide ((ns.length : Int) = wide) && ns.all (inR size)
def deedOk (d : Deed) (n : Int) : Bool := nameOk d.1 && (decide (0 ≤ d.2.1) && (decide (d.2.1 ≤ 3) && rowOk d.2.2 (n ^ d.2.1.toNat) n))
abbrev rD : Rl Deed := rP3 rS rI (rT rI)
abbrev Hs := Int × List Deed
def kvsOf : List Deed → List V → List (Key × V)
  | d :: ds, v :: vs => (Sum.inr d.1, v) :: kvsOf ds vs
  | _, _ => []
def rH (C : Addr) : Rl Hs := fun M H v h => ∃ a dx d vs, v = .ref a ∧ ¬ M a ∧ ¬ M dx ∧ ¬ M d ∧ H a = some (.ins C dx [("size", .int h.1), ("by_name", .ref d)]) ∧ H dx = some (.own a) ∧ H d = some (.dK (kvsOf h.2 vs)) ∧ All2 (rD M H) vs h.2
instance {C : Addr} : Rep (rH C) := ⟨fun f ⟨a, dx, d, vs, e, n1, n2, n3, h1, h2, h3, g⟩ => ⟨a, dx, d, vs, e, n1, n2, n3, f.keep _ _ n1 h1, f.keep _ _ n2 h2, f.keep _ _ n3 h3, g.imp fun _ _ x => Rep.st f x⟩,
  fun s ⟨a, dx, d, vs, e, n1, n2, n3, h1, h2, h3, g⟩ => ⟨a, dx, d, vs, e, fun z => n1 (s a z), fun z => n2 (s _ z), fun z => n3 (s _ z), h1, h2, h3, g.imp fun _ _ x => Rep.wk s x⟩,
  fun hD ⟨a, dx, d, vs, e, n1, n2, n3, h1, h2, h3, g⟩ => ⟨a, dx, d, vs, e, ad_ne h1 n1 hD, ad_ne h2 n2 hD, ad_ne h3 n3 hD, h1, h2, h3, g.imp fun _ _ x => Rep.ad hD x⟩⟩
/-- whether a value is a whole number -/
inductive Whole (K : PySem.W.Frag) (H : Hp) : V → Bool → Prop
  | int (i : Int) : Whole K H (.int i) true
  | bl (b : Bool) : Whole K H (.bl b) false
  | oth {v : V} {t : String} (h : TyX K H v (.type t)) (e : kitB t "int" = some false) : Whole K H v false
/-- whether a value is a thing of n -/
inductive Thing (K : PySem.W.Frag) (H : Hp) (n : Int) : V → Bool → Prop
  | int (i : Int) : Thing K H n (.int i) (inR n i)
  | bl (b : Bool) : Thing K H n (.bl b) false
  | oth {v : V} {t : String} (h : TyX K H v (.type t)) (e : kitB t "int" = some false) : Thing K H n v false
/-- a right house -/
structure HsOk (h : Hs) : Prop where
  lo : 1 ≤ h.1
  hi : h.1 ≤ 9
  few : h.2.length ≤ 6
  ok : ∀ d ∈ h.2, deedOk d h.1 = true
  nd : (h.2.map (·.1)).Nodup
theorem kvs_vals : ∀ {ds : List Deed} {vs : List V}, vs.length = ds.length → (kvsOf ds vs).map (·.2) = vs
  | [], [], _ => rfl
  | _ :: ds, v :: vs, h => by
    show v :: (kvsOf ds vs).map (·.2) = v :: vs
    rw [kvs_vals (Nat.succ.inj h)]
  | [], _ :: _, h => by cases h
  | _ :: _, [], h => by cases h
theorem kvs_len : ∀ {ds : List Deed} {vs : List V}, vs.length = ds.length → (kvsOf ds vs).length = ds.length
  | [], [], _ => rfl
  | _ :: ds, v :: vs, h => congrArg Nat.succ (kvs_len (Nat.succ.inj h))
  | [], _ :: _, h => by cases h
  | _ :: _, [], h => by cases h
theorem kvs_snoc {d : Deed} {v : V} : ∀ {ds : List Deed} {vs : List V}, vs.length = ds.length → kvsOf (ds ++ [d]) (vs ++ [v]) = kvsOf ds vs ++ [(Sum.inr d.1, v)]
  | [], [], _ => rfl
  | e :: ds, u :: vs, h => by
    show (Sum.inr e.1, u) :: kvsOf (ds ++ [d]) (vs ++ [v]) = (Sum.inr e.1, u) :: (kvsOf ds vs ++ [(Sum.inr d.1, v)])
    rw [kvs_snoc (Nat.succ.inj h)]
  | [], _ :: _, h => by cases h
  | _ :: _, [], h => by cases h
theorem kvs_none {z : Str} : ∀ {ds : List Deed} {vs : List V}, z ∉ ds.map (·.1) → valV (kvsOf ds vs) (Sum.inr z) = none
  | [], _, _ => rfl
  | _ :: _, [], _ => rfl
  | d :: ds, v :: vs, h => by
    have h1 : ¬ ((Sum.inr d.1 : Key) = Sum.inr z) := fun e => h (List.mem_cons.mpr (.inl (Sum.inr.inj e).symm))
    show valV ((Sum.inr d.1, v) :: kvsOf ds vs) (Sum.inr z) = none
    rw [valV_neg h1]
    exact kvs_none fun m => h (List.mem_cons_of_mem _ m)
theorem kvs_some {z : Str} : ∀ {ds : List Deed} {vs : List V}, vs.length = ds.length → z ∈ ds.map (·.1) → ∃ (i : Nat) (d : Deed) (v : V), ds[i]? = some d ∧ vs[i]? = some v ∧ d.1 = z ∧ valV (kvsOf ds vs) (Sum.inr z) = some v
  | [], _, _, h => by simp at h
  | _ :: _, [], h, _ => by cases h
  | d :: ds, v :: vs, l, h => by
    by_cases e : d.1 = z
    · exact ⟨0, d, v, rfl, rfl, e, valV_pos (p := ((Sum.inr d.1 : Key), v)) (by rw [e])⟩
    · have h2 : z ∈ ds.map (·.1) := (List.mem_cons.mp h).elim (fun q => absurd q.symm e) id
      obtain ⟨i, d', v', h3, h4, h5, h6⟩ := kvs_some (Nat.succ.inj l) h2
      refine ⟨i + 1, d', v', h3, h4, h5, ?_⟩
      show valV ((Sum.inr d.1, v) :: kvsOf ds vs) (Sum.inr z) = some v'
      rw [valV_neg (fun q => e (Sum.inr.inj q))]
      exact h6
theorem put_none {kvs : List (Key × V)} {k : Key} {v : V} (h : valV kvs k = none) : putK kvs k v = kvs ++ [(k, v)] := by
  unfold putK
  rw [valV_any, h]
  rfl
/-- what a deed's size tells -/
theorem deedOk_name {d : Deed} {n : Int} (h : deedOk d n = true) : nameOk d.1 = true ∧ 0 ≤ d.2.1 ∧ d.2.1 ≤ 3 ∧ rowOk d.2.2 (n ^ d.2.1.toNat) n = true := by
  unfold deedOk at h
  simp only [Bool.and_eq_true, decide_eq_true_eq] at h
  exact ⟨h.1, h.2.1, h.2.2.1, h.2.2.2⟩
theorem nameOk_len {z : Str} (h : nameOk z = true) : z.length ≤ 8 := by
  unfold nameOk at h
  simp only [Bool.and_eq_true, decide_eq_true_eq] at h
  exact h.2.1
theorem rowOk_len {ns : List Int} {m n : Int} (h : rowOk ns m n = true) : (ns.length : Int) = m := by
  unfold rowOk at h
  simp only [Bool.and_eq_true, decide_eq_true_eq] at h
  exact h.1
theorem pow_le3 {n : Int} {k : Nat} (h1 : 1 ≤ n) (h9 : n ≤ 9) (hk : k ≤ 3) : n ^ k ≤ 729 := by
  have h : k = 0 ∨ k = 1 ∨ k = 2 ∨ k = 3 := by omega
  have hc : n = 1 ∨ n = 2 ∨ n = 3 ∨ n = 4 ∨ n = 5 ∨ n = 6 ∨ n = 7 ∨ n = 8 ∨ n = 9 := by omega
  rcases hc with e | e | e | e | e | e | e | e | e <;> subst e <;> (rcases h with e | e | e | e <;> subst e <;> decide)
theorem HsOk.deed {h : Hs} (k : HsOk h) {d : Deed} (m : d ∈ h.2) : d.1.length ≤ 8 ∧ d.2.2.length ≤ 729 ∧ 0 ≤ d.2.1 ∧ d.2.1 ≤ 3 := by
  obtain ⟨h1, h2, h3, h4⟩ := deedOk_name (k.ok d m)
  have e := rowOk_len h4
  have := pow_le3 (k := d.2.1.toNat) k.lo k.hi (by omega)
  exact ⟨nameOk_len h1, by omega, h2, h3⟩
/-- House(size, deeds), where it is one -/
def spHouse (C : Addr) : Sp := fun vs H Q _ => ∃ (M : MS) (x dx l : Addr) (n : Int) (ds : List Deed) (dvs : List V), vs = [.ref x, .int n, .ref l] ∧ H x = some (.ins C dx []) ∧ H dx = some (.own x) ∧ H l = some (.lst dvs) ∧ All2 (rD M H) dvs ds ∧ HsOk (n, ds) ∧ MIn M H ∧ ¬ M x ∧
  ∀ (H' : Hp) (d : Addr), Fr (only x) H H' → H d = none → H' x = some (.ins C dx [("size", .int n), ("by_name", .ref d)]) → H' d = some (.dK (kvsOf ds dvs)) → Q .non H'
theorem make_house {C : Addr} {M : MS} {H : Hp} {v : V} {n : Int} {ds : List Deed} {Q : Addr → Hp → Prop} {E : XK} (hM : MIn M H) (hl : rL rD M H v ds) (hk : HsOk (n, ds)) (k : ∀ (a : Addr) (H' : Hp), H a = none → Fr M0 H H' → rH C M H' (.ref a) (n, ds) → Q a H') :
    ∀ x dx, H x = none → H dx = none → dx ≠ x → spHouse C (.ref x :: ([.int n, v] ++ [])) (upd (upd H dx (.own x)) x (.ins C dx [])) (fun u H2 => u = .non ∧ Q x H2) E := by
  intro x dx nx ndx nex
  obtain ⟨l, dvs, rfl, nl, hl1, hl2⟩ := hl
  have f1 : Fr M0 H (upd (upd H dx (.own x)) x (.ins C dx [])) := (Fr.new ndx).mutNew nx
  have e1 : (upd (upd H dx (.own x)) x (.ins C dx [])) dx = some (.own x) := by rw [upd_ne nex, upd_same]
  refine ⟨M, x, dx, l, n, ds, dvs, rfl, upd_same, e1, f1.keep _ _ (fun z => z) hl1, hl2.imp fun _ _ z => Rep.st (f1.mono fun _ z => z.elim) z, hk, hM.to f1, hM.no nx, fun H' d f hd h1 h2 => ⟨rfl, ?_⟩⟩
  have nd : H d = none := f1.dom d hd
  have f2 : Fr M0 H H' := ⟨fun a o _ e => f.keep a o (fun z => by rw [show a = x from z, nx] at e; cases e) (f1.keep a o (fun z => z) e), fun a e => f1.dom a (f.dom a e)⟩
  refine k x H' nx f2 ⟨x, dx, d, dvs, rfl, hM.no nx, hM.no ndx, hM.no nd, h1, f.keep _ _ nex e1, h2, ?_⟩
  exact hl2.imp fun _ _ z => Rep.st (f2.mono fun _ z => z.elim) z
theorem nodup_of_map {α β : Type} {f : α → β} : ∀ {l : List α}, (l.map f).Nodup → l.Nodup
  | [], _ => List.nodup_nil
  | a :: l, h => by
    rw [List.map_cons, List.nodup_cons] at h
    exact List.nodup_cons.mpr ⟨fun m => h.1 (List.mem_map_of_mem m), nodup_of_map h.2⟩
def hdOf (d : Deed) : Str × Int := (d.1, d.2.1)
end WD
/-! rules with the written part named: within a comprehension's block the reading must not hang on the block -/
namespace WD
open PySem PySem.Spec PyProof.Rows L2
section
variable {X : Cx} (K : PySem.W.Frag)

theorem k_ix_list  (h : X.K = K := by rfl) : IxR X (rIxL K) := by
  subst h
  exact ix_list 
theorem k_ix_tup  (h : X.K = K := by rfl) : IxR X (rIxT K) := by
  subst h
  exact ix_tup 
theorem k_sl_list  (h : X.K = K := by rfl) : SlR X (rSlL K) := by
  subst h
  exact sl_list 
theorem k_sl_tupA  (h : X.K = K := by rfl) : SlR X (rSlA K) := by
  subst h
  exact sl_tupA 
theorem k_op_catA  (h : X.K = K := by rfl) : OpR X (binaryOp .Add) (rCatA K) := by
  subst h
  exact op_catA 
theorem k_op_catL  (h : X.K = K := by rfl) : OpR X (binaryOp .Add) (rCatL K) := by
  subst h
  exact op_catL 
theorem k_op_eqD (hu : X.A.units + 64 < cLine) (h : X.K = K := by rfl) : OpR X (compareOp .Eq) (rEqD K) := by
  subst h
  exact op_eqD hu
theorem k_op_neD (hu : X.A.units + 64 < cLine) (h : X.K = K := by rfl) : OpR X (compareOp .NotEq) (rNeD K) := by
  subst h
  exact op_neD hu
theorem k_op_inD (hu : X.A.units + 65 < cLine) (h : X.K = K := by rfl) : OpR X (compareOp .In) (rInD K) := by
  subst h
  exact op_inD hu
theorem k_op_notInD (hu : X.A.units + 65 < cLine) (h : X.K = K := by rfl) : OpR X (compareOp .NotIn) (rNotInD K) := by
  subst h
  exact op_notInD hu
theorem k_op_in_seq  (h : X.K = K := by rfl) : OpR X (compareOp .In) (rIn K false) := by
  subst h
  exact op_in_seq 
theorem k_op_notIn_seq  (h : X.K = K := by rfl) : OpR X (compareOp .NotIn) (rIn K true) := by
  subst h
  exact op_notIn_seq 
theorem k_op_ltT (hu : X.A.units < cLine) (h : X.K = K := by rfl) : OpR X (compareOp .Lt) (rLtT K) := by
  subst h
  exact op_ltT hu
theorem k_cr_all (hc : X.calm = true) (h : X.K = K := by rfl) : CallR X (.builtin "all") (rAll K) := by
  subst h
  exact cr_all hc
theorem k_cr_any (hc : X.calm = true) (h : X.K = K := by rfl) : CallR X (.builtin "any") (rAny K) := by
  subst h
  exact cr_any hc
theorem k_cr_sum (hc : X.calm = true) (h : X.K = K := by rfl) : CallR X (.builtin "sum") (rSum K) := by
  subst h
  exact cr_sum hc
theorem k_cr_min (hc : X.calm = true) (h : X.K = K := by rfl) : CallR X (.builtin "min") (rMin K) := by
  subst h
  exact cr_min hc
theorem k_cr_max (hc : X.calm = true) (h : X.K = K := by rfl) : CallR X (.builtin "max") (rMax K) := by
  subst h
  exact cr_max hc
theorem k_cr_sumT (hc : X.calm = true) (h : X.K = K := by rfl) : CallR X (.builtin "sum") (rSumT K) := by
  subst h
  exact cr_sumT hc
theorem k_cr_minT (hc : X.calm = true) (hu : X.A.units + 1 < cLine) (h : X.K = K := by rfl) : CallR X (.builtin "min") (rOneT K) := by
  subst h
  exact cr_minT hc hu
theorem k_cr_maxT (hc : X.calm = true) (hu : X.A.units + 1 < cLine) (h : X.K = K := by rfl) : CallR X (.builtin "max") (rOneT K) := by
  subst h
  exact cr_maxT hc hu
theorem k_call_isi  (h : X.K = K := by rfl) : CallR X (.builtin "isinstance") (rIsi K) := by
  subst h
  exact call_isi 
theorem k_call_isiT  (h : X.K = K := by rfl) : CallR X (.builtin "isinstance") (rIsiT K) := by
  subst h
  exact call_isiT 
theorem k_mt_index  (h : X.K = K := by rfl) : MtR X "list.index" (rIndex K) := by
  subst h
  exact mt_index 
theorem k_mt_indexD (hu : X.A.units + 65 < cLine) (h : X.K = K := by rfl) : MtR X "list.index" (rIndexD K) := by
  subst h
  exact mt_indexD hu
theorem k_call_len_seq  (h : X.K = K := by rfl) : CallR X (.builtin "len") (fun xs H Q => ∃ p ys, xs = [.ref p] ∧ (SqL K H p ys ∨ SqT K H p ys) ∧ Q (.int ys.length) H) := by
  subst h
  exact call_len_seq 
theorem k_call_list_of  (h : X.K = K := by rfl) : CallR X (.type "list") (fun xs H Q => ∃ p ys, xs = [.ref p] ∧ (SqL K H p ys ∨ SqT K H p ys) ∧ ∀ l, H l = none → Q (.ref l) (upd H l (.lst ys))) := by
  subst h
  exact call_list_of 
theorem k_call_dictP (hc : X.calm = true) (h : X.K = K := by rfl) : CallR X (.type "dict") (fun xs H Q => ∃ (a : Addr) (ps : List Addr) (kvs : List (Key × V)), xs = [.ref a] ∧ SqL K H a (ps.map V.ref) ∧ Paired (fun p kv => SqT K H p [kV kv.1, kv.2]) ps kvs ∧ ∀ p, H p = none → Q (.ref p) (upd H p (.dK (mergeK [] kvs)))) := by
  subst h
  exact call_dictP hc

variable {tg l e o : Expr} {es elts : List Expr} {tl te to ta : TE} {t : TA} {p pos apos cpos tpos : Pos} {kk n : Nat} {ts : TGs} {f : Str}
theorem k_pi_list (hl : PE X l tl) (h : X.K = K := by rfl) : PI X tg l (iList K tl) := by subst h; exact pi_list hl
theorem k_pi_tup (hl : PE X l tl) (h : X.K = K := by rfl) : PI X tg l (iTup K tl) := by subst h; exact pi_tup hl
theorem k_pi_enum (hg : Gl X "enumerate") (hm : X.mg "enumerate" = none) (ha : PA X [e] t) (hs : starEach [e] X.env = [(false, eval e X.env)] := by rfl) (h : X.K = K := by rfl) :
    PI X (.Tuple elts kk tpos) (.Call (.Name "enumerate" p) [e] [] pos) (iEnum K t) := by subst h; exact pi_enum hg hm ha hs
theorem k_pi_zipA {e2 : Expr} (hg : Gl X "zip") (hm : X.mg "zip" = none) (ha : PA X [e, e2] t)
    (hs : starEach [e, e2] X.env = (false, eval e X.env) :: starEach [e2] X.env := by rfl) (hpl : (backTo pos (starEach [e2] X.env)).any (·.1) = false := by rfl) (h : X.K = K := by rfl) :
    PI X (.Tuple elts kk tpos) (.Call (.Name "zip" p) [e, e2] [] pos) (RZ.iZipA K t) := by subst h; exact RZ.pi_zipA hg hm ha hs hpl
theorem k_pe_fld (he : PE X e ta) (hb : attributeBase e f X.env (eval e X.env) = eval e X.env := by rfl) (h : X.K = K := by rfl) : PE X (.Attribute e f pos) (tFld K ta f) := by subst h; exact pe_fld he hb
theorem k_ps_fld {value : Expr} {tv : TE} {pos' : Pos} (ha : PE X o ta) (hv : PE X value tv) (hs : swapsWith value (some (.Attribute o f pos')) pos.line X.env = pure false := by rfl) (h : X.K = K := by rfl) : PS X (.Assign [.Attribute o f pos'] value pos) (sFld K ta tv f) := by subst h; exact ps_fld ha hv hs
theorem k_pg_tup (hc : X.calm = true) (hp : PGs X es ts) (hn : (assignEach es X.env).length = n := by rfl) (hst : (assignEach es X.env).findIdx? (·.1) = none := by rfl) (h : X.K = K := by rfl) : PG X (.Tuple es kk pos) (gTup K n ts) := by subst h; exact pg_tup hc hp hn hst
theorem k_pe_tupleOf (hg : Gl X "tuple") (hm : X.mg "tuple" = none) (ha : PE X e ta) (na : starEach [e] X.env = (false, eval e X.env) :: starEach [] X.env := by rfl) (h : X.K = K := by rfl) :
    PE X (.Call (.Name "tuple" p) [e] [] pos) (tThen ta (kTup K)) := by subst h; exact pe_tupleOf hg hm ha na
theorem k_pe_bm0 {T : String} {name : Str} {id : String} {r : V → List V → Hp → VK → Prop} (pa : PlainAttrs T) (slot : Slot T name id) (hty : typeOf (.builtin id) = pure (.type "method_descriptor")) (hm : MtR X id r) (ho : PE X o to)
    (hbase : attributeBase o name X.env (eval o X.env) = eval o X.env := by rfl) (hline : (apos.endLine == cpos.line) = true := by rfl) (h : X.K = K := by rfl) : PE X (.Call (.Attribute o name apos) [] [] cpos) (tBM0 K T r to) := by subst h; exact pe_bm0 pa slot hty hm ho hbase hline
theorem k_pe_bm {T : String} {name : Str} {id : String} {r : V → List V → Hp → VK → Prop} (pa : PlainAttrs T) (slot : Slot T name id) (hty : typeOf (.builtin id) = pure (.type "method_descriptor")) (hm : MtR X id r) (ho : PE X o to) (ha : PA X (e :: es) t)
    (hbase : attributeBase o name X.env (eval o X.env) = eval o X.env := by rfl)
    (hfew : ((backTo cpos (starEach (e :: es) X.env)).all (fun x => !x.1) && (backToKw cpos (keywordEach [] X.env)).all (fun x => x.1.isSome)
      && decide ((e :: es).length + ([] : List Keyword).length + (if ([] : List Keyword).isEmpty then 0 else 1) < 30)) = true := by rfl)
    (hline : (apos.endLine == cpos.line) = true := by rfl) (hs : starEach (e :: es) X.env = (false, eval e X.env) :: starEach es X.env := by rfl) (hplain : (backTo cpos (starEach es X.env)).any (·.1) = false := by rfl) (h : X.K = K := by rfl) :
    PE X (.Call (.Attribute o name apos) (e :: es) [] cpos) (tBM K T r to t) := by subst h; exact pe_bm pa slot hty hm ho ha hbase hfew hline hs hplain
/-- sep.join(xs) -/
def rJoin (K : PySem.W.Frag) : V → List V → Hp → VK → Prop := fun x xs H Q => ∃ a p, ∃ ys : List Str, x = .str a ∧ xs = [.ref p] ∧ (SqL K H p (ys.map V.str) ∨ SqT K H p (ys.map V.str)) ∧ (ys.map (·.length)).sum + ys.length * a.length ≤ 16777216 ∧ Q (.str (Txt.join a ys)) H
theorem k_pe_join (ho : PE X o to) (he : PE X e te) (hs : starEach [e] X.env = [(false, eval e X.env)] := by rfl) (hbase : attributeBase o "join" X.env (eval o X.env) = eval o X.env := by rfl) (hline : (apos.endLine == pos.line) = true := by rfl) (h : X.K = K := by rfl) :
    PE X (.Call (.Attribute o "join" apos) [e] [] pos) (tM1 (rJoin K) to te) := by subst h; exact pe_join ho he hs hbase hline
end
end WD
namespace WD
open PySem PySem.Spec PyProof.Rows L2
theorem ext_tl {x y : Str} (h : TL.tl x = TL.tl y) : x = y := TL.ext_tl h
theorem joinL_nil : ∀ ys : List (List Nat), TL.joinL [] ys = ys.flatten
  | [] => rfl
  | [p] => by show p = p ++ []; rw [List.append_nil]
  | p :: q :: r => by
    show p ++ ([] ++ TL.joinL [] (q :: r)) = p ++ (q :: r).flatten
    rw [joinL_nil (q :: r)]; rfl
theorem flat_one (l : List Nat) : (l.map fun c => [c]).flatten = l := by
  induction l with
  | nil => rfl
  | cons a l ih =>
    show a :: (l.map fun c => [c]).flatten = a :: l
    rw [ih]
theorem join_chars (l : List Nat) : Txt.join (Str.ofString "") (l.map fun c => (⟨#[c]⟩ : Str)) = ⟨l.toArray⟩ := by
  have e := SX.join_S [] (l.map fun c => [c])
  rw [List.map_map, joinL_nil, flat_one] at e
  exact e
def lets : List Nat := TL.tl SMALL
theorem lets_len : lets.length = 26 := by decide +kernel
theorem lets_nd : lets.Nodup := by decide +kernel
theorem lets_ok : ∀ c ∈ lets, c < 0x110000 := by decide +kernel
theorem small_len : SMALL.length = 26 := by decide +kernel
def mkName (s : List Nat) (at_ : Nat) (c : Nat) : Str := ⟨(s.take at_ ++ ([c] ++ s.drop at_)).toArray⟩
theorem strOk_of {z : Str} (h : ∀ c ∈ TL.tl z, c ∈ lets) : PyData.strOk z = true := by
  unfold PyData.strOk
  rw [← Array.all_toList, List.all_eq_true]
  intro c hc
  exact decide_eq_true (lets_ok c (h c hc))
theorem nameOk_of {z : Str} (h1 : 2 ≤ z.length) (h2 : z.length ≤ 8) (h : ∀ c ∈ TL.tl z, c ∈ lets) : nameOk z = true := by
  unfold nameOk
  rw [decide_eq_true h1, decide_eq_true h2]
  show ((TL.tl z).all fun c => decide (c ∈ lets)) = true
  exact List.all_eq_true.mpr fun c hc => decide_eq_true (h c hc)
theorem nameOk_str {z : Str} (h : nameOk z = true) : PyData.strOk z = true := by
  unfold nameOk at h
  simp only [Bool.and_eq_true] at h
  refine strOk_of fun c hc => ?_
  exact of_decide_eq_true (List.all_eq_true.mp h.2.2 c hc)
theorem mk_tl (s : List Nat) (a c : Nat) : TL.tl (mkName s a c) = s.take a ++ ([c] ++ s.drop a) := rfl
theorem mk_len (s : List Nat) (a c : Nat) : (mkName s a c).length = s.length + 1 := by
  show (s.take a ++ ([c] ++ s.drop a)).toArray.size = s.length + 1
  simp; omega
theorem mk_ok {s : List Nat} {a c : Nat} (h1 : 1 ≤ s.length) (h2 : s.length ≤ 7) (hs : ∀ x ∈ s, x ∈ lets) (hc : c ∈ lets) : nameOk (mkName s a c) = true := by
  refine nameOk_of (by rw [mk_len]; omega) (by rw [mk_len]; omega) fun x hx => ?_
  rw [mk_tl] at hx
  rcases List.mem_append.mp hx with h | h
  · exact hs x (List.mem_of_mem_take h)
  · rcases List.mem_append.mp h with h | h
    · rw [List.mem_singleton.mp h]; exact hc
    · exact hs x (List.mem_of_mem_drop h)
theorem mk_inj {s : List Nat} {a c d : Nat} (ha : a ≤ s.length) (h : mkName s a c = mkName s a d) : c = d := by
  have e : TL.tl (mkName s a c) = TL.tl (mkName s a d) := by rw [h]
  rw [mk_tl, mk_tl] at e
  have e2 := List.append_cancel_left e
  exact (List.cons.inj e2).1
theorem cutS_take (l : List Nat) (n : Nat) (h : n ≤ l.length) : cutS ⟨l.toArray⟩ none (some (n : Int)) = ⟨(l.take n).toArray⟩ := by
  have hsl : (⟨l.toArray⟩ : Str).length = l.length := by simp [Str.length]
  refine TL.ext_tl ?_
  show (l.drop (HT.sIx _ 0 none)).take _ = l.take n
  rw [HT.sIx_none, hsl, HT.sIx_nat, Nat.min_eq_left h]
  rfl
theorem cutS_drop (l : List Nat) (n : Nat) (h : n ≤ l.length) : cutS ⟨l.toArray⟩ (some (n : Int)) none = ⟨(l.drop n).toArray⟩ := by
  have hsl : (⟨l.toArray⟩ : Str).length = l.length := by simp [Str.length]
  refine TL.ext_tl ?_
  show (l.drop (HT.sIx _ 0 (some (n : Int)))).take (HT.sIx _ _ none - _) = l.drop n
  rw [HT.sIx_none, hsl, HT.sIx_nat, Nat.min_eq_left h]
  exact List.take_of_length_le (by rw [List.length_drop]; exact Nat.le_refl _)
theorem S_len (l : List Nat) : (⟨l.toArray⟩ : Str).length = l.length := by simp [Str.length]
/-- the names: c i by the letters' numbers -/
def letAt (i : Int) : Nat := lets.getD i.toNat 0
theorem letAt_mem {i : Int} (h0 : 0 ≤ i) (h1 : i < 26) : letAt i ∈ lets := by
  unfold letAt
  have hl := lets_len
  have : i.toNat < lets.length := by omega
  rw [List.getD_eq_getElem?_getD, List.getElem?_eq_getElem this]
  exact List.getElem_mem _
theorem letAt_inj {i j : Int} (h0 : 0 ≤ i) (h1 : i < 26) (g0 : 0 ≤ j) (g1 : j < 26) (e : letAt i = letAt j) : i = j := by
  unfold letAt at e
  have hl := lets_len
  have hi : i.toNat < lets.length := by omega
  have hj : j.toNat < lets.length := by omega
  rw [List.getD_eq_getElem?_getD, List.getElem?_eq_getElem hi, List.getD_eq_getElem?_getD, List.getElem?_eq_getElem hj] at e
  have := (List.getElem_inj lets_nd).mp e
  omega
theorem at_small {i : Int} (h0 : 0 ≤ i) (h1 : i < 26) : atI (TL.tl SMALL) i = some (letAt i) := by
  have hl := lets_len
  have hi : i.toNat < lets.length := by omega
  have e : i = ((i.toNat : Nat) : Int) := by omega
  have : (TL.tl SMALL)[i.toNat]? = some (letAt i) := by
    unfold letAt
    rw [List.getD_eq_getElem?_getD, show lets = TL.tl SMALL from rfl]
    have hi2 : i.toNat < (TL.tl SMALL).length := hi
    rw [List.getElem?_eq_getElem hi2]; rfl
  rw [e]
  exact atI_nat this
def namesOf (s : List Nat) (a : Nat) (f : Int) (m : Nat) : List Str := (List.range m).map fun (k : Nat) => mkName s a (letAt ((f + 5 * (k : Int)) % 26))
theorem namesOf_nd {s : List Nat} {a : Nat} {f : Int} {m : Nat} (ha : a ≤ s.length) (hm : m ≤ 26) : (namesOf s a f m).Nodup := by
  unfold namesOf
  rw [List.nodup_iff_pairwise_ne, List.pairwise_map]
  refine List.Pairwise.imp_of_mem (R := fun i j => i ≠ j) (fun {i j} hi hj hne e => ?_) (List.nodup_iff_pairwise_ne.mp List.nodup_range)
  have hi := List.mem_range.mp hi
  have hj := List.mem_range.mp hj
  have e2 := letAt_inj (by omega) (by omega) (by omega) (by omega) (mk_inj ha e)
  omega
theorem namesOf_ok {s : List Nat} {a : Nat} {f : Int} {m : Nat} (h1 : 1 ≤ s.length) (h2 : s.length ≤ 7) (hs : ∀ x ∈ s, x ∈ lets) : ∀ z ∈ namesOf s a f m, nameOk z = true := fun z hz => by
  obtain ⟨k, _, rfl⟩ := List.mem_map.mp hz
  exact mk_ok h1 h2 hs (letAt_mem (by omega) (by omega))
theorem atI_ok {α : Type} {xs : List α} {i : Int} (h0 : 0 ≤ i) (h : i.toNat < xs.length) : atI xs i = some (xs[i.toNat]'h) := by
  have e : atI xs ((i.toNat : Nat) : Int) = some (xs[i.toNat]'h) := atI_nat (List.getElem?_eq_getElem h)
  rw [show ((i.toNat : Nat) : Int) = i by omega] at e
  exact e
theorem atI_int {l : List Int} {i : Int} (h0 : 0 ≤ i) (h : i.toNat < l.length) : atI (l.map V.int) i = some (.int (l[i.toNat]'h)) := by
  rw [atI_ok h0 (by rw [List.length_map]; exact h), List.getElem_map]
/-! ### tuples put together, all rows -/
theorem catT {α : Type} {R : Rl α} [Rep R] {K : PySem.W.Frag} {M : MS} {H : Hp} {x y : V} {l l2 : List α} {Q : VK} (hM : MIn M H) (h1 : rT R M H x l) (h2 : rT R M H y l2) (hz : l.length + l2.length ≤ sizeLine)
    (k : ∀ v H', Fr M0 H H' → rT R M H' v (l ++ l2) → Q v H') : rCatA K x y H Q := by
  obtain ⟨a, vs, rfl, na, ha, al⟩ := h1
  obtain ⟨b, ws, rfl, nb, hb, bl⟩ := h2
  have e1 := al.len
  have e2 := bl.len
  refine ⟨a, b, vs, ws, rfl, rfl, SqT.of ha, SqT.of hb, by omega, fun e => ?_, fun _ e => ?_, fun _ _ p hp => ?_⟩
  · subst e
    have : l = [] := List.length_eq_zero_iff.mp e1.symm
    subst this
    exact k _ _ (Fr.refl _) ⟨b, ws, rfl, nb, hb, bl⟩
  · subst e
    have : l2 = [] := List.length_eq_zero_iff.mp e2.symm
    subst this
    exact k _ _ (Fr.refl _) ⟨a, vs, rfl, na, ha, by rw [List.append_nil]; exact al⟩
  · refine k _ _ (Fr.new hp) ⟨p, vs ++ ws, rfl, hM.no hp, upd_same, ?_⟩
    exact (al.imp fun _ _ z => Rep.st (Fr.new hp) z).app (bl.imp fun _ _ z => Rep.st (Fr.new hp) z)
theorem tup1 {α : Type} {R : Rl α} [Rep R] {M : MS} {H : Hp} {p : Addr} {v : V} {a : α} (hM : MIn M H) (hp : H p = none) (h : R M H v a) : rT R M (upd H p (.tup [v])) (.ref p) [a] :=
  ⟨p, [v], rfl, hM.no hp, upd_same, All2.one (Rep.st (Fr.new hp) h)⟩
def nexts (s : Nat) (r : List Int) : List (List Int) := (List.range s).map fun (i : Nat) => r ++ [(i : Int)]
def allRows (s : Nat) : Nat → List (List Int)
  | 0 => [[]]
  | p + 1 => (allRows s p).flatMap (nexts s)
theorem flat_len {β γ : Type} {g : β → List γ} {m : Nat} (h : ∀ b, (g b).length = m) : ∀ l : List β, (l.flatMap g).length = l.length * m
  | [] => by simp
  | b :: l => by
    rw [List.flatMap_cons, List.length_append, h b, flat_len h l, List.length_cons, Nat.succ_mul]
    omega
theorem nexts_len (s : Nat) (r : List Int) : (nexts s r).length = s := by simp [nexts]
theorem allRows_len (s : Nat) : ∀ p, (allRows s p).length = s ^ p
  | 0 => rfl
  | p + 1 => by
    show ((allRows s p).flatMap (nexts s)).length = s ^ (p + 1)
    rw [flat_len (nexts_len s), allRows_len s p, Nat.pow_succ]
theorem allRows_row {s : Nat} : ∀ {p : Nat} {r : List Int}, r ∈ allRows s p → r.length = p ∧ ∀ x ∈ r, 0 ≤ x ∧ x < s
  | 0, r, h => by
    rw [List.mem_singleton.mp h]
    exact ⟨rfl, fun x hx => by cases hx⟩
  | p + 1, r, h => by
    obtain ⟨q, hq, hr⟩ := List.mem_flatMap.mp h
    obtain ⟨i, hi, rfl⟩ := List.mem_map.mp hr
    obtain ⟨h1, h2⟩ := allRows_row hq
    refine ⟨by rw [List.length_append, h1]; rfl, fun x hx => ?_⟩
    rcases List.mem_append.mp hx with z | z
    · exact h2 x z
    · rw [List.mem_singleton.mp z]
      have := List.mem_range.mp hi
      omega
theorem flat_snoc {β γ : Type} (g : β → List γ) (l : List β) (b : β) : (l ++ [b]).flatMap g = l.flatMap g ++ g b := by
  rw [List.flatMap_append]
  simp
/-! ### slices of lists -/
def cutL {α : Type} (xs : List α) (lo hi : Option Int) : List α := (xs.drop (HT.sIx xs.length 0 lo)).take (HT.sIx xs.length xs.length hi - HT.sIx xs.length 0 lo)
theorem All2.cut {α : Type} {R : V → α → Prop} {vs : List V} {l : List α} (h : All2 R vs l) (lo hi : Option Int) : All2 R (cutV vs lo hi) (cutL l lo hi) := by
  unfold cutV cutL
  rw [h.len]
  exact (h.drop _).take _
theorem cutL_take {α : Type} (l : List α) (n : Nat) : cutL l none (some (n : Int)) = l.take n := by
  unfold cutL
  rw [HT.sIx_none, HT.sIx_nat, List.drop_zero, Nat.sub_zero]
  by_cases h : n ≤ l.length
  · rw [Nat.min_eq_left h]
  · rw [Nat.min_eq_right (by omega), List.take_of_length_le (Nat.le_refl _), List.take_of_length_le (by omega)]
theorem cutL_drop {α : Type} (l : List α) (n : Nat) : cutL l (some (n : Int)) none = l.drop n := by
  unfold cutL
  rw [HT.sIx_none, HT.sIx_nat]
  by_cases h : n ≤ l.length
  · rw [Nat.min_eq_left h]
    exact List.take_of_length_le (by rw [List.length_drop]; exact Nat.le_refl _)
  · rw [Nat.min_eq_right (by omega), List.drop_of_length_le (Nat.le_refl _), List.drop_of_length_le (by omega)]
    simp
/-- xs[lo:hi] of a list; xs + ys -/
theorem sliceL {α : Type} {R : Rl α} [Rep R] {K : PySem.W.Frag} {M : MS} {H : Hp} {x : V} {l : List α} {lo hi : Option Int} {Q : VK} (hM : MIn M H) (h : rL R M H x l)
    (k : ∀ a H', H a = none → Fr M0 H H' → rL R M H' (.ref a) (cutL l lo hi) → Q (.ref a) H') : rSlL K x lo hi H Q := by
  obtain ⟨a, vs, rfl, na, ha, al⟩ := h
  exact ⟨a, vs, rfl, SqL.of ha, fun p hp => k p _ hp (Fr.new hp) ⟨p, _, rfl, hM.no hp, upd_same, (al.cut lo hi).imp fun _ _ z => Rep.st (Fr.new hp) z⟩⟩
theorem catL {α : Type} {R : Rl α} [Rep R] {K : PySem.W.Frag} {M : MS} {H : Hp} {x y : V} {l l2 : List α} {Q : VK} (hM : MIn M H) (h1 : rL R M H x l) (h2 : rL R M H y l2) (hz : l.length + l2.length ≤ sizeLine)
    (k : ∀ a H', H a = none → Fr M0 H H' → rL R M H' (.ref a) (l ++ l2) → Q (.ref a) H') : rCatL K x y H Q := by
  obtain ⟨a, vs, rfl, na, ha, al⟩ := h1
  obtain ⟨b, ws, rfl, nb, hb, bl⟩ := h2
  have e1 := al.len
  have e2 := bl.len
  exact ⟨a, b, vs, ws, rfl, rfl, SqL.of ha, SqL.of hb, by omega, fun p hp => k p _ hp (Fr.new hp) ⟨p, _, rfl, hM.no hp, upd_same, (al.imp fun _ _ z => Rep.st (Fr.new hp) z).app (bl.imp fun _ _ z => Rep.st (Fr.new hp) z)⟩⟩
/-- [v] -/
theorem lst1 {α : Type} {R : Rl α} [Rep R] {M : MS} {H : Hp} {p : Addr} {v : V} {a : α} (hM : MIn M H) (hp : H p = none) (h : R M H v a) : rL R M (upd H p (.lst [v])) (.ref p) [a] :=
  ⟨p, [v], rfl, hM.no hp, upd_same, All2.one (Rep.st (Fr.new hp) h)⟩
theorem pair1 {α β : Type} {R : Rl α} {S : Rl β} [Rep R] [Rep S] {M : MS} {H : Hp} {p : Addr} {v u : V} {a : α} {b : β} (hM : MIn M H) (hp : H p = none) (h : R M H v a) (g : S M H u b) : rP R S M (upd H p (.tup [v, u])) (.ref p) (a, b) :=
  ⟨p, v, u, rfl, hM.no hp, upd_same, Rep.st (Fr.new hp) h, Rep.st (Fr.new hp) g⟩
theorem trip1 {α β γ : Type} {R : Rl α} {S : Rl β} {T : Rl γ} [Rep R] [Rep S] [Rep T] {M : MS} {H : Hp} {p : Addr} {v u t : V} {a : α} {b : β} {c : γ} (hM : MIn M H) (hp : H p = none) (h : R M H v a) (g : S M H u b) (j : T M H t c) :
    rP3 R S T M (upd H p (.tup [v, u, t])) (.ref p) (a, b, c) := ⟨p, v, u, t, rfl, hM.no hp, upd_same, Rep.st (Fr.new hp) h, Rep.st (Fr.new hp) g, Rep.st (Fr.new hp) j⟩
/-! ### dict(pairs) -/
theorem putK_len {kvs : List (Key × V)} {k : Key} {v : V} : (putK kvs k v).length = if (valV kvs k).isSome then kvs.length else kvs.length + 1 := by
  unfold putK
  rw [valV_any]
  by_cases h : (valV kvs k).isSome = true
  · rw [if_pos h, if_pos h, List.length_map]
  · rw [if_neg h, if_neg h, List.length_append]; rfl
theorem merge_len : ∀ (more acc : List (Key × V)), (mergeK acc more).length ≤ acc.length + more.length ∧ ((mergeK acc more).length = acc.length + more.length → (more.map (·.1)).Nodup ∧ ∀ k ∈ more.map (·.1), valV acc k = none)
  | [], acc => ⟨Nat.le_refl _, fun _ => ⟨List.nodup_nil, fun k h => by cases h⟩⟩
  | m :: more, acc => by
    have e : mergeK acc (m :: more) = mergeK (putK acc m.1 m.2) more := rfl
    obtain ⟨h1, h2⟩ := merge_len more (putK acc m.1 m.2)
    have hl := putK_len (kvs := acc) (k := m.1) (v := m.2)
    rw [e]
    cases hs : valV acc m.1 with
    | some x =>
      rw [hs] at hl
      simp only [Option.isSome_some, if_true] at hl
      refine ⟨by rw [List.length_cons]; omega, fun z => ?_⟩
      rw [List.length_cons] at z
      omega
    | none =>
      rw [hs] at hl
      have hl2 : (putK acc m.1 m.2).length = acc.length + 1 := hl
      refine ⟨by rw [List.length_cons]; omega, fun z => ?_⟩
      rw [List.length_cons] at z
      obtain ⟨n1, n2⟩ := h2 (by omega)
      rw [put_none hs] at n2
      have key : ∀ k, valV (acc ++ [(m.1, m.2)]) k = none → valV acc k = none ∧ m.1 ≠ k := fun k hk => by
        have h3 := valV_not hk
        rw [List.map_append, List.mem_append] at h3
        constructor
        · cases q : valV acc k with
          | none => rfl
          | some v => exact absurd (.inl (valV_in q)) h3
        · exact fun q => h3 (.inr (by rw [q]; exact List.mem_singleton.mpr rfl))
      refine ⟨?_, fun k hk => ?_⟩
      · rw [List.map_cons, List.nodup_cons]
        exact ⟨fun hm => (key _ (n2 _ hm)).2 rfl, n1⟩
      · rw [List.map_cons] at hk
        rcases List.mem_cons.mp hk with q | q
        · rw [q]; exact hs
        · exact (key k (n2 k q)).1
/-- pairs of a name and a number, for dict(..) -/
theorem pairs_dict {K : PySem.W.Frag} {M : MS} {H : Hp} : ∀ {vs : List V} {l : List (Str × Int)}, All2 (rP rS rI M H) vs l → ∃ ps : List Addr, vs = ps.map V.ref ∧ Paired (fun p (kv : Key × V) => SqT K H p [kV kv.1, kv.2]) ps (l.map fun z => ((Sum.inr z.1 : Key), V.int z.2))
  | [], [], _ => ⟨[], rfl, .nil⟩
  | v :: vs, z :: l, h => by
    obtain ⟨ps, e, r⟩ := pairs_dict (K := K) h.2
    obtain ⟨a, v1, v2, rfl, _, ha, ⟨rfl, _⟩, rfl⟩ := h.1
    exact ⟨a :: ps, by rw [e]; rfl, .cons (SqT.of ha) r⟩
  | [], _ :: _, h => h.elim
  | _ :: _, [], h => h.elim
theorem nameOk_iff {z : Str} : nameOk z = true ↔ 2 ≤ z.length ∧ z.length ≤ 8 ∧ ∀ c ∈ TL.tl z, c ∈ lets := by
  unfold nameOk
  simp only [Bool.and_eq_true, decide_eq_true_eq, List.all_eq_true]
  exact Iff.rfl
theorem name7 {z : Str} (h : nameOk z = true) : ∃ s1 : Str, cutS z none (some 7) = s1 ∧ nameOk (s1 ++ "z") = true ∧ s1.length ≤ 7 := by
  obtain ⟨h1, h2, h3⟩ := nameOk_iff.mp h
  have e : cutS z none (some 7) = ⟨((TL.tl z).take 7).toArray⟩ := by
    refine TL.ext_tl ?_
    show ((TL.tl z).drop (HT.sIx _ 0 none)).take _ = (TL.tl z).take 7
    rw [HT.sIx_none, show (some (7 : Int)) = some ((7 : Nat) : Int) from rfl, HT.sIx_nat, List.drop_zero, Nat.sub_zero]
    by_cases hl : 7 ≤ z.length
    · rw [Nat.min_eq_left hl]
    · rw [Nat.min_eq_right (by omega), List.take_of_length_le (by rw [← TL.len_tl]; exact Nat.le_refl _), List.take_of_length_le (by rw [← TL.len_tl]; omega)]
  have hl : (⟨((TL.tl z).take 7).toArray⟩ : Str).length = min 7 z.length := by rw [S_len, List.length_take, ← TL.len_tl]
  refine ⟨_, e, nameOk_iff.mpr ?_, by rw [hl]; omega⟩
  have hl2 : (⟨((TL.tl z).take 7).toArray⟩ ++ ("z" : Str) : Str).length = min 7 z.length + 1 := by
    rw [TL.len_tl, TL.tl_append, List.length_append, ← TL.len_tl, hl]; rfl
  refine ⟨by rw [hl2]; omega, by rw [hl2]; omega, fun c hc => ?_⟩
  rw [TL.tl_append] at hc
  rcases List.mem_append.mp hc with q | q
  · exact h3 c (List.mem_of_mem_take q)
  · have : TL.tl ("z" : Str) = [122] := by decide +kernel
    rw [this] at q
    rw [List.mem_singleton.mp q]
    decide +kernel
end WD
/-! own exceptions: made, raised, caught, asked -/
namespace WD
open PySem PySem.Spec PyProof.Rows L2

/-! ### what the written part says of an exception class, by a Bool -/
def oexObjB (C : Addr) : Option Obj → Bool
  | some ⟨.type t, _, .cls cd, sl⟩ => decide (t = "type") && ((match cd.mro with
    | .ref C' :: bm => decide (C' = C) && PySem.HandSPX.refsVE bm
    | _ => false) && ((match sl.toList with
    | [_, _, _, _, some (.builtin n), _] => decide (n = "ValueError.__new__")
    | _ => false) && (cd.hasDict && !cd.hasDel)))
  | _ => false
theorem oexObjB_ok {K : PySem.W.Frag} {C : Addr} (h : oexObjB C (K.lookup C) = true) : ∃ nm q N bs bm sn sub ab col dd k0 k1 k2 k3 k5, K.lookup C = some (excClassObj nm q C N bs bm true sn sub ab col dd k0 k1 k2 k3 k5 "ValueError.__new__") ∧ PySem.HandSPX.refsVE bm = true := by
  generalize K.lookup C = o at h ⊢
  unfold oexObjB at h
  split at h
  · rename_i t dd cd sl
    simp only [Bool.and_eq_true, decide_eq_true_eq, Bool.not_eq_true'] at h
    obtain ⟨h1, h2, h3, h4, h5⟩ := h
    obtain ⟨nm, bs, mro, ns, qn, hd, sn, sb, ab, col, del⟩ := cd
    dsimp only at h2 h4 h5
    subst h1 h4 h5
    split at h2
    · rename_i C' bm
      obtain ⟨e1, e2⟩ := Bool.and_eq_true_iff.mp h2
      have e1 := of_decide_eq_true e1
      subst e1
      split at h3
      · rename_i k0 k1 k2 k3 n k5 e3
        have e4 := of_decide_eq_true h3
        subst e4
        have e5 : sl = #[k0, k1, k2, k3, some (.builtin "ValueError.__new__"), k5] := by
          rw [← Array.toArray_toList (xs := sl), e3]
        subst e5
        exact ⟨_, _, _, _, bm, _, _, _, _, _, _, _, _, _, _, rfl, e2⟩
      · cases h3
    · cases h2
  · cases h
/-- how a value's class answers isinstance: what is asked of the class -/
structure ExD (K : PySem.W.Frag) (C : Addr) : Prop where
  cl : (PySem.W.clsIn K C).isSome = true
  ga : PySem.W.findIn K (.ref C) "__getattribute__" = some (some (.builtin "BaseException.__getattribute__"))
  gg : PySem.W.findIn K (.ref C) "__getattr__" = some none
  sb : PySem.W.subIn K (.ref C) (.type "BaseException") = some true
  cc : PySem.W.findIn K (.ref C) "__class__" = some (some (.builtin "object.__class__"))
  sp : PySem.W.specialIn K (.builtin "object.__class__") "__get__" = some (some (.builtin "getset_descriptor.__get__"))
  tk : PySem.W.takesIn K (.builtin "object.__class__") = some true
  mr : PySem.W.mroIn K C (.type "object") = some true
  hd : PySem.W.hasDictIn K C = true
/-- facts of my own -/
inductive Fx where
  | oex (x : Str)
  | exd (x : Str)
  | ini (x : Str)
  | par (x : Str)
  | noa (x f : Str)
  | kit (x y : Str) (b : Bool)
  | kiv (x : Str) (t : String) (b : Bool)
def Fx.ok (K : PySem.W.Frag) : Fx → Bool
  | .oex x => oexObjB (He.ga K x) (K.lookup (He.ga K x)) && (He.eqO (PySem.W.findIn K (.ref (He.ga K x)) "__setattr__") (some (some (.builtin "object.__setattr__"))) && (decide (PySem.W.subIn K (.ref (He.ga K x)) (.type "BaseException") = some true) &&
      (decide (PySem.W.typeIn K (.ref (He.ga K x)) = some (.type "type")) && PySem.W.keepIn K (.ref (He.ga K x)))))
  | .exd x => (PySem.W.clsIn K (He.ga K x)).isSome && (He.eqO (PySem.W.findIn K (.ref (He.ga K x)) "__getattribute__") (some (some (.builtin "BaseException.__getattribute__"))) && (He.eqO (PySem.W.findIn K (.ref (He.ga K x)) "__getattr__") (some none) &&
      (decide (PySem.W.subIn K (.ref (He.ga K x)) (.type "BaseException") = some true) && (He.eqO (PySem.W.findIn K (.ref (He.ga K x)) "__class__") (some (some (.builtin "object.__class__"))) &&
      (He.eqO (PySem.W.specialIn K (.builtin "object.__class__") "__get__") (some (some (.builtin "getset_descriptor.__get__"))) && (decide (PySem.W.takesIn K (.builtin "object.__class__") = some true) &&
      (decide (PySem.W.mroIn K (He.ga K x) (.type "object") = some true) && PySem.W.hasDictIn K (He.ga K x))))))))
  | .ini x => He.eqO (PySem.W.findIn K (.ref (He.ga K x)) "__init__") (some (some (.ref (He.ma K (He.ga K x) "__init__")))) && decide (PySem.W.typeIn K (.ref (He.ma K (He.ga K x) "__init__")) = some (.type "function"))
  | .par x => PySem.W.readsIn K (He.ga K x) (.type "type") && (He.eqO (PySem.W.specialIn K (.ref (He.ga K x)) "__getattribute__") (some (some (.builtin "type.__getattribute__"))) &&
      (match PySem.W.findCls K (.ref (He.ga K x)) (.type "type") "__init__" with
        | some (.val (.builtin n)) => decide (n = "ValueError.__init__")
        | _ => false))
  | .noa x f => He.eqO (PySem.W.findIn K (.ref (He.ga K x)) f) (some none)
  | .kit x y b => decide (PySem.W.kitOne K (.ref (He.ga K x)) (.ref (He.ga K y)) = some b)
  | .kiv x t b => decide (PySem.W.kitOne K (.ref (He.ga K x)) (.type t) = some b)
section
variable {K : PySem.W.Frag} {x y f : Str} {t : String} {b : Bool}
theorem oex_ok (c : (Fx.oex x).ok K = true) : OexC K (He.ga K x) := by
  obtain ⟨c1, c⟩ := He.ba c
  obtain ⟨c2, c⟩ := He.ba c
  obtain ⟨c3, c⟩ := He.ba c
  obtain ⟨c4, c5⟩ := He.ba c
  exact ⟨oexObjB_ok c1, He.eqO_ok c2, of_decide_eq_true c3, of_decide_eq_true c4, c5⟩
theorem exd_ok' (c : (Fx.exd x).ok K = true) : ExD K (He.ga K x) := by
  obtain ⟨c1, c⟩ := He.ba c
  obtain ⟨c2, c⟩ := He.ba c
  obtain ⟨c3, c⟩ := He.ba c
  obtain ⟨c4, c⟩ := He.ba c
  obtain ⟨c5, c⟩ := He.ba c
  obtain ⟨c6, c⟩ := He.ba c
  obtain ⟨c7, c⟩ := He.ba c
  obtain ⟨c8, c9⟩ := He.ba c
  exact ⟨c1, He.eqO_ok c2, He.eqO_ok c3, of_decide_eq_true c4, He.eqO_ok c5, He.eqO_ok c6, of_decide_eq_true c7, of_decide_eq_true c8, c9⟩
theorem ini_ok (c : (Fx.ini x).ok K = true) : PySem.W.findIn K (.ref (He.ga K x)) "__init__" = some (some (.ref (He.ma K (He.ga K x) "__init__"))) ∧ PySem.W.typeIn K (.ref (He.ma K (He.ga K x) "__init__")) = some (.type "function") := by
  obtain ⟨c1, c2⟩ := He.ba c
  exact ⟨He.eqO_ok c1, of_decide_eq_true c2⟩
/-- an exception class whose __init__ is called by its name -/
structure Par (K : PySem.W.Frag) (C : Addr) : Prop where
  rd : PySem.W.readsIn K C (.type "type") = true
  ga : PySem.W.specialIn K (.ref C) "__getattribute__" = some (some (.builtin "type.__getattribute__"))
  at_ : PySem.W.findCls K (.ref C) (.type "type") "__init__" = some (.val (.builtin "ValueError.__init__"))
theorem par_ok (c : (Fx.par x).ok K = true) : Par K (He.ga K x) := by
  obtain ⟨c1, c⟩ := He.ba c
  obtain ⟨c2, c3⟩ := He.ba c
  refine ⟨c1, He.eqO_ok c2, ?_⟩
  split at c3
  · rename_i n e
    rw [e, of_decide_eq_true c3]
  · cases c3
theorem noa_ok (c : (Fx.noa x f).ok K = true) : PySem.W.findIn K (.ref (He.ga K x)) f = some none := He.eqO_ok c
theorem kit_ok (c : (Fx.kit x y b).ok K = true) : PySem.W.kitOne K (.ref (He.ga K x)) (.ref (He.ga K y)) = some b := of_decide_eq_true c
theorem kiv_ok (c : (Fx.kiv x t b).ok K = true) : PySem.W.kitOne K (.ref (He.ga K x)) (.type t) = some b := of_decide_eq_true c
end
/-! ### the Hook, with these facts -/
def asE (g : Addr → Option Obj) : Nat → List Addr
  | 0 => [mainGlobals, cStatics]
  | n + 1 => He.growD g (asE g n)
def obsE (fa : List He.Fa) (fn : List He.DefD) (fx : List Fx) (K : PySem.W.Frag) : He.AlD := ((He.obsD fa fn K).1 && fx.all fun f => f.ok K, (He.obsD fa fn K).2)
def SaysE (fa : List He.Fa) (fn : List He.DefD) (fx : List Fx) (K : PySem.W.Frag) : Prop := obsE fa fn fx K = He.valD fn
def obsEG (n : Nat) (fa : List He.Fa) (fn : List He.DefD) (fx : List Fx) (g : Addr → Option Obj) : He.AlD := obsE fa fn fx (He.frG g (asE g n))
def hookE (n : Nat) (fa : List He.Fa) (fn : List He.DefD) (fx : List Fx) : PySem.W.Hook where
  α := He.AlD
  obs := fun s => obsEG n fa fn fx s.heap.get?
  val := fun _ => He.valD fn
  says := fun _ h => ∃ K : PySem.W.Frag, K.In h ∧ SaysE fa fn fx K
  of := fun _ _ e => ⟨_, He.frG_in, e⟩
  keeps := fun _ _ _ ⟨K, hK, c⟩ k => ⟨K, PySem.W.Frag.In.keeps hK k, c⟩
theorem obsEG_eq {n : Nat} {fa : List He.Fa} {fn : List He.DefD} {fx : List Fx} {g : Addr → Option Obj} {s : Shared} (h : ∀ a, g a = s.heap.get? a) : obsEG n fa fn fx g = (hookE n fa fn fx).obs s := by
  rw [show g = s.heap.get? from funext h]; rfl
theorem SaysE.says {fa : List He.Fa} {fn : List He.DefD} {fx : List Fx} {K : PySem.W.Frag} (c : SaysE fa fn fx K) : He.SaysD fa fn K := by
  have h1 : ((He.obsD fa fn K).1 && fx.all fun f => f.ok K) = true := congrArg (fun z : He.AlD => z.1) c
  have h2 : (He.obsD fa fn K).2 = fn.map He.DefD.val := congrArg (fun z : He.AlD => z.2) c
  exact Prod.ext (He.ba h1).1 h2
theorem SaysE.own {fa : List He.Fa} {fn : List He.DefD} {fx : List Fx} {K : PySem.W.Frag} (c : SaysE fa fn fx K) (i : Nat) {f : Fx} (h : fx[i]? = some f := by rfl) : f.ok K = true := by
  have h1 : ((He.obsD fa fn K).1 && fx.all fun f => f.ok K) = true := congrArg (fun z : He.AlD => z.1) c
  exact List.all_eq_true.mp (He.ba h1).2 f (List.mem_of_getElem? h)

/-! ### C.__init__(self, ..), C an own exception class -/
section
variable {X : Cx} {e : Expr} {es : List Expr} {ta : TA} {p1 p2 pos : Pos} {x : Str} {C : Addr}
theorem pe_oinit {pl : Sem Bool} (hg : Gl X x) (hm : X.mg x = some (.ref C)) (T : Par X.K C) (ha : PA X (e :: es) ta) (hdb : (x == ("__debug__" : Str)) = false := by decide)
    (hc : eval (.Call (.Attribute (.Name x p1) "__init__" p2) (e :: es) [] pos) X.env = (do
      let ov ← eval (.Name x p1) X.env
      standAt p2.atName
      let (f, first) ← holding [ov] (getMethod ov "__init__" pl)
      callWith pos f first (backTo pos (starEach (e :: es) X.env)) (backToKw pos (keywordEach [] X.env))) := by rfl)
    (he : starEach (e :: es) X.env = (false, eval e X.env) :: starEach es X.env := by rfl) (hpl : (backTo pos (starEach es X.env)).any (·.1) = false := by rfl) :
    PE X (.Call (.Attribute (.Name x p1) "__init__" p2) (e :: es) [] pos) (tVeI X.K ta) := by
  refine ⟨fun pins s σ H Q I h => ?_⟩
  refine PySem.W.methodCall_KW (ld_glob I hg hm ?_ hdb) hc
  refine PySem.W.method_cls I.kIn T.ga (PySem.W.cls_value I.kIn T.rd T.at_ (by decide +kernel) ?_)
  refine PyProof.Rows.callWith_method1 (thn (ha.run pos pins _ σ H _ (I.tok _) h) fun us s1 ⟨vs, H1, I1, r1, a, C1, ws, ev, hl, T1, ea, q⟩ => ?_) he hpl
  subst ev
  cases r1 with
  | @cons _ u0 _ ur ra rw' =>
    obtain rfl : u0 = Value.ref a := ra
    have hlen : ur.length ≤ sizeLine := by
      have e1 := Paired.length rw'
      have e2 := sizeLine_eq
      omega
    exact oinit_ok T1 I1 ea hlen fun s' J => ⟨.non, H1, J, rfl, q⟩
end
/-! ### C(v), C an own exception class with one field, to be raised -/
def spExc (C : Addr) (f : Str) : Sp := fun vs H Q _ => ∃ (a : Addr) (v : V), vs = [.ref a, v] ∧ H a = some (exo a C none) ∧ ∀ dx, H dx = none → dx ≠ a → Q .non (upd (upd H dx (exd dx [(f, v)])) a (exo a C (some dx)))
structure Xmk (P : Program) (w : World) (K : PySem.W.Frag) (mg : Str → Option Value) (base : Heap) (k : Nat) (x : Str) (C fI : Addr) (f : Str) : Prop where
  ex : ∃ (fd : FuncData) (ps : List Str) (ds : List Value), FnOk P w K mg base CX0 k fI fd ps (spExc C f) ∧ Binds K fd ps ds ∧ Vals [] ds
  oe : OexC K C
  ini : PySem.W.findIn K (.ref C) "__init__" = some (some (.ref fI)) ∧ PySem.W.typeIn K (.ref fI) = some (.type "function")
  g : mg x = some (.ref C)
def tExc (C : Addr) (f : Str) (ta : TA) : L2.St → Hp → XK → Prop := fun σ H Q => ta σ H fun vs H1 => ∃ v, vs = [v] ∧ ∀ d, H1 d = none → Q (.ref C) (some d) (upd H1 d (.xd [(f, v)]))
section
variable {X : Cx} {k : Nat} {x : Str} {C fI : Addr} {f : Str} {e : Expr} {es : List Expr} {ta : TA} {te : TE} {p pos : Pos}
/-- a reading made monotone -/
def clo (ta : TA) : TA := fun σ H Q => ∃ R : List V → Hp → Prop, ta σ H R ∧ ∀ vs H1, R vs H1 → Q vs H1
theorem pa_clo (h : PA X es ta) : PA X es (clo ta) := by
  refine ⟨fun pos pins s σ H Q I hh => ?_⟩
  obtain ⟨R, h1, h2⟩ := hh
  exact thn (h.run pos pins s σ H R I h1) fun us s1 ⟨vs, H1, I1, r, q⟩ => ⟨vs, H1, I1, r, h2 vs H1 q⟩
theorem pmk_x (c : Xmk X.prog X.w X.K X.mg X.base k x C fI f) (hr : Room (k + 1) X.A) (hg : Gl X x) (ha : PA X (e :: es) ta) (hdb : (x == ("__debug__" : Str)) = false := by decide)
    (he : starEach (e :: es) X.env = (false, eval e X.env) :: starEach es X.env := by rfl) (hpl : (backTo pos (starEach es X.env)).any (·.1) = false := by rfl) : PMk X (.Call (.Name x p) (e :: es) [] pos) (tExc C f ta) := by
  obtain ⟨fd, ps, ds, h1, h2, h3⟩ := c.ex
  have P := pmk_oex (pos := pos) (p := p) c.oe c.ini.1 c.ini.2 h1 hr h2 h3 pass0 hg c.g (pa_clo ha) hdb he hpl
  intro pins s σ H Q I h
  refine P pins s σ H Q I ⟨_, h, fun vs H1 q => ?_⟩
  obtain ⟨v, rfl, q⟩ := q
  refine ⟨by show 1 ≤ 1000; decide, fun a na => ⟨a, v, rfl, upd_same, fun dx nd ne => ⟨rfl, dx, [(f, v)], upd_same, ?_, ?_, ?_⟩⟩⟩
  · rw [upd_ne ne, upd_same]
  · rw [upd_ne ne] at nd
    exact nd
  · have nd' : H1 dx = none := by rw [upd_ne ne] at nd; exact nd
    have e2 : upd (del (upd (upd (upd H1 a (exo a C none)) dx (exd dx [(f, v)])) a (exo a C (some dx))) a) dx (.xd [(f, v)]) = upd H1 dx (.xd [(f, v)]) := by
      funext b
      by_cases hb : b = dx
      · rw [hb, upd_same, upd_same]
      · rw [upd_ne hb, upd_ne hb]
        by_cases ha : b = a
        · rw [ha, del_same, na]
        · rw [del_ne ha, upd_ne ha, upd_ne hb, upd_ne ha]
    rw [e2]
    exact q dx nd'
end
/-! ### calls that may raise -/
section
variable {X : Cx} {CX : CXT} {k : Nat} {f C : Addr} {fd : FuncData} {ps : List Str} {sp : Sp} {E : L2.St → XK} {x m : Str} {p pos apos : Pos} {e o : Expr} {es : List Expr} {ta : TE} {t : TA} {W : WX} {ds : List Value}
theorem binds0 {K : PySem.W.Frag} (h : Binds K fd ps ds) (hd : Vals [] ds) : Binds K fd ps [] := by
  cases hd
  exact h
/-- f(e, ..) -/
theorem pe_calX (c : Cal X.prog X.w X.K X.mg X.base (L2.CX X.prog X.w) k x f sp []) (tk : Takes X W) (hr : Room k X.A) (hg : Gl X x) (ha : PA X (e :: es) t) (hdb : (x == ("__debug__" : Str)) = false := by decide)
    (he : starEach (e :: es) X.env = (false, eval e X.env) :: starEach es X.env := by rfl) (hpl : (backTo pos (starEach es X.env)).any (·.1) = false := by rfl) : PE X (.Call (.Name x p) (e :: es) [] pos) (tCallS sp (WE W) t) := by
  obtain ⟨fd, ps, ds, h1, h2, h3⟩ := c.ex
  exact pe_callS h1 hr hg c.g c.kp (binds0 h2 h3) (fun σ => passAt tk σ) ha hdb he hpl
def tMethS (C : Addr) (m : Str) (sp : Sp) (E : L2.St → XK) (te : TE) (t : TA) : TE := fun σ H Q => te σ H fun x H1 => ∃ (a dx : Addr) (fs : List (Str × V)), x = .ref a ∧ H1 a = some (.ins C dx fs) ∧ fs.lookup m = none ∧ t σ H1 fun vs H2 => sp (.ref a :: vs) H2 Q (E σ)
theorem pe_metX {pl : Sem Bool} (c : Met X.prog X.w X.K X.mg X.base (L2.CX X.prog X.w) k C m f sp []) (tk : Takes X W) (hr : Room k X.A) (he : PE X o ta) (ha : PA X (e :: es) t)
    (hst : starEach (e :: es) X.env = (false, eval e X.env) :: starEach es X.env := by rfl) (hpl : (backTo pos (starEach es X.env)).any (·.1) = false := by rfl)
    (ht : eval (.Call (.Attribute o m apos) (e :: es) [] pos) X.env = (do
      let ov ← eval o X.env
      standAt apos.atName
      let (f, first) ← holding [ov] (getMethod ov m pl)
      callWith pos f first (backTo pos (starEach (e :: es) X.env)) (backToKw pos (keywordEach [] X.env))) := by rfl) : PE X (.Call (.Attribute o m apos) (e :: es) [] pos) (tMethS C m sp (WE W) ta t) := by
  obtain ⟨fd, ps, ds, h1, h2, h3⟩ := c.ex
  have hb := binds0 h2 h3
  refine ⟨fun pins s σ H Q I h => ?_⟩
  refine PySem.W.methodCall_KW (pl := pl) (thn (he.run pins s σ H _ I h) fun u s1 hh => ?_) ht
  obtain ⟨x, H1, I1, rx, a, dx, fs, ex, ea, l, q⟩ := hh
  subst ex
  cases (show u = Value.ref a from rx)
  refine getmeth_ok I1 ea c.cl c.mt l (PySem.W.callWith_K (first := [.ref a]) (h₀ := X.base) I.ok.mod.kin c.mt.kp (thn (ha.run pos pins s1 σ H1 _ I1 q) fun us s2 hh2 => ?_) hst hpl)
  obtain ⟨vs, H2, I2, r, q2⟩ := hh2
  exact ⟨I2.kIn, run_fnS (us := .ref a :: us) (vs := .ref a :: vs) (E := WE W) h1 hr hb (passAt tk σ) I2 (.cons rfl r) q2⟩
end
/-! ### in an except suite -/
/-- e.f, the class told by the reading -/
def tXfA (K : PySem.W.Frag) (a : Addr) (cls : Value) (d : Option Addr) (f : Str) (te : TE) : TE := fun σ H Q => te σ H fun x H1 => ∃ C : Addr, x = .ref a ∧ cls = .ref C ∧ ExD K C ∧ PySem.W.findIn K (.ref C) f = some none ∧ ∃ (dd : Addr) (fs : List (Str × V)) (v : V), d = some dd ∧ H1 dd = some (.xd fs) ∧ fs.lookup f = some v ∧ Q v H1
/-- isinstance(e, c) -/
def rIsX (K : PySem.W.Frag) (a : Addr) (cls : Value) (d : Option Addr) : List V → Hp → VK → Prop := fun xs H Q => ∃ (D : Addr) (c : V) (cv : Value) (b : Bool), cls = .ref D ∧ ExD K D ∧ (∀ dd, d = some dd → ∃ fs, H dd = some (.xd fs)) ∧ xs = [.ref a, c] ∧ (∀ u, RelV c u → u = cv) ∧ PySem.W.kitOne K (.ref D) cv = some b ∧ Q (.bl b) H
section
variable {X : Cx} {a : Addr} {oe : Obj} {cls : Value} {d : Option Addr} {pn : List (Addr × Obj)} {e : Expr} {te : TE} {pos : Pos} {n : Str}
theorem pe_xfA (hz : Zc cls d oe) (hf : ∃ vs, oe.data = .fields vs) (he : PE (X.suite a ((a, oe) :: pn)) e te) (hb : attributeBase e n X.env (eval e X.env) = eval e X.env := by rfl) : PE (X.suite a ((a, oe) :: pn)) (.Attribute e n pos) (tXfA X.K a cls d n te) := by
  refine ⟨fun pins s σ H Q I h => ?_⟩
  refine attr_of hb (thn (he.run pins s σ H _ I h) fun u s1 hh => ?_)
  obtain ⟨x, H1, I1, rx, C, ex, ec, T, hno, dd, fs, v, ed, ea, l, q⟩ := hh
  subst ex ec ed
  cases (show u = Value.ref a from rx)
  obtain ⟨ha, _⟩ := I1.pin (a, oe) (List.mem_append_left _ List.mem_cons_self)
  obtain ⟨vs, hd⟩ := hf
  obtain ⟨mA, hns, hr⟩ := (show ObjOk X.prog X.w H1 s1.heap dd (.xd fs) from I1.hok dd _ ea)
  obtain ⟨od, ho, hl⟩ := lookIn_ns hns
  obtain ⟨u, hu, ru⟩ := RelO.some_of (v := v) (o := mA n) (by rw [← l]; exact hr n)
  have J : PySem.W.InstAt s1.heap a oe C (some od) := ⟨ha, hz.1, by unfold PySem.W.notCls; rw [hd], by rw [hz.2]; exact ho⟩
  exact HandSPX.exc_get I1.kIn J T.ga T.gg T.sb (PySem.W.findObj_own T.hd hno rfl (by rw [hl, hu])) (handed_of ru) ⟨v, H1, I1.tok _, ru, q⟩
theorem call_isX (hz : Zc cls d oe) (hf : ∃ vs, oe.data = .fields vs) : CallR (X.suite a ((a, oe) :: pn)) (.builtin "isinstance") (rIsX X.K a cls d) := by
  intro pins s σ H xs us Q I r h
  obtain ⟨D, c, cv, b, ec, C, hd, rfl, hcv, e, q⟩ := h
  subst ec
  cases r with
  | cons rx rr =>
    cases rr with
    | cons rt rr =>
      cases rr
      cases rx
      cases hcv _ rt
      obtain ⟨hget, _⟩ := I.pin (a, oe) (List.mem_append.mpr (.inl List.mem_cons_self))
      obtain ⟨vs, hv⟩ := hf
      have J : ∃ od, PySem.W.InstAt s.heap a oe D od := by
        cases d with
        | none => exact ⟨none, hget, hz.1, by unfold PySem.W.notCls; rw [hv], by rw [hz.2]; exact trivial⟩
        | some dd =>
          obtain ⟨fs, hfs⟩ := hd dd rfl
          obtain ⟨mA, ⟨o, _, _, ho, _⟩, _⟩ := (show ObjOk X.prog X.w H s.heap dd (.xd fs) from I.hok dd _ hfs)
          exact ⟨some o, hget, hz.1, by unfold PySem.W.notCls; rw [hv], by rw [hz.2]; exact ho⟩
      obtain ⟨od, J⟩ := J
      exact PySem.W.kia_one (PySem.W.kitx_exc C.cl C.ga C.gg C.sb C.cc C.sp C.tk C.mr) I.kIn J e (fun z => nomatch z) fun tk => ⟨.bl b, H, I.kept (t' := tk) fun _ _ z => z, rfl, q⟩
end
/-! ### try with clauses `except x as n` -/
abbrev Su := Addr → Value → Option Addr → TS
def wClauses (K : PySem.W.Frag) (Wout : WX) (D : Ends) : List (Value × Nat × Su) → WX
  | [] => Wout
  | (c, i, ts) :: r => fun cls d σ H => ∃ b, PySem.W.exmOne K cls c = some b ∧
      (b = true → ∀ a, H a = none → ts a cls d { nx := fun σ' H' => D.nx (σ'.set i none) H', rt := D.rt, bk := fun σ' H' => D.bk (σ'.set i none) H', ct := fun σ' H' => D.ct (σ'.set i none) H' } (σ.set i (some (.ref a))) H) ∧ (b = false → wClauses K Wout D r cls d σ H)
inductive Clauses (X : Cx) : List ExceptHandler → List (Value × Nat × Su) → Prop
  | nil : Clauses X [] []
  | cons {x n : Str} {c : Value} {i : Nat} {ts : Su} {st : Stmt} {suite : List Stmt} {np hp : Pos} {hds : List ExceptHandler} {l : List (Value × Nat × Su)} (names : Names X x c) (slot : X.N[i]? = some n) (loc : X.env.kindOf n = some .local)
      (body : ∀ (a : Addr) (oe : Obj) (cls : Value) (d : Option Addr) (pn : List (Addr × Obj)), Zc cls d oe → (∃ vs, oe.data = .fields vs) → PSs (X.suite a ((a, oe) :: pn)) (st :: suite) (ts a cls d)) (more : Clauses X hds l) :
      Clauses X (.ExceptHandler (some (.Name x np)) (some n) (st :: suite) hp :: hds) ((c, i, ts) :: l)
section
variable {X : Cx} {body : List Stmt} {hd0 : ExceptHandler} {hds : List ExceptHandler} {l : List (Value × Nat × Su)} {pos : Pos} {tb : WX → TS} {Wout : WX}
theorem ps_try_clauses (hs : X.stack = X.env :: X.outer) (hf : X.env.frame = some X.env.locals) (hN : X.N.Nodup) (tk : Takes X Wout)
    (bd : ∀ (W : WX) (pn : List (Addr × Obj)) (xe : Value → Shared → Prop), Takes (X.tr pn xe) W → PSs (X.tr pn xe) body (tb W)) (cl : Clauses X (hd0 :: hds) l) : PS X (.Try body (hd0 :: hds) [] [] pos) (fun D σ H => tb (wClauses X.K Wout D l) D σ H) := by
  refine ⟨fun pins s σ H D I h => ?_⟩
  have ok := I.ok; have frm : X.A.frames = some (X.env :: X.outer) := ok.frames.trans (congrArg some hs)
  refine wpAny_Try_except (wpAny_mono ((bd (wClauses X.K Wout D l) (X.pn ++ pins) (fun e s₁ => wpAny (model X.prog X.w) X.A (noteFrame e X.env) (fun _ s₂ => wpAny (model X.prog X.w) X.A (setFlight e none) (fun _ s₃ => wpAny (model X.prog X.w) X.A (handleBy e X.env (hd0 :: hds)) (SP X pins D) X.xe s₃) X.xe s₂) X.xe s₁) (fun u s' xx => ?_)).run [] s σ H D (I.toTry _) h) (fun f s1 hsp => ?_) (fun e s1 he => he))
  · obtain ⟨a, B, sI, pins', σ', H', cls, d, rfl, J', nb, up, sky, na, os, ag, wish⟩ := xx
    have J : Inv X pins σ' H' sI := J'.ofTry ok; rw [hs] at sky
    show wpAny (model X.prog X.w) X.A (noteFrame (.ref a) X.env) _ _ _
    refine Sky.land Zc.steady frm hf sky fun h3 fl up3 => ?_
    have J3 : Inv X pins σ' H' { s' with heap := h3 } := J.landed nb fl.1 (up.trans up3) os ag; obtain ⟨oe3, vs3, he3, hz3, hd3⟩ := fl.there
    have outs : a ∉ frs (X.env :: X.outer) := fun hm => by
      obtain ⟨_, o', e', hnf⟩ := fl.2.2.1.mem hm; rw [he3] at e'; cases e'; exact hnf _ hd3
    have nL : a ≠ X.env.locals := fun z => outs (List.mem_filterMap.mpr ⟨X.env, List.mem_cons_self, hf.trans (congrArg some z.symm)⟩)
    have nF : a ∉ X.fs := fun hm => by
      obtain ⟨e, he, q⟩ := List.mem_filterMap.mp hm; exact outs (List.mem_filterMap.mpr ⟨e, List.mem_cons_of_mem _ he, q⟩)
    have S3 := J3.suite he3 hd3 na nL nF
    have walk : ∀ {hds' : List ExceptHandler} {l' : List (Value × Nat × Su)}, Clauses X hds' l' → wClauses X.K Wout D l' cls d σ' H' → wpAny (model X.prog X.w) X.A (handleBy (.ref a) X.env hds') (SP X pins D) X.xe { s' with heap := h3 } := by
      intro hds' l' hk
      induction hk with
      | nil =>
        intro wish; refine wpAny_handleBy_nil ?_
        obtain ⟨k1, k2, k3, oe, vs, T, oT, ts', he, hz, hd, h1, hr⟩ := id fl; unfold PySem.passOn
        refine wpAny_bind (wpAny_field he hd h1 ?_); rw [if_neg (show ¬ ((Value.ref T == Value.none) = true) from fun z => by simp at z)]
        have fin : wpAny (model X.prog X.w) X.A (setFlight (.ref a) X.env.frame) (fun _ s4 => wpAny (model X.prog X.w) X.A (throw (.ref a) : Sem Flow) (SP X pins D) X.xe s4) X.xe { s' with heap := h3 } := by
          rw [hf]; refine HandSPX.setFlight_upZ fl fun h4 hh4 up4 => wpAny_throw (tk _ _ ⟨a, B, sI, pins, σ', H', cls, d, rfl, J, nb, (up.trans up3).trans up4, .inr (.inr ?_), na, os, ag, wish⟩); rw [hs]; exact hh4
        first | exact wpAny_bind (wpAny_pure (wpAny_bind fin)) | exact wpAny_bind fin
      | @cons x n c i ts st suite np hp hds2 l2 names slot loc body more ih =>
        intro wish; obtain ⟨b, hb1, hyes, hno⟩ := wish
        refine wpAny_handleBy_cons (codeAny_handlers_test ?_) (by intro q; cases q)
        have LT : PySem.W.Looks (model X.prog X.w) h3 (typeOf (.ref a)) cls := fun A Q E s k q => wpAny_typeOf_ref (k _ _ he3) (by rw [hz3.1]; exact q)
        have LM := PySem.W.exm_one (M := model X.prog X.w) (J3.kIn) LT hb1
        have test : ∀ {Q : Value → Shared → Prop} {E : Value → Shared → Prop}, Q c { s' with heap := h3 } → wpAny (model X.prog X.w) (X.A.mark (some (.ref a))) (eval (.Name x np) X.env) Q E { s' with heap := h3 } := fun {Q E} q => by
          obtain ⟨hg, hdbg, hm | ⟨hm, hv, hnn⟩⟩ := names
          · exact ld_glob (X := X.suite a ((a, oe3) :: (X.pn ++ pins))) S3 hg hm q hdbg
          · exact ld_blt (X := X.suite a ((a, oe3) :: (X.pn ++ pins))) S3 hg hm hv q hnn hdbg
        refine test (LM.here ?_)
        cases b with
        | true =>
          refine codeAny_handlers_suite_as (HandSPX.lands_againZ fl fun h4 fl4 up4 => ?_)
          have J4 : Inv X pins σ' H' { s' with heap := h4 } := J.landed nb fl4.1 ((up.trans up3).trans up4) os ag; obtain ⟨oe4, vs4, he4, hz4, hd4⟩ := fl4.there
          refine store_ok (X := X.suite a ((a, oe4) :: (X.pn ++ pins))) (v := .ref a) (J4.suite he4 hd4 na nL nF) hN slot (.inl loc) rfl (fun s5 S5 => ?_) (.inr loc)
          refine wpAny_mono ((body a oe4 cls d (X.pn ++ pins) hz4 ⟨_, hd4⟩).run [] s5 _ H' _ S5 (hyes rfl a na)) (fun f s6 hsp => ?_) (fun _ _ z => False.elim z)
          have goes : ∀ {σ6 : L2.St} {H6 : Hp} {Q : Shared → Prop}, Inv (X.suite a ((a, oe4) :: (X.pn ++ pins))) [] σ6 H6 s6 → (∀ s7, Inv X pins (σ6.set i none) H6 s7 → Q s7) → wpAny (model X.prog X.w) X.A (do bindName X.env n .none; unbindBehindTheSuite X.env n hp) (fun _ s7 => Q s7) X.xe s6 := fun {σ6 H6 Q} S6 hq => gone_ok (S6.unsuite ok) hN slot loc hq
          cases f with
          | next => obtain ⟨σ6, H6, S6, q6⟩ := hsp; exact goes S6 fun s7 J7 => ⟨_, _, J7, q6⟩
          | brk => obtain ⟨σ6, H6, S6, q6⟩ := hsp; exact goes S6 fun s7 J7 => ⟨_, _, J7, q6⟩
          | cont => obtain ⟨σ6, H6, S6, q6⟩ := hsp; exact goes S6 fun s7 J7 => ⟨_, _, J7, q6⟩
          | ret u => obtain ⟨v6, σ6, H6, S6, r6, q6⟩ := hsp; exact goes S6 fun s7 J7 => ⟨_, _, _, J7, r6, q6⟩
        | false =>
          show wpAny _ X.A (handleBy (.ref a) X.env hds2) _ _ _
          exact ih (hno rfl)
    exact walk cl wish
  · cases f with
    | next => obtain ⟨σ', H', J', q⟩ := hsp; exact wpAny_execs_nil ⟨σ', H', J'.ofTry ok, q⟩
    | brk => obtain ⟨σ', H', J', q⟩ := hsp; exact ⟨σ', H', J'.ofTry ok, q⟩
    | cont => obtain ⟨σ', H', J', q⟩ := hsp; exact ⟨σ', H', J'.ofTry ok, q⟩
    | ret u => obtain ⟨v, σ', H', J', r, q⟩ := hsp; exact ⟨v, σ', H', J'.ofTry ok, r, q⟩
end
end WD
namespace WD
open PySem PySem.Spec PyProof.Rows L2
theorem lc_genJ {α : Type} {R : Rl α} [Rep R] {W : It} {n : Nat} {G : Hp → Prop} {Y : Nat → Hp → V → Hp → Prop} (w : Walk W n G Y) {g : TG} {tt : TT} {te : TE} {vs : List Nat} {σ : L2.St} {H1 : Hp} {Q : Addr → Hp → Prop}
    {M Mf : MS} {J : Nat → Hp → Prop} (hMf : ∀ x, Mf x → M x) (hJm : ∀ i, JOk Mf (J i)) (hn : n ≤ 1000000) (hM : MIn M H1) (hJ : J 0 H1) (P : Nat → Option α → Prop)
    (hG : ∀ M' H', Tr M H1 M' H' → Fr Mf H1 H' → G H')
    (hb : ∀ i M' H', i < n → Tr M H1 M' H' → Fr Mf H1 H' → MIn M' H' → (∀ x, M x → M' x) → J i H' → ∀ (Ky : V → Hp → Prop) (Kn : Hp → Prop),
      (∀ y H4 a, P i (some a) → Fr Mf H' H4 → J (i + 1) H4 → R M' H4 y a → Ky y H4) → (∀ H3, P i none → Fr Mf H' H3 → J (i + 1) H3 → Kn H3) →
      ∀ x H'', Y i H' x H'' → g x (wipe σ vs) H'' fun σ2 H2 => wipe σ2 vs = wipe σ vs ∧ tt σ2 H2 fun b H3 => if b = true then te σ2 H3 Ky else Kn H3)
    (k : ∀ (D : Addr) (l : List (Option α)) (H' : Hp), H1 D = none → l.length = n → (∀ i o, l[i]? = some o → P i o) → Fr Mf H1 H' → J n H' → rL R M H' (.ref D) (l.filterMap id) → Q D H') :
    ∀ D, H1 D = none → ∃ W' : Nat → Nat → Hp → Prop, (∃ m, W' 0 m (upd H1 D (.lst []))) ∧ ∀ i m H, W' i m H →
      (W.stop i H ∧ Q D H) ∨ (W.go i H ∧ ∃ Nx : Hp → Prop, (∀ H', Nx H' → ∃ m', m' < m ∧ W' (i + 1) m' H') ∧ ∀ x H', W.yld i H x H' → g x (wipe σ vs) H' fun σ2 H2 => wipe σ2 vs = wipe σ vs ∧ tt σ2 H2 fun b H3 =>
        if b = true then te σ2 H3 fun y H4 => ∃ acc, H4 D = some (.lst acc) ∧ acc.length < sizeLine ∧ Nx (upd H4 D (.lst (acc ++ [y]))) else Nx H3) := by
  intro D hD
  have nD : ¬ M D := hM.no hD
  have nDf : ¬ Mf D := fun z => nD (hMf D z)
  have jup : ∀ {i : Nat} {H : Hp} {o : HO}, J i H → J i (upd H D o) := fun {i H o} h => hJm i H _ (fun x hx => upd_ne (fun z => nDf (z ▸ hx))) h
  have base : Tr M H1 (plus M D) (upd H1 D (.lst [])) := fun {_ _ _ _ _} h => Rep.st (Fr.new hD) (Rep.ad hD h)
  have up : ∀ {H H' : Hp}, Fr Mf H H' → Fr (plus M D) H H' := fun f => f.mono fun x z => .inl (hMf x z)
  refine lc_it w (fun i H => ∃ l : List (Option α), l.length = i ∧ (∀ j o, l[j]? = some o → P j o) ∧ Fr Mf H1 H ∧ J i H ∧ Tr M H1 (plus M D) H ∧ MIn (plus M D) H ∧ ∃ acc, H D = some (.lst acc) ∧ All2 (R (plus M D) H) acc (l.filterMap id))
    ⟨[], rfl, fun j o e => by simp at e, Fr.new hD, jup hJ, base, (hM.to (M' := M) (Fr.new hD)).plus upd_same, [], upd_same, trivial⟩ (fun i H _ ⟨l, _, _, f, _, t, _⟩ => hG _ _ t f) (fun i x H H' hi ⟨l, ll, lP, f, j, t, mi, acc, ha, al⟩ hy => ?_) (fun H ⟨l, ll, lP, f, j, t, mi, acc, ha, al⟩ => ?_)
  · refine hb i (plus M D) H hi t f mi (fun x h => .inl h) j _ _ (fun y H4 a pa f4 j4 r4 => ?_) (fun H3 pn f3 j3 => ?_) x H' hy
    · have hD4 : H4 D = some (.lst acc) := f4.keep D _ nDf ha
      have sz : acc.length < sizeLine := by
        have h1 := al.len
        have h2 : (l.filterMap id).length ≤ l.length := List.length_filterMap_le _ _
        have h3 := sizeLine_eq
        omega
      refine ⟨acc, hD4, sz, l ++ [some a], by rw [List.length_append, ll]; rfl, fun j o e => ?_, (f.trans f4).mutNew hD, jup j4, ?_, ?_, acc ++ [y], upd_same, ?_⟩
      · by_cases hj : j < l.length
        · rw [List.getElem?_append_left hj] at e; exact lP j o e
        · rw [List.getElem?_append_right (by omega)] at e
          have hj2 : j - l.length = 0 := by
            have := (List.getElem?_eq_some_iff.mp e).1
            simp at this; omega
          rw [hj2] at e
          have ej : j = i := by omega
          rw [ej, ← Option.some.inj e]
          exact pa
      · intro β S _ v b h
        exact Rep.st (M := plus M D) (Fr.mut (.inr rfl)) (Rep.st (up f4) (t h))
      · exact (mi.to f4).to (M' := plus M D) (Fr.mut (.inr rfl))
      · rw [filterMap_snoc]
        refine All2.app (al.imp fun v b z => ?_) (All2.one ?_)
        · exact Rep.st (M := plus M D) (Fr.mut (.inr rfl)) (Rep.st (up f4) z)
        · exact Rep.st (M := plus M D) (Fr.mut (.inr rfl)) r4
    · have hD3 : H3 D = some (.lst acc) := f3.keep D _ nDf ha
      refine ⟨l ++ [none], by rw [List.length_append, ll]; rfl, fun j o e => ?_, f.trans f3, j3, ?_, mi.to f3, acc, hD3, ?_⟩
      · by_cases hj : j < l.length
        · rw [List.getElem?_append_left hj] at e; exact lP j o e
        · rw [List.getElem?_append_right (by omega)] at e
          have hj2 : j - l.length = 0 := by
            have := (List.getElem?_eq_some_iff.mp e).1
            simp at this; omega
          rw [hj2] at e
          have ej : j = i := by omega
          rw [ej, ← Option.some.inj e]
          exact pn
      · intro β S _ v b h
        exact Rep.st (up f3) (t h)
      · rw [filterMap_snoc]
        show All2 _ _ (l.filterMap id ++ [])
        rw [List.append_nil]
        exact al.imp fun v b z => Rep.st (up f3) z
  · exact k D l H hD ll lP f j ⟨D, acc, rfl, nD, ha, al.imp fun v b z => Rep.wk (fun _ q => .inl q) z⟩

/-! ### any data -/
mutual
def rJ (M : MS) (H : Hp) : V → PyData → Prop
  | v, .none => v = .non
  | v, .bool b => v = .bl b
  | v, .int i => v = .int i
  | v, .str x => v = .str x ∧ PyData.strOk x = true
  | v, .list l => ∃ a vs, v = .ref a ∧ ¬ M a ∧ H a = some (.lst vs) ∧ rJs M H vs l
  | v, .tuple l => ∃ a vs, v = .ref a ∧ ¬ M a ∧ H a = some (.tup vs) ∧ rJs M H vs l
  | _, .dict _ => False
def rJs (M : MS) (H : Hp) : List V → List PyData → Prop
  | [], [] => True
  | v :: vs, d :: ds => rJ M H v d ∧ rJs M H vs ds
  | _, _ => False
end
abbrev rX : Rl PyData := rJ
theorem rJs_all {M : MS} {H : Hp} : ∀ {vs : List V} {ds : List PyData}, rJs M H vs ds ↔ All2 (rJ M H) vs ds
  | [], [] => by unfold rJs All2; exact Iff.rfl
  | v :: vs, d :: ds => by
    unfold rJs All2
    exact and_congr Iff.rfl rJs_all
  | [], _ :: _ => by unfold rJs All2; exact Iff.rfl
  | _ :: _, [] => by unfold rJs All2; exact Iff.rfl
theorem rJ_list {M : MS} {H : Hp} {v : V} {l : List PyData} : rJ M H v (.list l) ↔ rL rX M H v l := by
  unfold rJ rL
  exact ⟨fun ⟨a, vs, h1, h2, h3, h4⟩ => ⟨a, vs, h1, h2, h3, rJs_all.mp h4⟩, fun ⟨a, vs, h1, h2, h3, h4⟩ => ⟨a, vs, h1, h2, h3, rJs_all.mpr h4⟩⟩
theorem rJ_tuple {M : MS} {H : Hp} {v : V} {l : List PyData} : rJ M H v (.tuple l) ↔ rT rX M H v l := by
  unfold rJ rT
  exact ⟨fun ⟨a, vs, h1, h2, h3, h4⟩ => ⟨a, vs, h1, h2, h3, rJs_all.mp h4⟩, fun ⟨a, vs, h1, h2, h3, h4⟩ => ⟨a, vs, h1, h2, h3, rJs_all.mpr h4⟩⟩
theorem rJ_int {M : MS} {H : Hp} {v : V} {i : Int} : rJ M H v (.int i) ↔ v = .int i := by unfold rJ; exact Iff.rfl
theorem rJ_bool {M : MS} {H : Hp} {v : V} {i : Bool} : rJ M H v (.bool i) ↔ v = .bl i := by unfold rJ; exact Iff.rfl
theorem rJ_none {M : MS} {H : Hp} {v : V} : rJ M H v .none ↔ v = .non := by unfold rJ; exact Iff.rfl
theorem rJ_str {M : MS} {H : Hp} {v : V} {x : Str} : rJ M H v (.str x) ↔ rS M H v x := by unfold rJ; exact Iff.rfl
mutual
theorem rJ_st {M M' : MS} {H H' : Hp} (na : ∀ a, ¬ M a → H a ≠ none → ¬ M' a) (f : ∀ a o, ¬ M a → H a = some o → H' a = some o) : ∀ (d : PyData) (v : V), rJ M H v d → rJ M' H' v d
  | .none, v, h => by unfold rJ at h ⊢; exact h
  | .bool b, v, h => by unfold rJ at h ⊢; exact h
  | .int i, v, h => by unfold rJ at h ⊢; exact h
  | .str x, v, h => by unfold rJ at h ⊢; exact h
  | .list l, v, h => by
    unfold rJ at h ⊢
    obtain ⟨a, vs, h1, h2, h3, h4⟩ := h
    exact ⟨a, vs, h1, na a h2 (by rw [h3]; exact fun z => nomatch z), f a _ h2 h3, rJs_st na f l vs h4⟩
  | .tuple l, v, h => by
    unfold rJ at h ⊢
    obtain ⟨a, vs, h1, h2, h3, h4⟩ := h
    exact ⟨a, vs, h1, na a h2 (by rw [h3]; exact fun z => nomatch z), f a _ h2 h3, rJs_st na f l vs h4⟩
  | .dict _, v, h => by unfold rJ at h; exact h.elim
theorem rJs_st {M M' : MS} {H H' : Hp} (na : ∀ a, ¬ M a → H a ≠ none → ¬ M' a) (f : ∀ a o, ¬ M a → H a = some o → H' a = some o) : ∀ (ds : List PyData) (vs : List V), rJs M H vs ds → rJs M' H' vs ds
  | [], [], _ => by unfold rJs; trivial
  | d :: ds, v :: vs, h => by
    unfold rJs at h ⊢
    exact ⟨rJ_st na f d v h.1, rJs_st na f ds vs h.2⟩
  | [], _ :: _, h => by unfold rJs at h; exact h.elim
  | _ :: _, [], h => by unfold rJs at h; exact h.elim
end
instance : Rep rX := ⟨fun f h => rJ_st (fun _ n _ => n) f.keep _ _ h, fun s h => rJ_st (fun a n _ z => n (s a z)) (fun _ _ _ e => e) _ _ h,
  fun hD h => rJ_st (fun a n ne z => z.elim n (fun e => ne (by rw [e]; exact hD))) (fun _ _ _ e => e) _ _ h⟩
mutual
theorem rJ_dp {K : PySem.W.Frag} {M : MS} {H : Hp} : ∀ (d : PyData) (v : V), rJ M H v d → Dp K H v d ∧ d.canLay0 = true
  | .none, v, h => by unfold rJ at h; subst h; exact ⟨.non, rfl⟩
  | .bool b, v, h => by unfold rJ at h; subst h; exact ⟨.bl b, rfl⟩
  | .int i, v, h => by unfold rJ at h; subst h; exact ⟨.int i, rfl⟩
  | .str x, v, h => by unfold rJ at h; obtain ⟨rfl, h⟩ := h; exact ⟨.str x, h⟩
  | .list l, v, h => by
    unfold rJ at h
    obtain ⟨a, vs, rfl, h2, h3, h4⟩ := h
    obtain ⟨g1, g2⟩ := rJs_dp (K := K) l vs h4
    exact ⟨.lst (SqL.of h3) g1, g2⟩
  | .tuple l, v, h => by
    unfold rJ at h
    obtain ⟨a, vs, rfl, h2, h3, h4⟩ := h
    obtain ⟨g1, g2⟩ := rJs_dp (K := K) l vs h4
    exact ⟨.tup (SqT.of h3) g1, g2⟩
  | .dict _, v, h => by unfold rJ at h; exact h.elim
theorem rJs_dp {K : PySem.W.Frag} {M : MS} {H : Hp} : ∀ (ds : List PyData) (vs : List V), rJs M H vs ds → DpAll K H vs ds ∧ PyData.canLayAll0 ds = true
  | [], [], _ => ⟨.nil, rfl⟩
  | d :: ds, v :: vs, h => by
    unfold rJs at h
    obtain ⟨h1, h2⟩ := rJ_dp (K := K) d v h.1
    obtain ⟨h3, h4⟩ := rJs_dp (K := K) ds vs h.2
    exact ⟨.cons h1 h3, by show (d.canLay0 && PyData.canLayAll0 ds) = true; rw [h2, h4]; rfl⟩
  | [], _ :: _, h => by unfold rJs at h; exact h.elim
  | _ :: _, [], h => by unfold rJs at h; exact h.elim
end
/-- == and != of any data -/
theorem eqJ {K : PySem.W.Frag} {M M' : MS} {H : Hp} {x y : V} {d e : PyData} {Q : VK} (h1 : rJ M H x d) (h2 : rJ M' H y e) (n1 : d.depth ≤ 64) (n2 : e.depth ≤ 64) (k : Q (.bl (PyData.eqv d e)) H) : rEqD K x y H Q := by
  obtain ⟨a1, a2⟩ := rJ_dp (K := K) d x h1
  obtain ⟨b1, b2⟩ := rJ_dp (K := K) e y h2
  exact ⟨d, e, a1, b1, shaped_of a2 n1 (Nat.le_refl _), shaped_of b2 n2 (Nat.le_refl _), k⟩
theorem neJ {K : PySem.W.Frag} {M M' : MS} {H : Hp} {x y : V} {d e : PyData} {Q : VK} (h1 : rJ M H x d) (h2 : rJ M' H y e) (n1 : d.depth ≤ 64) (n2 : e.depth ≤ 64) (k : Q (.bl (!PyData.eqv d e)) H) : rNeD K x y H Q := by
  obtain ⟨a1, a2⟩ := rJ_dp (K := K) d x h1
  obtain ⟨b1, b2⟩ := rJ_dp (K := K) e y h2
  exact ⟨d, e, a1, b1, shaped_of a2 n1 (Nat.le_refl _), shaped_of b2 n2 (Nat.le_refl _), k⟩
/-! ints as data -/
theorem all_ints {M : MS} {H : Hp} : ∀ {vs : List V} {l : List Int}, All2 (rI M H) vs l → All2 (rJ M H) vs (l.map .int)
  | [], [], _ => trivial
  | _ :: _, _ :: _, h => ⟨rJ_int.mpr h.1, all_ints h.2⟩
  | [], _ :: _, h => h.elim
  | _ :: _, [], h => h.elim
theorem ints_all {M : MS} {H : Hp} : ∀ {vs : List V} {l : List Int}, All2 (rJ M H) vs (l.map .int) → All2 (rI M H) vs l
  | [], [], _ => trivial
  | _ :: _, _ :: _, h => ⟨rJ_int.mp h.1, ints_all h.2⟩
  | [], _ :: _, h => h.elim
  | _ :: _, [], h => h.elim
theorem tupJ {M : MS} {H : Hp} {v : V} {l : List Int} : rJ M H v (.tuple (l.map .int)) ↔ rT rI M H v l :=
  ⟨fun h => by
    obtain ⟨a, vs, h1, h2, h3, h4⟩ := rJ_tuple.mp h
    exact ⟨a, vs, h1, h2, h3, ints_all h4⟩, fun ⟨a, vs, h1, h2, h3, h4⟩ => rJ_tuple.mpr ⟨a, vs, h1, h2, h3, all_ints h4⟩⟩
theorem lstJ {M : MS} {H : Hp} {v : V} {l : List Int} : rJ M H v (.list (l.map .int)) ↔ rL rI M H v l :=
  ⟨fun h => by
    obtain ⟨a, vs, h1, h2, h3, h4⟩ := rJ_list.mp h
    exact ⟨a, vs, h1, h2, h3, ints_all h4⟩, fun ⟨a, vs, h1, h2, h3, h4⟩ => rJ_list.mpr ⟨a, vs, h1, h2, h3, all_ints h4⟩⟩
/-! ### things, rows of any data -/
def wholeD : PyData → Bool
  | .int _ => true
  | _ => false
def thingD (n : Int) : PyData → Bool
  | .int i => inR n i
  | _ => false
def tupD : PyData → Bool
  | .tuple _ => true
  | _ => false
def lstD : PyData → Bool
  | .list _ => true
  | _ => false
def itemsD : PyData → List PyData
  | .tuple l => l
  | .list l => l
  | _ => []
def rowD (d : PyData) (m n : Int) : Bool := match d with
  | .tuple l => decide ((l.length : Int) = m) && l.all (thingD n)
  | _ => false
def tyD : PyData → String
  | .none => "NoneType"
  | .bool _ => "bool"
  | .int _ => "int"
  | .str _ => "str"
  | .list _ => "list"
  | .tuple _ => "tuple"
  | .dict _ => "dict"
theorem tyJ {K : PySem.W.Frag} {M : MS} {H : Hp} {v : V} {d : PyData} (h : rJ M H v d) : TyX K H v (.type (tyD d)) := by
  cases d with
  | none => cases rJ_none.mp h; exact .base .non
  | bool b => cases rJ_bool.mp h; exact .base (.bl b)
  | int i => cases rJ_int.mp h; exact .base (.int i)
  | str x => obtain ⟨rfl, _⟩ := rJ_str.mp h; exact .base (.str x)
  | list l => obtain ⟨a, vs, rfl, _, h3, _⟩ := rJ_list.mp h; exact .base (.lst h3)
  | tuple l => obtain ⟨a, vs, rfl, _, h3, _⟩ := rJ_tuple.mp h; exact .base (.tup h3)
  | dict l => unfold rJ at h; exact h.elim
theorem kitTup (d : PyData) : kitB (tyD d) "tuple" = some (tupD d) := by
  cases d with
  | none => show kitB "NoneType" "tuple" = some false; decide +kernel
  | bool b => show kitB "bool" "tuple" = some false; decide +kernel
  | int i => show kitB "int" "tuple" = some false; decide +kernel
  | str x => show kitB "str" "tuple" = some false; decide +kernel
  | list l => show kitB "list" "tuple" = some false; decide +kernel
  | tuple l => show kitB "tuple" "tuple" = some true; decide +kernel
  | dict l => show kitB "dict" "tuple" = some false; decide +kernel
theorem kitLst (d : PyData) : kitB (tyD d) "list" = some (lstD d) := by
  cases d with
  | none => show kitB "NoneType" "list" = some false; decide +kernel
  | bool b => show kitB "bool" "list" = some false; decide +kernel
  | int i => show kitB "int" "list" = some false; decide +kernel
  | str x => show kitB "str" "list" = some false; decide +kernel
  | list l => show kitB "list" "list" = some true; decide +kernel
  | tuple l => show kitB "tuple" "list" = some false; decide +kernel
  | dict l => show kitB "dict" "list" = some false; decide +kernel
theorem wholeJ {K : PySem.W.Frag} {M : MS} {H : Hp} {v : V} {d : PyData} (h : rJ M H v d) : Whole K H v (wholeD d) := by
  have ty := tyJ (K := K) h
  cases d with
  | none => exact .oth ty (show kitB "NoneType" "int" = some false by decide +kernel)
  | bool b => cases rJ_bool.mp h; exact .bl b
  | int i => cases rJ_int.mp h; exact .int i
  | str x => exact .oth ty (show kitB "str" "int" = some false by decide +kernel)
  | list l => exact .oth ty (show kitB "list" "int" = some false by decide +kernel)
  | tuple l => exact .oth ty (show kitB "tuple" "int" = some false by decide +kernel)
  | dict l => exact .oth ty (show kitB "dict" "int" = some false by decide +kernel)
theorem thingJ {K : PySem.W.Frag} {M : MS} {H : Hp} {v : V} {d : PyData} {n : Int} (h : rJ M H v d) : Thing K H n v (thingD n d) := by
  have ty := tyJ (K := K) h
  cases d with
  | none => exact .oth ty (show kitB "NoneType" "int" = some false by decide +kernel)
  | bool b => cases rJ_bool.mp h; exact .bl b
  | int i => cases rJ_int.mp h; exact .int i
  | str x => exact .oth ty (show kitB "str" "int" = some false by decide +kernel)
  | list l => exact .oth ty (show kitB "list" "int" = some false by decide +kernel)
  | tuple l => exact .oth ty (show kitB "tuple" "int" = some false by decide +kernel)
  | dict l => exact .oth ty (show kitB "dict" "int" = some false by decide +kernel)
/-- l.count(x), ints -/
def rCountI (K : PySem.W.Frag) : V → List V → Hp → VK → Prop := fun x xs H Q => ∃ (a : Addr) (ns : List Int) (i : Int), x = .ref a ∧ xs = [.int i] ∧ SqL K H a (ns.map V.int) ∧ Q (.int (ns.countP fun y => decide (y = i) : Nat)) H
theorem plain_ints : ∀ ns : List Int, PyData.plainAll (ns.map PyData.int) = true
  | [] => rfl
  | n :: ns => by
    show (true && PyData.plainAll (ns.map PyData.int)) = true
    rw [plain_ints ns]; rfl
theorem mt_countI {X : Cx} (hu : X.A.units + 1 < cLine) : MtR X "list.count" (rCountI X.K) := by
  intro pins s σ H x xs v us Q I rx rxs h
  obtain ⟨a, ns, i, rfl, rfl, hs, q⟩ := h
  cases rx
  cases rxs with
  | cons ry rt =>
    cases rt
    obtain ⟨t, rfl⟩ := (show ∃ t, _ = Value.int i t from ry)
    obtain ⟨its, rv, ⟨⟨cls, dd, data, sls⟩, n, ho, hc, hdn, hdt⟩, hlen⟩ := I.list hs
    simp only at hc hdt
    obtain ⟨as, hr⟩ := Dp.readsAll I _ _ its (dpInts ns) rv
    obtain ⟨bs, r1⟩ := Dp.reads I (.int i) (.int i) (.int i t) (.int i) ⟨t, rfl⟩
    refine PySem.SeqAt.count_list_data (vs := its.toArray) ⟨_, ho, hc, n, hdt⟩ hr r1 (plain_ints ns) rfl (by
      show X.A.units + 1 + min _ 0 < cLine
      rw [Nat.min_zero]; exact hu) ?_
    have e : (ns.map PyData.int).countP (fun y => PyData.eqv y (.int i)) = ns.countP fun y => decide (y = i) := by
      rw [List.countP_map]
      refine List.countP_congr fun y _ => ?_
      show (y == i) = true ↔ decide (y = i) = true
      rw [Bool.beq_eq_decide_eq]
    rw [e]
    exact ⟨.int _, H, I.tok _, ⟨_, rfl⟩, q⟩
theorem rowD_ints {d : PyData} {m n : Int} (h : rowD d m n = true) : ∃ l : List Int, d = .tuple (l.map .int) ∧ (l.length : Int) = m ∧ ∀ x ∈ l, 0 ≤ x ∧ x < n := by
  cases d with
  | tuple l =>
    have h' : (decide ((l.length : Int) = m) && l.all (thingD n)) = true := h
    simp only [Bool.and_eq_true, decide_eq_true_eq] at h'
    obtain ⟨h1, h2⟩ := h'
    have key : ∀ l : List PyData, l.all (thingD n) = true → ∃ k : List Int, l = k.map .int ∧ ∀ x ∈ k, 0 ≤ x ∧ x < n := by
      intro l
      induction l with
      | nil => intro _; exact ⟨[], rfl, fun x h => by cases h⟩
      | cons e l ih =>
        intro h
        rw [List.all_cons, Bool.and_eq_true] at h
        obtain ⟨k, e1, e2⟩ := ih h.2
        cases e with
        | int i =>
          have h3 : inR n i = true := h.1
          unfold inR at h3
          simp only [Bool.and_eq_true, decide_eq_true_eq] at h3
          refine ⟨i :: k, by rw [e1]; rfl, fun x hx => ?_⟩
          rcases List.mem_cons.mp hx with q | q
          · rw [q]; exact h3
          · exact e2 x q
        | _ => exact absurd h.1 (fun z => nomatch z)
    obtain ⟨k, e1, e2⟩ := key l h2
    exact ⟨k, by rw [e1], by rw [e1, List.length_map] at h1; exact h1, e2⟩
  | _ => cases h
end WD
/-! enumerate of a tuple -/
namespace WD
open PySem PySem.Spec PyProof.Rows L2
open AutoSeq1 (wpAny_loadPart')
section
variable {prog : Program} {w : World} {A : Around} {E : Value → Shared → Prop}
/-- a turn of an enumerate whose inner iterator gives x and then stands as P says -/
theorem enum_turn {s : Shared} {e it : Addr} {i : Nat} {x old : Value} {P : Heap → Prop} {Q : Value → Shared → Prop} (he : IsEnum s.heap e it i old) (hne : e ≠ it)
    (next : ∀ {Q' : Value → Shared → Prop}, (∀ h', P h' → Heap.SameBut it s.heap h' → Q' x { s with heap := h' }) → wpAny (model prog w) A (Builtin.SmallTypes.nextOf (.ref it)) Q' E s)
    (st : ∀ {h h'}, P h → Heap.ExtBut e h h' → P h')
    (hQ : ∀ h', IsEnumOut h' e it ((i : Int) + 1) x s.heap.objs.size → P h' → h'.get? s.heap.objs.size = some { cls := .type "tuple", data := .seq #[.int i s.toks, x] } →
      (∀ b o, b ≠ e → b ≠ it → s.heap.get? b = some o → h'.get? b = some o) → Q (.ref s.heap.objs.size) { s with heap := h', toks := s.toks + 1 }) :
    wpAny (model prog w) A (Builtin.«enumerate.__next__» ⟨[.ref e], []⟩) (fun fin s' => ∃ v, fin = .done (.ret v) ∧ Q v s') E s := by
  obtain ⟨hp, g, d, tk, os⟩ := s
  dsimp only at he next hQ
  have lt : e < hp.objs.size := Heap.lt_size he
  show wpAny _ _ (field (.ref e) 2 >>= _) _ _ ⟨hp, g, d, tk, os⟩
  refine wpAny_bind (wpAny_field he rfl (x := .ref it) rfl (wpAny_bind (next fun h1 p1 s1 => ?_)))
  have e1 : IsEnum h1 e it i old := (s1.2 e hne).trans he
  show wpAny _ _ (field (.ref e) 3 >>= _) _ _ _
  refine wpAny_bind (wpAny_field e1 rfl (x := rawInt i) rfl ?_)
  show wpAny _ _ (field (.ref e) 4 >>= _) _ _ _
  refine wpAny_bind (wpAny_field e1 rfl (x := .none) rfl ?_)
  show wpAny _ _ (mkInt i >>= _) _ _ _
  refine wpAny_bind (wpAny_mkInt ?_)
  show wpAny _ _ (setField (.ref e) 3 (rawInt ((i : Int) + 1)) >>= _) _ _ _
  refine wpAny_bind (wpAny_setField_rec e1 (by simp) fun h2 e2 s2 => ?_)
  have e2' : IsEnum h2 e it ((i : Int) + 1) old := e2
  show wpAny _ _ (setField (.ref e) 4 .none >>= _) _ _ _
  refine wpAny_bind (wpAny_setField_rec e2' (by simp) fun h3 e3 s3 => ?_)
  have e3' : IsEnum h3 e it ((i : Int) + 1) old := e3
  have p3 : P h3 := st (st p1 (Heap.SameBut.extBut s2)) (Heap.SameBut.extBut s3)
  have sz : h3.objs.size = hp.objs.size := s3.1.trans (s2.1.trans s1.1)
  have k3 : ∀ b o, b ≠ e → b ≠ it → hp.get? b = some o → h3.get? b = some o := fun b o n1 n2 q => (s3.2 b n1).trans ((s2.2 b n1).trans ((s1.2 b n2).trans q))
  show wpAny _ _ (newTuple [.int i tk, x] >>= _) _ _ _
  refine wpAny_bind (wpAny_newTuple ?_)
  have e4 : IsEnum (h3.push { cls := .type "tuple", data := .seq #[.int i tk, x] }) e it ((i : Int) + 1) old := Heap.get?_push_of_some _ e3'
  have t4 : (h3.push { cls := .type "tuple", data := .seq #[.int i tk, x] }).get? hp.objs.size = some { cls := .type "tuple", data := .seq #[.int i tk, x] } := sz ▸ Heap.get?_push_size _ rfl
  have p4 : P (h3.push { cls := .type "tuple", data := .seq #[.int i tk, x] }) := st p3 fun b o _ q => Heap.get?_push_of_some _ q
  have k4 : ∀ b o, b ≠ e → b ≠ it → hp.get? b = some o → (h3.push { cls := .type "tuple", data := .seq #[.int i tk, x] }).get? b = some o := fun b o n1 n2 q => Heap.get?_push_of_some _ (k3 b o n1 n2 q)
  generalize h3.push { cls := .type "tuple", data := .seq #[.int i tk, x] } = h4 at e4 t4 p4 k4
  show wpAny _ _ (Builtin.SmallTypes.ownedTupleIsFree (.ref e) >>= _) _ _ ⟨h4, g, d, tk + 1, os⟩
  rw [sz]
  refine wpAny_bind ?_
  unfold Builtin.SmallTypes.ownedTupleIsFree
  refine wpAny_bind (wpAny_field e4 rfl (x := .none) rfl (wpAny_pure ?_))
  simp only [if_true]
  refine wpAny_bind (wpAny_rule (wpAny_bind (wpAny_field e4 rfl (x := old) rfl (wpAny_bind (wpAny_setField_rec e4 (by simp) fun h5 e5 s5 => ?_)))))
  have e5' : IsEnum h5 e it ((i : Int) + 1) x := e5
  show wpAny _ _ (Builtin.SmallTypes.ownedTupleHandOut (.ref e) (.ref hp.objs.size) >>= _) _ _ _
  refine wpAny_bind ?_
  unfold Builtin.SmallTypes.ownedTupleHandOut
  refine wpAny_bind (wpAny_setField_rec e5' (by simp) fun h6 e6 s6 => ?_)
  have e6' : IsEnumOut h6 e it ((i : Int) + 1) x hp.objs.size := e6
  refine wpAny_setField_rec e6' (by simp) fun h7 e7 s7 => ?_
  refine wpAny_bind (wpAny_letGo (wpAny_pure ⟨_, rfl, hQ h7 e7 ?_ ?_ ?_⟩))
  · exact st (st (st p4 (Heap.SameBut.extBut s5)) (Heap.SameBut.extBut s6)) (Heap.SameBut.extBut s7)
  · exact (s7.2 _ (Nat.ne_of_gt lt)).trans ((s6.2 _ (Nat.ne_of_gt lt)).trans ((s5.2 _ (Nat.ne_of_gt lt)).trans t4))
  · exact fun b o n1 n2 q => (s7.2 b n1).trans ((s6.2 b n1).trans ((s5.2 b n1).trans (k4 b o n1 n2 q)))
theorem enumT_item {s : Shared} {e it l : Addr} {i : Nat} {items : Array Value} {x old : Value} {Q : Option Value → Shared → Prop} (he : IsEnum s.heap e it i old) (hit : s.heap.IsTupleIter it l i) (hl : s.heap.IsTuple l items) (hx : items[i]? = some x) (hne : e ≠ it)
    (hQ : ∀ h', IsEnumOut h' e it ((i : Int) + 1) x s.heap.objs.size → h'.IsTupleIter it l (i + 1) → h'.get? s.heap.objs.size = some { cls := .type "tuple", data := .seq #[.int i s.toks, x] } →
      (∀ b o, b ≠ e → b ≠ it → s.heap.get? b = some o → h'.get? b = some o) → Q (some (.ref s.heap.objs.size)) { s with heap := h', toks := s.toks + 1 }) : wpAny (model prog w) A (pyNext (.ref e)) Q E s := by
  have hT : s.TypeIs (.ref e) "enumerate" := ⟨_, he, rfl⟩
  unfold pyNext
  refine wpAny_bind (wpAny_attempt (wpAny_callSpecial?_slot (name := Str.ofString "__next__") hT F.slot_enumerate_next (wpAny_call_entry F.slot_enumerate_next hT F.entry_enumerate_next (enum_turn (x := x) (P := fun h => h.IsTupleIter it l (i + 1)) he hne ?_ ?_ ?_) (F.args_enumerate_next_1 _))))
  · exact fun q => RZ.nextOf_tuple_item hit hl hx q
  · exact fun {h h'} p k => p.extBut k (Ne.symm hne)
  · exact fun h' a b c k => wpAny_pure (hQ h' a b c k)
theorem enumT_end {s : Shared} {e it l : Addr} {i : Nat} {items : Array Value} {old : Value} {Q : Option Value → Shared → Prop} (hh : A.handled = none) (he : IsEnum s.heap e it i old) (hit : s.heap.IsTupleIter it l i) (hl : s.heap.IsTuple l items) (hx : items[i]? = none)
    (hQ : ∀ h', Heap.ExtBut it s.heap h' → Q none { s with heap := h' }) : wpAny (model prog w) A (pyNext (.ref e)) Q E s := by
  have hT : s.TypeIs (.ref e) "enumerate" := ⟨_, he, rfl⟩
  unfold pyNext
  refine wpAny_bind (wpAny_attempt (wpAny_callSpecial?_slot (name := Str.ofString "__next__") hT F.slot_enumerate_next (wpAny_call_entry F.slot_enumerate_next hT F.entry_enumerate_next ?_ (F.args_enumerate_next_1 _))))
  show wpAny _ _ (field (.ref e) 2 >>= _) _ _ _
  refine wpAny_bind (wpAny_field he rfl (x := .ref it) rfl (wpAny_bind (RZ.nextOf_tuple_end hh hit hl hx fun h' x he' hx' => ?_)))
  obtain ⟨o, ho, hc⟩ := hx'
  exact wpAny_bind (wpAny_isInstance (T := "StopIteration") (b := true) ⟨o, ho, hc⟩ isSubtype_stop (wpAny_pure (hQ _ he')))
theorem enumT_new (l : Addr) (items : Array Value) (n : Nat) (dct : Option Addr) (sl : Array (Option Value)) :
    Meets (Builtin.«enumerate.__new__» ⟨[.type "enumerate", .ref l], []⟩) (fun _ R s => s.heap.get? l = some { cls := .type "tuple", dict := dct, data := .seq items n, slots := sl } ∧
      R (.ok (.ret (.ref (s.heap.push { cls := .type "tuple_iterator", data := .fields #[.ref l, .int 0 0] }).objs.size)))
        { s with heap := (s.heap.push { cls := .type "tuple_iterator", data := .fields #[.ref l, .int 0 0] }).push { cls := .type "enumerate", data := .fields #[.none, .bool false, .ref s.heap.objs.size, rawInt 0, .none, .none] } }) :=
  .of_wp fun prog w A R s h => by
    obtain ⟨hp, g, d, tk, os⟩ := s
    obtain ⟨hl, h⟩ := h
    have hsub := sub_enumerate
    have hL : Heap.IsTuple (Shared.heap ⟨hp, g, d, tk, os⟩) l items := ⟨_, hl, rfl, n, rfl⟩
    wp_walk using wpAny_loadPart' hl
    refine wpAny_stack_any fun st => wpAny_pure ?_
    split
    · rename_i c _ _ _ _ _
      cases (c == Value.type "enumerate") <;> (wp_walk using wpAny_loadPart' hl, wpAny_pyIter_tuple hL; exact ⟨_, rfl, h⟩)
    · wp_walk using wpAny_loadPart' hl, wpAny_pyIter_tuple hL
      exact ⟨_, rfl, h⟩
theorem call_enumT {s : Shared} {l : Addr} {items : Array Value} {Q : Value → Shared → Prop} (hL : s.heap.IsTuple l items)
    (h : ∀ h', IsEnum h' (s.heap.objs.size + 1) s.heap.objs.size 0 .none → h'.IsTupleIter s.heap.objs.size l 0 → (∀ b o, s.heap.get? b = some o → h'.get? b = some o) → Q (.ref (s.heap.objs.size + 1)) { s with heap := h' }) :
    wpAny (model prog w) A (call (.type "enumerate") [.ref l]) Q E s := by
  obtain ⟨⟨c, dct, dt, sl⟩, hl, hc, n, hd⟩ := hL
  simp only at hc hd
  subst hc hd
  refine callType_new F.called_enumerate (by decide) (F.typeCall_enumerate_1 _) (F.newCall_enumerate_1 _) (fun obj => F.args_object_init_2 obj _) F.entry_enumerate_new (enumT_new l items n dct sl) ⟨hl, ?_⟩
  have hz : (s.heap.push { cls := .type "tuple_iterator", data := .fields #[.ref l, .int 0 0] }).objs.size = s.heap.objs.size + 1 := Heap.size_push ..
  show _ ∧ _
  rw [hz]
  have he : IsEnum ((s.heap.push { cls := .type "tuple_iterator", data := .fields #[.ref l, .int 0 0] }).push { cls := .type "enumerate", data := .fields #[.none, .bool false, .ref s.heap.objs.size, rawInt 0, .none, .none] }) (s.heap.objs.size + 1) s.heap.objs.size 0 .none := by
    have q := Heap.get?_push_size (s.heap.push { cls := .type "tuple_iterator", data := .fields #[.ref l, .int 0 0] }) (o := { cls := .type "enumerate", data := .fields #[.none, .bool false, .ref s.heap.objs.size, rawInt 0, .none, .none] }) rfl
    rw [hz] at q
    exact q
  exact ⟨⟨_, he, rfl⟩, h _ he ⟨_, Heap.get?_push_of_some _ (Heap.get?_push_size _ rfl), rfl, rfl⟩ fun b o x => Heap.get?_push_of_some _ (Heap.get?_push_of_some _ x)⟩
end
/-- the tuple at a, each item in a new pair -/
def ItEnT (K : PySem.W.Frag) (a : Addr) : It :=
  ⟨fun i H => ∃ (xs : List V) (x : V), SqT K H a xs ∧ xs[i]? = some x, fun i H v H' => ∃ T x, v = .ref T ∧ H T = none ∧ H' = upd H T (.tup [.int (i : Nat), x]) ∧ ∀ xs, SqT K H a xs → xs[i]? = some x, fun i H => ∃ xs : List V, SqT K H a xs ∧ xs.length ≤ i⟩
theorem turn_enT {P : Program} {w : World} {K : PySem.W.Frag} {elts : List Expr} {kk : Nat} {tpos : Pos} (a e it : Addr) : Turn P w K (.Tuple elts kk tpos) (ItEnT K a) [e, it] e (fun i h => (∃ old, IsEnum h e it ((i : Nat) : Int) old) ∧ h.IsTupleIter it a i ∧ e ≠ it) where
  mem := List.mem_cons_self
  obj := fun i h st b hb => by
    obtain ⟨⟨old, he⟩, ⟨o, ho, hc, hd⟩, _⟩ := st
    rcases List.mem_cons.mp hb with z | z
    · subst z; exact ⟨_, he, nofun⟩
    · exact ⟨o, (List.mem_singleton.mp z) ▸ ho, fun v q => by rw [hd] at q; cases q⟩
  keep := fun i h h' st k => ⟨st.1.imp fun old he => k e List.mem_cons_self _ he, st.2.1.at fun o q => k it (List.mem_cons_of_mem _ List.mem_cons_self) o q, st.2.2⟩
  item := by
    intro X hP hw hK hc i pins s σ H E I hf st hg
    subst hP hw hK
    obtain ⟨⟨old, he⟩, hit, hne⟩ := st
    obtain ⟨xs, x, hq, hx⟩ := hg
    obtain ⟨its, rv, p, hz⟩ := I.tuple hq
    obtain ⟨u, hu, ru⟩ := rv.get hx
    have le : e < s.heap.objs.size := Heap.lt_size he
    have li : it < s.heap.objs.size := let ⟨_, q, _⟩ := hit; Heap.lt_size q
    refine enumT_item he hit (show s.heap.IsTuple a its.toArray from p) (x := u) (by simpa using hu) hne fun h' ho hit' hT hk => ⟨_, rfl, wpAny_letOwnedTupleGo_enum (s := { s with heap := h', toks := s.toks + 1 }) ho fun h'' he' sb => ?_⟩
    have new : ObjOk X.prog X.w (upd H s.heap.objs.size (.tup [.int (i : Nat), x])) h'' s.heap.objs.size (.tup [.int (i : Nat), x]) := ⟨by show 2 ≤ sizeLine; decide, [.int i s.toks, u], .cons ⟨_, rfl⟩ (.cons ru .nil), ⟨_, (sb.2 _ (Nat.ne_of_gt le)).trans hT, rfl, _, rfl⟩⟩
    have no : ∀ {b : Addr}, b ∉ [e, it] → b ≠ e ∧ b ≠ it := fun {b} hb => ⟨fun z => hb (z ▸ List.mem_cons_self), fun z => hb (z ▸ List.mem_cons_of_mem _ List.mem_cons_self)⟩
    have I1 : Inv X pins σ (upd H s.heap.objs.size (.tup [.int (i : Nat), x])) { s with heap := h'', toks := s.toks + 1 } :=
      I.turnedNew (ch := [e, it]) (fun b ob hb q => (sb.2 b (no hb).1).trans (hk b ob (no hb).1 (no hb).2 q)) hf (Nat.le_refl _) new
    refine ⟨.ref s.heap.objs.size, _, I1, rfl, ⟨_, x, rfl, I.hok.fresh (Nat.le_refl _), rfl, fun ys hy => by rw [I.tuple_inj hy hq]; exact hx⟩, ⟨⟨u, ?_⟩, hit'.at fun o q => (sb.2 it (Ne.symm hne)).trans q, hne⟩, fun b hb => ?_⟩
    · rw [Int.natCast_add]; exact he'
    · have hb' : b < s.heap.objs.size := (List.mem_cons.mp hb).elim (fun z => z ▸ le) fun z => (List.mem_singleton.mp z) ▸ li
      rw [upd_ne (Nat.ne_of_lt hb')]
      exact (hf b hb).1
  done := by
    intro X hP hw hK hc i pins s σ H E I hf st hg
    subst hP hw hK
    obtain ⟨⟨old, he⟩, hit, hne⟩ := st
    obtain ⟨xs, hq, hx⟩ := hg
    obtain ⟨its, rv, p, hz⟩ := I.tuple hq
    obtain ⟨f0, f1, f2, f3, f4, f5⟩ := hf it (List.mem_cons_of_mem _ List.mem_cons_self)
    have hl := rv.length
    exact enumT_end (I.ok.hd hc) he hit (show s.heap.IsTuple a its.toArray from p) (by simp; omega) fun h' eb => ⟨rfl, I.turned (t' := s.toks) (fun b o hb q => eb b o hb q) f0 f1 f3 f4 f5⟩
  self := fun A i s Q E st h => let ⟨⟨_, he⟩, _⟩ := st; wpAny_pyIter_enum he h
def iEnT (K : PySem.W.Frag) (ta : TA) : TI := fun σ H R => ta σ H fun vs H1 => ∃ a xs, vs = [.ref a] ∧ SqT K H1 a xs ∧ R (ItEnT K a) H1
theorem pi_enumT {X : Cx} (K : PySem.W.Frag) {e : Expr} {ta : TA} {p pos tpos : Pos} {elts : List Expr} {kk : Nat} (hg : Gl X "enumerate") (hm : X.mg "enumerate" = none) (ha : PA X [e] ta) (hs : starEach [e] X.env = [(false, eval e X.env)] := by rfl) (hK : X.K = K := by rfl) :
    PI X (.Tuple elts kk tpos) (.Call (.Name "enumerate" p) [e] [] pos) (iEnT K ta) := by
  subst hK
  refine ⟨fun pins s σ H R I h => Call_ (ld_blt I hg hm boot_enumerate (PyProof.Rows.callWith_type1 (thn (ha.run pos pins s σ H _ I h) fun us s1 hh => ?_) hs rfl))⟩
  obtain ⟨vs, H1, I1, r1, a, xs, ex, hq, q⟩ := hh
  subst ex
  rw [Vals.ref1 r1]
  obtain ⟨its, rv, p', hz⟩ := I1.tuple hq
  refine call_enumT (show s1.heap.IsTuple a its.toArray from p') fun h' he hit hk => wpAny_pyIter_enum he ?_
  refine ⟨s1.heap.objs.size + 1, [s1.heap.objs.size + 1, s1.heap.objs.size], _, _, H1, rfl, I1.kept (t' := s1.toks) hk, turn_enT a (s1.heap.objs.size + 1) s1.heap.objs.size, ⟨⟨.none, he⟩, hit, Nat.succ_ne_self _⟩, fun b hb => ?_, q⟩
  have hle : s1.heap.objs.size ≤ b := (List.mem_cons.mp hb).elim (fun z => z ▸ Nat.le_succ _) fun z => (List.mem_singleton.mp z) ▸ Nat.le_refl _
  exact I1.fpOk hle (I1.hok.fresh hle)
theorem walk_enT {K : PySem.W.Frag} {a : Addr} {xs : List V} : Walk (ItEnT K a) xs.length (fun H => SqT K H a xs) (YPair (fun i => some (.int (i : Nat))) (fun i => xs[i]?)) := by
  refine ⟨fun i _ hi q => ⟨xs, xs[i], q, by simp [hi]⟩, fun _ q => ⟨xs, q, Nat.le_refl _⟩, fun i H v H' _ q y => ?_⟩
  obtain ⟨T, x, h1, h2, h3, h4⟩ := y
  exact ⟨T, .int (i : Nat), x, h1, h2, h3, rfl, h4 xs q⟩
theorem walk_rg {n : Nat} : Walk (Itr 0 n) n (fun _ => True) (YFn fun i => .int (i : Int)) :=
  walk_range.mono (fun _ h => h) fun i H x H' _ _ y => ⟨y.1, y.2.trans (by show V.int (0 + (i : Int)) = V.int (i : Int); rw [Int.zero_add])⟩
theorem k_mt_countI {X : Cx} (K : PySem.W.Frag) (hu : X.A.units + 1 < cLine) (h : X.K = K := by rfl) : MtR X "list.count" (rCountI K) := by
  subst h
  exact mt_countI hu
end WD
local macro_rules | `(tactic| walk_at "sq") => `(tactic| first | assumption | exact L2.SqL.of (by assumption) | exact L2.SqT.of (by assumption) | exact .inl (L2.SqL.of (by assumption)) | exact .inr (L2.SqT.of (by assumption)) | exact .inl (by assumption) | exact .inr (by assumption) | exact L2.SqL.of L2.upd_same | exact L2.SqT.of L2.upd_same | exact .inl (L2.SqL.of L2.upd_same) | exact .inr (L2.SqT.of L2.upd_same))
local macro_rules | `(tactic| walk_at "cond") => `(tactic| ((try dsimp only); first | assumption | decide | omega | exact ⟨by omega, by omega⟩ | exact .inl ⟨by omega, by omega⟩ | exact .inr ⟨by omega, by omega⟩))
local macro_rules | `(tactic| walk_at "rd") => `(tactic| repeat (first | refine ⟨_, rfl, ?_⟩ | refine ⟨_, _, rfl, rfl, ?_⟩ | refine ⟨_, _, _, _, rfl, rfl, (by walk_at "sq"), (by first | rfl | assumption), ?_⟩ | refine ⟨_, _, rfl, (by walk_at "sq"), ?_⟩ | refine And.intro rfl ?_ | refine And.intro (by walk_at "cond") ?_))
namespace K57
open PySem PySem.Spec PyProof.Rows L2
def topS (i : Nat) : Stmt := PySem.Challenge.pw_wishdeeds_k57_whole_permuted_or_not.main.body.getD i (.Pass ⟨0, 0, 0, 0⟩)
abbrev s_NoFolding_init : Stmt := inClass (topS 3) 0
theorem sc_NoFolding_init : FnScope ["self", "at"] ["self", "at"] (defScope s_NoFolding_init) := ⟨rfl, rfl, rfl, by decide +kernel, rfl, by decide +kernel, by decide +kernel⟩
abbrev s_NoPaper_init : Stmt := inClass (topS 2) 0
theorem sc_NoPaper_init : FnScope ["self", "at"] ["self", "at"] (defScope s_NoPaper_init) := ⟨rfl, rfl, rfl, by decide +kernel, rfl, by decide +kernel, by decide +kernel⟩
abbrev s_is_whole : Stmt := topS 5
theorem sc_is_whole : FnScope ["thing"] ["thing"] (defScope s_is_whole) := ⟨rfl, rfl, rfl, by decide +kernel, rfl, by decide +kernel, by decide +kernel⟩
abbrev s_is_thing : Stmt := topS 6
theorem sc_is_thing : FnScope ["thing", "size"] ["thing", "size"] (defScope s_is_thing) := ⟨rfl, rfl, rfl, by decide +kernel, rfl, by decide +kernel, by decide +kernel⟩
abbrev s_is_row : Stmt := topS 7
theorem sc_is_row : FnScope ["row", "wide", "size", "one"] ["row", "wide", "size"] (defScope s_is_row) := ⟨rfl, rfl, rfl, by decide +kernel, rfl, by decide +kernel, by decide +kernel⟩
abbrev s_is_parting : Stmt := topS 9
theorem sc_is_parting : FnScope ["thing", "size", "one", "least"] ["thing", "size"] (defScope s_is_parting) := ⟨rfl, rfl, rfl, by decide +kernel, rfl, by decide +kernel, by decide +kernel⟩
abbrev s_check_two : Stmt := topS 11
theorem sc_check_two : FnScope ["one", "other"] ["one", "other"] (defScope s_check_two) := ⟨rfl, rfl, rfl, by decide +kernel, rfl, by decide +kernel, by decide +kernel⟩
abbrev s_amid_of : Stmt := topS 12
theorem sc_amid_of : FnScope ["one", "other", "begin", "end", "thing"] ["one", "other", "begin", "end"] (defScope s_amid_of) := ⟨rfl, rfl, rfl, by decide +kernel, rfl, by decide +kernel, by decide +kernel⟩
abbrev s_permuted : Stmt := topS 13
theorem sc_permuted : FnScope ["one", "other", "found", "begin", "end", "amid", "home"] ["one", "other"] (defScope s_permuted) := ⟨rfl, rfl, rfl, by decide +kernel, rfl, by decide +kernel, by decide +kernel⟩
abbrev s_ends_led : Stmt := topS 14
theorem sc_ends_led : FnScope ["one", "other", "found", "begin", "ends", "end"] ["one", "other"] (defScope s_ends_led) := ⟨rfl, rfl, rfl, by decide +kernel, rfl, by decide +kernel, by decide +kernel⟩
abbrev s_check_yes : Stmt := topS 15
theorem sc_check_yes : FnScope ["one", "other", "told", "due", "at", "begin", "end", "home"] ["one", "other", "told"] (defScope s_check_yes) := ⟨rfl, rfl, rfl, by decide +kernel, rfl, by decide +kernel, by decide +kernel⟩
abbrev s_check_no : Stmt := topS 16
theorem sc_check_no : FnScope ["one", "other", "things", "begin", "amid", "end"] ["one", "other", "things"] (defScope s_check_no) := ⟨rfl, rfl, rfl, by decide +kernel, rfl, by decide +kernel, by decide +kernel⟩
abbrev s_check_permuted : Stmt := topS 17
theorem sc_check_permuted : FnScope ["one", "other", "answer"] ["one", "other", "answer"] (defScope s_check_permuted) := ⟨rfl, rfl, rfl, by decide +kernel, rfl, by decide +kernel, by decide +kernel⟩
abbrev s__law_draw : Stmt := topS 19
theorem sc__law_draw : FnScope ["_law_well", "_law_many", "_law_found", "_law_number"] ["_law_well", "_law_many"] (defScope s__law_draw) := ⟨rfl, rfl, rfl, by decide +kernel, rfl, by decide +kernel, by decide +kernel⟩
abbrev s__law_of_marks : Stmt := topS 20
theorem sc__law_of_marks : FnScope ["_law_marks", "_law_mark"] ["_law_marks"] (defScope s__law_of_marks) := ⟨rfl, rfl, rfl, by decide +kernel, rfl, by decide +kernel, by decide +kernel⟩
abbrev s__law_two : Stmt := topS 21
theorem sc__law_two : FnScope ["_law_well", "_law_size", "_law_way", "_law_wide", "_law_one", "_law_other", "_law_left", "_law_called", "_law_k", "_law_thing", "_law_mark"] ["_law_well", "_law_size"] (defScope s__law_two) := ⟨rfl, rfl, rfl, by decide +kernel, rfl, by decide +kernel, by decide +kernel⟩
abbrev s__law_amid : Stmt := topS 22
theorem sc__law_amid : FnScope ["_law_one", "_law_other", "_law_begin", "_law_end", "_law_thing"] ["_law_one", "_law_other", "_law_begin", "_law_end"] (defScope s__law_amid) := ⟨rfl, rfl, rfl, by decide +kernel, rfl, by decide +kernel, by decide +kernel⟩
abbrev s__law_pairs : Stmt := topS 23
theorem sc__law_pairs : FnScope ["_law_one", "_law_other", "_law_found", "_law_begin", "_law_end"] ["_law_one", "_law_other"] (defScope s__law_pairs) := ⟨rfl, rfl, rfl, by decide +kernel, rfl, by decide +kernel, by decide +kernel⟩
abbrev s__law_is_thing : Stmt := topS 25
theorem sc__law_is_thing : FnScope ["_law_thing", "_law_size"] ["_law_thing", "_law_size"] (defScope s__law_is_thing) := ⟨rfl, rfl, rfl, by decide +kernel, rfl, by decide +kernel, by decide +kernel⟩
abbrev s__law_joined : Stmt := topS 24
theorem sc__law_joined : FnScope ["_law_one", "_law_other", "_law_marks", "_law_turn", "_law_folding", "_law_least", "_law_k"] ["_law_one", "_law_other"] (defScope s__law_joined) := ⟨rfl, rfl, rfl, by decide +kernel, rfl, by decide +kernel, by decide +kernel⟩
abbrev s__law_yes : Stmt := topS 26
theorem sc__law_yes : FnScope ["_law_one", "_law_other", "_law_told", "_law_pairs_here", "_law_pair", "_law_entry", "_law_marks", "_law_mark"] ["_law_one", "_law_other", "_law_told"] (defScope s__law_yes) := ⟨rfl, rfl, rfl, by decide +kernel, rfl, by decide +kernel, by decide +kernel⟩
abbrev s__law_no : Stmt := topS 27
theorem sc__law_no : FnScope ["_law_one", "_law_other", "_law_told", "_law_begin", "_law_amid_here", "_law_end", "_law_thing"] ["_law_one", "_law_other", "_law_told"] (defScope s__law_no) := ⟨rfl, rfl, rfl, by decide +kernel, rfl, by decide +kernel, by decide +kernel⟩
abbrev s__law_told_right : Stmt := topS 28
theorem sc__law_told_right : FnScope ["_law_one", "_law_other", "_law_due", "_law_answer"] ["_law_one", "_law_other", "_law_due"] (defScope s__law_told_right) := ⟨rfl, rfl, rfl, by decide +kernel, rfl, by decide +kernel, by decide +kernel⟩
abbrev s__law_asked_at : Stmt := topS 29
theorem sc__law_asked_at : FnScope ["_law_way", "_law_one", "_law_other", "_law_told", "e"] ["_law_way", "_law_one", "_law_other"] (defScope s__law_asked_at) := ⟨rfl, rfl, rfl, by decide +kernel, rfl, by decide +kernel, by decide +kernel⟩
abbrev s__law_refused : Stmt := topS 30
theorem sc__law_refused : FnScope ["_law_one", "_law_other", "_law_told"] ["_law_one", "_law_other"] (defScope s__law_refused) := ⟨rfl, rfl, rfl, by decide +kernel, rfl, by decide +kernel, by decide +kernel⟩
abbrev s__law_right : Stmt := topS 31
theorem sc__law_right : FnScope ["_law_well", "_law_size", "_law_bad", "_law_one", "_law_other", "_law_alike", "_law_due", "_law_odd", "_law_pair"] ["_law_well"] (defScope s__law_right) := ⟨rfl, rfl, rfl, by decide +kernel, rfl, by decide +kernel, by decide +kernel⟩
abbrev s_law : Stmt := topS 32
theorem sc_law : FnScope ["_law_script", "_law_k", "_law_cell"] ["_law_script"] (defScope s_law) := ⟨rfl, rfl, rfl, by decide +kernel, rfl, by decide +kernel, by decide +kernel⟩
def d_NoFolding_init : He.DefD := ⟨("NoFolding", some "__init__"), "__init__", "NoFolding.__init__", defArgs s_NoFolding_init, defBody s_NoFolding_init, defScope s_NoFolding_init, [], []⟩
def d_NoPaper_init : He.DefD := ⟨("NoPaper", some "__init__"), "__init__", "NoPaper.__init__", defArgs s_NoPaper_init, defBody s_NoPaper_init, defScope s_NoPaper_init, [], []⟩
def d_is_whole : He.DefD := ⟨("is_whole", none), "is_whole", "is_whole", defArgs s_is_whole, defBody s_is_whole, defScope s_is_whole, [], []⟩
def d_is_thing : He.DefD := ⟨("is_thing", none), "is_thing", "is_thing", defArgs s_is_thing, defBody s_is_thing, defScope s_is_thing, [], []⟩
def d_is_row : He.DefD := ⟨("is_row", none), "is_row", "is_row", defArgs s_is_row, defBody s_is_row, defScope s_is_row, [], []⟩
def d_is_parting : He.DefD := ⟨("is_parting", none), "is_parting", "is_parting", defArgs s_is_parting, defBody s_is_parting, defScope s_is_parting, [], []⟩
def d_check_two : He.DefD := ⟨("check_two", none), "check_two", "check_two", defArgs s_check_two, defBody s_check_two, defScope s_check_two, [], []⟩
def d_amid_of : He.DefD := ⟨("amid_of", none), "amid_of", "amid_of", defArgs s_amid_of, defBody s_amid_of, defScope s_amid_of, [], []⟩
def d_permuted : He.DefD := ⟨("permuted", none), "permuted", "permuted", defArgs s_permuted, defBody s_permuted, defScope s_permuted, [], []⟩
def d_ends_led : He.DefD := ⟨("ends_led", none), "ends_led", "ends_led", defArgs s_ends_led, defBody s_ends_led, defScope s_ends_led, [], []⟩
def d_check_yes : He.DefD := ⟨("check_yes", none), "check_yes", "check_yes", defArgs s_check_yes, defBody s_check_yes, defScope s_check_yes, [], []⟩
def d_check_no : He.DefD := ⟨("check_no", none), "check_no", "check_no", defArgs s_check_no, defBody s_check_no, defScope s_check_no, [], []⟩
def d_check_permuted : He.DefD := ⟨("check_permuted", none), "check_permuted", "check_permuted", defArgs s_check_permuted, defBody s_check_permuted, defScope s_check_permuted, [], []⟩
def d__law_draw : He.DefD := ⟨("_law_draw", none), "_law_draw", "_law_draw", defArgs s__law_draw, defBody s__law_draw, defScope s__law_draw, [], []⟩
def d__law_of_marks : He.DefD := ⟨("_law_of_marks", none), "_law_of_marks", "_law_of_marks", defArgs s__law_of_marks, defBody s__law_of_marks, defScope s__law_of_marks, [], []⟩
def d__law_two : He.DefD := ⟨("_law_two", none), "_law_two", "_law_two", defArgs s__law_two, defBody s__law_two, defScope s__law_two, [], []⟩
def d__law_amid : He.DefD := ⟨("_law_amid", none), "_law_amid", "_law_amid", defArgs s__law_amid, defBody s__law_amid, defScope s__law_amid, [], []⟩
def d__law_pairs : He.DefD := ⟨("_law_pairs", none), "_law_pairs", "_law_pairs", defArgs s__law_pairs, defBody s__law_pairs, defScope s__law_pairs, [], []⟩
def d__law_is_thing : He.DefD := ⟨("_law_is_thing", none), "_law_is_thing", "_law_is_thing", defArgs s__law_is_thing, defBody s__law_is_thing, defScope s__law_is_thing, [], []⟩
def d__law_joined : He.DefD := ⟨("_law_joined", none), "_law_joined", "_law_joined", defArgs s__law_joined, defBody s__law_joined, defScope s__law_joined, [], []⟩
def d__law_yes : He.DefD := ⟨("_law_yes", none), "_law_yes", "_law_yes", defArgs s__law_yes, defBody s__law_yes, defScope s__law_yes, [], []⟩
def d__law_no : He.DefD := ⟨("_law_no", none), "_law_no", "_law_no", defArgs s__law_no, defBody s__law_no, defScope s__law_no, [], []⟩
def d__law_told_right : He.DefD := ⟨("_law_told_right", none), "_law_told_right", "_law_told_right", defArgs s__law_told_right, defBody s__law_told_right, defScope s__law_told_right, [], []⟩
def d__law_asked_at : He.DefD := ⟨("_law_asked_at", none), "_law_asked_at", "_law_asked_at", defArgs s__law_asked_at, defBody s__law_asked_at, defScope s__law_asked_at, [], []⟩
def d__law_refused : He.DefD := ⟨("_law_refused", none), "_law_refused", "_law_refused", defArgs s__law_refused, defBody s__law_refused, defScope s__law_refused, [], []⟩
def d__law_right : He.DefD := ⟨("_law_right", none), "_law_right", "_law_right", defArgs s__law_right, defBody s__law_right, defScope s__law_right, [], []⟩
def d_law : He.DefD := ⟨("law", none), "law", "law", defArgs s_law, defBody s_law, defScope s_law, [], []⟩
def fn : List He.DefD := [d_NoFolding_init, d_NoPaper_init, d_is_whole, d_is_thing, d_is_row, d_is_parting, d_check_two, d_amid_of, d_permuted, d_ends_led, d_check_yes, d_check_no, d_check_permuted, d__law_draw, d__law_of_marks, d__law_two, d__law_amid, d__law_pairs, d__law_is_thing, d__law_joined, d__law_yes, d__law_no, d__law_told_right, d__law_asked_at, d__law_refused, d__law_right, d_law]
def fa : List He.Fa := [.free "ValueError", .free "all", .free "bool", .free "enumerate", .free "int", .free "isinstance", .free "len", .free "list", .free "min", .free "range", .free "sum", .free "tuple", .free "zip", .glo "NoFolding", .glo "NoPaper", .glo "WishError", .glo "is_whole", .glo "is_thing", .glo "is_row", .glo "is_parting", .glo "check_two", .glo "amid_of", .glo "permuted", .glo "ends_led", .glo "check_yes", .glo "check_no", .glo "check_permuted", .glo "_law_draw", .glo "_law_of_marks", .glo "_law_two", .glo "_law_amid", .glo "_law_pairs", .glo "_law_is_thing", .glo "_law_joined", .glo "_law_yes", .glo "_law_no", .glo "_law_told_right", .glo "_law_asked_at", .glo "_law_refused", .glo "_law_right", .glo "law", .exm "NoFolding" "NoFolding" true, .exm "NoFolding" "NoPaper" false, .exm "NoPaper" "NoFolding" false, .exm "NoPaper" "NoPaper" true]
def fx : List WD.Fx := [.oex "NoFolding", .ini "NoFolding", .noa "NoFolding" "at", .exd "NoFolding", .oex "NoPaper", .ini "NoPaper", .noa "NoPaper" "at", .exd "NoPaper", .par "WishError", .kit "NoFolding" "NoFolding" true, .kit "NoFolding" "NoPaper" false, .kiv "NoFolding" "ValueError" true, .kit "NoPaper" "NoFolding" false, .kit "NoPaper" "NoPaper" true, .kiv "NoPaper" "ValueError" true]
structure Tx (K : PySem.W.Frag) (mg : Str → Option Value) : Prop where
  z_ValueError : mg "ValueError" = none
  z_all : mg "all" = none
  z_bool : mg "bool" = none
  z_enumerate : mg "enumerate" = none
  z_int : mg "int" = none
  z_isinstance : mg "isinstance" = none
  z_len : mg "len" = none
  z_list : mg "list" = none
  z_min : mg "min" = none
  z_range : mg "range" = none
  z_sum : mg "sum" = none
  z_tuple : mg "tuple" = none
  z_zip : mg "zip" = none
  g_NoFolding : mg "NoFolding" = some (.ref (He.ga K "NoFolding"))
  g_NoPaper : mg "NoPaper" = some (.ref (He.ga K "NoPaper"))
  g_WishError : mg "WishError" = some (.ref (He.ga K "WishError"))
  g_is_whole : mg "is_whole" = some (.ref (He.ga K "is_whole"))
  g_is_thing : mg "is_thing" = some (.ref (He.ga K "is_thing"))
  g_is_row : mg "is_row" = some (.ref (He.ga K "is_row"))
  g_is_parting : mg "is_parting" = some (.ref (He.ga K "is_parting"))
  g_check_two : mg "check_two" = some (.ref (He.ga K "check_two"))
  g_amid_of : mg "amid_of" = some (.ref (He.ga K "amid_of"))
  g_permuted : mg "permuted" = some (.ref (He.ga K "permuted"))
  g_ends_led : mg "ends_led" = some (.ref (He.ga K "ends_led"))
  g_check_yes : mg "check_yes" = some (.ref (He.ga K "check_yes"))
  g_check_no : mg "check_no" = some (.ref (He.ga K "check_no"))
  g_check_permuted : mg "check_permuted" = some (.ref (He.ga K "check_permuted"))
  g__law_draw : mg "_law_draw" = some (.ref (He.ga K "_law_draw"))
  g__law_of_marks : mg "_law_of_marks" = some (.ref (He.ga K "_law_of_marks"))
  g__law_two : mg "_law_two" = some (.ref (He.ga K "_law_two"))
  g__law_amid : mg "_law_amid" = some (.ref (He.ga K "_law_amid"))
  g__law_pairs : mg "_law_pairs" = some (.ref (He.ga K "_law_pairs"))
  g__law_is_thing : mg "_law_is_thing" = some (.ref (He.ga K "_law_is_thing"))
  g__law_joined : mg "_law_joined" = some (.ref (He.ga K "_law_joined"))
  g__law_yes : mg "_law_yes" = some (.ref (He.ga K "_law_yes"))
  g__law_no : mg "_law_no" = some (.ref (He.ga K "_law_no"))
  g__law_told_right : mg "_law_told_right" = some (.ref (He.ga K "_law_told_right"))
  g__law_asked_at : mg "_law_asked_at" = some (.ref (He.ga K "_law_asked_at"))
  g__law_refused : mg "_law_refused" = some (.ref (He.ga K "_law_refused"))
  g__law_right : mg "_law_right" = some (.ref (He.ga K "_law_right"))
  g_law : mg "law" = some (.ref (He.ga K "law"))
  ox_NoFolding : OexC K (He.ga K "NoFolding")
  ix_NoFolding : PySem.W.findIn K (.ref (He.ga K "NoFolding")) "__init__" = some (some (.ref (He.ma K (He.ga K "NoFolding") "__init__"))) ∧ PySem.W.typeIn K (.ref (He.ma K (He.ga K "NoFolding") "__init__")) = some (.type "function")
  nx_NoFolding : PySem.W.findIn K (.ref (He.ga K "NoFolding")) "at" = some none
  ex_NoFolding : WD.ExD K (He.ga K "NoFolding")
  ox_NoPaper : OexC K (He.ga K "NoPaper")
  ix_NoPaper : PySem.W.findIn K (.ref (He.ga K "NoPaper")) "__init__" = some (some (.ref (He.ma K (He.ga K "NoPaper") "__init__"))) ∧ PySem.W.typeIn K (.ref (He.ma K (He.ga K "NoPaper") "__init__")) = some (.type "function")
  nx_NoPaper : PySem.W.findIn K (.ref (He.ga K "NoPaper")) "at" = some none
  ex_NoPaper : WD.ExD K (He.ga K "NoPaper")
  px_WishError : WD.Par K (He.ga K "WishError")
  em_NoFolding_NoFolding : PySem.W.exmOne K (.ref (He.ga K "NoFolding")) (.ref (He.ga K "NoFolding")) = some true
  ki_NoFolding_NoFolding : PySem.W.kitOne K (.ref (He.ga K "NoFolding")) (.ref (He.ga K "NoFolding")) = some true
  em_NoFolding_NoPaper : PySem.W.exmOne K (.ref (He.ga K "NoFolding")) (.ref (He.ga K "NoPaper")) = some false
  ki_NoFolding_NoPaper : PySem.W.kitOne K (.ref (He.ga K "NoFolding")) (.ref (He.ga K "NoPaper")) = some false
  kv_NoFolding : PySem.W.kitOne K (.ref (He.ga K "NoFolding")) (.type "ValueError") = some true
  em_NoPaper_NoFolding : PySem.W.exmOne K (.ref (He.ga K "NoPaper")) (.ref (He.ga K "NoFolding")) = some false
  ki_NoPaper_NoFolding : PySem.W.kitOne K (.ref (He.ga K "NoPaper")) (.ref (He.ga K "NoFolding")) = some false
  em_NoPaper_NoPaper : PySem.W.exmOne K (.ref (He.ga K "NoPaper")) (.ref (He.ga K "NoPaper")) = some true
  ki_NoPaper_NoPaper : PySem.W.kitOne K (.ref (He.ga K "NoPaper")) (.ref (He.ga K "NoPaper")) = some true
  kv_NoPaper : PySem.W.kitOne K (.ref (He.ga K "NoPaper")) (.type "ValueError") = some true
  F_NoFolding_init : ∃ fd, FunD K "__init__" "NoFolding.__init__" (defArgs s_NoFolding_init) (defBody s_NoFolding_init) (defScope s_NoFolding_init) [] [] (He.ma K (He.ga K "NoFolding") "__init__") fd
  F_NoPaper_init : ∃ fd, FunD K "__init__" "NoPaper.__init__" (defArgs s_NoPaper_init) (defBody s_NoPaper_init) (defScope s_NoPaper_init) [] [] (He.ma K (He.ga K "NoPaper") "__init__") fd
  F_is_whole : ∃ fd, FunD K "is_whole" "is_whole" (defArgs s_is_whole) (defBody s_is_whole) (defScope s_is_whole) [] [] (He.ga K "is_whole") fd
  F_is_thing : ∃ fd, FunD K "is_thing" "is_thing" (defArgs s_is_thing) (defBody s_is_thing) (defScope s_is_thing) [] [] (He.ga K "is_thing") fd
  F_is_row : ∃ fd, FunD K "is_row" "is_row" (defArgs s_is_row) (defBody s_is_row) (defScope s_is_row) [] [] (He.ga K "is_row") fd
  F_is_parting : ∃ fd, FunD K "is_parting" "is_parting" (defArgs s_is_parting) (defBody s_is_parting) (defScope s_is_parting) [] [] (He.ga K "is_parting") fd
  F_check_two : ∃ fd, FunD K "check_two" "check_two" (defArgs s_check_two) (defBody s_check_two) (defScope s_check_two) [] [] (He.ga K "check_two") fd
  F_amid_of : ∃ fd, FunD K "amid_of" "amid_of" (defArgs s_amid_of) (defBody s_amid_of) (defScope s_amid_of) [] [] (He.ga K "amid_of") fd
  F_permuted : ∃ fd, FunD K "permuted" "permuted" (defArgs s_permuted) (defBody s_permuted) (defScope s_permuted) [] [] (He.ga K "permuted") fd
  F_ends_led : ∃ fd, FunD K "ends_led" "ends_led" (defArgs s_ends_led) (defBody s_ends_led) (defScope s_ends_led) [] [] (He.ga K "ends_led") fd
  F_check_yes : ∃ fd, FunD K "check_yes" "check_yes" (defArgs s_check_yes) (defBody s_check_yes) (defScope s_check_yes) [] [] (He.ga K "check_yes") fd
  F_check_no : ∃ fd, FunD K "check_no" "check_no" (defArgs s_check_no) (defBody s_check_no) (defScope s_check_no) [] [] (He.ga K "check_no") fd
  F_check_permuted : ∃ fd, FunD K "check_permuted" "check_permuted" (defArgs s_check_permuted) (defBody s_check_permuted) (defScope s_check_permuted) [] [] (He.ga K "check_permuted") fd
  F__law_draw : ∃ fd, FunD K "_law_draw" "_law_draw" (defArgs s__law_draw) (defBody s__law_draw) (defScope s__law_draw) [] [] (He.ga K "_law_draw") fd
  F__law_of_marks : ∃ fd, FunD K "_law_of_marks" "_law_of_marks" (defArgs s__law_of_marks) (defBody s__law_of_marks) (defScope s__law_of_marks) [] [] (He.ga K "_law_of_marks") fd
  F__law_two : ∃ fd, FunD K "_law_two" "_law_two" (defArgs s__law_two) (defBody s__law_two) (defScope s__law_two) [] [] (He.ga K "_law_two") fd
  F__law_amid : ∃ fd, FunD K "_law_amid" "_law_amid" (defArgs s__law_amid) (defBody s__law_amid) (defScope s__law_amid) [] [] (He.ga K "_law_amid") fd
  F__law_pairs : ∃ fd, FunD K "_law_pairs" "_law_pairs" (defArgs s__law_pairs) (defBody s__law_pairs) (defScope s__law_pairs) [] [] (He.ga K "_law_pairs") fd
  F__law_is_thing : ∃ fd, FunD K "_law_is_thing" "_law_is_thing" (defArgs s__law_is_thing) (defBody s__law_is_thing) (defScope s__law_is_thing) [] [] (He.ga K "_law_is_thing") fd
  F__law_joined : ∃ fd, FunD K "_law_joined" "_law_joined" (defArgs s__law_joined) (defBody s__law_joined) (defScope s__law_joined) [] [] (He.ga K "_law_joined") fd
  F__law_yes : ∃ fd, FunD K "_law_yes" "_law_yes" (defArgs s__law_yes) (defBody s__law_yes) (defScope s__law_yes) [] [] (He.ga K "_law_yes") fd
  F__law_no : ∃ fd, FunD K "_law_no" "_law_no" (defArgs s__law_no) (defBody s__law_no) (defScope s__law_no) [] [] (He.ga K "_law_no") fd
  F__law_told_right : ∃ fd, FunD K "_law_told_right" "_law_told_right" (defArgs s__law_told_right) (defBody s__law_told_right) (defScope s__law_told_right) [] [] (He.ga K "_law_told_right") fd
  F__law_asked_at : ∃ fd, FunD K "_law_asked_at" "_law_asked_at" (defArgs s__law_asked_at) (defBody s__law_asked_at) (defScope s__law_asked_at) [] [] (He.ga K "_law_asked_at") fd
  F__law_refused : ∃ fd, FunD K "_law_refused" "_law_refused" (defArgs s__law_refused) (defBody s__law_refused) (defScope s__law_refused) [] [] (He.ga K "_law_refused") fd
  F__law_right : ∃ fd, FunD K "_law_right" "_law_right" (defArgs s__law_right) (defBody s__law_right) (defScope s__law_right) [] [] (He.ga K "_law_right") fd
  F_law : ∃ fd, FunD K "law" "law" (defArgs s_law) (defBody s_law) (defScope s_law) [] [] (He.ga K "law") fd
theorem mkTx {K : PySem.W.Frag} {h : Heap} {mg : Str → Option Value} (X : K.In h) (G : h.Ns mainGlobals mg) (c : WD.SaysE fa fn fx K) : Tx K mg :=
  { z_ValueError := He.free_ok X G (c.says.fact 0 (f := .free "ValueError") rfl),
    z_all := He.free_ok X G (c.says.fact 1 (f := .free "all") rfl),
    z_bool := He.free_ok X G (c.says.fact 2 (f := .free "bool") rfl),
    z_enumerate := He.free_ok X G (c.says.fact 3 (f := .free "enumerate") rfl),
    z_int := He.free_ok X G (c.says.fact 4 (f := .free "int") rfl),
    z_isinstance := He.free_ok X G (c.says.fact 5 (f := .free "isinstance") rfl),
    z_len := He.free_ok X G (c.says.fact 6 (f := .free "len") rfl),
    z_list := He.free_ok X G (c.says.fact 7 (f := .free "list") rfl),
    z_min := He.free_ok X G (c.says.fact 8 (f := .free "min") rfl),
    z_range := He.free_ok X G (c.says.fact 9 (f := .free "range") rfl),
    z_sum := He.free_ok X G (c.says.fact 10 (f := .free "sum") rfl),
    z_tuple := He.free_ok X G (c.says.fact 11 (f := .free "tuple") rfl),
    z_zip := He.free_ok X G (c.says.fact 12 (f := .free "zip") rfl),
    g_NoFolding := He.glo_ok X G (c.says.fact 13 (f := .glo "NoFolding") rfl),
    g_NoPaper := He.glo_ok X G (c.says.fact 14 (f := .glo "NoPaper") rfl),
    g_WishError := He.glo_ok X G (c.says.fact 15 (f := .glo "WishError") rfl),
    g_is_whole := He.glo_ok X G (c.says.fact 16 (f := .glo "is_whole") rfl),
    g_is_thing := He.glo_ok X G (c.says.fact 17 (f := .glo "is_thing") rfl),
    g_is_row := He.glo_ok X G (c.says.fact 18 (f := .glo "is_row") rfl),
    g_is_parting := He.glo_ok X G (c.says.fact 19 (f := .glo "is_parting") rfl),
    g_check_two := He.glo_ok X G (c.says.fact 20 (f := .glo "check_two") rfl),
    g_amid_of := He.glo_ok X G (c.says.fact 21 (f := .glo "amid_of") rfl),
    g_permuted := He.glo_ok X G (c.says.fact 22 (f := .glo "permuted") rfl),
    g_ends_led := He.glo_ok X G (c.says.fact 23 (f := .glo "ends_led") rfl),
    g_check_yes := He.glo_ok X G (c.says.fact 24 (f := .glo "check_yes") rfl),
    g_check_no := He.glo_ok X G (c.says.fact 25 (f := .glo "check_no") rfl),
    g_check_permuted := He.glo_ok X G (c.says.fact 26 (f := .glo "check_permuted") rfl),
    g__law_draw := He.glo_ok X G (c.says.fact 27 (f := .glo "_law_draw") rfl),
    g__law_of_marks := He.glo_ok X G (c.says.fact 28 (f := .glo "_law_of_marks") rfl),
    g__law_two := He.glo_ok X G (c.says.fact 29 (f := .glo "_law_two") rfl),
    g__law_amid := He.glo_ok X G (c.says.fact 30 (f := .glo "_law_amid") rfl),
    g__law_pairs := He.glo_ok X G (c.says.fact 31 (f := .glo "_law_pairs") rfl),
    g__law_is_thing := He.glo_ok X G (c.says.fact 32 (f := .glo "_law_is_thing") rfl),
    g__law_joined := He.glo_ok X G (c.says.fact 33 (f := .glo "_law_joined") rfl),
    g__law_yes := He.glo_ok X G (c.says.fact 34 (f := .glo "_law_yes") rfl),
    g__law_no := He.glo_ok X G (c.says.fact 35 (f := .glo "_law_no") rfl),
    g__law_told_right := He.glo_ok X G (c.says.fact 36 (f := .glo "_law_told_right") rfl),
    g__law_asked_at := He.glo_ok X G (c.says.fact 37 (f := .glo "_law_asked_at") rfl),
    g__law_refused := He.glo_ok X G (c.says.fact 38 (f := .glo "_law_refused") rfl),
    g__law_right := He.glo_ok X G (c.says.fact 39 (f := .glo "_law_right") rfl),
    g_law := He.glo_ok X G (c.says.fact 40 (f := .glo "law") rfl),
    ox_NoFolding := WD.oex_ok (c.own 0 (f := .oex "NoFolding") rfl),
    ix_NoFolding := WD.ini_ok (c.own 1 (f := .ini "NoFolding") rfl),
    nx_NoFolding := WD.noa_ok (c.own 2 (f := .noa "NoFolding" "at") rfl),
    ex_NoFolding := WD.exd_ok' (c.own 3 (f := .exd "NoFolding") rfl),
    ox_NoPaper := WD.oex_ok (c.own 4 (f := .oex "NoPaper") rfl),
    ix_NoPaper := WD.ini_ok (c.own 5 (f := .ini "NoPaper") rfl),
    nx_NoPaper := WD.noa_ok (c.own 6 (f := .noa "NoPaper" "at") rfl),
    ex_NoPaper := WD.exd_ok' (c.own 7 (f := .exd "NoPaper") rfl),
    px_WishError := WD.par_ok (c.own 8 (f := .par "WishError") rfl),
    em_NoFolding_NoFolding := He.exm_ok (c.says.fact 41 (f := .exm "NoFolding" "NoFolding" true) rfl),
    ki_NoFolding_NoFolding := WD.kit_ok (c.own 9 (f := .kit "NoFolding" "NoFolding" true) rfl),
    em_NoFolding_NoPaper := He.exm_ok (c.says.fact 42 (f := .exm "NoFolding" "NoPaper" false) rfl),
    ki_NoFolding_NoPaper := WD.kit_ok (c.own 10 (f := .kit "NoFolding" "NoPaper" false) rfl),
    kv_NoFolding := WD.kiv_ok (c.own 11 (f := .kiv "NoFolding" "ValueError" true) rfl),
    em_NoPaper_NoFolding := He.exm_ok (c.says.fact 43 (f := .exm "NoPaper" "NoFolding" false) rfl),
    ki_NoPaper_NoFolding := WD.kit_ok (c.own 12 (f := .kit "NoPaper" "NoFolding" false) rfl),
    em_NoPaper_NoPaper := He.exm_ok (c.says.fact 44 (f := .exm "NoPaper" "NoPaper" true) rfl),
    ki_NoPaper_NoPaper := WD.kit_ok (c.own 13 (f := .kit "NoPaper" "NoPaper" true) rfl),
    kv_NoPaper := WD.kiv_ok (c.own 14 (f := .kiv "NoPaper" "ValueError" true) rfl),
    F_NoFolding_init := c.says.def_ 0 (d := d_NoFolding_init) rfl,
    F_NoPaper_init := c.says.def_ 1 (d := d_NoPaper_init) rfl,
    F_is_whole := c.says.def_ 2 (d := d_is_whole) rfl,
    F_is_thing := c.says.def_ 3 (d := d_is_thing) rfl,
    F_is_row := c.says.def_ 4 (d := d_is_row) rfl,
    F_is_parting := c.says.def_ 5 (d := d_is_parting) rfl,
    F_check_two := c.says.def_ 6 (d := d_check_two) rfl,
    F_amid_of := c.says.def_ 7 (d := d_amid_of) rfl,
    F_permuted := c.says.def_ 8 (d := d_permuted) rfl,
    F_ends_led := c.says.def_ 9 (d := d_ends_led) rfl,
    F_check_yes := c.says.def_ 10 (d := d_check_yes) rfl,
    F_check_no := c.says.def_ 11 (d := d_check_no) rfl,
    F_check_permuted := c.says.def_ 12 (d := d_check_permuted) rfl,
    F__law_draw := c.says.def_ 13 (d := d__law_draw) rfl,
    F__law_of_marks := c.says.def_ 14 (d := d__law_of_marks) rfl,
    F__law_two := c.says.def_ 15 (d := d__law_two) rfl,
    F__law_amid := c.says.def_ 16 (d := d__law_amid) rfl,
    F__law_pairs := c.says.def_ 17 (d := d__law_pairs) rfl,
    F__law_is_thing := c.says.def_ 18 (d := d__law_is_thing) rfl,
    F__law_joined := c.says.def_ 19 (d := d__law_joined) rfl,
    F__law_yes := c.says.def_ 20 (d := d__law_yes) rfl,
    F__law_no := c.says.def_ 21 (d := d__law_no) rfl,
    F__law_told_right := c.says.def_ 22 (d := d__law_told_right) rfl,
    F__law_asked_at := c.says.def_ 23 (d := d__law_asked_at) rfl,
    F__law_refused := c.says.def_ 24 (d := d__law_refused) rfl,
    F__law_right := c.says.def_ 25 (d := d__law_right) rfl,
    F_law := c.says.def_ 26 (d := d_law) rfl }
section
variable {P : Program} {w : World} {K : PySem.W.Frag} {mg : Str → Option Value} {base : Heap}
theorem xm_NoFolding (T : Tx K mg) : WD.Xmk P w K mg base 1 "NoFolding" (He.ga K "NoFolding") (He.ma K (He.ga K "NoFolding") "__init__") "at" := by
  obtain ⟨fd, F⟩ := T.F_NoFolding_init
  refine ⟨WD.fn0_of F sc_NoFolding_init (fun vs H Q E h => ?_) (fun _ _ _ _ _ _ us hl => match us, hl with | [_, _], _ => rfl) (fun cdv A outer s H vs Q E hr h => ?_), T.ox_NoFolding, T.ix_NoFolding, T.g_NoFolding⟩
  · obtain ⟨a, v, rfl, ha, k⟩ := h
    rfl
  · obtain ⟨a, v, rfl, ha, k⟩ := h
    refine ⟨_, (pss_cons (ps_expr (WD.pe_oinit (by rfl) T.g_WishError T.px_WishError (pa_cons (pv 0) (pa_cons pe_str pa_nil))))
      (pss_one (ps_ost (pv 0) (pv 1)))), ?_⟩
    refine ⟨_, rfl, a, He.ga K "NoFolding", [_], rfl, by show 1 ≤ 1000; decide, T.ox_NoFolding, ha, ?_⟩
    exact ⟨_, rfl, _, rfl, a, He.ga K "NoFolding", rfl, T.ox_NoFolding, T.nx_NoFolding, .inl ⟨ha, k⟩⟩
end
section
variable {P : Program} {w : World} {K : PySem.W.Frag} {mg : Str → Option Value} {base : Heap}
theorem xm_NoPaper (T : Tx K mg) : WD.Xmk P w K mg base 1 "NoPaper" (He.ga K "NoPaper") (He.ma K (He.ga K "NoPaper") "__init__") "at" := by
  obtain ⟨fd, F⟩ := T.F_NoPaper_init
  refine ⟨WD.fn0_of F sc_NoPaper_init (fun vs H Q E h => ?_) (fun _ _ _ _ _ _ us hl => match us, hl with | [_, _], _ => rfl) (fun cdv A outer s H vs Q E hr h => ?_), T.ox_NoPaper, T.ix_NoPaper, T.g_NoPaper⟩
  · obtain ⟨a, v, rfl, ha, k⟩ := h
    rfl
  · obtain ⟨a, v, rfl, ha, k⟩ := h
    refine ⟨_, (pss_cons (ps_expr (WD.pe_oinit (by rfl) T.g_WishError T.px_WishError (pa_cons (pv 0) (pa_cons pe_str pa_nil))))
      (pss_one (ps_ost (pv 0) (pv 1)))), ?_⟩
    refine ⟨_, rfl, a, He.ga K "NoPaper", [_], rfl, by show 1 ≤ 1000; decide, T.ox_NoPaper, ha, ?_⟩
    exact ⟨_, rfl, _, rfl, a, He.ga K "NoPaper", rfl, T.ox_NoPaper, T.nx_NoPaper, .inl ⟨ha, k⟩⟩
end
def sp_is_whole (K : PySem.W.Frag) : Sp := fun vs H Q _ => ∃ v b, vs = [v] ∧ WD.Whole K H v b ∧ Q (.bl b) H
section
variable {P : Program} {w : World} {K : PySem.W.Frag} {mg : Str → Option Value} {base : Heap}
theorem ok_is_whole (T : Tx K mg) : WD.Cal P w K mg base (CX0) 1 "is_whole" (He.ga K "is_whole") (sp_is_whole K) [] := by
  obtain ⟨fd, F⟩ := T.F_is_whole
  refine ⟨WD.fn0_of F sc_is_whole (fun vs H Q E h => ?_) (fun _ _ _ _ _ _ us hl => match us, hl with | [_], _ => rfl) (fun cdv A outer s H vs Q E hr h => ?_), F.kp, T.g_is_whole⟩
  · obtain ⟨v, b, rfl, hw, k⟩ := h
    rfl
  · obtain ⟨v, b, rfl, hw, k⟩ := h
    refine ⟨_, (pss_one (ps_ret (pe_and (pe_callB (WD.k_call_isi K) (by rfl) T.z_isinstance WD.bt_isinstance (pa_cons (pv 0) (pa_cons (pe_bltn (v := .ty "int") (by rfl) T.z_int WD.bt_int rfl) pa_nil))) (pe_one (pe_not (pe_callB (WD.k_call_isi K) (by rfl) T.z_isinstance WD.bt_isinstance (pa_cons (pv 0) (pa_cons (pe_bltn (v := .ty "bool") (by rfl) T.z_bool WD.bt_bool rfl) pa_nil)))))))), ?_⟩
    cases hw with
    | int i =>
      refine ⟨_, rfl, _, _, _, _, true, rfl, .ty "int", .base (.int i), kit_ty (by decide +kernel), true, rfl, iteT ?_⟩
      exact ⟨_, rfl, _, _, _, _, false, rfl, .ty "bool", .base (.int i), kit_ty (by decide +kernel), false, rfl, k⟩
    | bl b =>
      refine ⟨_, rfl, _, _, _, _, true, rfl, .ty "int", .base (.bl b), kit_ty (by decide +kernel), true, rfl, iteT ?_⟩
      exact ⟨_, rfl, _, _, _, _, true, rfl, .ty "bool", .base (.bl b), kit_ty (by decide +kernel), true, rfl, k⟩
    | oth h e =>
      exact ⟨_, rfl, _, _, _, _, false, rfl, .ty "int", h, kit_ty e, false, rfl, iteF k⟩
end
def sp_is_thing (K : PySem.W.Frag) : Sp := fun vs H Q _ => ∃ v n b, vs = [v, .int n] ∧ WD.Thing K H n v b ∧ Q (.bl b) H
section
variable {P : Program} {w : World} {K : PySem.W.Frag} {mg : Str → Option Value} {base : Heap}
theorem ok_is_thing (T : Tx K mg) : WD.Cal P w K mg base (CX0) 2 "is_thing" (He.ga K "is_thing") (sp_is_thing K) [] := by
  obtain ⟨fd, F⟩ := T.F_is_thing
  refine ⟨WD.fn0_of F sc_is_thing (fun vs H Q E h => ?_) (fun _ _ _ _ _ _ us hl => match us, hl with | [_, _], _ => rfl) (fun cdv A outer s H vs Q E hr h => ?_), F.kp, T.g_is_thing⟩
  · obtain ⟨v, n, b, rfl, hw, k⟩ := h
    rfl
  · obtain ⟨v, n, b, rfl, hw, k⟩ := h
    refine ⟨_, (pss_one (ps_ret (pe_and (WD.pe_cal (ok_is_whole T) (hr.mono (by decide)) (by rfl) (pa_cons (pv 0) pa_nil)) (pe_one (pe_chain op_le op_lt pe_int (pv 0) (pv 1)))))), ?_⟩
    cases hw with
    | int i =>
      refine ⟨_, rfl, _, true, rfl, .int i, true, rfl, iteT ?_⟩
      refine ⟨_, rfl, _, _, rfl, rfl, _, rfl, WD.iteD (fun h => ?_) (fun h => ?_)⟩
      · refine ⟨_, rfl, _, _, rfl, rfl, ?_⟩
        have e : WD.inR n i = decide (i < n) := by unfold WD.inR; rw [decide_eq_true h]; rfl
        rw [e] at k
        exact k
      · have e : WD.inR n i = false := by unfold WD.inR; rw [decide_eq_false h]; rfl
        rw [e] at k
        exact k
    | bl b => exact ⟨_, rfl, _, false, rfl, .bl b, false, rfl, iteF k⟩
    | oth h e => exact ⟨_, rfl, _, false, rfl, .oth h e, false, rfl, iteF k⟩
end
def sp_is_row (K : PySem.W.Frag) : Sp := fun vs H Q _ => ∃ (M : WD.MS) (v : V) (d : PyData) (m n : Int), vs = [v, .int m, .int n] ∧ WD.rX M H v d ∧ (WD.itemsD d).length ≤ 1000000 ∧ ∀ H', WD.Fr WD.M0 H H' → Q (.bl (WD.rowD d m n)) H'
section
variable {P : Program} {w : World} {K : PySem.W.Frag} {mg : Str → Option Value} {base : Heap}
theorem ok_is_row (T : Tx K mg) : WD.Cal P w K mg base (CX0) 3 "is_row" (He.ga K "is_row") (sp_is_row K) [] := by
  obtain ⟨fd, F⟩ := T.F_is_row
  refine ⟨WD.fn0_of F sc_is_row (fun vs H Q E h => ?_) (fun _ _ _ _ _ _ us hl => match us, hl with | [_, _, _], _ => rfl) (fun cdv A outer s H vs Q E hr h => ?_), F.kp, T.g_is_row⟩
  · obtain ⟨M, v, d, m, n, rfl, hd, hz, k⟩ := h
    rfl
  · obtain ⟨M, v, d, m, n, rfl, hd, hz, k⟩ := h
    refine ⟨_, (pss_one (ps_ret (pe_and (pe_callB (WD.k_call_isi K) (by rfl) T.z_isinstance WD.bt_isinstance (pa_cons (pv 0) (pa_cons (pe_bltn (v := .ty "tuple") (by rfl) T.z_tuple WD.bt_tuple rfl) pa_nil))) (pe_and (pe_cmpR op_eq (pe_callB (WD.k_call_len_seq K) (by rfl) T.z_len PySem.boot_len (pa_cons (pv 0) pa_nil)) (pv 1) (nomark _)) (pe_one (pe_callB (WD.k_cr_all K rfl) (by rfl) T.z_all WD.bt_all (pa_cons (pe_lc (own := [("one", 3)]) rfl sc_is_row.nd (WD.k_pi_tup K (pv 0)) (blkOk_by (N := ["row", "wide", "size", "one"]) (sc := defScope s_is_row) (by decide +kernel)) (fun _ _ _ _ _ => (pg_name (i := 3) sc_is_row.nd rfl (.inl rfl))) (fun _ _ _ _ _ => pts_nil) (fun _ _ _ _ _ => (WD.pe_cal (ok_is_thing T) (hr.mono (by decide)) (by rfl) (pa_cons (pv 3) (pa_cons (pv 2) pa_nil))))) pa_nil))))))), ?_⟩
    refine ⟨_, rfl, _, _, _, _, WD.tupD d, rfl, .ty "tuple", WD.tyJ hd, kit_ty (WD.kitTup d), _, rfl, ?_⟩
    cases d with
    | tuple l =>
      obtain ⟨a, vs, rfl, na, ha, al⟩ := WD.rJ_tuple.mp hd
      have hlen := al.len
      have hz' : l.length ≤ 1000000 := hz
      refine iteT ?_
      refine ⟨_, rfl, a, _, rfl, .inr (SqT.of ha), _, rfl, rfl, _, rfl, ?_⟩
      refine WD.iteD (fun he => ?_) (fun he => ?_)
      · have he2 : (l.length : Int) = m := by rw [← hlen]; exact V.int.inj he
        refine ⟨_, rfl, a, rfl, ⟨_, SqT.of ha⟩, ?_⟩
        refine WD.lc_map (R := WD.rB) (M := WD.M0) (walk_tup (xs := vs)) (fun i => WD.thingD n (l.getD i .none)) WD.MIn.zero (by omega) (fun _ f => SqT.of (f.keep _ _ (fun z => z) ha)) (fun i M' H' hi t fr mi Ky ky x H'' hy => ?_) (fun D H' hD fr hl => ?_)
        · obtain ⟨rfl, hx⟩ := hy
          obtain ⟨e, ee, re⟩ := al.get hx
          have re' : WD.rX WD.M0 H'' x e := WD.Rep.st fr (WD.Rep.wk (fun _ q => q.elim) re)
          refine ⟨rfl, _, rfl, _, rfl, _, _, _, rfl, WD.thingJ re', ky _ _ (WD.Fr.refl _) ?_⟩
          rw [List.getD_eq_getElem?_getD, ee]
          rfl
        · obtain ⟨b, ws, e1, _, e2, e3⟩ := hl
          cases e1
          have e4 := e3.eq_map (f := V.bl) fun _ _ q => q
          rw [e4] at e2
          refine ⟨D, _, rfl, SqL.of e2, ?_⟩
          have e5 : ((List.range vs.length).map fun i => WD.thingD n (l.getD i .none)).all id = WD.rowD (.tuple l) m n := by
            rw [WD.mapRange (WD.thingD n) .none l hlen, List.all_map]
            show _ = (decide ((l.length : Int) = m) && l.all (WD.thingD n))
            rw [decide_eq_true he2]
            rfl
          rw [e5]
          exact k _ fr
      · have e : WD.rowD (.tuple l) m n = false := by
          show (decide ((l.length : Int) = m) && l.all (WD.thingD n)) = false
          rw [decide_eq_false (fun z => he (by rw [hlen, z]))]
          rfl
        rw [← e]
        exact k _ (WD.Fr.refl _)
    | none => exact iteF (k _ (WD.Fr.refl _))
    | bool b => exact iteF (k _ (WD.Fr.refl _))
    | int i => exact iteF (k _ (WD.Fr.refl _))
    | str x => exact iteF (k _ (WD.Fr.refl _))
    | list l => exact iteF (k _ (WD.Fr.refl _))
    | dict l => exact iteF (k _ (WD.Fr.refl _))
end
/-! ### partings -/
def partB (l : List Int) : Bool := (List.range l.length).all fun i => decide (l.getD i 0 ≤ (i : Int)) && decide (l.getD (l.getD i 0).toNat 0 = l.getD i 0)
def intOf : PyData → Int
  | .int i => i
  | _ => 0
def intsD (d : PyData) : List Int := (WD.itemsD d).map intOf
theorem intsD_ints (l : List Int) : intsD (.tuple (l.map .int)) = l := by
  show (l.map PyData.int).map intOf = l
  rw [List.map_map]
  exact List.map_id _
def lenD (d : PyData) : Int := ((WD.itemsD d).length : Int)
def partD (d : PyData) (n : Int) : Bool := WD.rowD d n n && partB (intsD d)
def okTwo (d e : PyData) : Bool := WD.tupD d && (partD d (lenD d) && partD e (lenD d))
def exAt (K : PySem.W.Frag) (x f : Str) (v : V) (H : Hp) (E : XK) : Prop := ∀ H' dd, WD.Fr WD.M0 H H' → H' dd = some (.xd [(f, v)]) → E (.ref (He.ga K x)) (some dd) H'
def sp_is_parting (K : PySem.W.Frag) : Sp := fun vs H Q _ => ∃ (M : WD.MS) (v : V) (d : PyData) (n : Int), vs = [v, .int n] ∧ WD.rX M H v d ∧ (WD.itemsD d).length ≤ 1000000 ∧ ∀ H', WD.Fr WD.M0 H H' → Q (.bl (partD d n)) H'
section
variable {P : Program} {w : World} {K : PySem.W.Frag} {mg : Str → Option Value} {base : Heap}
theorem ok_is_parting (T : Tx K mg) : WD.Cal P w K mg base (CX0) 4 "is_parting" (He.ga K "is_parting") (sp_is_parting K) [] := by
  obtain ⟨fd, F⟩ := T.F_is_parting
  refine ⟨WD.fn0_of F sc_is_parting (fun vs H Q E h => ?_) (fun _ _ _ _ _ _ us hl => match us, hl with | [_, _], _ => rfl) (fun cdv A outer s H vs Q E hr h => ?_), F.kp, T.g_is_parting⟩
  · obtain ⟨M, v, d, n, rfl, hd, hz, k⟩ := h
    rfl
  · obtain ⟨M, v, d, n, rfl, hd, hz, k⟩ := h
    refine ⟨_, (pss_cons (ps_if (pt_not (pt_val (WD.pe_cal (ok_is_row T) (hr.mono (by decide)) (by rfl) (pa_cons (pv 0) (pa_cons (pv 1) (pa_cons (pv 1) pa_nil))))))
        (pss_one (ps_ret pe_bl))
        pss_nil)
      (pss_one (ps_ret (pe_callB (WD.k_cr_all K rfl) (by rfl) T.z_all WD.bt_all (pa_cons (pe_lc (own := [("one", 2), ("least", 3)]) rfl sc_is_parting.nd (WD.pi_enumT K (by rfl) T.z_enumerate (pa_cons (pv 0) pa_nil)) (blkOk_by (N := ["thing", "size", "one", "least"]) (sc := defScope s_is_parting) (by decide +kernel)) (fun _ _ _ _ _ => (WD.k_pg_tup K (n := 2) rfl (pgs_cons (pg_name (i := 2) sc_is_parting.nd rfl (.inl rfl)) (pgs_cons (pg_name (i := 3) sc_is_parting.nd rfl (.inl rfl)) pgs_nil)))) (fun _ _ _ _ _ => pts_nil) (fun _ _ _ _ _ => (pe_and (pe_cmpR op_le (pv 3) (pv 2) (nomark _)) (pe_one (pe_cmpR op_eq (pe_ix (WD.k_ix_tup K) (pv 0) (pv 3) (fun _ _ => rfl)) (pv 3) (nomark _)))))) pa_nil))))), ?_⟩
    refine ⟨_, rfl, _, rfl, _, rfl, M, _, d, n, n, rfl, hd, hz, fun H1 f1 => ⟨_, rfl, ?_⟩⟩
    cases hr : WD.rowD d n n with
    | false =>
      have e : partD d n = false := by unfold partD; rw [hr]; rfl
      refine iteT ?_
      show Q (.bl false) H1
      rw [← e]
      exact k _ f1
    | true =>
      refine iteF ?_
      obtain ⟨l, rfl, hl, hin⟩ := WD.rowD_ints hr
      have hd1 : WD.rT WD.rI M H1 v l := WD.tupJ.mp (WD.Rep.st (f1.mono fun _ q => q.elim) hd)
      obtain ⟨a, rfl, na, ha⟩ := WD.tupI hd1
      have hz' : l.length ≤ 1000000 := by
        have : ((l.map PyData.int).length) ≤ 1000000 := hz
        rw [List.length_map] at this
        exact this
      refine ⟨_, rfl, a, _, rfl, SqT.of ha, ?_⟩
      refine WD.lc_map (R := WD.rB) (M := WD.M0) (WD.walk_enT (xs := l.map V.int)) (fun i => decide (l.getD i 0 ≤ (i : Int)) && decide (l.getD (l.getD i 0).toNat 0 = l.getD i 0)) WD.MIn.zero (by rw [List.length_map]; exact hz') (fun _ f => SqT.of (f.keep _ _ (fun z => z) ha)) (fun i M' H' hi t fr mi Ky ky x H'' hy => ?_) (fun D H' hD fr hl2 => ?_)
      · obtain ⟨p, v1, v2, rfl, np, rfl, e1, e2⟩ := hy
        cases e1
        have e2' : (l.map V.int)[i]? = some v2 := e2
        rw [List.getElem?_map] at e2'
        obtain ⟨c, ec, rfl⟩ := Option.map_eq_some_iff.mp e2'
        have hc : l.getD i 0 = c := by rw [List.getD_eq_getElem?_getD, ec]; rfl
        have hcm : c ∈ l := List.mem_of_getElem? ec
        obtain ⟨c0, c1⟩ := hin c hcm
        refine ⟨p, _, rfl, SqT.of upd_same, rfl, _, _, rfl, _, _, rfl, rfl, rfl, ?_⟩
        have fp : WD.Fr WD.M0 H' (upd H' p (.tup [.int (i : Nat), .int c])) := WD.Fr.new np
        have ha2 : upd H' p (.tup [.int (i : Nat), .int c]) a = some (.tup (l.map V.int)) := fp.keep _ _ (fun z => z) (fr.keep _ _ (fun z => z) ha)
        rw [hc] at ky
        refine ⟨_, rfl, _, rfl, _, _, rfl, rfl, _, rfl, WD.iteD (fun h1 => ?_) (fun h1 => ?_)⟩
        · refine ⟨_, rfl, _, rfl, a, _, c, .int (l.getD c.toNat 0), rfl, rfl, SqT.of ha2, ?_, ?_⟩
          · have hlt : c.toNat < l.length := by omega
            rw [WD.atI_int c0 hlt, List.getD_eq_getElem?_getD, List.getElem?_eq_getElem hlt]
            rfl
          · refine ⟨_, rfl, rfl, ?_⟩
            rw [decide_eq_true h1] at ky
            refine ky _ _ fp ?_
            show V.bl _ = V.bl _
            simp [eqV]
        · rw [decide_eq_false h1] at ky
          exact ky _ _ fp rfl
      · obtain ⟨b, ws, e1, _, e2, e3⟩ := hl2
        cases e1
        have e4 := e3.eq_map (f := V.bl) fun _ _ q => q
        rw [e4] at e2
        refine ⟨D, _, rfl, SqL.of e2, ?_⟩
        have e5 : partD (.tuple (l.map .int)) n = ((List.range (l.map V.int).length).map fun i => decide (l.getD i 0 ≤ (i : Int)) && decide (l.getD (l.getD i 0).toNat 0 = l.getD i 0)).all id := by
          unfold partD
          rw [hr, intsD_ints, List.all_map, List.length_map]
          rfl
        rw [← e5]
        exact k _ (f1.trans fr)
end
def sp_check_two (K : PySem.W.Frag) : Sp := fun vs H Q E => ∃ (M : WD.MS) (v u : V) (d e : PyData), vs = [v, u] ∧ WD.rX M H v d ∧ WD.rX M H u e ∧ (WD.itemsD d).length ≤ 1000000 ∧ (WD.itemsD e).length ≤ 1000000 ∧
  (okTwo d e = true → ∀ H', WD.Fr WD.M0 H H' → Q .non H') ∧ (okTwo d e = false → exAt K "NoFolding" "at" (.int (-1)) H E)
section
variable {P : Program} {w : World} {K : PySem.W.Frag} {mg : Str → Option Value} {base : Heap}
theorem ok_check_two (T : Tx K mg) : WD.Cal P w K mg base (L2.CX P w) 5 "check_two" (He.ga K "check_two") (sp_check_two K) [] := by
  obtain ⟨fd, F⟩ := T.F_check_two
  refine ⟨WD.fnX_of F sc_check_two (fun vs H Q E h => ?_) (fun _ _ _ _ _ _ us hl => match us, hl with | [_, _], _ => rfl) (fun cdv A outer s H vs Q E hr h => ?_), F.kp, T.g_check_two⟩
  · obtain ⟨M, v, u, d, e, rfl, hd, he, z1, z2, k1, k2⟩ := h
    rfl
  · obtain ⟨M, v, u, d, e, rfl, hd, he, z1, z2, k1, k2⟩ := h
    refine ⟨_, (pss_one (ps_if (PW.pt (pw_or (pt_not (pt_val (pe_callB (WD.k_call_isi K) (by rfl) T.z_isinstance WD.bt_isinstance (pa_cons (pv 0) (pa_cons (pe_bltn (v := .ty "tuple") (by rfl) T.z_tuple WD.bt_tuple rfl) pa_nil))))) (pw_or (pt_not (pt_val (WD.pe_cal (ok_is_parting T) (hr.mono (by decide)) (by rfl) (pa_cons (pv 0) (pa_cons (pe_callB (WD.k_call_len_seq K) (by rfl) T.z_len PySem.boot_len (pa_cons (pv 0) pa_nil)) pa_nil))))) (pw_or1 (pt_not (pt_val (WD.pe_cal (ok_is_parting T) (hr.mono (by decide)) (by rfl) (pa_cons (pv 1) (pa_cons (pe_callB (WD.k_call_len_seq K) (by rfl) T.z_len PySem.boot_len (pa_cons (pv 0) pa_nil)) pa_nil)))))))))
        (pss_one (ps_raise rfl (takes_of rfl rfl rfl rfl) (WD.pmk_x (xm_NoFolding T) (hr.mono (by decide)) (by rfl) (pa_cons (pe_un un_neg pe_int) pa_nil))))
        pss_nil)), ?_⟩
    have bad : ∀ {H1 : Hp}, okTwo d e = false → WD.Fr WD.M0 H H1 → ∀ dd, H1 dd = none → E (.ref (He.ga K "NoFolding")) (some dd) (upd H1 dd (.xd [("at", .int (-1))])) := fun {H1} h f dd nd => k2 h _ dd (f.trans (WD.Fr.new nd)) upd_same
    refine ⟨_, rfl, _, _, _, _, WD.tupD d, rfl, .ty "tuple", WD.tyJ hd, kit_ty (WD.kitTup d), _, rfl, ?_⟩
    cases ht : WD.tupD d with
    | false =>
      have eo : okTwo d e = false := by unfold okTwo; rw [ht]; rfl
      refine iteT ?_
      exact ⟨_, rfl, _, rfl, bad eo (WD.Fr.refl _)⟩
    | true =>
      refine iteF ?_
      cases d with
      | tuple l =>
        obtain ⟨a, ws, rfl, na, ha, al⟩ := WD.rJ_tuple.mp hd
        have hlen := al.len
        refine ⟨_, rfl, _, rfl, a, _, rfl, .inr (SqT.of ha), M, _, .tuple l, _, rfl, hd, z1, fun H1 f1 => ⟨_, rfl, ?_⟩⟩
        have el : ((ws.length : Nat) : Int) = lenD (.tuple l) := by rw [hlen]; rfl
        rw [el]
        cases hp : partD (.tuple l) (lenD (.tuple l)) with
        | false =>
          have eo : okTwo (.tuple l) e = false := by unfold okTwo; rw [hp, ht]; rfl
          refine iteT ?_
          exact ⟨_, rfl, _, rfl, bad eo f1⟩
        | true =>
          refine iteF ?_
          have ha1 := f1.keep _ _ (fun q => q) ha
          refine ⟨_, rfl, _, rfl, a, _, rfl, .inr (SqT.of ha1), M, _, e, _, rfl, WD.Rep.st (f1.mono fun _ q => q.elim) he, z2, fun H2 f2 => ⟨_, rfl, ?_⟩⟩
          rw [el]
          cases hq : partD e (lenD (.tuple l)) with
          | false =>
            have eo : okTwo (.tuple l) e = false := by unfold okTwo; rw [hp, hq, ht]; rfl
            refine iteT ?_
            exact ⟨_, rfl, _, rfl, bad eo (f1.trans f2)⟩
          | true =>
            refine iteF ?_
            exact k1 (by unfold okTwo; rw [hp, hq, ht]; rfl) _ (f1.trans f2)
      | none => cases ht
      | bool b => cases ht
      | int i => cases ht
      | str x => cases ht
      | list l => cases ht
      | dict l => cases ht
end
/-! ### two partings -/
def amid (l m : List Int) (b e : Nat) : Option Nat := (List.range l.length).find? fun t => decide (l.getD t 0 = l.getD b 0) && decide (m.getD t 0 = m.getD e 0)
theorem getI {K : PySem.W.Frag} {H : Hp} {a : Addr} {l : List Int} {i : Nat} {x : V} {Q : VK} (h : SqT K H a (l.map V.int)) (hi : i < l.length) (q : Q (.int (l.getD i 0)) H) (hx : x = .int (i : Int)) : rIxT K (.ref a) x H Q := by
  refine ⟨a, _, (i : Int), .int (l.getD i 0), rfl, hx, h, ?_, q⟩
  have h0 : (0 : Int) ≤ (i : Int) := by omega
  have h1 : ((i : Int)).toNat < l.length := by omega
  rw [WD.atI_int h0 h1]
  congr 2
  rw [List.getD_eq_getElem?_getD, List.getElem?_eq_getElem hi]
  rfl
def sp_amid_of (K : PySem.W.Frag) : Sp := fun vs H Q _ => ∃ (a c : Addr) (l m : List Int) (b e : Nat), vs = [.ref a, .ref c, .int b, .int e] ∧ SqT K H a (l.map V.int) ∧ SqT K H c (m.map V.int) ∧ l.length = m.length ∧ l.length ≤ 1000000 ∧ b < l.length ∧ e < l.length ∧
  (∀ t, amid l m b e = some t → t < l.length → Q (.int (t : Int)) H) ∧ (amid l m b e = none → Q .non H)
section
variable {P : Program} {w : World} {K : PySem.W.Frag} {mg : Str → Option Value} {base : Heap}
theorem ok_amid_of (T : Tx K mg) : WD.Cal P w K mg base (CX0) 1 "amid_of" (He.ga K "amid_of") (sp_amid_of K) [] := by
  obtain ⟨fd, F⟩ := T.F_amid_of
  refine ⟨WD.fn0_of F sc_amid_of (fun vs H Q E h => ?_) (fun _ _ _ _ _ _ us hl => match us, hl with | [_, _, _, _], _ => rfl) (fun cdv A outer s H vs Q E hr h => ?_), F.kp, T.g_amid_of⟩
  · obtain ⟨a, c, l, m, b, e, rfl, ha, hc, hlm, hz, hb, he, k1, k2⟩ := h
    rfl
  · obtain ⟨a, c, l, m, b, e, rfl, ha, hc, hlm, hz, hb, he, k1, k2⟩ := h
    refine ⟨_, (pss_cons (ps_for PassesOwn.never rfl (pi_range1 (by rfl) T.z_range (pa_cons (pe_callB (WD.k_call_len_seq K) (by rfl) T.z_len PySem.boot_len (pa_cons (pv 0) pa_nil)) pa_nil)) (pg_name (i := 4) sc_amid_of.nd rfl (.inl rfl))
        (pss_one (ps_if (PW.pt (pw_and (pt_cmpR op_eq (pe_ix (WD.k_ix_tup K) (pv 0) (pv 4) (fun _ _ => rfl)) (pe_ix (WD.k_ix_tup K) (pv 0) (pv 2) (fun _ _ => rfl)) (nomark _)) (pw_and1 (pt_cmpR op_eq (pe_ix (WD.k_ix_tup K) (pv 1) (pv 4) (fun _ _ => rfl)) (pe_ix (WD.k_ix_tup K) (pv 1) (pv 3) (fun _ _ => rfl)) (nomark _)))))
        (pss_one (ps_ret (pv 4)))
        pss_nil)))
      (pss_one (ps_ret pe_non))), ?_⟩
    have hln : (l.map V.int).length = l.length := List.length_map _
    refine ⟨_, rfl, a, _, rfl, .inr ha, _, rfl, by omega, by omega, ?_⟩
    rw [hln, Int.toNat_natCast]
    refine for_it WD.walk_rg (fun i σ H' => H' = H ∧ (∃ x, σ = [some (.ref a), some (.ref c), some (.int b), some (.int e), x]) ∧ ∀ t, t < i → (decide (l.getD t 0 = l.getD b 0) && decide (m.getD t 0 = m.getD e 0)) = false) ⟨rfl, ⟨none, rfl⟩, fun t h => by omega⟩ (fun _ _ _ _ _ => trivial) (fun i x σ H1 H2 hi p hy => ?_) (fun σ H1 p => ?_)
    · obtain ⟨rfl, ⟨x0, rfl⟩, hno⟩ := p
      obtain ⟨rfl, rfl⟩ := hy
      have hi' : i < l.length := by omega
      refine ⟨_, rfl, _, rfl, getI ha hi' ?_ rfl⟩
      refine ⟨_, rfl, _, rfl, getI ha hb ?_ rfl⟩
      refine ⟨rfl, _, rfl, WD.iteD (fun h1 => ?_) (fun h1 => ?_)⟩
      · refine ⟨_, rfl, _, rfl, getI hc (by omega) ?_ rfl⟩
        refine ⟨_, rfl, _, rfl, getI hc (by omega) ?_ rfl⟩
        refine ⟨rfl, _, rfl, WD.iteD (fun h2 => ?_) (fun h2 => ?_)⟩
        · refine ⟨_, rfl, k1 i ?_ hi'⟩
          unfold amid
          rw [List.find?_range_eq_some]
          refine ⟨by rw [decide_eq_true (V.int.inj h1), decide_eq_true (V.int.inj h2)]; rfl, List.mem_range.mpr hi', fun j hj => by
            have := hno j hj
            simp only [this, Bool.not_false]⟩
        · refine ⟨rfl, ⟨_, rfl⟩, fun t ht => ?_⟩
          by_cases e : t = i
          · rw [e, decide_eq_false (fun z => h2 (congrArg V.int z)), Bool.and_false]
          · exact hno t (by omega)
      · refine ⟨rfl, ⟨_, rfl⟩, fun t ht => ?_⟩
        by_cases e : t = i
        · rw [e, decide_eq_false (fun z => h1 (congrArg V.int z)), Bool.false_and]
        · exact hno t (by omega)
    · obtain ⟨rfl, ⟨x0, rfl⟩, hno⟩ := p
      refine k2 ?_
      unfold amid
      rw [List.find?_eq_none]
      intro t ht
      have := hno t (by have := List.mem_range.mp ht; omega)
      simp only [this]
      decide
end
/-! ### all pairs, the answer -/
def allP (n : Nat) : List (Nat × Nat) := (List.range (n * n)).map fun k => (k / n, k % n)
theorem allP_len (n : Nat) : (allP n).length = n * n := by simp [allP]
theorem allP_at {n i j : Nat} (hi : i < n) (hj : j < n) : (allP n)[i * n + j]? = some (i, j) := by
  have h1 : i * n + j < n * n := by
    have : (i + 1) * n ≤ n * n := Nat.mul_le_mul_right n hi
    rw [Nat.add_mul] at this
    omega
  have h2 : (i * n + j) / n = i := by
    rw [Nat.mul_comm, Nat.mul_add_div (by omega), Nat.div_eq_of_lt hj, Nat.add_zero]
  have h3 : (i * n + j) % n = j := by rw [Nat.mul_comm, Nat.mul_add_mod, Nat.mod_eq_of_lt hj]
  unfold allP
  rw [List.getElem?_map, List.getElem?_range h1]
  show some ((i * n + j) / n, (i * n + j) % n) = _
  rw [h2, h3]
theorem allP_drop {n i j : Nat} (hi : i < n) (hj : j < n) : (allP n).drop (i * n + j) = (i, j) :: (allP n).drop (i * n + (j + 1)) := by
  have h := allP_at hi hj
  obtain ⟨h1, h2⟩ := List.getElem?_eq_some_iff.mp h
  rw [List.drop_eq_getElem_cons h1, h2]
  rfl
theorem allP_mem {n : Nat} {p : Nat × Nat} (h : p ∈ allP n) : p.1 < n ∧ p.2 < n := by
  obtain ⟨k, hk, rfl⟩ := List.mem_map.mp h
  have hk := List.mem_range.mp hk
  have hn : 0 < n := by
    rcases Nat.eq_zero_or_pos n with e | e
    · rw [e] at hk; omega
    · exact e
  exact ⟨Nat.div_lt_of_lt_mul hk, Nat.mod_lt _ hn⟩
def walkP (l m : List Int) : List (Nat × Nat) → List PyData → PyData
  | [], acc => .tuple [.str "yes", .list acc]
  | p :: r, acc => match amid l m p.1 p.2 with
    | none => walkP l m r acc
    | some a => match amid m l p.1 p.2 with
      | none => .tuple [.str "no", .tuple [.int p.1, .int a, .int p.2]]
      | some h => walkP l m r (acc ++ [.tuple [.int p.1, .int p.2, .int h]])
def answer (l m : List Int) : PyData := walkP l m (allP l.length) []
/-- the second of a pair is new -/
def newTwo (H H' : Hp) (v : V) : Prop := ∀ a x y, v = .ref a → H' a = some (.tup [x, .ref y]) → H y = none
theorem okTwo_ints {d e : PyData} (h : okTwo d e = true) : ∃ l m : List Int, d = .tuple (l.map .int) ∧ e = .tuple (m.map .int) ∧ l.length = m.length ∧ partB l = true ∧ partB m = true ∧ (∀ x ∈ l, 0 ≤ x ∧ x < l.length) ∧ (∀ x ∈ m, 0 ≤ x ∧ x < l.length) := by
  unfold okTwo at h
  simp only [Bool.and_eq_true] at h
  obtain ⟨h1, h2, h3⟩ := h
  unfold partD at h2 h3
  simp only [Bool.and_eq_true] at h2 h3
  obtain ⟨l, rfl, hl, hin⟩ := WD.rowD_ints h2.1
  obtain ⟨m, rfl, hm, him⟩ := WD.rowD_ints h3.1
  have e1 : lenD (.tuple (l.map .int)) = (l.length : Int) := by show (((l.map PyData.int).length : Nat) : Int) = _; rw [List.length_map]
  rw [e1] at hm hin him
  have p1 := h2.2
  have p2 := h3.2
  rw [intsD_ints] at p1 p2
  exact ⟨l, m, rfl, rfl, by omega, p1, p2, hin, him⟩
theorem strYes : PyData.strOk ("yes" : Str) = true := by decide +kernel
theorem strNo : PyData.strOk ("no" : Str) = true := by decide +kernel
def sp_permuted (K : PySem.W.Frag) : Sp := fun vs H Q E => ∃ (M : WD.MS) (v u : V) (d e : PyData), vs = [v, u] ∧ WD.rX M H v d ∧ WD.rX M H u e ∧ WD.MIn M H ∧ (WD.itemsD d).length ≤ 1000 ∧ (WD.itemsD e).length ≤ 1000 ∧
  (okTwo d e = true → ∀ w H', WD.Fr WD.M0 H H' → WD.rX M H' w (answer (intsD d) (intsD e)) → newTwo H H' w → Q w H') ∧ (okTwo d e = false → exAt K "NoFolding" "at" (.int (-1)) H E)
section
variable {P : Program} {w : World} {K : PySem.W.Frag} {mg : Str → Option Value} {base : Heap}
theorem ok_permuted (T : Tx K mg) : WD.Cal P w K mg base (L2.CX P w) 6 "permuted" (He.ga K "permuted") (sp_permuted K) [] := by
  obtain ⟨fd, F⟩ := T.F_permuted
  refine ⟨WD.fnX_of F sc_permuted (fun vs H Q E h => ?_) (fun _ _ _ _ _ _ us hl => match us, hl with | [_, _], _ => rfl) (fun cdv A outer s H vs Q E hr h => ?_), F.kp, T.g_permuted⟩
  · obtain ⟨M, v, u, d, e, rfl, hd, he, hM, z1, z2, k1, k2⟩ := h
    rfl
  · obtain ⟨M, v, u, d, e, rfl, hd, he, hM, z1, z2, k1, k2⟩ := h
    refine ⟨_, (pss_cons (ps_expr (WD.pe_calX (ok_check_two T) (takes_of rfl rfl rfl rfl) (hr.mono (by decide)) (by rfl) (pa_cons (pv 0) (pa_cons (pv 1) pa_nil))))
      (pss_cons (ps_set (i := 2) sc_permuted.nd rfl (.inl rfl) (pe_lst pa_nil))
      (pss_cons (ps_for (passes_of rfl) rfl (pi_range1 (by rfl) T.z_range (pa_cons (pe_callB (WD.k_call_len_seq K) (by rfl) T.z_len PySem.boot_len (pa_cons (pv 0) pa_nil)) pa_nil)) (pg_name (i := 3) sc_permuted.nd rfl (.inl rfl))
        (pss_one (ps_for (passes_of rfl) rfl (pi_range1 (by rfl) T.z_range (pa_cons (pe_callB (WD.k_call_len_seq K) (by rfl) T.z_len PySem.boot_len (pa_cons (pv 0) pa_nil)) pa_nil)) (pg_name (i := 4) sc_permuted.nd rfl (.inl rfl))
        (pss_cons (ps_set (i := 5) sc_permuted.nd rfl (.inl rfl) (WD.pe_cal (ok_amid_of T) (hr.mono (by decide)) (by rfl) (pa_cons (pv 0) (pa_cons (pv 1) (pa_cons (pv 3) (pa_cons (pv 4) pa_nil))))))
      (pss_one (ps_if (pt_cmpR op_notN (pv 5) pe_non (nomark _))
        (pss_cons (ps_set (i := 6) sc_permuted.nd rfl (.inl rfl) (WD.pe_cal (ok_amid_of T) (hr.mono (by decide)) (by rfl) (pa_cons (pv 1) (pa_cons (pv 0) (pa_cons (pv 3) (pa_cons (pv 4) pa_nil))))))
      (pss_cons (ps_if (pt_cmpR op_isN (pv 6) pe_non (nomark _))
        (pss_one (ps_ret (pe_tup (pa_cons pe_str (pa_cons (pe_tup (pa_cons (pv 3) (pa_cons (pv 5) (pa_cons (pv 4) pa_nil)))) pa_nil)))))
        pss_nil)
      (pss_one (ps_expr (WD.k_pe_bm K PySem.F.plainAttrs_list PySem.F.slot_list_append PySem.F.type_list_append mt_append (pv 2) (pa_cons (pe_tup (pa_cons (pv 3) (pa_cons (pv 4) (pa_cons (pv 6) pa_nil)))) pa_nil))))))
        pss_nil))))))
      (pss_one (ps_ret (pe_tup (pa_cons pe_str (pa_cons (pv 2) pa_nil)))))))), ?_⟩
    refine ⟨_, rfl, _, rfl, M, _, _, d, e, rfl, hd, he, by omega, by omega, fun ok H1 f1 => ?_, k2⟩
    obtain ⟨l, m, rfl, rfl, hlm, p1, p2, hin, him⟩ := okTwo_ints ok
    have k1 := k1 ok
    rw [intsD_ints, intsD_ints] at k1
    have hz : l.length ≤ 1000 := by have : (l.map PyData.int).length ≤ 1000 := z1; rw [List.length_map] at this; exact this
    have hSz := sizeLine_eq
    obtain ⟨a, rfl, na, ha⟩ := WD.tupI (WD.tupJ.mp (WD.Rep.st (f1.mono fun _ q => q.elim) hd))
    obtain ⟨c, rfl, nc, hc⟩ := WD.tupI (WD.tupJ.mp (WD.Rep.st (f1.mono fun _ q => q.elim) he))
    refine ⟨Nat.zero_le _, fun q nq => ?_⟩
    have fq : WD.Fr WD.M0 H1 (upd H1 q (.lst [])) := WD.Fr.new nq
    have nqH : H q = none := f1.dom q nq
    have nMq : ¬ M q := hM.no nqH
    have naq : a ≠ q := ne_of_none ha nq
    have ncq : c ≠ q := ne_of_none hc nq
    have haq := fq.keep _ _ (fun z => z) ha
    have hcq := fq.keep _ _ (fun z => z) hc
    have hln : (l.map V.int).length = l.length := List.length_map _
    refine ⟨_, rfl, a, _, rfl, .inr (SqT.of haq), _, rfl, by omega, by omega, ?_⟩
    rw [hln, Int.toNat_natCast]
    -- what the loops keep
    have fin : ∀ {H' : Hp} {acc : List PyData} {vs : List V}, WD.Fr (WD.only q) (upd H1 q (.lst [])) H' → H' q = some (.lst vs) → WD.All2 (WD.rX M H') vs acc → WD.rX M H' (.ref q) (.list acc) := fun f hq al => WD.rJ_list.mpr ⟨q, _, rfl, nMq, hq, al⟩
    have FH : ∀ {H' : Hp}, WD.Fr (WD.only q) (upd H1 q (.lst [])) H' → WD.Fr WD.M0 H H' := fun {H'} f => ⟨fun b o _ e => f.keep b o (ne_of_none e nqH) (fq.keep b o (fun z => z) (f1.keep b o (fun z => z) e)), fun b e => f1.dom b (fq.dom b (f.dom b e))⟩
    refine for_it WD.walk_rg (fun i σ H' => ∃ x3 x4 x5 x6 vs acc, σ = [some (.ref a), some (.ref c), some (.ref q), x3, x4, x5, x6] ∧ WD.Fr (WD.only q) (upd H1 q (.lst [])) H' ∧ H' q = some (.lst vs) ∧ WD.All2 (WD.rX (WD.plus M q) H') vs acc ∧ acc.length ≤ i * l.length ∧ answer l m = walkP l m ((allP l.length).drop (i * l.length)) acc)
      ⟨none, none, none, none, [], [], rfl, WD.Fr.refl _, upd_same, trivial, Nat.zero_le _, by rw [Nat.zero_mul]; rfl⟩ (fun _ _ _ _ _ => trivial) (fun i x σ H2 H3 hi pp hy => ?_) (fun σ H2 pp => ?_)
    · obtain ⟨x3, x4, x5, x6, vs, acc, rfl, f2, hq2, al, hac, han⟩ := pp
      obtain ⟨rfl, rfl⟩ := hy
      have ha2 := f2.keep _ _ naq haq
      refine ⟨_, rfl, a, _, rfl, .inr (SqT.of ha2), _, rfl, by omega, by omega, ?_⟩
      rw [hln, Int.toNat_natCast]
      refine for_it WD.walk_rg (fun j σ H' => ∃ x4 x5 x6 vs acc, σ = [some (.ref a), some (.ref c), some (.ref q), some (.int i), x4, x5, x6] ∧ WD.Fr (WD.only q) (upd H1 q (.lst [])) H' ∧ H' q = some (.lst vs) ∧ WD.All2 (WD.rX (WD.plus M q) H') vs acc ∧ acc.length ≤ i * l.length + j ∧ answer l m = walkP l m ((allP l.length).drop (i * l.length + j)) acc)
        ⟨x4, x5, x6, vs, acc, rfl, f2, hq2, al, hac, han⟩ (fun _ _ _ _ _ => trivial) (fun j x σ H4 H5 hj pp hy => ?_) (fun σ H4 pp => ?_)
      · obtain ⟨x4, x5, x6, vs, acc, rfl, f4, hq4, al, hac, han⟩ := pp
        obtain ⟨rfl, rfl⟩ := hy
        have ha4 := f4.keep _ _ naq haq
        have hc4 := f4.keep _ _ ncq hcq
        rw [allP_drop hi hj] at han
        refine ⟨_, rfl, _, rfl, _, rfl, _, rfl, a, c, l, m, i, j, rfl, SqT.of ha4, SqT.of hc4, hlm, by omega, hi, hj, fun t ht htl => ?_, fun ht => ?_⟩
        · have han2 : answer l m = (match amid m l i j with
            | none => .tuple [.str "no", .tuple [.int i, .int t, .int j]]
            | some h => walkP l m ((allP l.length).drop (i * l.length + (j + 1))) (acc ++ [.tuple [.int i, .int j, .int h]])) := by
            rw [han]
            show (match amid l m i j with | none => _ | some a => _) = _
            rw [ht]
          refine ⟨_, rfl, rfl, _, rfl, iteT ?_⟩
          refine ⟨_, rfl, _, rfl, _, rfl, _, rfl, c, a, m, l, i, j, rfl, SqT.of hc4, SqT.of ha4, hlm.symm, by omega, by omega, by omega, fun h hh hhl => ?_, fun hh => ?_⟩
          · rw [hh] at han2
            refine ⟨_, rfl, rfl, _, rfl, iteF ?_⟩
            refine ⟨_, rfl, .inl ⟨rfl, _, SqL.of hq4⟩, ?_⟩
            refine ⟨_, rfl, _, rfl, _, rfl, by show 3 ≤ sizeLine; decide, fun p np => ?_⟩
            have fp : WD.Fr WD.M0 H5 (upd H5 p (.tup [.int i, .int j, .int h])) := WD.Fr.new np
            have hqp := fp.keep _ _ (fun z => z) hq4
            have hvl := al.len
            have hsm : vs.length < sizeLine := by
              have h1 : i * l.length + j < 1000 * 1001 := by
                have : i * l.length ≤ 1000 * 1000 := Nat.mul_le_mul (by omega) hz
                omega
              omega
            refine ⟨q, _, _, rfl, rfl, hqp, hsm, ?_⟩
            have nMp : ¬ M p := fun z => hM p z (by
              have := f4.dom p np
              exact f1.dom p (fq.dom p this))
            have npq : p ≠ q := fun z => by rw [z, hq4] at np; cases np
            refine ⟨_, _, _, vs ++ [.ref p], acc ++ [.tuple [.int i, .int j, .int h]], rfl, ?_, upd_same, ?_, ?_, han2⟩
            · exact (f4.trans (fp.mono fun _ z => z.elim)).trans (WD.Fr.mut rfl)
            · have st : ∀ {y : V} {z : PyData}, WD.rX (WD.plus M q) (upd H5 p (.tup [.int i, .int j, .int h])) y z → WD.rX (WD.plus M q) (upd (upd H5 p (.tup [.int i, .int j, .int h])) q (.lst (vs ++ [.ref p]))) y z := fun r => WD.Rep.st (WD.Fr.mut (.inr rfl)) r
              refine WD.All2.app (al.imp fun _ _ z => st (WD.Rep.st (fp.mono fun _ z => z.elim) z)) (WD.All2.one (st (WD.rJ_tuple.mpr ⟨p, _, rfl, fun z => z.elim nMp npq, upd_same, ?_⟩)))
              exact ⟨WD.rJ_int.mpr rfl, WD.rJ_int.mpr rfl, WD.rJ_int.mpr rfl, trivial⟩
            · rw [List.length_append]; show acc.length + 1 ≤ _; omega
          · rw [hh] at han2
            refine ⟨_, rfl, rfl, _, rfl, iteT ?_⟩
            refine ⟨_, rfl, _, rfl, _, rfl, by show 3 ≤ sizeLine; decide, fun p np => ?_⟩
            refine ⟨by show 2 ≤ sizeLine; decide, fun r nr => ?_⟩
            have fp : WD.Fr WD.M0 H5 (upd H5 p (.tup [.int i, .int t, .int j])) := WD.Fr.new np
            have fr : WD.Fr WD.M0 (upd H5 p (.tup [.int i, .int t, .int j])) (upd (upd H5 p (.tup [.int i, .int t, .int j])) r (.tup [.str "no", .ref p])) := WD.Fr.new nr
            have F5 := (FH f4).trans (fp.trans fr)
            have npH : H p = none := f1.dom p (fq.dom p (f4.dom p np))
            have nrH : H r = none := f1.dom r (fq.dom r (f4.dom r (fp.dom r nr)))
            refine k1 _ _ F5 ?_ (fun a' x y e1 e2 => ?_)
            · rw [han2]
              refine WD.rJ_tuple.mpr ⟨r, _, rfl, hM.no nrH, upd_same, WD.rJ_str.mpr ⟨rfl, strNo⟩, WD.rJ_tuple.mpr ⟨p, _, rfl, hM.no npH, fr.keep _ _ (fun z => z) upd_same, ?_⟩, trivial⟩
              exact ⟨WD.rJ_int.mpr rfl, WD.rJ_int.mpr rfl, WD.rJ_int.mpr rfl, trivial⟩
            · cases e1
              rw [upd_same] at e2
              have e3 := Option.some.inj e2
              injection e3 with e4
              injection e4 with e5 e6
              injection e6 with e7
              cases e7
              exact npH
        · refine ⟨_, rfl, rfl, _, rfl, iteF ?_⟩
          refine ⟨_, _, _, vs, acc, rfl, f4, hq4, al, by omega, ?_⟩
          rw [han]
          show (match amid l m i j with | none => _ | some a => _) = _
          rw [ht]
      · obtain ⟨x4, x5, x6, vs, acc, rfl, f4, hq4, al, hac, han⟩ := pp
        have e : i * l.length + l.length = (i + 1) * l.length := by rw [Nat.add_mul, Nat.one_mul]
        rw [e] at hac han
        exact ⟨_, _, _, _, vs, acc, rfl, f4, hq4, al, hac, han⟩
    · obtain ⟨x3, x4, x5, x6, vs, acc, rfl, f2, hq2, al, hac, han⟩ := pp
      rw [List.drop_of_length_le (by rw [allP_len]; exact Nat.le_refl _)] at han
      refine ⟨_, rfl, by show 2 ≤ sizeLine; decide, fun r nr => ?_⟩
      have fr : WD.Fr WD.M0 H2 (upd H2 r (.tup [.str "yes", .ref q])) := WD.Fr.new nr
      have nrH : H r = none := f1.dom r (fq.dom r (f2.dom r nr))
      refine k1 _ _ ((FH f2).trans fr) ?_ (fun a' x y e1 e2 => ?_)
      · rw [han]
        have hl : WD.rX M H2 (.ref q) (.list acc) := fin f2 hq2 (al.imp fun _ _ z => WD.Rep.wk (fun _ q => .inl q) z)
        exact WD.rJ_tuple.mpr ⟨r, _, rfl, hM.no nrH, upd_same, WD.rJ_str.mpr ⟨rfl, strYes⟩, WD.Rep.st (fr.mono fun _ z => z.elim) hl, trivial⟩
      · cases e1
        rw [upd_same] at e2
        have e3 := Option.some.inj e2
        injection e3 with e4
        injection e4 with e5 e6
        injection e6 with e7
        cases e7
        exact nqH
end
/-! ### the pairs that are led -/
def isP (l m : List Int) (p : Nat × Nat) : Bool := (amid l m p.1 p.2).isSome
def pairsL (l m : List Int) : List (Nat × Nat) := (allP l.length).filter (isP l m)
def zP (p : Nat × Nat) : Int × Int := ((p.1 : Int), (p.2 : Int))
theorem allP_take {n i : Nat} (hi : i < n) : ∀ j, j ≤ n → (allP n).take (i * n + j) = (allP n).take (i * n) ++ (List.range j).map fun k => (i, k)
  | 0, _ => by simp
  | j + 1, hj => by
    have h := allP_at hi (show j < n by omega)
    rw [show i * n + (j + 1) = (i * n + j) + 1 by omega, List.take_add_one, h, allP_take hi j (by omega), List.range_succ, List.map_append, List.append_assoc]
    rfl
theorem filterMap_row {α β γ : Type} (p : α → Bool) (g : α → β) (h : β → γ) : ∀ L : List α, (L.filterMap fun j => if p j = true then some (g j) else none).map h = (L.filter p).map fun j => h (g j)
  | [] => rfl
  | a :: L => by
    cases ha : p a with
    | true =>
      rw [List.filter_cons_of_pos ha, List.filterMap_cons_some (b := g a) (by rw [ha]; rfl), List.map_cons, List.map_cons, filterMap_row p g h L]
    | false =>
      rw [List.filter_cons_of_neg (by rw [ha]; exact Bool.false_ne_true), List.filterMap_cons_none (by rw [ha]; rfl), filterMap_row p g h L]
theorem pairs_len (l m : List Int) : (pairsL l m).length ≤ l.length * l.length := by
  have := List.length_filter_le (isP l m) (allP l.length)
  rw [allP_len] at this
  exact this
theorem pairs_mem {l m : List Int} {p : Nat × Nat} (h : p ∈ pairsL l m) : p.1 < l.length ∧ p.2 < l.length := allP_mem ((List.mem_filter.mp h).1)
def sp_ends_led (K : PySem.W.Frag) : Sp := fun vs H Q _ => ∃ (M : WD.MS) (a c : Addr) (l m : List Int), vs = [.ref a, .ref c] ∧ H a = some (.tup (l.map V.int)) ∧ H c = some (.tup (m.map V.int)) ∧ l.length = m.length ∧ l.length ≤ 1000 ∧ WD.MIn M H ∧
  ∀ v H', WD.Fr WD.M0 H H' → WD.rL (WD.rP WD.rI WD.rI) M H' v ((pairsL l m).map zP) → Q v H'
section
variable {P : Program} {w : World} {K : PySem.W.Frag} {mg : Str → Option Value} {base : Heap}
theorem ok_ends_led (T : Tx K mg) : WD.Cal P w K mg base (CX0) 2 "ends_led" (He.ga K "ends_led") (sp_ends_led K) [] := by
  obtain ⟨fd, F⟩ := T.F_ends_led
  refine ⟨WD.fn0_of F sc_ends_led (fun vs H Q E h => ?_) (fun _ _ _ _ _ _ us hl => match us, hl with | [_, _], _ => rfl) (fun cdv A outer s H vs Q E hr h => ?_), F.kp, T.g_ends_led⟩
  · obtain ⟨M, a, c, l, m, rfl, ha, hc, hlm, hz, hM, k⟩ := h
    rfl
  · obtain ⟨M, a, c, l, m, rfl, ha, hc, hlm, hz, hM, k⟩ := h
    refine ⟨_, (pss_cons (ps_set (i := 2) sc_ends_led.nd rfl (.inl rfl) (pe_lst pa_nil))
      (pss_cons (ps_for PassesOwn.never rfl (pi_range1 (by rfl) T.z_range (pa_cons (pe_callB (WD.k_call_len_seq K) (by rfl) T.z_len PySem.boot_len (pa_cons (pv 0) pa_nil)) pa_nil)) (pg_name (i := 3) sc_ends_led.nd rfl (.inr rfl))
        (pss_cons (ps_setLc (i := 4) (own := [("end", 5)]) rfl sc_ends_led.nd rfl rfl (sw_true rfl rfl rfl (by decide +kernel)) (pi_range1 (by rfl) T.z_range (pa_cons (pe_callB (WD.k_call_len_seq K) (by rfl) T.z_len PySem.boot_len (pa_cons (pv 0) pa_nil)) pa_nil)) (blkOk_by (N := ["one", "other", "found", "begin", "ends", "end"]) (sc := defScope s_ends_led) (by decide +kernel)) (fun _ _ _ _ _ => (pg_name (i := 5) sc_ends_led.nd rfl (.inl rfl))) (fun _ _ _ _ _ => (pts_one (pt_cmpR op_notN (WD.pe_cal (ok_amid_of T) (hr.mono (by decide)) (by rfl) (pa_cons (pv 0) (pa_cons (pv 1) (pa_cons (pv 3) (pa_cons (pv 5) pa_nil))))) pe_non (nomark _)))) (fun _ _ _ _ _ => (pv 5)))
      (pss_one (ps_expr (WD.k_pe_bm K PySem.F.plainAttrs_list PySem.F.slot_list_extend PySem.F.type_list_extend mt_extend (pv 2) (pa_cons (pe_lc (own := [("end", 5)]) rfl sc_ends_led.nd (WD.k_pi_list K (pv 4)) (blkOk_by (N := ["one", "other", "found", "begin", "ends", "end"]) (sc := defScope s_ends_led) (by decide +kernel)) (fun _ _ _ _ _ => (pg_name (i := 5) sc_ends_led.nd rfl (.inl rfl))) (fun _ _ _ _ _ => pts_nil) (fun _ _ _ _ _ => (pe_tup (pa_cons (pv 3) (pa_cons (pv 5) pa_nil))))) pa_nil))))))
      (pss_one (ps_ret (pv 2))))), ?_⟩
    have hSz := sizeLine_eq
    have hln : (l.map V.int).length = l.length := List.length_map _
    refine ⟨Nat.zero_le _, fun q nq => ?_⟩
    have fq : WD.Fr WD.M0 H (upd H q (.lst [])) := WD.Fr.new nq
    have nMq : ¬ M q := hM.no nq
    have naq : a ≠ q := ne_of_none ha nq
    have ncq : c ≠ q := ne_of_none hc nq
    have haq := fq.keep _ _ (fun z => z) ha
    have hcq := fq.keep _ _ (fun z => z) hc
    refine ⟨_, rfl, a, _, rfl, .inr (SqT.of haq), _, rfl, by omega, by omega, ?_⟩
    rw [hln, Int.toNat_natCast]
    refine for_it WD.walk_rg (fun i σ H' => ∃ x3 x4 vs, σ = [some (.ref a), some (.ref c), some (.ref q), x3, x4, none] ∧ WD.Fr (WD.only q) (upd H q (.lst [])) H' ∧ H' q = some (.lst vs) ∧ WD.All2 (WD.rP WD.rI WD.rI (WD.plus M q) H') vs ((((allP l.length).take (i * l.length)).filter (isP l m)).map zP))
      ⟨none, none, [], rfl, WD.Fr.refl _, upd_same, by rw [Nat.zero_mul]; exact trivial⟩ (fun _ _ _ _ _ => trivial) (fun i x σ H2 H3 hi pp hy => ?_) (fun σ H2 pp => ?_)
    · obtain ⟨x3, x4, vs, rfl, f2, hq2, al⟩ := pp
      obtain ⟨rfl, rfl⟩ := hy
      have ha2 := f2.keep _ _ naq haq
      have hc2 := f2.keep _ _ ncq hcq
      have hM2 : WD.MIn (WD.plus M q) H3 := ((hM.to fq).to f2).plus hq2
      refine ⟨_, rfl, a, _, rfl, .inr (SqT.of ha2), _, rfl, by omega, by omega, ?_⟩
      rw [hln, Int.toNat_natCast]
      refine WD.lc_sift (R := WD.rI) WD.walk_rg (fun j => if isP l m (i, j) = true then some (j : Int) else none) hM2 (by omega) (fun _ _ => trivial) (fun j M' H' hj t fr mi Ky Kn ky kn x H'' hy => ?_) (fun D H4 hD f4 hl4 => ?_)
      · obtain ⟨rfl, rfl⟩ := hy
        have ha3 := fr.keep _ _ (fun z => z) ha2
        have hc3 := fr.keep _ _ (fun z => z) hc2
        refine ⟨rfl, _, rfl, _, rfl, _, rfl, _, rfl, a, c, l, m, i, j, rfl, SqT.of ha3, SqT.of hc3, hlm, by omega, hi, hj, fun t ht _ => ?_, fun ht => ?_⟩
        · have hp : isP l m (i, j) = true := by unfold isP; rw [ht]; rfl
          refine ⟨rfl, _, rfl, iteT ⟨_, rfl, ky _ _ (j : Int) (if_pos hp) (WD.Fr.refl _) rfl⟩⟩
        · have hp : isP l m (i, j) = false := by unfold isP; rw [ht]; rfl
          exact ⟨rfl, _, rfl, iteF (kn _ (if_neg (by rw [hp]; exact Bool.false_ne_true)) (WD.Fr.refl _))⟩
      · obtain ⟨D', ws, e4, nD, hD4, al4⟩ := hl4
        cases e4
        have hq4 := f4.keep _ _ (fun z => z) hq2
        have hwl := al4.len
        have hfl : ((List.range l.length).filterMap fun j => if isP l m (i, j) = true then some (j : Int) else none).length ≤ l.length := by
          have := List.length_filterMap_le (fun j => if isP l m (i, j) = true then some (j : Int) else none) (List.range l.length)
          rw [List.length_range] at this
          exact this
        refine ⟨_, rfl, .inl ⟨rfl, _, SqL.of hq4⟩, ?_⟩
        refine ⟨_, rfl, D, rfl, ⟨_, SqL.of hD4⟩, ?_⟩
        refine WD.lc_map (R := WD.rP WD.rI WD.rI) (walk_list (xs := ws)) (fun j => ((i : Int), ((List.range l.length).filterMap fun j => if isP l m (i, j) = true then some (j : Int) else none).getD j 0)) (hM2.to f4) (by omega) (fun H' f => SqL.of (f.keep _ _ (fun z => z) hD4)) (fun j M' H' hj t fr mi Ky ky x H'' hy => ?_) (fun D2 H5 hD2 f5 hl5 => ?_)
        · obtain ⟨rfl, hx⟩ := hy
          obtain ⟨y, ey, ry⟩ := al4.get hx
          cases ry
          refine ⟨rfl, _, rfl, _, rfl, by show 2 ≤ sizeLine; decide, fun p np => ?_⟩
          refine ky _ _ (WD.Fr.new np) ?_
          have e : ((List.range l.length).filterMap fun j => if isP l m (i, j) = true then some (j : Int) else none).getD j 0 = y := by rw [List.getD_eq_getElem?_getD, ey]; rfl
          rw [e]
          exact WD.pair1 (R := WD.rI) (S := WD.rI) mi np rfl rfl
        · obtain ⟨D2', us, e5, nD2, hD5, al5⟩ := hl5
          cases e5
          have hq5 := f5.keep _ _ (fun z => z) hq4
          have hvl := al.len
          have hul := al5.len
          rw [List.length_map, List.length_range] at hul
          have hbd : vs.length ≤ i * l.length := by
            rw [hvl, List.length_map]
            have h1 := List.length_filter_le (isP l m) ((allP l.length).take (i * l.length))
            have h2 := List.length_take_le (i * l.length) (allP l.length)
            omega
          have hbd2 : i * l.length ≤ 1000 * 1000 := Nat.mul_le_mul (by omega) hz
          refine ⟨q, D2, vs, us, rfl, rfl, hq5, hD5, by omega, ?_⟩
          refine ⟨_, _, vs ++ us, rfl, ?_, upd_same, ?_⟩
          · exact (f2.trans ((f4.trans f5).mono fun _ z => z.elim)).trans (WD.Fr.mut rfl)
          · have e6 : ((i + 1) * l.length) = i * l.length + l.length := by rw [Nat.add_mul, Nat.one_mul]
            rw [e6, allP_take hi l.length (Nat.le_refl _), List.filter_append, List.map_append]
            refine WD.All2.app (al.imp fun _ _ z => ?_) ?_
            · exact WD.Rep.st (WD.Fr.mut (.inr rfl)) (WD.Rep.st ((f4.trans f5).mono fun _ z => z.elim) z)
            · have e7 : (((List.range l.length).map fun k => (i, k)).filter (isP l m)).map zP = (List.range ws.length).map fun j => ((i : Int), ((List.range l.length).filterMap fun j => if isP l m (i, j) = true then some (j : Int) else none).getD j 0) := by
                rw [WD.mapRange (fun y => ((i : Int), y)) 0 _ hwl, filterMap_row, List.filter_map, List.map_map]
                rfl
              rw [e7]
              exact al5.imp fun _ _ z => WD.Rep.st (WD.Fr.mut (.inr rfl)) z
    · obtain ⟨x3, x4, vs, rfl, f2, hq2, al⟩ := pp
      rw [List.take_of_length_le (by rw [allP_len]; exact Nat.le_refl _)] at al
      refine ⟨_, rfl, k _ _ ⟨fun b o _ e => f2.keep b o (ne_of_none e nq) (fq.keep b o (fun z => z) e), fun b e => fq.dom b (f2.dom b e)⟩ ⟨q, vs, rfl, nMq, hq2, al.imp fun _ _ z => WD.Rep.wk (fun _ q => .inl q) z⟩⟩
end
/-! ### papers -/
def entryOk (l m : List Int) (d : PyData) (p : Nat × Nat) : Bool := WD.rowD d 3 l.length && ((decide ((intsD d).getD 0 0 = p.1) && decide ((intsD d).getD 1 0 = p.2)) &&
  (decide (m.getD ((intsD d).getD 2 0).toNat 0 = m.getD p.1 0) && decide (l.getD ((intsD d).getD 2 0).toNat 0 = l.getD p.2 0)))
def dueY (l m : List Int) (ds : List PyData) : List (Nat × Nat) → Nat → Option Nat
  | [], k => if k < ds.length then some k else none
  | p :: r, k => match ds[k]? with
    | none => some k
    | some d => if entryOk l m d p = true then dueY l m ds r (k + 1) else some k
def dueN (l m : List Int) (b t e : Nat) : Option Nat := if l.getD b 0 = l.getD t 0 then (if m.getD t 0 = m.getD e 0 then (match amid m l b e with | none => none | some _ => some 2) else some 1) else some 0
/-- fine, or refused with NoPaper -/
def paper (K : PySem.W.Frag) (r : Option Int) (H : Hp) (Q : VK) (E : XK) : Prop := (r = none → ∀ H', WD.Fr WD.M0 H H' → Q .non H') ∧ ∀ k, r = some k → exAt K "NoPaper" "at" (.int k) H E
theorem exAt.fr {K : PySem.W.Frag} {x f : Str} {v : V} {H H1 : Hp} {E : XK} (h : exAt K x f v H E) (g : WD.Fr WD.M0 H H1) : exAt K x f v H1 E := fun H' dd f' e => h H' dd (g.trans f') e
theorem exAt.new {K : PySem.W.Frag} {x f : Str} {v : V} {H : Hp} {E : XK} (h : exAt K x f v H E) : ∀ dd, H dd = none → E (.ref (He.ga K x)) (some dd) (upd H dd (.xd [(f, v)])) := fun dd nd => h _ dd (WD.Fr.new nd) upd_same
theorem three {l : List Int} {n : Int} (h : WD.rowD (.tuple (l.map .int)) 3 n = true) : ∃ x y z, l = [x, y, z] ∧ (0 ≤ x ∧ x < n) ∧ (0 ≤ y ∧ y < n) ∧ (0 ≤ z ∧ z < n) := by
  obtain ⟨k, e, hl, hin⟩ := WD.rowD_ints h
  have e2 : l = k := by
    have := congrArg intsD e
    rw [intsD_ints, intsD_ints] at this
    exact this
  subst e2
  match l, hl, hin with
  | [x, y, z], _, hin => exact ⟨x, y, z, rfl, hin x (by simp), hin y (by simp), hin z (by simp)⟩
  | [], hl, _ => simp at hl
  | [_], hl, _ => simp at hl
  | [_, _], hl, _ => simp at hl
  | _ :: _ :: _ :: _ :: r, hl, _ => simp at hl; omega
def sp_check_yes (K : PySem.W.Frag) : Sp := fun vs H Q E => ∃ (M : WD.MS) (a c t : Addr) (l m : List Int) (ds : List PyData), vs = [.ref a, .ref c, .ref t] ∧ H a = some (.tup (l.map V.int)) ∧ H c = some (.tup (m.map V.int)) ∧ l.length = m.length ∧ l.length ≤ 1000 ∧ WD.MIn M H ∧
  WD.rX M H (.ref t) (.list ds) ∧ ds.length ≤ 1000000 ∧ (∀ d ∈ ds, (WD.itemsD d).length ≤ 1000000) ∧ paper K ((dueY l m ds (pairsL l m) 0).map fun (k : Nat) => (k : Int)) H Q E
section
variable {P : Program} {w : World} {K : PySem.W.Frag} {mg : Str → Option Value} {base : Heap}
theorem ok_check_yes (T : Tx K mg) : WD.Cal P w K mg base (L2.CX P w) 4 "check_yes" (He.ga K "check_yes") (sp_check_yes K) [] := by
  obtain ⟨fd, F⟩ := T.F_check_yes
  refine ⟨WD.fnX_of F sc_check_yes (fun vs H Q E h => ?_) (fun _ _ _ _ _ _ us hl => match us, hl with | [_, _, _], _ => rfl) (fun cdv A outer s H vs Q E hr h => ?_), F.kp, T.g_check_yes⟩
  · obtain ⟨M, a, c, t, l, m, ds, rfl, ha, hc, hlm, hz, hM, ht, hdl, hdi, k0, k1⟩ := h
    rfl
  · obtain ⟨M, a, c, t, l, m, ds, rfl, ha, hc, hlm, hz, hM, ht, hdl, hdi, k0, k1⟩ := h
    refine ⟨_, (pss_cons (ps_set (i := 3) sc_check_yes.nd rfl (.inl rfl) (WD.pe_cal (ok_ends_led T) (hr.mono (by decide)) (by rfl) (pa_cons (pv 0) (pa_cons (pv 1) pa_nil))))
      (pss_cons (ps_for (passes_of rfl) rfl (WD.k_pi_enum K (by rfl) T.z_enumerate (pa_cons (pv 3) pa_nil)) (WD.k_pg_tup K (n := 2) rfl (pgs_cons (pg_name (i := 4) sc_check_yes.nd rfl (.inl rfl)) (pgs_cons (WD.k_pg_tup K (n := 2) rfl (pgs_cons (pg_name (i := 5) sc_check_yes.nd rfl (.inl rfl)) (pgs_cons (pg_name (i := 6) sc_check_yes.nd rfl (.inl rfl)) pgs_nil))) pgs_nil)))
        (pss_cons (ps_if (PW.pt (pw_or (pt_cmpR op_eq (pv 4) (pe_callB (WD.k_call_len_seq K) (by rfl) T.z_len PySem.boot_len (pa_cons (pv 2) pa_nil)) (nomark _)) (pw_or (pt_not (pt_val (WD.pe_cal (ok_is_row T) (hr.mono (by decide)) (by rfl) (pa_cons (pe_ix (WD.k_ix_list K) (pv 2) (pv 4) (fun _ _ => rfl)) (pa_cons pe_int (pa_cons (pe_callB (WD.k_call_len_seq K) (by rfl) T.z_len PySem.boot_len (pa_cons (pv 0) pa_nil)) pa_nil)))))) (pw_or1 (pt_cmpR (WD.k_op_neD K hr.units) (pe_slice (WD.k_sl_tupA K) (pe_ix (WD.k_ix_list K) (pv 2) (pv 4) (fun _ _ => rfl)) po_none (po_some pe_int)) (pe_tup (pa_cons (pv 5) (pa_cons (pv 6) pa_nil))) (nomark _))))))
        (pss_one (ps_raise rfl (takes_of rfl rfl rfl rfl) (WD.pmk_x (xm_NoPaper T) (hr.mono (by decide)) (by rfl) (pa_cons (pv 4) pa_nil))))
        pss_nil)
      (pss_cons (ps_set (i := 7) sc_check_yes.nd rfl (.inl rfl) (pe_ix (WD.k_ix_tup K) (pe_ix (WD.k_ix_list K) (pv 2) (pv 4) (fun _ _ => rfl)) pe_int (fun _ _ => rfl)))
      (pss_one (ps_if (PW.pt (pw_or (pt_cmpR op_ne (pe_ix (WD.k_ix_tup K) (pv 1) (pv 7) (fun _ _ => rfl)) (pe_ix (WD.k_ix_tup K) (pv 1) (pv 5) (fun _ _ => rfl)) (nomark _)) (pw_or1 (pt_cmpR op_ne (pe_ix (WD.k_ix_tup K) (pv 0) (pv 7) (fun _ _ => rfl)) (pe_ix (WD.k_ix_tup K) (pv 0) (pv 6) (fun _ _ => rfl)) (nomark _)))))
        (pss_one (ps_raise rfl (takes_of rfl rfl rfl rfl) (WD.pmk_x (xm_NoPaper T) (hr.mono (by decide)) (by rfl) (pa_cons (pv 4) pa_nil))))
        pss_nil)))))
      (pss_one (ps_if (pt_cmpR op_gt (pe_callB (WD.k_call_len_seq K) (by rfl) T.z_len PySem.boot_len (pa_cons (pv 2) pa_nil)) (pe_callB (WD.k_call_len_seq K) (by rfl) T.z_len PySem.boot_len (pa_cons (pv 3) pa_nil)) (nomark _))
        (pss_one (ps_raise rfl (takes_of rfl rfl rfl rfl) (WD.pmk_x (xm_NoPaper T) (hr.mono (by decide)) (by rfl) (pa_cons (pe_callB (WD.k_call_len_seq K) (by rfl) T.z_len PySem.boot_len (pa_cons (pv 3) pa_nil)) pa_nil))))
        pss_nil)))), ?_⟩
    have hSz := sizeLine_eq
    obtain ⟨t', tvs, e0, nt, htl, tal⟩ := WD.rJ_list.mp ht
    cases e0
    have htn := tal.len
    refine ⟨_, rfl, _, rfl, M, a, c, l, m, rfl, ha, hc, hlm, hz, hM, fun v H1 f1 hv => ?_⟩
    obtain ⟨D, pvs, rfl, nD, hD, pal⟩ := hv
    have hpl := pal.len
    rw [List.length_map] at hpl
    have ha1 := f1.keep _ _ (fun z => z) ha
    have hc1 := f1.keep _ _ (fun z => z) hc
    have ht1 := f1.keep _ _ (fun z => z) htl
    refine ⟨_, rfl, D, _, rfl, SqL.of hD, ?_⟩
    have up : ∀ {H' : Hp}, WD.Fr WD.M0 H1 H' → WD.Fr WD.M0 H H' := fun f => f1.trans f
    have boom : ∀ {j : Nat} {H' : Hp}, dueY l m ds (pairsL l m) 0 = some j → WD.Fr WD.M0 H1 H' → ∀ dd, H' dd = none → E (.ref (He.ga K "NoPaper")) (some dd) (upd H' dd (.xd [("at", .int (j : Int))])) := fun {j H'} h f => ((k1 (j : Int) (by rw [h]; rfl)).fr (up f)).new
    refine for_it (walk_enum (xs := pvs)) (fun i σ H' => ∃ x4 x5 x6 x7, σ = [some (.ref a), some (.ref c), some (.ref t), some (.ref D), x4, x5, x6, x7] ∧ WD.Fr WD.M0 H1 H' ∧ dueY l m ds (pairsL l m) 0 = dueY l m ds ((pairsL l m).drop i) i ∧ i ≤ ds.length)
      ⟨none, none, none, none, rfl, WD.Fr.refl _, rfl, Nat.zero_le _⟩ (fun i σ H' _ ⟨_, _, _, _, _, f, _⟩ => SqL.of (f.keep _ _ (fun z => z) hD)) (fun i v σ H2 H3 hi pp hy => ?_) (fun σ H2 pp => ?_)
    · obtain ⟨x4, x5, x6, x7, rfl, f2, hdu, hle⟩ := pp
      obtain ⟨p, v1, v2, rfl, np, rfl, e1, e2⟩ := hy
      cases e1
      have fp : WD.Fr WD.M0 H2 (upd H2 p (.tup [.int (i : Nat), v2])) := WD.Fr.new np
      have f3 := f2.trans fp
      obtain ⟨z, ez, rz⟩ := pal.get e2
      rw [List.getElem?_map] at ez
      obtain ⟨⟨b, e⟩, eb, rfl⟩ := Option.map_eq_some_iff.mp ez
      have hbe := pairs_mem (List.mem_of_getElem? eb)
      obtain ⟨pp, w1, w2, rfl, npp, hpp, rfl, rfl⟩ := rz
      have hpp3 := f3.keep _ _ (fun z => z) hpp
      have hpd : (pairsL l m).drop i = (b, e) :: (pairsL l m).drop (i + 1) := by
        obtain ⟨g1, g2⟩ := List.getElem?_eq_some_iff.mp eb
        rw [List.drop_eq_getElem_cons g1, g2]
      rw [hpd] at hdu
      have ha3 := f3.keep _ _ (fun z => z) ha1
      have hc3 := f3.keep _ _ (fun z => z) hc1
      have ht3 := f3.keep _ _ (fun z => z) ht1
      refine ⟨p, _, rfl, SqT.of upd_same, rfl, _, _, rfl, _, _, rfl, pp, _, rfl, SqT.of hpp3, rfl, _, _, rfl, _, _, rfl, rfl, rfl, ?_⟩
      refine ⟨_, rfl, _, rfl, t, _, rfl, .inl (SqL.of ht3), rfl, _, rfl, WD.iteD (fun h0 => ?_) (fun h0 => ?_)⟩
      · have hnone : ds[i]? = none := by
          have := V.int.inj h0
          exact List.getElem?_eq_none (by omega)
        refine ⟨_, rfl, _, rfl, boom ?_ f3⟩
        rw [hdu]
        show (match ds[i]? with | none => some i | some d => _) = some i
        rw [hnone]
      · have hi3 : i < ds.length := by
          have h1 : ¬ (i = tvs.length) := fun z => h0 (by rw [z])
          omega
        have hdi3 : ds[i]? = some ds[i] := List.getElem?_eq_getElem hi3
        obtain ⟨y, ey, ry⟩ := tal.at_ hdi3
        have ry3 : WD.rX M (upd H2 p (.tup [.int (i : Nat), .ref pp])) y ds[i] := WD.Rep.st ((f1.trans f3).mono fun _ z => z.elim) ry
        have hyi : i < tvs.length := by omega
        have ix : ∀ {H' : Hp} {Q' : VK}, H' t = some (.lst tvs) → Q' y H' → rIxL K (.ref t) (.int (i : Nat)) H' Q' := fun {H' Q'} h q => by
          refine ⟨t, tvs, (i : Int), y, rfl, rfl, SqL.of h, ?_, q⟩
          have h0 : (0 : Int) ≤ (i : Int) := by omega
          have h1 : ((i : Int)).toNat < tvs.length := by omega
          rw [WD.atI_ok h0 h1]
          have e3 : tvs[i]? = some tvs[i] := List.getElem?_eq_getElem hyi
          rw [ey] at e3
          exact e3.symm
        have hdu2 : dueY l m ds (pairsL l m) 0 = if entryOk l m ds[i] (b, e) = true then dueY l m ds ((pairsL l m).drop (i + 1)) (i + 1) else some i := by
          rw [hdu]
          show (match ds[i]? with | none => some i | some d => if entryOk l m d (b, e) = true then dueY l m ds ((pairsL l m).drop (i + 1)) (i + 1) else some i) = _
          rw [hdi3]
        have bad : ∀ {H' : Hp}, entryOk l m ds[i] (b, e) = false → WD.Fr WD.M0 H1 H' → ∀ dd, H' dd = none → E (.ref (He.ga K "NoPaper")) (some dd) (upd H' dd (.xd [("at", .int (i : Int))])) := fun {H'} h f => boom (by rw [hdu2, h]; rfl) f
        have hlen3 : (l.map V.int).length = l.length := List.length_map _
        refine ⟨_, rfl, _, rfl, ix ht3 ?_⟩
        refine ⟨_, rfl, a, _, rfl, .inr (SqT.of ha3), M, _, ds[i], 3, _, rfl, ry3, hdi _ (List.getElem_mem hi3), fun H4 f4 => ⟨_, rfl, ?_⟩⟩
        rw [hlen3]
        have ht4 := f4.keep _ _ (fun z => z) ht3
        have f34 := f3.trans f4
        cases hrow : WD.rowD ds[i] 3 (l.length : Int) with
        | false =>
          refine iteT ?_
          exact ⟨_, rfl, _, rfl, bad (by unfold entryOk; rw [hrow]; rfl) f34⟩
        | true =>
          refine iteF ?_
          obtain ⟨k3, ek, _, _⟩ := WD.rowD_ints hrow
          have hrow2 := hrow
          rw [ek] at hrow2
          obtain ⟨x, y2, z, rfl, hx, hy2, hz2⟩ := three hrow2
          have ry4 : WD.rT WD.rI M H4 y [x, y2, z] := WD.tupJ.mp (by rw [← ek]; exact WD.Rep.st (f4.mono fun _ z => z.elim) ry3)
          obtain ⟨ty, rfl, nty, hty⟩ := WD.tupI ry4
          have eI : intsD ds[i] = [x, y2, z] := by rw [ek]; exact intsD_ints _
          refine ⟨_, rfl, _, rfl, ix ht4 ?_⟩
          refine ⟨2, rfl, ty, _, rfl, SqT.of hty, fun z => absurd z.2 (by show ¬ HT.sIx 3 3 (some 2) = 3; decide), fun _ p2 np2 => ?_⟩
          have fp2 : WD.Fr WD.M0 H4 (upd H4 p2 (.tup (cutV ([x, y2, z].map V.int) none (some 2)))) := WD.Fr.new np2
          refine ⟨_, rfl, _, rfl, by show 2 ≤ sizeLine; decide, fun p3 np3 => ?_⟩
          have fp3 := WD.Fr.new (M := WD.M0) (o := .tup [.int (b : Int), .int (e : Int)]) np3
          have ht5 := (fp2.trans fp3).keep _ _ (fun z => z) ht4
          have ha5 := (f4.trans (fp2.trans fp3)).keep _ _ (fun z => z) ha3
          have hc5 := (f4.trans (fp2.trans fp3)).keep _ _ (fun z => z) hc3
          have f5 := f34.trans (fp2.trans fp3)
          have r2 : WD.rX WD.M0 (upd (upd H4 p2 (.tup (cutV ([x, y2, z].map V.int) none (some 2)))) p3 (.tup [.int (b : Int), .int (e : Int)])) (.ref p2) (.tuple [.int x, .int y2]) :=
            WD.rJ_tuple.mpr ⟨p2, [.int x, .int y2], rfl, fun z => z, fp3.keep _ _ (fun z => z) upd_same, WD.rJ_int.mpr rfl, WD.rJ_int.mpr rfl, trivial⟩
          have r3 : WD.rX WD.M0 (upd (upd H4 p2 (.tup (cutV ([x, y2, z].map V.int) none (some 2)))) p3 (.tup [.int (b : Int), .int (e : Int)])) (.ref p3) (.tuple [.int b, .int e]) :=
            WD.rJ_tuple.mpr ⟨p3, [.int b, .int e], rfl, fun z => z, upd_same, WD.rJ_int.mpr rfl, WD.rJ_int.mpr rfl, trivial⟩
          refine WD.neJ r2 r3 (by show 1 ≤ 64; decide) (by show 1 ≤ 64; decide) ⟨_, rfl, ?_⟩
          have ev : PyData.eqv (.tuple [.int x, .int y2]) (.tuple [.int b, .int e]) = (decide (x = b) && decide (y2 = e)) := by
            show ((x == (b : Int)) && ((y2 == (e : Int)) && true)) = _
            rw [Bool.beq_eq_decide_eq, Bool.beq_eq_decide_eq, Bool.and_true]
          rw [ev]
          cases hxy : (decide (x = (b : Int)) && decide (y2 = (e : Int))) with
          | false =>
            refine iteT ?_
            refine ⟨_, rfl, _, rfl, bad ?_ f5⟩
            unfold entryOk
            rw [eI, hrow]
            show (true && ((decide (x = (b : Int)) && decide (y2 = (e : Int))) && _)) = false
            rw [hxy]; rfl
          | true =>
            refine iteF ?_
            refine ⟨_, rfl, _, rfl, ix ht5 ?_⟩
            have hty5 := (fp2.trans fp3).keep _ _ (fun z => z) hty
            refine ⟨ty, _, 2, .int z, rfl, rfl, SqT.of hty5, rfl, ?_⟩
            have ezn : z = ((z.toNat : Nat) : Int) := by omega
            refine ⟨_, rfl, _, rfl, getI (i := z.toNat) (SqT.of hc5) (by omega) ?_ (by rw [← ezn])⟩
            refine ⟨_, rfl, _, rfl, getI (SqT.of hc5) (by omega) ?_ rfl⟩
            refine ⟨rfl, _, rfl, WD.iteN (fun h1 => ?_) (fun h1 => ?_)⟩
            · refine ⟨_, rfl, _, rfl, bad ?_ f5⟩
              unfold entryOk
              rw [eI, hrow]
              show (true && (_ && (decide (m.getD z.toNat 0 = m.getD b 0) && _))) = false
              rw [decide_eq_false (fun q => h1 (congrArg V.int q))]
              simp
            · refine ⟨_, rfl, _, rfl, getI (i := z.toNat) (SqT.of ha5) (by omega) ?_ (by rw [← ezn])⟩
              refine ⟨_, rfl, _, rfl, getI (SqT.of ha5) (by omega) ?_ rfl⟩
              refine ⟨rfl, _, rfl, WD.iteN (fun h2 => ?_) (fun h2 => ?_)⟩
              · refine ⟨_, rfl, _, rfl, bad ?_ f5⟩
                unfold entryOk
                rw [eI, hrow]
                show (true && (_ && (_ && decide (l.getD z.toNat 0 = l.getD e 0)))) = false
                rw [decide_eq_false (fun q => h2 (congrArg V.int q))]
                simp
              · refine ⟨_, _, _, _, rfl, f5, ?_, by omega⟩
                have ok : entryOk l m ds[i] (b, e) = true := by
                  unfold entryOk
                  rw [eI, hrow]
                  show (true && ((decide (x = (b : Int)) && decide (y2 = (e : Int))) && (decide (m.getD z.toNat 0 = m.getD b 0) && decide (l.getD z.toNat 0 = l.getD e 0)))) = true
                  rw [hxy, decide_eq_true (V.int.inj h1), decide_eq_true (V.int.inj h2)]; rfl
                rw [hdu2, ok]; rfl
    · obtain ⟨x4, x5, x6, x7, rfl, f2, hdu, hle⟩ := pp
      rw [hpl, List.drop_of_length_le (Nat.le_refl _)] at hdu
      have ht2 := f2.keep _ _ (fun z => z) ht1
      have hD2 := f2.keep _ _ (fun z => z) hD
      have hdu' : dueY l m ds (pairsL l m) 0 = if (pairsL l m).length < ds.length then some (pairsL l m).length else none := hdu
      refine ⟨_, rfl, t, _, rfl, .inl (SqL.of ht2), _, rfl, D, _, rfl, .inl (SqL.of hD2), _, _, rfl, rfl, _, rfl, WD.iteD (fun h => ?_) (fun h => ?_)⟩
      · refine ⟨_, rfl, D, _, rfl, .inl (SqL.of hD2), _, rfl, ?_⟩
        rw [hpl]
        exact boom (by rw [hdu', if_pos (by omega)]) f2
      · exact k0 (by rw [hdu', if_neg (by omega)]; rfl) _ (up f2)
end
def sp_check_no (K : PySem.W.Frag) : Sp := fun vs H Q E => ∃ (a c t : Addr) (l m : List Int) (b x e : Nat), vs = [.ref a, .ref c, .ref t] ∧ H a = some (.tup (l.map V.int)) ∧ H c = some (.tup (m.map V.int)) ∧ l.length = m.length ∧ l.length ≤ 1000 ∧
  H t = some (.tup [.int b, .int x, .int e]) ∧ b < l.length ∧ x < l.length ∧ e < l.length ∧ paper K ((dueN l m b x e).map fun (k : Nat) => (k : Int)) H Q E
section
variable {P : Program} {w : World} {K : PySem.W.Frag} {mg : Str → Option Value} {base : Heap}
theorem ok_check_no (T : Tx K mg) : WD.Cal P w K mg base (L2.CX P w) 3 "check_no" (He.ga K "check_no") (sp_check_no K) [] := by
  obtain ⟨fd, F⟩ := T.F_check_no
  refine ⟨WD.fnX_of F sc_check_no (fun vs H Q E h => ?_) (fun _ _ _ _ _ _ us hl => match us, hl with | [_, _, _], _ => rfl) (fun cdv A outer s H vs Q E hr h => ?_), F.kp, T.g_check_no⟩
  · obtain ⟨a, c, t, l, m, b, x, e, rfl, ha, hc, hlm, hz, ht, hb, hx, he, k0, k1⟩ := h
    rfl
  · obtain ⟨a, c, t, l, m, b, x, e, rfl, ha, hc, hlm, hz, ht, hb, hx, he, k0, k1⟩ := h
    refine ⟨_, (pss_cons (ps_asg (pv 2) (WD.k_pg_tup K (n := 3) rfl (pgs_cons (pg_name (i := 3) sc_check_no.nd rfl (.inl rfl)) (pgs_cons (pg_name (i := 4) sc_check_no.nd rfl (.inl rfl)) (pgs_cons (pg_name (i := 5) sc_check_no.nd rfl (.inl rfl)) pgs_nil)))))
      (pss_cons (ps_if (pt_cmpR op_ne (pe_ix (WD.k_ix_tup K) (pv 0) (pv 3) (fun _ _ => rfl)) (pe_ix (WD.k_ix_tup K) (pv 0) (pv 4) (fun _ _ => rfl)) (nomark _))
        (pss_one (ps_raise rfl (takes_of rfl rfl rfl rfl) (WD.pmk_x (xm_NoPaper T) (hr.mono (by decide)) (by rfl) (pa_cons pe_int pa_nil))))
        pss_nil)
      (pss_cons (ps_if (pt_cmpR op_ne (pe_ix (WD.k_ix_tup K) (pv 1) (pv 4) (fun _ _ => rfl)) (pe_ix (WD.k_ix_tup K) (pv 1) (pv 5) (fun _ _ => rfl)) (nomark _))
        (pss_one (ps_raise rfl (takes_of rfl rfl rfl rfl) (WD.pmk_x (xm_NoPaper T) (hr.mono (by decide)) (by rfl) (pa_cons pe_int pa_nil))))
        pss_nil)
      (pss_one (ps_if (pt_cmpR op_notN (WD.pe_cal (ok_amid_of T) (hr.mono (by decide)) (by rfl) (pa_cons (pv 1) (pa_cons (pv 0) (pa_cons (pv 3) (pa_cons (pv 5) pa_nil))))) pe_non (nomark _))
        (pss_one (ps_raise rfl (takes_of rfl rfl rfl rfl) (WD.pmk_x (xm_NoPaper T) (hr.mono (by decide)) (by rfl) (pa_cons pe_int pa_nil))))
        pss_nil))))), ?_⟩
    have boom : ∀ {j : Nat}, dueN l m b x e = some j → ∀ dd, H dd = none → E (.ref (He.ga K "NoPaper")) (some dd) (upd H dd (.xd [("at", .int (j : Int))])) := fun {j} h => (k1 (j : Int) (by rw [h]; rfl)).new
    refine ⟨_, rfl, t, _, rfl, SqT.of ht, rfl, _, _, rfl, _, _, rfl, _, _, rfl, rfl, ?_⟩
    refine ⟨_, rfl, _, rfl, getI (SqT.of ha) hb ?_ rfl⟩
    refine ⟨_, rfl, _, rfl, getI (SqT.of ha) hx ?_ rfl⟩
    refine ⟨rfl, _, rfl, WD.iteN (fun h1 => ?_) (fun h1 => ?_)⟩
    · exact ⟨_, rfl, boom (by unfold dueN; rw [if_neg (fun q => h1 (congrArg V.int q))])⟩
    · refine ⟨_, rfl, _, rfl, getI (SqT.of hc) (by omega) ?_ rfl⟩
      refine ⟨_, rfl, _, rfl, getI (SqT.of hc) (by omega) ?_ rfl⟩
      refine ⟨rfl, _, rfl, WD.iteN (fun h2 => ?_) (fun h2 => ?_)⟩
      · exact ⟨_, rfl, boom (by unfold dueN; rw [if_pos (V.int.inj h1), if_neg (fun q => h2 (congrArg V.int q))])⟩
      · refine ⟨_, rfl, _, rfl, _, rfl, _, rfl, c, a, m, l, b, e, rfl, SqT.of hc, SqT.of ha, hlm.symm, by omega, by omega, by omega, fun h hh _ => ?_, fun hh => ?_⟩
        · refine ⟨rfl, _, rfl, iteT ?_⟩
          exact ⟨_, rfl, boom (by unfold dueN; rw [if_pos (V.int.inj h1), if_pos (V.int.inj h2), hh])⟩
        · refine ⟨rfl, _, rfl, iteF ?_⟩
          exact k0 (by unfold dueN; rw [if_pos (V.int.inj h1), if_pos (V.int.inj h2), hh]; rfl) _ (WD.Fr.refl _)
end
def duePerm (l m : List Int) : PyData → Option Int
  | .tuple [.str s, y] => if s = "yes" ∧ WD.lstD y = true then (dueY l m (WD.itemsD y) (pairsL l m) 0).map fun (k : Nat) => (k : Int) else
      if s = "no" ∧ WD.rowD y 3 l.length = true then (dueN l m ((intsD y).getD 0 0).toNat ((intsD y).getD 1 0).toNat ((intsD y).getD 2 0).toNat).map fun (k : Nat) => (k : Int) else some (-1)
  | _ => some (-1)
/-- an answer that may be asked -/
structure Ask (d : PyData) : Prop where
  len : (WD.itemsD d).length ≤ 1000
  word : ∀ x y, d = .tuple [x, y] → (∃ s, x = .str s) ∧ (WD.itemsD y).length ≤ 1000000 ∧ ∀ z ∈ WD.itemsD y, (WD.itemsD z).length ≤ 1000000
theorem duePerm_tup {l m : List Int} {d : PyData} (h : ∀ x y, d ≠ .tuple [x, y]) : duePerm l m d = some (-1) := by
  unfold duePerm
  split
  · rename_i s y
    exact absurd rfl (h _ _)
  · rfl
def sp_check_permuted (K : PySem.W.Frag) : Sp := fun vs H Q E => ∃ (M : WD.MS) (v u w : V) (d e f : PyData), vs = [v, u, w] ∧ WD.rX M H v d ∧ WD.rX M H u e ∧ WD.rX M H w f ∧ WD.MIn M H ∧ (WD.itemsD d).length ≤ 1000 ∧ (WD.itemsD e).length ≤ 1000 ∧ Ask f ∧
  (okTwo d e = true → paper K (duePerm (intsD d) (intsD e) f) H Q E) ∧ (okTwo d e = false → exAt K "NoFolding" "at" (.int (-1)) H E)
section
variable {P : Program} {w : World} {K : PySem.W.Frag} {mg : Str → Option Value} {base : Heap}
theorem ok_check_permuted (T : Tx K mg) : WD.Cal P w K mg base (L2.CX P w) 6 "check_permuted" (He.ga K "check_permuted") (sp_check_permuted K) [] := by
  obtain ⟨fd, F⟩ := T.F_check_permuted
  refine ⟨WD.fnX_of F sc_check_permuted (fun vs H Q E h => ?_) (fun _ _ _ _ _ _ us hl => match us, hl with | [_, _, _], _ => rfl) (fun cdv A outer s H vs Q E hr h => ?_), F.kp, T.g_check_permuted⟩
  · obtain ⟨M, v, u, w, d, e, f, rfl, hd, he, hf, hM, z1, z2, hA, k1, k2⟩ := h
    rfl
  · obtain ⟨M, v, u, w, d, e, f, rfl, hd, he, hf, hM, z1, z2, hA, k1, k2⟩ := h
    refine ⟨_, (pss_cons (ps_expr (WD.pe_calX (ok_check_two T) (takes_of rfl rfl rfl rfl) (hr.mono (by decide)) (by rfl) (pa_cons (pv 0) (pa_cons (pv 1) pa_nil))))
      (pss_cons (ps_if (PW.pt (pw_or (pt_not (pt_val (pe_callB (WD.k_call_isi K) (by rfl) T.z_isinstance WD.bt_isinstance (pa_cons (pv 2) (pa_cons (pe_bltn (v := .ty "tuple") (by rfl) T.z_tuple WD.bt_tuple rfl) pa_nil))))) (pw_or1 (pt_cmpR op_ne (pe_callB (WD.k_call_len_seq K) (by rfl) T.z_len PySem.boot_len (pa_cons (pv 2) pa_nil)) pe_int (nomark _)))))
        (pss_one (ps_raise rfl (takes_of rfl rfl rfl rfl) (WD.pmk_x (xm_NoPaper T) (hr.mono (by decide)) (by rfl) (pa_cons (pe_un un_neg pe_int) pa_nil))))
        pss_nil)
      (pss_one (ps_if (PW.pt (pw_and (pt_cmpR op_eq (pe_ix (WD.k_ix_tup K) (pv 2) pe_int (fun _ _ => rfl)) pe_str (nomark _)) (pw_and1 (pt_val (pe_callB (WD.k_call_isi K) (by rfl) T.z_isinstance WD.bt_isinstance (pa_cons (pe_ix (WD.k_ix_tup K) (pv 2) pe_int (fun _ _ => rfl)) (pa_cons (pe_bltn (v := .ty "list") (by rfl) T.z_list WD.bt_list rfl) pa_nil)))))))
        (pss_one (ps_expr (WD.pe_calX (ok_check_yes T) (takes_of rfl rfl rfl rfl) (hr.mono (by decide)) (by rfl) (pa_cons (pv 0) (pa_cons (pv 1) (pa_cons (pe_ix (WD.k_ix_tup K) (pv 2) pe_int (fun _ _ => rfl)) pa_nil))))))
        (pss_one (ps_if (PW.pt (pw_and (pt_cmpR op_eq (pe_ix (WD.k_ix_tup K) (pv 2) pe_int (fun _ _ => rfl)) pe_str (nomark _)) (pw_and1 (pt_val (WD.pe_cal (ok_is_row T) (hr.mono (by decide)) (by rfl) (pa_cons (pe_ix (WD.k_ix_tup K) (pv 2) pe_int (fun _ _ => rfl)) (pa_cons pe_int (pa_cons (pe_callB (WD.k_call_len_seq K) (by rfl) T.z_len PySem.boot_len (pa_cons (pv 0) pa_nil)) pa_nil))))))))
        (pss_one (ps_expr (WD.pe_calX (ok_check_no T) (takes_of rfl rfl rfl rfl) (hr.mono (by decide)) (by rfl) (pa_cons (pv 0) (pa_cons (pv 1) (pa_cons (pe_ix (WD.k_ix_tup K) (pv 2) pe_int (fun _ _ => rfl)) pa_nil))))))
        (pss_one (ps_raise rfl (takes_of rfl rfl rfl rfl) (WD.pmk_x (xm_NoPaper T) (hr.mono (by decide)) (by rfl) (pa_cons (pe_un un_neg pe_int) pa_nil)))))))))), ?_⟩
    refine ⟨_, rfl, _, rfl, M, _, _, d, e, rfl, hd, he, by omega, by omega, fun ok H1 f1 => ?_, k2⟩
    obtain ⟨k0, kx⟩ := k1 ok
    obtain ⟨l, m, rfl, rfl, hlm, p1, p2, hin, him⟩ := okTwo_ints ok
    rw [intsD_ints, intsD_ints] at k0 kx
    have hz : l.length ≤ 1000 := by have : (l.map PyData.int).length ≤ 1000 := z1; rw [List.length_map] at this; exact this
    have up : ∀ {H H' : Hp}, WD.Fr WD.M0 H H' → WD.Fr M H H' := fun f => f.mono fun _ q => q.elim
    obtain ⟨a, rfl, na, ha⟩ := WD.tupI (WD.tupJ.mp (WD.Rep.st (up f1) hd))
    obtain ⟨c, rfl, nc, hc⟩ := WD.tupI (WD.tupJ.mp (WD.Rep.st (up f1) he))
    have hf1 := WD.Rep.st (up f1) hf
    have bad : ∀ {H' : Hp}, duePerm l m f = some (-1) → WD.Fr WD.M0 H H' → ∀ dd, H' dd = none → E (.ref (He.ga K "NoPaper")) (some dd) (upd H' dd (.xd [("at", .int (-1))])) := fun {H'} h g => ((kx (-1) h).fr g).new
    refine ⟨_, rfl, _, _, _, _, WD.tupD f, rfl, .ty "tuple", WD.tyJ hf1, kit_ty (WD.kitTup f), _, rfl, ?_⟩
    cases ht : WD.tupD f with
    | false =>
      refine iteT ?_
      exact ⟨_, rfl, _, rfl, bad (duePerm_tup fun x y z => by rw [z] at ht; cases ht) f1⟩
    | true =>
      refine iteF ?_
      cases f with
      | tuple ds =>
        obtain ⟨t, tvs, rfl, nt, htt, tal⟩ := WD.rJ_tuple.mp hf1
        have htl := tal.len
        refine ⟨_, rfl, t, _, rfl, .inr (SqT.of htt), rfl, _, rfl, WD.iteN (fun h2 => ?_) (fun h2 => ?_)⟩
        · refine ⟨_, rfl, _, rfl, bad (duePerm_tup fun x y z => ?_) f1⟩
          injection z with z
          rw [z] at htl
          exact h2 (by rw [htl]; rfl)
        · have hdl : ds.length = 2 := by
            have := V.int.inj h2
            omega
          obtain ⟨x, y, rfl⟩ : ∃ x y, ds = [x, y] := by
            match ds, hdl with
            | [x, y], _ => exact ⟨x, y, rfl⟩
          obtain ⟨⟨s, rfl⟩, hy1, hy2⟩ := hA.word x y rfl
          match tvs, tal with
          | [vx, vy], ⟨r1, r2, _⟩ =>
            obtain ⟨rfl, hs⟩ := WD.rJ_str.mp r1
            have ix0 : ∀ {H' : Hp} {Q' : VK}, H' t = some (.tup [.str s, vy]) → Q' (.str s) H' → rIxT K (.ref t) (.int 0) H' Q' := fun {H' Q'} h q => ⟨t, _, 0, .str s, rfl, rfl, SqT.of h, rfl, q⟩
            have ix1 : ∀ {H' : Hp} {Q' : VK}, H' t = some (.tup [.str s, vy]) → Q' vy H' → rIxT K (.ref t) (.int 1) H' Q' := fun {H' Q'} h q => ⟨t, _, 1, vy, rfl, rfl, SqT.of h, rfl, q⟩
            have hlen3 : (l.map V.int).length = l.length := List.length_map _
            -- the second branch
            have second : ∀ {D : Ends} {Qx : Bool → Hp → Prop}, True → True := fun _ => trivial
            refine ⟨_, rfl, t, _, 0, _, rfl, rfl, SqT.of htt, rfl, rfl, _, rfl, WD.iteD (fun hs1 => ?_) (fun hs1 => ?_)⟩
            · have es : s = "yes" := V.str.inj hs1
              refine ⟨_, rfl, t, _, 1, _, rfl, rfl, SqT.of htt, rfl, _, _, _, _, WD.lstD y, rfl, .ty "list", WD.tyJ r2, kit_ty (WD.kitLst y), _, rfl, ?_⟩
              cases hly : WD.lstD y with
              | true =>
                refine iteT ?_
                cases y with
                | list zs =>
                  obtain ⟨ty, tws, rfl, _, _, _⟩ := WD.rJ_list.mp r2
                  refine ⟨_, rfl, _, rfl, _, rfl, t, _, 1, _, rfl, rfl, SqT.of htt, rfl, M, a, c, ty, l, m, zs, rfl, ha, hc, hlm, hz, hM.to f1, r2, hy1, hy2, ?_, ?_⟩
                  · intro h0 H2 f2
                    exact k0 (by show (if s = "yes" ∧ WD.lstD (.list zs) = true then _ else _) = _; rw [if_pos ⟨es, rfl⟩]; exact h0) _ (f1.trans f2)
                  · intro k hk
                    exact (kx k (by show (if s = "yes" ∧ WD.lstD (.list zs) = true then _ else _) = _; rw [if_pos ⟨es, rfl⟩]; exact hk)).fr f1
                | _ => cases hly
              | false =>
                refine iteF ?_
                refine ⟨_, rfl, t, _, 0, _, rfl, rfl, SqT.of htt, rfl, rfl, _, rfl, WD.iteD (fun hs2 => ?_) (fun hs2 => ?_)⟩
                · exact absurd (es.symm.trans (V.str.inj hs2)) (by decide +kernel)
                · refine ⟨_, rfl, _, rfl, bad ?_ f1⟩
                  show (if s = "yes" ∧ WD.lstD y = true then _ else (if s = "no" ∧ _ then _ else _)) = _
                  rw [if_neg (fun z => by rw [hly] at z; exact Bool.false_ne_true z.2), if_neg (fun z => hs2 (congrArg V.str z.1))]
            · refine ⟨_, rfl, t, _, 0, _, rfl, rfl, SqT.of htt, rfl, rfl, _, rfl, WD.iteD (fun hs2 => ?_) (fun hs2 => ?_)⟩
              · have es : s = "no" := V.str.inj hs2
                refine ⟨_, rfl, t, _, 1, _, rfl, rfl, SqT.of htt, rfl, _, rfl, a, _, rfl, .inr (SqT.of ha), M, _, y, 3, _, rfl, r2, hy1, fun H2 f2 => ⟨_, rfl, ?_⟩⟩
                rw [hlen3]
                have htt2 := f2.keep _ _ (fun z => z) htt
                have ey : duePerm l m (.tuple [.str s, y]) = if WD.rowD y 3 l.length = true then (dueN l m ((intsD y).getD 0 0).toNat ((intsD y).getD 1 0).toNat ((intsD y).getD 2 0).toNat).map (fun (k : Nat) => (k : Int)) else some (-1) := by
                  show (if s = "yes" ∧ WD.lstD y = true then _ else (if s = "no" ∧ WD.rowD y 3 l.length = true then _ else _)) = _
                  rw [if_neg (fun z => hs1 (congrArg V.str z.1))]
                  cases hr : WD.rowD y 3 l.length with
                  | true => rw [if_pos ⟨es, rfl⟩, if_pos rfl]
                  | false => rw [if_neg (fun z => Bool.false_ne_true z.2), if_neg Bool.false_ne_true]
                cases hrow : WD.rowD y 3 (l.length : Int) with
                | true =>
                  refine iteT ?_
                  obtain ⟨k3, ek, _, _⟩ := WD.rowD_ints hrow
                  have hrow2 := hrow
                  rw [ek] at hrow2
                  obtain ⟨x1, x2, x3, rfl, h1, h2, h3⟩ := three hrow2
                  obtain ⟨ty, rfl, nty, hty⟩ := WD.tupI (WD.tupJ.mp (by rw [← ek]; exact WD.Rep.st (up f2) r2))
                  rw [hrow, if_pos rfl, ek, intsD_ints] at ey
                  have n1 : x1 = ((x1.toNat : Nat) : Int) := by omega
                  have n2 : x2 = ((x2.toNat : Nat) : Int) := by omega
                  have n3 : x3 = ((x3.toNat : Nat) : Int) := by omega
                  have hty' : H2 ty = some (.tup [.int ((x1.toNat : Nat) : Int), .int ((x2.toNat : Nat) : Int), .int ((x3.toNat : Nat) : Int)]) := by rw [← n1, ← n2, ← n3]; exact hty
                  refine ⟨_, rfl, _, rfl, _, rfl, t, _, 1, _, rfl, rfl, SqT.of htt2, rfl, a, c, ty, l, m, x1.toNat, x2.toNat, x3.toNat, rfl, f2.keep _ _ (fun z => z) ha, f2.keep _ _ (fun z => z) hc, hlm, hz, hty', by omega, by omega, by omega, ?_, ?_⟩
                  · intro h0 H3 f3
                    exact k0 (by rw [ek]; exact ey.trans h0) _ (f1.trans (f2.trans f3))
                  · intro k hk
                    exact (kx k (by rw [ek]; exact ey.trans hk)).fr (f1.trans f2)
                | false =>
                  refine iteF ?_
                  refine ⟨_, rfl, _, rfl, bad ?_ (f1.trans f2)⟩
                  rw [ey, hrow]; rfl
              · refine ⟨_, rfl, _, rfl, bad ?_ f1⟩
                show (if s = "yes" ∧ WD.lstD y = true then _ else (if s = "no" ∧ _ then _ else _)) = _
                rw [if_neg (fun z => hs1 (congrArg V.str z.1)), if_neg (fun z => hs2 (congrArg V.str z.1))]
      | none => cases ht
      | bool b => cases ht
      | int i => cases ht
      | str x => cases ht
      | list l => cases ht
      | dict l => cases ht
end
def sp__law_draw (_ : PySem.W.Frag) : Sp := WD.spDraw
section
variable {P : Program} {w : World} {K : PySem.W.Frag} {mg : Str → Option Value} {base : Heap}
theorem ok__law_draw (T : Tx K mg) : WD.Cal P w K mg base (CX0) 1 "_law_draw" (He.ga K "_law_draw") (sp__law_draw K) [] := by
  obtain ⟨fd, F⟩ := T.F__law_draw
  refine ⟨WD.fn0_of F sc__law_draw (fun vs H Q E h => ?_) (fun _ _ _ _ _ _ us hl => match us, hl with | [_, _], _ => rfl) (fun cdv A outer s H vs Q E hr h => ?_), F.kp, T.g__law_draw⟩
  · obtain ⟨w, m, rfl, hw, m0, m1, k⟩ := h
    rfl
  · obtain ⟨w, m, rfl, hw, m0, m1, k⟩ := h
    refine ⟨_, (pss_cons (ps_if (pt_cmpR op_gt (pe_ix (WD.k_ix_list K) (pv 0) pe_int (fun _ _ => rfl)) pe_int (nomark _))
        (pss_cons (ps_set (i := 2) sc__law_draw.nd rfl (.inl rfl) (pe_op op_mod (pe_ix (WD.k_ix_list K) (pv 0) pe_int (fun _ _ => rfl)) (pv 1)))
      (pss_cons (ps_asg (pe_op op_fdiv (pe_ix (WD.k_ix_list K) (pv 0) pe_int (fun _ _ => rfl)) (pv 1)) (pg_sub (pv 0) pe_int set_list))
      (pss_one (ps_ret (pv 2)))))
        pss_nil)
      (pss_cons (ps_asg (pe_op op_add (pe_ix (WD.k_ix_list K) (pv 0) pe_int (fun _ _ => rfl)) pe_int) (pg_sub (pv 0) pe_int set_list))
      (pss_cons (ps_set (i := 3) sc__law_draw.nd rfl (.inl rfl) (pe_op op_mod (pe_op op_mul (pe_op op_add (pe_op op_add (pe_ix (WD.k_ix_list K) (pv 0) pe_int (fun _ _ => rfl)) (pe_op op_mul pe_int (pe_ix (WD.k_ix_list K) (pv 0) pe_int (fun _ _ => rfl)))) pe_int) pe_int) pe_int))
      (pss_cons (ps_set (i := 3) sc__law_draw.nd rfl (.inl rfl) (pe_op op_mod (pe_op op_mul (pv 3) (pe_op op_add (pe_op op_fdiv (pv 3) pe_int) pe_int)) pe_int))
      (pss_one (ps_ret (pe_op op_mod (pe_op op_mod (pe_op op_mul (pv 3) (pe_op op_add (pe_op op_fdiv (pv 3) pe_int) pe_int)) pe_int) (pv 1)))))))), ?_⟩
    obtain ⟨a, b, c, hW⟩ := hw
    have e0 : atI [V.int a, V.int b, V.int c] 0 = some (.int a) := rfl
    refine ⟨_, rfl, w, _, 0, .int a, rfl, rfl, SqL.of hW, e0, _, _, rfl, rfl, _, rfl, ite2 (fun h => ?_) (fun h => ?_)⟩
    · refine ⟨_, rfl, w, _, 0, .int a, rfl, rfl, SqL.of hW, e0, _, rfl, a, m, rfl, rfl, m0, ?_⟩
      refine ⟨_, rfl, w, _, 0, .int a, rfl, rfl, SqL.of hW, e0, _, rfl, a, m, rfl, rfl, ⟨m0, m1⟩, _, rfl, w, _, 0, 0, rfl, rfl, hW, rfl, ?_⟩
      exact ⟨_, rfl, k _ _ (Int.emod_nonneg _ (by omega)) (Int.emod_lt_of_pos _ m0) (WD.Fr.mut rfl) ⟨_, _, _, upd_same⟩ (fun x hx => upd_ne hx)⟩
    · refine ⟨_, rfl, w, _, 2, .int c, rfl, rfl, SqL.of hW, rfl, _, _, rfl, rfl, _, rfl, w, _, 2, 2, rfl, rfl, hW, rfl, ?_⟩
      have hW2 : upd H w (.lst ([V.int a, V.int b, V.int c].set 2 (.int (c + 1)))) w = some (.lst [V.int a, V.int b, V.int (c + 1)]) := upd_same
      refine ⟨_, rfl, w, _, 1, .int b, rfl, rfl, SqL.of hW2, rfl, _, rfl, w, _, 2, .int (c + 1), rfl, rfl, SqL.of hW2, rfl, _, _, rfl, rfl, .inl ⟨by decide, by decide⟩, _, _, rfl, rfl, _, _, rfl, rfl, _, _, rfl, rfl, .inr ⟨by decide, by decide⟩, _, _, rfl, rfl, (show (0 : Int) < 2147483647 by decide), ?_⟩
      have l1 := Int.emod_lt_of_pos ((b + 7907 * (c + 1) + 3) * 48271) (show (0 : Int) < 2147483647 by decide)
      have l2 := Int.emod_nonneg ((b + 7907 * (c + 1) + 3) * 48271) (show (2147483647 : Int) ≠ 0 by decide)
      generalize (b + 7907 * (c + 1) + 3) * 48271 % 2147483647 = n1 at l1 l2
      refine ⟨_, rfl, _, rfl, _, _, rfl, rfl, ⟨by decide, by decide⟩, _, _, rfl, rfl, _, _, rfl, rfl, .inl ⟨by omega, by omega⟩, _, _, rfl, rfl, (show (0 : Int) < 2147483647 by decide), ?_⟩
      have l3 := Int.emod_lt_of_pos (n1 * (n1 / 1013 + 69621)) (show (0 : Int) < 2147483647 by decide)
      have l4 := Int.emod_nonneg (n1 * (n1 / 1013 + 69621)) (show (2147483647 : Int) ≠ 0 by decide)
      generalize n1 * (n1 / 1013 + 69621) % 2147483647 = n2 at l3 l4
      refine ⟨_, rfl, _, rfl, _, _, rfl, rfl, ⟨by decide, by decide⟩, _, _, rfl, rfl, _, _, rfl, rfl, .inl ⟨by omega, by omega⟩, _, _, rfl, rfl, (show (0 : Int) < 2147483399 by decide), _, rfl, _, _, rfl, rfl, m0, ?_⟩
      exact k _ _ (Int.emod_nonneg _ (by omega)) (Int.emod_lt_of_pos _ m0) (WD.Fr.mut rfl) ⟨_, _, _, upd_same⟩ (fun x hx => upd_ne hx)
end
/-! ### partings by marks -/
def fstI (ns : List Int) (x : Int) : Nat := ns.findIdx fun y => decide (y = x)
def ofMarks (ns : List Int) : List Int := ns.map fun x => (fstI ns x : Int)
theorem fstI_lt {ns : List Int} {x : Int} (h : x ∈ ns) : fstI ns x < ns.length := List.findIdx_lt_length_of_exists ⟨x, h, by simp⟩
theorem fstI_at {ns : List Int} {x : Int} (h : x ∈ ns) : ns[fstI ns x]? = some x := by
  have hl := fstI_lt h
  have h2 : decide (ns[fstI ns x] = x) = true := List.findIdx_getElem (w := hl) (p := fun y => decide (y = x))
  rw [List.getElem?_eq_getElem hl, of_decide_eq_true h2]
theorem fstI_le {ns : List Int} {x : Int} {i : Nat} (h : ns[i]? = some x) : fstI ns x ≤ i := by
  rcases Nat.lt_or_ge i (fstI ns x) with g | g
  · obtain ⟨h1, h2⟩ := List.getElem?_eq_some_iff.mp h
    have := List.not_of_lt_findIdx g
    simp [h2] at this
  · exact g
theorem marks_len (ns : List Int) : (ofMarks ns).length = ns.length := List.length_map _
theorem marks_at {ns : List Int} {i : Nat} {x : Int} (h : ns[i]? = some x) : (ofMarks ns).getD i 0 = (fstI ns x : Int) := by
  unfold ofMarks
  rw [List.getD_eq_getElem?_getD, List.getElem?_map, h]; rfl
theorem marks_in {ns : List Int} : ∀ x ∈ ofMarks ns, 0 ≤ x ∧ x < (ofMarks ns).length := fun x hx => by
  obtain ⟨y, hy, rfl⟩ := List.mem_map.mp hx
  have := fstI_lt hy
  rw [marks_len]
  omega
theorem marks_part (ns : List Int) : partB (ofMarks ns) = true := by
  unfold partB
  rw [List.all_eq_true]
  intro i hi
  have hi := List.mem_range.mp hi
  rw [marks_len] at hi
  have e : ns[i]? = some ns[i] := List.getElem?_eq_getElem hi
  rw [marks_at e]
  have h1 := fstI_le e
  have h2 := fstI_at (List.getElem_mem hi)
  rw [Int.toNat_natCast, marks_at h2]
  simp
  omega
def sp__law_of_marks (_ : PySem.W.Frag) : Sp := fun vs H Q _ => ∃ (M : WD.MS) (v : V) (ns : List Int), vs = [v] ∧ WD.rL WD.rI M H v ns ∧ WD.MIn M H ∧ ns.length ≤ 1000 ∧ ∀ u H', WD.Fr WD.M0 H H' → WD.rT WD.rI M H' u (ofMarks ns) → Q u H'
section
variable {P : Program} {w : World} {K : PySem.W.Frag} {mg : Str → Option Value} {base : Heap}
theorem ok__law_of_marks (T : Tx K mg) : WD.Cal P w K mg base (CX0) 1 "_law_of_marks" (He.ga K "_law_of_marks") (sp__law_of_marks K) [] := by
  obtain ⟨fd, F⟩ := T.F__law_of_marks
  refine ⟨WD.fn0_of F sc__law_of_marks (fun vs H Q E h => ?_) (fun _ _ _ _ _ _ us hl => match us, hl with | [_], _ => rfl) (fun cdv A outer s H vs Q E hr h => ?_), F.kp, T.g__law_of_marks⟩
  · obtain ⟨M, v, ns, rfl, hv, hM, hz, k⟩ := h
    rfl
  · obtain ⟨M, v, ns, rfl, hv, hM, hz, k⟩ := h
    refine ⟨_, (pss_one (ps_ret (WD.k_pe_tupleOf K (by rfl) T.z_tuple (pe_lc (own := [("_law_mark", 1)]) rfl sc__law_of_marks.nd (WD.k_pi_list K (pv 0)) (blkOk_by (N := ["_law_marks", "_law_mark"]) (sc := defScope s__law_of_marks) (by decide +kernel)) (fun _ _ _ _ _ => (pg_name (i := 1) sc__law_of_marks.nd rfl (.inl rfl))) (fun _ _ _ _ _ => pts_nil) (fun _ _ _ _ _ => (WD.k_pe_bm K PySem.F.plainAttrs_list PySem.F.slot_list_index PySem.F.type_list_index (WD.k_mt_index K) (pv 0) (pa_cons (pv 1) pa_nil))))))), ?_⟩
    obtain ⟨a, rfl, na, ha⟩ := WD.lstI hv
    refine ⟨_, rfl, a, rfl, ⟨_, SqL.of ha⟩, ?_⟩
    have hln : (ns.map V.int).length = ns.length := List.length_map _
    refine WD.lc_map (R := WD.rI) (walk_list (xs := ns.map V.int)) (fun i => (fstI ns (ns.getD i 0) : Int)) hM (by omega) (fun H' f => SqL.of (f.keep _ _ (fun z => z) ha)) (fun i M' H' hi t fr mi Ky ky x H'' hy => ?_) (fun D H1 hD f1 hl => ?_)
    · obtain ⟨rfl, hx⟩ := hy
      rw [List.getElem?_map] at hx
      obtain ⟨y, ey, rfl⟩ := Option.map_eq_some_iff.mp hx
      have hym := List.mem_of_getElem? ey
      have e : ns.getD i 0 = y := by rw [List.getD_eq_getElem?_getD, ey]; rfl
      rw [e] at ky
      have ha2 := fr.keep _ _ (fun z => z) ha
      refine ⟨rfl, _, rfl, .inl ⟨rfl, _, SqL.of ha2⟩, _, rfl, a, _, .int y, fstI ns y, .int y, rfl, rfl, SqL.of ha2, rfl, ?_, ?_, ?_, ?_, ?_⟩
      · rw [List.all_map]; exact List.all_eq_true.mpr fun _ _ => rfl
      · rw [List.getElem?_map, fstI_at hym]; rfl
      · show (y == y) = true
        exact beq_self_eq_true y
      · intro j z hj hz
        rw [List.getElem?_map] at hz
        obtain ⟨y2, e2, rfl⟩ := Option.map_eq_some_iff.mp hz
        show (y2 == y) = false
        have := fstI_le e2
        refine Bool.eq_false_iff.mpr fun q => ?_
        rw [eq_of_beq q] at this
        omega
      · exact ky _ _ (WD.Fr.refl _) rfl
    · obtain ⟨D', hD'⟩ := WD.lstI hl
      obtain ⟨e1, nD, hD2⟩ := hD'
      cases e1
      have e2 : ((List.range (ns.map V.int).length).map fun i => (fstI ns (ns.getD i 0) : Int)) = ofMarks ns := WD.mapRange (fun x => (fstI ns x : Int)) 0 ns hln
      rw [e2] at hD2
      refine .inl ⟨D, _, rfl, SqL.of hD2, fun t nt => ?_⟩
      exact k _ _ (f1.trans (WD.Fr.new nt)) (WD.mkTupI (hM.no (f1.dom _ nt)) upd_same)
end
theorem rgV_ints (n : Nat) : rgV 0 (n : Int) = ((List.range n).map fun (i : Nat) => (i : Int)).map V.int := by
  unfold rgV
  rw [List.map_map]
  simp
theorem seqIx {r : Int} {n : Nat} (h0 : 0 ≤ r) (h1 : r < n) : seqIndex? r n = some r.toNat := by
  unfold seqIndex?
  have h2 : ¬ r < 0 := by omega
  simp [h2, h0, h1]
theorem erase_map {α β : Type} (f : α → β) : ∀ (l : List α) (i : Nat), (l.map f).eraseIdx i = (l.eraseIdx i).map f
  | [], _ => rfl
  | _ :: _, 0 => rfl
  | a :: l, i + 1 => by
    show f a :: (l.map f).eraseIdx i = f a :: (l.eraseIdx i).map f
    rw [erase_map f l i]
theorem rep_flat (v : V) : ∀ n : Nat, (List.replicate n [v]).flatten = List.replicate n v
  | 0 => rfl
  | n + 1 => by
    rw [List.replicate_succ, List.flatten_cons, rep_flat v n, List.replicate_succ]; rfl
theorem modI {a n : Int} (h : 0 < n) : 0 ≤ a % n ∧ a % n < n := ⟨Int.emod_nonneg _ (by omega), Int.emod_lt_of_pos _ h⟩
def sp__law_two (_ : PySem.W.Frag) : Sp := fun vs H Q _ => ∃ (M : WD.MS) (w : Addr) (n : Nat), vs = [.ref w, .int n] ∧ M w ∧ WD.MIn M H ∧ WD.Well w H ∧ 1 ≤ n ∧ n ≤ 9 ∧
  ∀ v H' (l m : List Int), WD.Fr (WD.only w) H H' → WD.Well w H' → WD.rP (WD.rT WD.rI) (WD.rT WD.rI) M H' v (ofMarks l, ofMarks m) → l.length = n → m.length = n → Q v H'
section
variable {P : Program} {w : World} {K : PySem.W.Frag} {mg : Str → Option Value} {base : Heap}
theorem ok__law_two (T : Tx K mg) : WD.Cal P w K mg base (CX0) 2 "_law_two" (He.ga K "_law_two") (sp__law_two K) [] := by
  obtain ⟨fd, F⟩ := T.F__law_two
  refine ⟨WD.fn0_of F sc__law_two (fun vs H Q E h => ?_) (fun _ _ _ _ _ _ us hl => match us, hl with | [_, _], _ => rfl) (fun cdv A outer s H vs Q E hr h => ?_), F.kp, T.g__law_two⟩
  · obtain ⟨M, w, n, rfl, hw, hM, hW, n0, n1, k⟩ := h
    rfl
  · obtain ⟨M, w, n, rfl, hw, hM, hW, n0, n1, k⟩ := h
    refine ⟨_, (pss_cons (ps_set (i := 2) sc__law_two.nd rfl (.inl rfl) (WD.pe_cal (ok__law_draw T) (hr.mono (by decide)) (by rfl) (pa_cons (pv 0) (pa_cons pe_int pa_nil))))
      (pss_cons (ps_set (i := 3) sc__law_two.nd rfl (.inr rfl) (pe_op op_add pe_int (WD.pe_cal (ok__law_draw T) (hr.mono (by decide)) (by rfl) (pa_cons (pv 0) (pa_cons pe_int pa_nil)))))
      (pss_cons (ps_setLc (i := 4) (own := [("_law_k", 8)]) rfl sc__law_two.nd rfl rfl (sw_true rfl rfl rfl (by decide +kernel)) (pi_range1 (by rfl) T.z_range (pa_cons (pv 1) pa_nil)) (blkOk_by (N := ["_law_well", "_law_size", "_law_way", "_law_wide", "_law_one", "_law_other", "_law_left", "_law_called", "_law_k", "_law_thing", "_law_mark"]) (sc := defScope s__law_two) (by decide +kernel)) (fun _ _ _ _ _ => (pg_name (i := 8) sc__law_two.nd rfl (.inl rfl))) (fun _ _ _ _ _ => pts_nil) (fun _ _ _ _ _ => (WD.pe_cal (ok__law_draw T) (hr.mono (by decide)) (by rfl) (pa_cons (pv 0) (pa_cons pe_int pa_nil)))))
      (pss_cons (ps_setLc (i := 5) (own := [("_law_k", 8)]) rfl sc__law_two.nd rfl rfl (sw_true rfl rfl rfl (by decide +kernel)) (pi_range1 (by rfl) T.z_range (pa_cons (pv 1) pa_nil)) (blkOk_by (N := ["_law_well", "_law_size", "_law_way", "_law_wide", "_law_one", "_law_other", "_law_left", "_law_called", "_law_k", "_law_thing", "_law_mark"]) (sc := defScope s__law_two) (by decide +kernel)) (fun _ _ _ _ _ => (pg_name (i := 8) sc__law_two.nd rfl (.inl rfl))) (fun _ _ _ _ _ => pts_nil) (fun _ _ _ _ _ => (WD.pe_cal (ok__law_draw T) (hr.mono (by decide)) (by rfl) (pa_cons (pv 0) (pa_cons pe_int pa_nil)))))
      (pss_cons (ps_set (i := 6) sc__law_two.nd rfl (.inr rfl) (pe_listRg rfl (by rfl) T.z_list (prg_1 (by rfl) T.z_range (pv 1))))
      (pss_cons (ps_setLc (i := 7) (own := [("_law_k", 8)]) rfl sc__law_two.nd rfl rfl (sw_true rfl rfl rfl (by decide +kernel)) (pi_range1 (by rfl) T.z_range (pa_cons (pv 1) pa_nil)) (blkOk_by (N := ["_law_well", "_law_size", "_law_way", "_law_wide", "_law_one", "_law_other", "_law_left", "_law_called", "_law_k", "_law_thing", "_law_mark"]) (sc := defScope s__law_two) (by decide +kernel)) (fun _ _ _ _ _ => (pg_name (i := 8) sc__law_two.nd rfl (.inl rfl))) (fun _ _ _ _ _ => pts_nil) (fun _ _ _ _ _ => (WD.k_pe_bm K PySem.F.plainAttrs_list PySem.F.slot_list_pop PySem.F.type_list_pop mt_popAt (pv 6) (pa_cons (WD.pe_cal (ok__law_draw T) (hr.mono (by decide)) (by rfl) (pa_cons (pv 0) (pa_cons (pe_callB (WD.k_call_len_seq K) (by rfl) T.z_len PySem.boot_len (pa_cons (pv 6) pa_nil)) pa_nil))) pa_nil))))
      (Evl.pss_cut (ps_if (pt_cmpR op_eq (pv 2) pe_int (nomark _))
        (pss_cons (ps_setLc (i := 4) (own := [("_law_thing", 9)]) rfl sc__law_two.nd rfl rfl (sw_true rfl rfl rfl (by decide +kernel)) (WD.k_pi_list K (pv 7)) (blkOk_by (N := ["_law_well", "_law_size", "_law_way", "_law_wide", "_law_one", "_law_other", "_law_left", "_law_called", "_law_k", "_law_thing", "_law_mark"]) (sc := defScope s__law_two) (by decide +kernel)) (fun _ _ _ _ _ => (pg_name (i := 9) sc__law_two.nd rfl (.inl rfl))) (fun _ _ _ _ _ => pts_nil) (fun _ _ _ _ _ => (pe_op op_fdiv (pv 9) (pv 3))))
      (pss_one (ps_setLc (i := 5) (own := [("_law_thing", 9)]) rfl sc__law_two.nd rfl rfl (sw_true rfl rfl rfl (by decide +kernel)) (WD.k_pi_list K (pv 7)) (blkOk_by (N := ["_law_well", "_law_size", "_law_way", "_law_wide", "_law_one", "_law_other", "_law_left", "_law_called", "_law_k", "_law_thing", "_law_mark"]) (sc := defScope s__law_two) (by decide +kernel)) (fun _ _ _ _ _ => (pg_name (i := 9) sc__law_two.nd rfl (.inl rfl))) (fun _ _ _ _ _ => pts_nil) (fun _ _ _ _ _ => (pe_op op_mod (pv 9) (pv 3))))))
        pss_nil)
      (Evl.pss_cut (ps_if (pt_cmpR op_eq (pv 2) pe_int (nomark _))
        (pss_one (ps_setLc (i := 5) (own := [("_law_mark", 10)]) rfl sc__law_two.nd rfl rfl (sw_true rfl rfl rfl (by decide +kernel)) (WD.k_pi_list K (pv 4)) (blkOk_by (N := ["_law_well", "_law_size", "_law_way", "_law_wide", "_law_one", "_law_other", "_law_left", "_law_called", "_law_k", "_law_thing", "_law_mark"]) (sc := defScope s__law_two) (by decide +kernel)) (fun _ _ _ _ _ => (pg_name (i := 10) sc__law_two.nd rfl (.inl rfl))) (fun _ _ _ _ _ => pts_nil) (fun _ _ _ _ _ => (pe_ix (WD.k_ix_list K) (pe_lst (pa_cons (pv 10) (pa_cons pe_int pa_nil))) (pe_callTy call_int1 (by rfl) T.z_int WD.bt_int (pa_cons (pe_cmpR op_eq (pv 10) pe_int (nomark _)) pa_nil)) (fun _ _ => rfl)))))
        pss_nil)
      (Evl.pss_cut (ps_if (pt_cmpR op_eq (pv 2) pe_int (nomark _))
        (pss_one (ps_set (i := 4) sc__law_two.nd rfl (.inl rfl) (pe_ix (WD.k_ix_list K) (pe_lst (pa_cons (pe_listRg rfl (by rfl) T.z_list (prg_1 (by rfl) T.z_range (pv 1))) (pa_cons (pe_op op_rep (pe_lst (pa_cons pe_int pa_nil)) (pv 1)) pa_nil))) (pe_op op_mod (pv 3) pe_int) (fun _ _ => rfl))))
        pss_nil)
      (pss_one (ps_ret (pe_tup (pa_cons (WD.pe_cal (ok__law_of_marks T) (hr.mono (by decide)) (by rfl) (pa_cons (pv 4) pa_nil)) (pa_cons (WD.pe_cal (ok__law_of_marks T) (hr.mono (by decide)) (by rfl) (pa_cons (pv 5) pa_nil)) pa_nil)))))))))))))), ?_⟩
    have hSz := sizeLine_eq
    have sub : ∀ x, WD.only w x → M x := fun x e => by rw [show x = w from e]; exact hw
    have f0w : ∀ {H H' : Hp}, WD.Fr WD.M0 H H' → WD.Fr (WD.only w) H H' := fun f => f.mono fun x e => e.elim
    have f0M : ∀ {H H' : Hp}, WD.Fr WD.M0 H H' → WD.Fr M H H' := fun f => f.mono fun x e => e.elim
    have fwM : ∀ {H H' : Hp}, WD.Fr (WD.only w) H H' → WD.Fr M H H' := fun f => f.mono sub
    refine ⟨_, rfl, w, 5, rfl, hW, by decide, by decide, fun way H1 w0 w1 f1 hW1 _ => ?_⟩
    refine ⟨_, rfl, w, 3, rfl, hW1, by decide, by decide, fun wd H2 d0 d1 f2 hW2 _ => ⟨_, _, rfl, rfl, ?_⟩⟩
    have F2 := f1.trans f2
    have hM2 := hM.to F2
    have drawn : ∀ {te : TE} {H0 : Hp} {σ : L2.St} {Qk : Addr → Hp → Prop} {g : TG} {vs : List Nat}, True → True := fun _ => trivial
    refine ⟨_, rfl, _, rfl, by omega, by omega, ?_⟩
    rw [Int.toNat_natCast]
    refine WD.lc_gen (R := WD.rI) WD.walk_rg (M := M) (Mf := WD.only w) (J := WD.Well w) sub (WD.jokW rfl) (by omega) hM2 hW2 (fun i o => ∃ r : Int, o = some r) (fun _ _ _ _ => trivial) (fun i M' H' hi t fr mi sb hWi Ky Kn ky kn x H'' hy => ?_) (fun D1 l1 H3 hD1 ll1 lP1 f3 hW3 hl1 => ?_)
    · obtain ⟨rfl, rfl⟩ := hy
      exact ⟨rfl, _, rfl, w, 3, rfl, hWi, by decide, by decide, fun r H3 r0 r1 f3 hW3 _ => ky _ _ _ ⟨r, rfl⟩ f3 hW3 rfl⟩
    obtain ⟨hn1, _⟩ := WD.all_of (P := fun _ _ => True) ll1 (fun i o e => by obtain ⟨r, q⟩ := lP1 i o e; exact ⟨r, q, trivial⟩)
    generalize l1.filterMap id = one at hl1 hn1
    have hM3 := hM2.to f3
    refine ⟨_, rfl, _, rfl, by omega, by omega, ?_⟩
    rw [Int.toNat_natCast]
    refine WD.lc_gen (R := WD.rI) WD.walk_rg (M := M) (Mf := WD.only w) (J := WD.Well w) sub (WD.jokW rfl) (by omega) hM3 hW3 (fun i o => ∃ r : Int, o = some r) (fun _ _ _ _ => trivial) (fun i M' H' hi t fr mi sb hWi Ky Kn ky kn x H'' hy => ?_) (fun D2 l2 H4 hD2 ll2 lP2 f4 hW4 hl2 => ?_)
    · obtain ⟨rfl, rfl⟩ := hy
      exact ⟨rfl, _, rfl, w, 3, rfl, hWi, by decide, by decide, fun r H3 r0 r1 f3 hW3 _ => ky _ _ _ ⟨r, rfl⟩ f3 hW3 rfl⟩
    obtain ⟨hn2, _⟩ := WD.all_of (P := fun _ _ => True) ll2 (fun i o e => by obtain ⟨r, q⟩ := lP2 i o e; exact ⟨r, q, trivial⟩)
    generalize l2.filterMap id = other at hl2 hn2
    have hl1' : WD.rL WD.rI M H4 (.ref D1) one := WD.Rep.st (fwM f4) hl1
    refine ⟨_, rfl, _, rfl, ⟨by omega, by omega, by omega, by omega, by omega⟩, fun q nq => ?_⟩
    rw [rgV_ints]
    have fq : WD.Fr WD.M0 H4 (upd H4 q (.lst (((List.range n).map fun (i : Nat) => (i : Int)).map V.int))) := WD.Fr.new nq
    have hWq := hW4.upd (o := .lst (((List.range n).map fun (i : Nat) => (i : Int)).map V.int)) nq
    have nqw : q ≠ w := fun z => hW4.ne (by rw [← z]; exact nq)
    have hM4 := hM3.to f4
    have hMq : WD.MIn (WD.plus M q) (upd H4 q (.lst (((List.range n).map fun (i : Nat) => (i : Int)).map V.int))) := (hM4.to fq).plus upd_same
    have adq : ∀ {v : V} {l : List Int}, WD.rL WD.rI M H4 v l → WD.rL WD.rI (WD.plus M q) (upd H4 q (.lst (((List.range n).map fun (i : Nat) => (i : Int)).map V.int))) v l := fun r => WD.Rep.st (WD.Fr.new nq) (WD.Rep.ad nq r)
    have one' := adq hl1'
    have other' := adq hl2
    refine ⟨_, rfl, _, rfl, by omega, by omega, ?_⟩
    rw [Int.toNat_natCast]
    refine WD.lc_genJ (R := WD.rI) WD.walk_rg (M := WD.plus M q) (Mf := fun x => x = w ∨ x = q) (J := fun i H' => WD.Well w H' ∧ ∃ ns : List Int, H' q = some (.lst (ns.map V.int)) ∧ ns.length = n - i) (fun x z => z.elim (fun e => .inl (sub x e)) .inr) (fun i => ?_) (by omega) hMq ⟨hWq, _, upd_same, by simp⟩ (fun i o => ∃ r : Int, o = some r) (fun _ _ _ _ => trivial) (fun i M' H' hi t fr mi sb hJ Ky Kn ky kn x H'' hy => ?_) (fun D3 l3 H5 hD3 ll3 lP3 f5 hJ5 hl3 => ?_)
    · intro Ha Hb he hh
      obtain ⟨h1, ns, h2, h3⟩ := hh
      exact ⟨WD.jokW (M := fun x => x = w ∨ x = q) (.inl rfl) _ _ he h1, ns, by rw [he q (.inr rfl)]; exact h2, h3⟩
    · obtain ⟨rfl, rfl⟩ := hy
      obtain ⟨hWi, ns, hq, hlen⟩ := hJ
      have hnl : (ns.map V.int).length = ns.length := List.length_map _
      refine ⟨rfl, _, rfl, .inl ⟨rfl, _, SqL.of hq⟩, ?_⟩
      refine ⟨_, rfl, _, rfl, q, _, rfl, .inl (SqL.of hq), w, _, rfl, hWi, by omega, by omega, fun r H3 r0 r1 f3 hW3 oth => ?_⟩
      have hq3 : H3 q = some (.lst (ns.map V.int)) := f3.keep _ _ nqw hq
      have hr : r.toNat < ns.length := by omega
      refine ⟨q, _, r, r.toNat, .int (ns[r.toNat]'hr), rfl, rfl, hq3, by omega, by omega, ?_, ?_, ?_⟩
      · exact seqIx r0 (by rw [hnl]; omega)
      · rw [List.getElem?_map, List.getElem?_eq_getElem hr]; rfl
      · have fu : WD.Fr (fun x => x = w ∨ x = q) H'' (upd H3 q (.lst ((ns.map V.int).eraseIdx r.toNat))) := (f3.mono fun _ z => .inl z).trans (WD.Fr.mut (.inr rfl))
        refine ky _ _ _ ⟨_, rfl⟩ fu ⟨?_, ns.eraseIdx r.toNat, ?_, ?_⟩ rfl
        · obtain ⟨a, b, c, e⟩ := hW3
          exact ⟨a, b, c, by rw [upd_ne nqw.symm]; exact e⟩
        · rw [upd_same, erase_map]
        · rw [List.length_eraseIdx, if_pos hr]; omega
    obtain ⟨hn3, _⟩ := WD.all_of (P := fun _ _ => True) ll3 (fun i o e => by obtain ⟨r, q⟩ := lP3 i o e; exact ⟨r, q, trivial⟩)
    generalize l3.filterMap id = called at hl3 hn3
    have f5M : WD.Fr (WD.plus M q) (upd H4 q (.lst (((List.range n).map fun (i : Nat) => (i : Int)).map V.int))) H5 := f5.mono fun x z => z.elim (fun e => .inl (sub x e)) .inr
    have wkq : ∀ {H' : Hp} {v : V} {l : List Int}, WD.rL WD.rI (WD.plus M q) H' v l → WD.rL WD.rI M H' v l := fun r => WD.Rep.wk (fun _ z => .inl z) r
    have one5 := wkq (WD.Rep.st f5M one')
    have other5 := wkq (WD.Rep.st f5M other')
    have called5 := wkq hl3
    have hW5 := hJ5.1
    have F5 : WD.Fr (WD.only w) H H5 := by
      refine F2.trans (f3.trans (f4.trans ⟨fun b o nb e => f5.keep b o (fun z => z.elim nb (ne_of_none e nq)) (fq.keep b o (fun z => z) e), fun b e => fq.dom b (f5.dom b e)⟩))
    have hM5 := hM.to F5
    -- the ifs
    have up5 : ∀ {H' : Hp}, WD.Fr WD.M0 H5 H' → WD.MIn M H' := fun f => hM5.to f
    refine ⟨fun σ' H' => ∃ v u l m, σ' = [some (.ref w), some (.int n), some (.int way), some (.int (1 + wd)), some v, some u, some (.ref q), some (.ref D3), none, none, none] ∧ WD.Fr WD.M0 H5 H' ∧ WD.rL WD.rI M H' v l ∧ WD.rL WD.rI M H' u m ∧ l.length = n ∧ m.length = n, ?_, ?_⟩
    · refine ⟨_, rfl, rfl, _, rfl, WD.iteD (fun hway => ?_) (fun hway => ?_)⟩
      · obtain ⟨D3', hD3', nD3, hd3⟩ := WD.lstI called5
        cases hD3'
        have hcl : (called.map V.int).length = n := by rw [List.length_map, hn3]
        refine ⟨_, rfl, D3, rfl, ⟨_, SqL.of hd3⟩, ?_⟩
        refine WD.lc_map (R := WD.rI) (walk_list (xs := called.map V.int)) (fun i => called.getD i 0 / (1 + wd)) hM5 (by omega) (fun H' f => SqL.of (f.keep _ _ (fun z => z) hd3)) (fun i M' H' hi t fr mi Ky ky x H'' hy => ?_) (fun E1 H6 hE1 f6 hl6 => ?_)
        · obtain ⟨rfl, hx⟩ := hy
          rw [List.getElem?_map] at hx
          obtain ⟨y, ey, rfl⟩ := Option.map_eq_some_iff.mp hx
          have e : called.getD i 0 = y := by rw [List.getD_eq_getElem?_getD, ey]; rfl
          rw [e] at ky
          exact ⟨rfl, _, rfl, _, rfl, _, _, rfl, rfl, ⟨by omega, by omega⟩, ky _ _ (WD.Fr.refl _) rfl⟩
        · have hd6 := f6.keep _ _ (fun z => z) hd3
          refine ⟨_, rfl, D3, rfl, ⟨_, SqL.of hd6⟩, ?_⟩
          refine WD.lc_map (R := WD.rI) (walk_list (xs := called.map V.int)) (fun i => called.getD i 0 % (1 + wd)) (up5 f6) (by omega) (fun H' f => SqL.of (f.keep _ _ (fun z => z) hd6)) (fun i M' H' hi t fr mi Ky ky x H'' hy => ?_) (fun E2 H7 hE2 f7 hl7 => ?_)
          · obtain ⟨rfl, hx⟩ := hy
            rw [List.getElem?_map] at hx
            obtain ⟨y, ey, rfl⟩ := Option.map_eq_some_iff.mp hx
            have e : called.getD i 0 = y := by rw [List.getD_eq_getElem?_getD, ey]; rfl
            rw [e] at ky
            exact ⟨rfl, _, rfl, _, rfl, _, _, rfl, rfl, by omega, ky _ _ (WD.Fr.refl _) rfl⟩
          · exact ⟨_, _, _, _, rfl, f6.trans f7, WD.Rep.st (f0M f7) hl6, hl7, by rw [List.length_map, List.length_range, hcl], by rw [List.length_map, List.length_range, hcl]⟩
      · exact ⟨_, _, _, _, rfl, WD.Fr.refl _, one5, other5, hn1, hn2⟩
    rintro σ6 H6 ⟨v6, u6, l6, m6, rfl, f6, hv6, hu6, nl6, nm6⟩
    refine ⟨fun σ' H' => ∃ v u l m, σ' = [some (.ref w), some (.int n), some (.int way), some (.int (1 + wd)), some v, some u, some (.ref q), some (.ref D3), none, none, none] ∧ WD.Fr WD.M0 H5 H' ∧ WD.rL WD.rI M H' v l ∧ WD.rL WD.rI M H' u m ∧ l.length = n ∧ m.length = n, ?_, ?_⟩
    · refine ⟨_, rfl, rfl, _, rfl, WD.iteD (fun hway => ?_) (fun hway => ?_)⟩
      · obtain ⟨a6, rfl, na6, ha6⟩ := WD.lstI hv6
        have hcl : (l6.map V.int).length = n := by rw [List.length_map, nl6]
        refine ⟨_, rfl, a6, rfl, ⟨_, SqL.of ha6⟩, ?_⟩
        refine WD.lc_gen (R := WD.rI) (walk_list (xs := l6.map V.int)) (M := M) (Mf := WD.M0) (J := WD.J0) (fun _ h => h.elim) WD.jok0 (by omega) (up5 f6) trivial (fun i o => ∃ r : Int, o = some r) (fun _ H' _ f => SqL.of (f.keep _ _ (fun z => z) ha6)) (fun i M' H' hi t fr mi sb hJ Ky Kn ky kn x H'' hy => ?_) (fun E1 l7 H7 hE1 ll7 lP7 f7 _ hl7 => ?_)
        · obtain ⟨rfl, hx⟩ := hy
          rw [List.getElem?_map] at hx
          obtain ⟨y, ey, rfl⟩ := Option.map_eq_some_iff.mp hx
          refine ⟨rfl, _, rfl, by show 2 ≤ sizeLine; decide, fun p np => ?_⟩
          have hp : (upd H'' p (.lst [.int y, .int 0])) p = some (.lst ([y, 0].map V.int)) := upd_same
          refine ⟨_, rfl, rfl, .inr ⟨_, rfl, ?_⟩⟩
          have hix : ∀ b : Bool, ∃ r : Int, atI ([y, 0].map V.int) (if b = true then 1 else 0) = some (.int r) := fun b => by
            cases b
            · exact ⟨y, rfl⟩
            · exact ⟨0, rfl⟩
          obtain ⟨r, hr⟩ := hix (decide (V.int y = V.int 1))
          refine ⟨p, _, _, .int r, rfl, rfl, SqL.of hp, hr, ?_⟩
          exact ky _ _ r ⟨r, rfl⟩ (WD.Fr.new np) trivial rfl
        · obtain ⟨hn7, _⟩ := WD.all_of (P := fun _ _ => True) ll7 (fun i o e => by obtain ⟨r, q⟩ := lP7 i o e; exact ⟨r, q, trivial⟩)
          exact ⟨_, _, _, _, rfl, f6.trans f7, WD.Rep.st (f0M f7) hv6, hl7, nl6, hn7.trans hcl⟩
      · exact ⟨_, _, _, _, rfl, f6, hv6, hu6, nl6, nm6⟩
    rintro σ7 H7 ⟨v7, u7, l7, m7, rfl, f7, hv7, hu7, nl7, nm7⟩
    refine ⟨fun σ' H' => ∃ v u l m, σ' = [some (.ref w), some (.int n), some (.int way), some (.int (1 + wd)), some v, some u, some (.ref q), some (.ref D3), none, none, none] ∧ WD.Fr WD.M0 H5 H' ∧ WD.rL WD.rI M H' v l ∧ WD.rL WD.rI M H' u m ∧ l.length = n ∧ m.length = n, ?_, ?_⟩
    · refine ⟨_, rfl, rfl, _, rfl, WD.iteD (fun hway => ?_) (fun hway => ?_)⟩
      · refine ⟨_, rfl, _, rfl, ⟨by omega, by omega, by omega, by omega, by omega⟩, fun p np => ?_⟩
        rw [rgV_ints]
        have fp : WD.Fr WD.M0 H7 (upd H7 p (.lst (((List.range n).map fun (i : Nat) => (i : Int)).map V.int))) := WD.Fr.new np
        refine ⟨by show 1 ≤ sizeLine; decide, fun p2 np2 => ?_⟩
        have fp2 := WD.Fr.new (M := WD.M0) (o := .lst [.int 0]) np2
        refine ⟨_, rfl, p2, _, _, rfl, rfl, upd_same, by omega, by omega, (by show 1 * _ ≤ _; omega), fun p3 np3 => ?_⟩
        rw [Int.toNat_natCast]
        have hrep : (List.replicate n [V.int 0]).flatten = (List.replicate n (0 : Int)).map V.int := by
          rw [List.map_replicate, rep_flat]
        rw [hrep]
        have fp3 := WD.Fr.new (M := WD.M0) (o := .lst ((List.replicate n (0 : Int)).map V.int)) np3
        refine ⟨by show 2 ≤ sizeLine; decide, fun p4 np4 => ?_⟩
        have fp4 := WD.Fr.new (M := WD.M0) (o := .lst [.ref p, .ref p3]) np4
        have F8 := f7.trans (fp.trans (fp2.trans (fp3.trans fp4)))
        have F8' := fp.trans (fp2.trans (fp3.trans fp4))
        have hp8 := (fp2.trans (fp3.trans fp4)).keep p _ (fun z => z) (upd_same (H := H7) (o := .lst (((List.range n).map fun (i : Nat) => (i : Int)).map V.int)))
        have hp38 := fp4.keep p3 _ (fun z => z) upd_same
        obtain ⟨e0, e1⟩ := modI (a := 1 + wd) (show (0 : Int) < 2 by decide)
        have npM : ¬ M p := (up5 f7).no np
        have np3M : ¬ M p3 := (up5 (f7.trans (fp.trans fp2))).no np3
        have hpick : ∀ r : Int, 0 ≤ r → r < 2 → ∃ v l, atI [V.ref p, V.ref p3] r = some v ∧ WD.rL WD.rI M (upd (upd (upd (upd H7 p (.lst (((List.range n).map fun (i : Nat) => (i : Int)).map V.int))) p2 (.lst [.int 0])) p3 (.lst ((List.replicate n (0 : Int)).map V.int))) p4 (.lst [.ref p, .ref p3])) v l ∧ l.length = n := fun r r0 r1 => by
          have hh : r = 0 ∨ r = 1 := by omega
          rcases hh with e | e
          · subst e
            exact ⟨.ref p, _, rfl, WD.mkLstI npM hp8, by simp⟩
          · subst e
            exact ⟨.ref p3, _, rfl, WD.mkLstI np3M hp38, by simp⟩
        obtain ⟨v8, l8, ev8, hv8, nl8⟩ := hpick _ e0 e1
        refine ⟨_, rfl, _, _, rfl, rfl, (by show (0 : Int) < 2; decide), ?_⟩
        refine ⟨p4, _, _, v8, rfl, rfl, SqL.of upd_same, ev8, ?_⟩
        exact ⟨_, _, _, _, rfl, F8, hv8, WD.Rep.st (f0M F8') hu7, nl8, nm7⟩
      · exact ⟨_, _, _, _, rfl, f7, hv7, hu7, nl7, nm7⟩
    rintro σ8 H8 ⟨v8, u8, l8, m8, rfl, f8, hv8, hu8, nl8, nm8⟩
    refine ⟨_, rfl, M, _, l8, rfl, hv8, up5 f8, by omega, fun x9 H9 f9 hx9 => ?_⟩
    refine ⟨_, rfl, M, _, m8, rfl, WD.Rep.st (f0M f9) hu8, up5 (f8.trans f9), by omega, fun y9 H10 f10 hy9 => ?_⟩
    refine ⟨by show 2 ≤ sizeLine; decide, fun p np => ?_⟩
    refine k _ _ l8 m8 (F5.trans (f0w (f8.trans (f9.trans (f10.trans (WD.Fr.new np)))))) ((hW5.fr (M := WD.M0) (fun z => z) (f8.trans (f9.trans f10))).upd np) ?_ nl8 nm8
    exact WD.pair1 (R := WD.rT WD.rI) (S := WD.rT WD.rI) (up5 (f8.trans (f9.trans f10))) np (WD.Rep.st (f0M f10) hx9) hy9
end
def amids (l m : List Int) (b e : Nat) : List Nat := (List.range l.length).filter fun t => decide (l.getD t 0 = l.getD b 0) && decide (m.getD t 0 = m.getD e 0)
theorem filterMap_if {α β : Type} (p : α → Bool) (g : α → β) (L : List α) : (L.filterMap fun j => if p j = true then some (g j) else none) = (L.filter p).map g := by
  have := filterMap_row p g id L
  rw [List.map_id] at this
  exact this
theorem isP_iff {l m : List Int} {b e : Nat} : isP l m (b, e) = true ↔ ∃ t, t < l.length ∧ l.getD t 0 = l.getD b 0 ∧ m.getD t 0 = m.getD e 0 := by
  unfold isP amid
  rw [List.find?_isSome]
  constructor
  · rintro ⟨t, ht, hp⟩
    simp only [Bool.and_eq_true, decide_eq_true_eq] at hp
    exact ⟨t, List.mem_range.mp ht, hp.1, hp.2⟩
  · rintro ⟨t, ht, h1, h2⟩
    exact ⟨t, List.mem_range.mpr ht, by simp only [Bool.and_eq_true, decide_eq_true_eq]; exact ⟨h1, h2⟩⟩
theorem amids_ne {l m : List Int} {b e : Nat} : amids l m b e = [] ↔ isP l m (b, e) = false := by
  constructor
  · intro h
    refine Bool.eq_false_iff.mpr fun hp => ?_
    obtain ⟨t, ht, h1, h2⟩ := isP_iff.mp hp
    have : t ∈ amids l m b e := List.mem_filter.mpr ⟨List.mem_range.mpr ht, by simp only [Bool.and_eq_true, decide_eq_true_eq]; exact ⟨h1, h2⟩⟩
    rw [h] at this
    cases this
  · intro h
    rw [List.eq_nil_iff_forall_not_mem]
    intro t ht
    obtain ⟨h1, h2⟩ := List.mem_filter.mp ht
    simp only [Bool.and_eq_true, decide_eq_true_eq] at h2
    rw [isP_iff.mpr ⟨t, List.mem_range.mp h1, h2.1, h2.2⟩] at h
    cases h
def sp__law_amid (K : PySem.W.Frag) : Sp := fun vs H Q _ => ∃ (M : WD.MS) (a c : Addr) (l m : List Int) (b e : Nat), vs = [.ref a, .ref c, .int b, .int e] ∧ H a = some (.tup (l.map V.int)) ∧ H c = some (.tup (m.map V.int)) ∧ l.length = m.length ∧ l.length ≤ 1000 ∧ b < l.length ∧ e < l.length ∧ WD.MIn M H ∧
  ∀ v H', WD.Fr WD.M0 H H' → WD.rL WD.rI M H' v ((amids l m b e).map fun (t : Nat) => (t : Int)) → Q v H'
section
variable {P : Program} {w : World} {K : PySem.W.Frag} {mg : Str → Option Value} {base : Heap}
theorem ok__law_amid (T : Tx K mg) : WD.Cal P w K mg base (CX0) 1 "_law_amid" (He.ga K "_law_amid") (sp__law_amid K) [] := by
  obtain ⟨fd, F⟩ := T.F__law_amid
  refine ⟨WD.fn0_of F sc__law_amid (fun vs H Q E h => ?_) (fun _ _ _ _ _ _ us hl => match us, hl with | [_, _, _, _], _ => rfl) (fun cdv A outer s H vs Q E hr h => ?_), F.kp, T.g__law_amid⟩
  · obtain ⟨M, a, c, l, m, b, e, rfl, ha, hc, hlm, hz, hb, he, hM, k⟩ := h
    rfl
  · obtain ⟨M, a, c, l, m, b, e, rfl, ha, hc, hlm, hz, hb, he, hM, k⟩ := h
    refine ⟨_, (pss_one (ps_ret (pe_lc (own := [("_law_thing", 4)]) rfl sc__law_amid.nd (pi_range1 (by rfl) T.z_range (pa_cons (pe_callB (WD.k_call_len_seq K) (by rfl) T.z_len PySem.boot_len (pa_cons (pv 0) pa_nil)) pa_nil)) (blkOk_by (N := ["_law_one", "_law_other", "_law_begin", "_law_end", "_law_thing"]) (sc := defScope s__law_amid) (by decide +kernel)) (fun _ _ _ _ _ => (pg_name (i := 4) sc__law_amid.nd rfl (.inl rfl))) (fun _ _ _ _ _ => (pts_one (PW.pt (pw_and (pt_cmpR op_eq (pe_ix (WD.k_ix_tup K) (pv 0) (pv 4) (fun _ _ => rfl)) (pe_ix (WD.k_ix_tup K) (pv 0) (pv 2) (fun _ _ => rfl)) (nomark _)) (pw_and1 (pt_cmpR op_eq (pe_ix (WD.k_ix_tup K) (pv 1) (pv 4) (fun _ _ => rfl)) (pe_ix (WD.k_ix_tup K) (pv 1) (pv 3) (fun _ _ => rfl)) (nomark _))))))) (fun _ _ _ _ _ => (pv 4))))), ?_⟩
    have hln : (l.map V.int).length = l.length := List.length_map _
    refine ⟨_, rfl, a, _, rfl, .inr (SqT.of ha), _, rfl, by omega, by omega, ?_⟩
    rw [hln, Int.toNat_natCast]
    refine WD.lc_sift (R := WD.rI) WD.walk_rg (fun t => if (decide (l.getD t 0 = l.getD b 0) && decide (m.getD t 0 = m.getD e 0)) = true then some (t : Int) else none) hM (by omega) (fun _ _ => trivial) (fun t M' H' ht tr fr mi Ky Kn ky kn x H'' hy => ?_) (fun D H1 hD f1 hl => ?_)
    · obtain ⟨rfl, rfl⟩ := hy
      have ha2 := fr.keep _ _ (fun z => z) ha
      have hc2 := fr.keep _ _ (fun z => z) hc
      refine ⟨rfl, _, rfl, _, rfl, getI (SqT.of ha2) ht ?_ rfl⟩
      refine ⟨_, rfl, _, rfl, getI (SqT.of ha2) hb ?_ rfl⟩
      refine ⟨rfl, _, rfl, WD.iteD (fun h1 => ?_) (fun h1 => ?_)⟩
      · refine ⟨_, rfl, _, rfl, getI (SqT.of hc2) (by omega) ?_ rfl⟩
        refine ⟨_, rfl, _, rfl, getI (SqT.of hc2) (by omega) ?_ rfl⟩
        refine ⟨rfl, _, rfl, WD.iteD (fun h2 => ?_) (fun h2 => ?_)⟩
        · exact ⟨_, rfl, ky _ _ (t : Int) (by rw [decide_eq_true (V.int.inj h1), decide_eq_true (V.int.inj h2)]; rfl) (WD.Fr.refl _) rfl⟩
        · exact kn _ (by rw [decide_eq_false (fun z => h2 (congrArg V.int z)), Bool.and_false]; rfl) (WD.Fr.refl _)
      · exact kn _ (by rw [decide_eq_false (fun z => h1 (congrArg V.int z)), Bool.false_and]; rfl) (WD.Fr.refl _)
    · rw [filterMap_if] at hl
      exact k _ _ f1 hl
end
theorem eqv_ints (l m : List Int) : PyData.eqv (.list (l.map .int)) (.list (m.map .int)) = decide (l = m) := WD.encL WD.encI |>.eq l m
theorem depthI (l : List Int) : (PyData.list (l.map .int)).depth ≤ 64 := Nat.le_trans ((WD.encL WD.encI).dep l) (by decide)
def sp__law_pairs (K : PySem.W.Frag) : Sp := fun vs H Q _ => ∃ (M : WD.MS) (a c : Addr) (l m : List Int), vs = [.ref a, .ref c] ∧ H a = some (.tup (l.map V.int)) ∧ H c = some (.tup (m.map V.int)) ∧ l.length = m.length ∧ l.length ≤ 1000 ∧ WD.MIn M H ∧
  ∀ v H', WD.Fr WD.M0 H H' → WD.rL (WD.rP WD.rI WD.rI) M H' v ((pairsL l m).map zP) → Q v H'
section
variable {P : Program} {w : World} {K : PySem.W.Frag} {mg : Str → Option Value} {base : Heap}
theorem ok__law_pairs (T : Tx K mg) : WD.Cal P w K mg base (CX0) 2 "_law_pairs" (He.ga K "_law_pairs") (sp__law_pairs K) [] := by
  obtain ⟨fd, F⟩ := T.F__law_pairs
  refine ⟨WD.fn0_of F sc__law_pairs (fun vs H Q E h => ?_) (fun _ _ _ _ _ _ us hl => match us, hl with | [_, _], _ => rfl) (fun cdv A outer s H vs Q E hr h => ?_), F.kp, T.g__law_pairs⟩
  · obtain ⟨M, a, c, l, m, rfl, ha, hc, hlm, hz, hM, k⟩ := h
    rfl
  · obtain ⟨M, a, c, l, m, rfl, ha, hc, hlm, hz, hM, k⟩ := h
    refine ⟨_, (pss_cons (ps_set (i := 2) sc__law_pairs.nd rfl (.inl rfl) (pe_lst pa_nil))
      (pss_cons (ps_for PassesOwn.never rfl (pi_range1 (by rfl) T.z_range (pa_cons (pe_callB (WD.k_call_len_seq K) (by rfl) T.z_len PySem.boot_len (pa_cons (pv 0) pa_nil)) pa_nil)) (pg_name (i := 3) sc__law_pairs.nd rfl (.inr rfl))
        (pss_one (ps_set (i := 2) sc__law_pairs.nd rfl (.inl rfl) (pe_op (WD.k_op_catL K) (pv 2) (pe_lc (own := [("_law_end", 4)]) rfl sc__law_pairs.nd (pi_range1 (by rfl) T.z_range (pa_cons (pe_callB (WD.k_call_len_seq K) (by rfl) T.z_len PySem.boot_len (pa_cons (pv 0) pa_nil)) pa_nil)) (blkOk_by (N := ["_law_one", "_law_other", "_law_found", "_law_begin", "_law_end"]) (sc := defScope s__law_pairs) (by decide +kernel)) (fun _ _ _ _ _ => (pg_name (i := 4) sc__law_pairs.nd rfl (.inl rfl))) (fun _ _ _ _ _ => (pts_one (pt_cmpR (WD.k_op_neD K hr.units) (WD.pe_cal (ok__law_amid T) (hr.mono (by decide)) (by rfl) (pa_cons (pv 0) (pa_cons (pv 1) (pa_cons (pv 3) (pa_cons (pv 4) pa_nil))))) (pe_lst pa_nil) (nomark _)))) (fun _ _ _ _ _ => (pe_tup (pa_cons (pv 3) (pa_cons (pv 4) pa_nil)))))))))
      (pss_one (ps_ret (pv 2))))), ?_⟩
    have hSz := sizeLine_eq
    have hln : (l.map V.int).length = l.length := List.length_map _
    have f0M : ∀ {H H' : Hp}, WD.Fr WD.M0 H H' → WD.Fr M H H' := fun f => f.mono fun x e => e.elim
    refine ⟨Nat.zero_le _, fun q nq => ?_⟩
    have fq : WD.Fr WD.M0 H (upd H q (.lst [])) := WD.Fr.new nq
    have haq := fq.keep _ _ (fun z => z) ha
    refine ⟨_, rfl, a, _, rfl, .inr (SqT.of haq), _, rfl, by omega, by omega, ?_⟩
    rw [hln, Int.toNat_natCast]
    refine for_it WD.walk_rg (fun i σ H' => ∃ v x3, σ = [some (.ref a), some (.ref c), some v, x3, none] ∧ WD.Fr WD.M0 H H' ∧ WD.rL (WD.rP WD.rI WD.rI) M H' v ((((allP l.length).take (i * l.length)).filter (isP l m)).map zP))
      ⟨_, none, rfl, fq, by rw [Nat.zero_mul]; exact ⟨q, [], rfl, hM.no nq, upd_same, trivial⟩⟩ (fun _ _ _ _ _ => trivial) (fun i x σ H2 H3 hi pp hy => ?_) (fun σ H2 pp => ?_)
    · obtain ⟨v, x3, rfl, f2, hv⟩ := pp
      obtain ⟨rfl, rfl⟩ := hy
      have ha2 := f2.keep _ _ (fun z => z) ha
      have hc2 := f2.keep _ _ (fun z => z) hc
      have hM2 := hM.to f2
      refine ⟨_, rfl, _, rfl, a, _, rfl, .inr (SqT.of ha2), _, rfl, by omega, by omega, ?_⟩
      rw [hln, Int.toNat_natCast]
      refine WD.lc_sift (R := WD.rP WD.rI WD.rI) WD.walk_rg (fun j => if isP l m (i, j) = true then some (zP (i, j)) else none) hM2 (by omega) (fun _ _ => trivial) (fun j M' H' hj t fr mi Ky Kn ky kn x H'' hy => ?_) (fun D H4 hD f4 hl4 => ?_)
      · obtain ⟨rfl, rfl⟩ := hy
        have ha3 := fr.keep _ _ (fun z => z) ha2
        have hc3 := fr.keep _ _ (fun z => z) hc2
        refine ⟨rfl, _, rfl, _, rfl, _, rfl, _, rfl, M', a, c, l, m, i, j, rfl, ha3, hc3, hlm, hz, hi, hj, mi, fun v5 H5 f5 hv5 => ?_⟩
        refine ⟨Nat.zero_le _, fun p np => ?_⟩
        have fp := WD.Fr.new (M := WD.M0) (o := .lst []) np
        have hv6 := WD.lstJ.mpr (WD.Rep.st (fp.mono fun _ z => z.elim) hv5)
        have hp6 : WD.rJ M' (upd H5 p (.lst [])) (.ref p) (.list ([].map .int)) := WD.lstJ.mpr ⟨p, [], rfl, (mi.to f5).no np, upd_same, trivial⟩
        refine WD.neJ hv6 hp6 (depthI _) (depthI _) ⟨_, rfl, ?_⟩
        rw [eqv_ints]
        have fz : WD.Fr WD.M0 H'' (upd H5 p (.lst [])) := f5.trans fp
        refine WD.iteN (fun hne => ?_) (fun heq => ?_)
        · have hp : isP l m (i, j) = true := by
            cases hp : isP l m (i, j) with
            | true => rfl
            | false => exact absurd (by rw [amids_ne.mpr hp]; rfl) hne
          refine ⟨_, rfl, _, rfl, by show 2 ≤ sizeLine; decide, fun p2 np2 => ?_⟩
          exact ky _ _ (zP (i, j)) (if_pos hp) (fz.trans (WD.Fr.new np2)) (WD.pair1 (R := WD.rI) (S := WD.rI) (mi.to fz) np2 rfl rfl)
        · have hp : isP l m (i, j) = false := amids_ne.mp (List.map_eq_nil_iff.mp heq)
          exact kn _ (if_neg (by rw [hp]; exact Bool.false_ne_true)) fz
      · rw [filterMap_if (fun j => isP l m (i, j)) (fun j => zP (i, j))] at hl4
        have hv4 := WD.Rep.st (f0M f4) hv
        have h1 : ((((allP l.length).take (i * l.length)).filter (isP l m)).map zP).length ≤ i * l.length := by
          rw [List.length_map]
          have h1 := List.length_filter_le (isP l m) ((allP l.length).take (i * l.length))
          have h2 := List.length_take_le (i * l.length) (allP l.length)
          omega
        have h2 : (((List.range l.length).filter fun j => isP l m (i, j)).map fun j => zP (i, j)).length ≤ l.length := by
          rw [List.length_map]
          have h1 := List.length_filter_le (fun j => isP l m (i, j)) (List.range l.length)
          rw [List.length_range] at h1
          exact h1
        have hbd2 : i * l.length ≤ 1000 * 1000 := Nat.mul_le_mul (by omega) hz
        refine WD.catL (hM2.to f4) hv4 hl4 (by omega) fun a5 H5 na5 f5 hr5 => ?_
        refine ⟨_, _, rfl, f2.trans (f4.trans f5), ?_⟩
        have e6 : ((i + 1) * l.length) = i * l.length + l.length := by rw [Nat.add_mul, Nat.one_mul]
        rw [e6, allP_take hi l.length (Nat.le_refl _), List.filter_append, List.map_append, List.filter_map, List.map_map]
        exact hr5
    · obtain ⟨v, x3, rfl, f2, hv⟩ := pp
      rw [List.take_of_length_le (by rw [allP_len]; exact Nat.le_refl _)] at hv
      exact ⟨_, rfl, k _ _ f2 hv⟩
end
def sp__law_is_thing (K : PySem.W.Frag) : Sp := fun vs H Q _ => ∃ v n b, vs = [v, .int n] ∧ WD.Thing K H n v b ∧ Q (.bl b) H
section
variable {P : Program} {w : World} {K : PySem.W.Frag} {mg : Str → Option Value} {base : Heap}
theorem ok__law_is_thing (T : Tx K mg) : WD.Cal P w K mg base (CX0) 1 "_law_is_thing" (He.ga K "_law_is_thing") (sp__law_is_thing K) [] := by
  obtain ⟨fd, F⟩ := T.F__law_is_thing
  refine ⟨WD.fn0_of F sc__law_is_thing (fun vs H Q E h => ?_) (fun _ _ _ _ _ _ us hl => match us, hl with | [_, _], _ => rfl) (fun cdv A outer s H vs Q E hr h => ?_), F.kp, T.g__law_is_thing⟩
  · obtain ⟨v, n, b, rfl, hw, k⟩ := h
    rfl
  · obtain ⟨v, n, b, rfl, hw, k⟩ := h
    refine ⟨_, (pss_one (ps_ret (pe_and (pe_callB (WD.k_call_isi K) (by rfl) T.z_isinstance WD.bt_isinstance (pa_cons (pv 0) (pa_cons (pe_bltn (v := .ty "int") (by rfl) T.z_int WD.bt_int rfl) pa_nil))) (pe_and (pe_not (pe_callB (WD.k_call_isi K) (by rfl) T.z_isinstance WD.bt_isinstance (pa_cons (pv 0) (pa_cons (pe_bltn (v := .ty "bool") (by rfl) T.z_bool WD.bt_bool rfl) pa_nil)))) (pe_one (pe_chain op_le op_lt pe_int (pv 0) (pv 1))))))), ?_⟩
    cases hw with
    | int i =>
      refine ⟨_, rfl, _, _, _, _, true, rfl, .ty "int", .base (.int i), kit_ty (by decide +kernel), true, rfl, iteT ?_⟩
      refine ⟨_, rfl, _, _, _, _, false, rfl, .ty "bool", .base (.int i), kit_ty (by decide +kernel), false, rfl, true, rfl, iteT ?_⟩
      refine ⟨_, rfl, _, _, rfl, rfl, _, rfl, WD.iteD (fun h => ?_) (fun h => ?_)⟩
      · refine ⟨_, rfl, _, _, rfl, rfl, ?_⟩
        have e : WD.inR n i = decide (i < n) := by unfold WD.inR; rw [decide_eq_true h]; rfl
        rw [e] at k
        exact k
      · have e : WD.inR n i = false := by unfold WD.inR; rw [decide_eq_false h]; rfl
        rw [e] at k
        exact k
    | bl b =>
      refine ⟨_, rfl, _, _, _, _, true, rfl, .ty "int", .base (.bl b), kit_ty (by decide +kernel), true, rfl, iteT ?_⟩
      exact ⟨_, rfl, _, _, _, _, true, rfl, .ty "bool", .base (.bl b), kit_ty (by decide +kernel), true, rfl, false, rfl, iteF k⟩
    | oth h e =>
      exact ⟨_, rfl, _, _, _, _, false, rfl, .ty "int", h, kit_ty e, false, rfl, iteF k⟩
end
/-! ### the plain law: partings that permute -/
def alikeL (l m : List Int) : Bool := (pairsL l m).all (isP m l)
section
variable {l m : List Int}
theorem isP_swap (hlm : l.length = m.length) {b e : Nat} : isP m l (b, e) = isP l m (e, b) := by
  have h : isP m l (b, e) = true ↔ isP l m (e, b) = true := by
    rw [isP_iff, isP_iff]
    exact ⟨fun ⟨t, h1, h2, h3⟩ => ⟨t, by omega, h3, h2⟩, fun ⟨t, h1, h2, h3⟩ => ⟨t, by omega, h3, h2⟩⟩
  cases h1 : isP m l (b, e) <;> cases h2 : isP l m (e, b)
  · rfl
  · exact absurd (h.mpr h2) (by rw [h1]; exact Bool.false_ne_true)
  · exact absurd (h.mp h1) (by rw [h2]; exact Bool.false_ne_true)
  · rfl
theorem mem_allP {n b e : Nat} (hb : b < n) (he : e < n) : (b, e) ∈ allP n := List.mem_of_getElem? (allP_at hb he)
theorem mem_pairs {b e : Nat} (hb : b < l.length) (he : e < l.length) : (b, e) ∈ pairsL l m ↔ isP l m (b, e) = true := by
  unfold pairsL
  rw [List.mem_filter]
  exact ⟨fun h => h.2, fun h => ⟨mem_allP hb he, h⟩⟩
theorem alike_sym (hlm : l.length = m.length) (h : alikeL l m = true) {b e : Nat} (hb : b < l.length) (he : e < l.length) (hp : isP l m (b, e) = true) : isP l m (e, b) = true := by
  have := List.all_eq_true.mp h _ ((mem_pairs hb he).mpr hp)
  rw [isP_swap hlm] at this
  exact this
theorem alike_trans (hlm : l.length = m.length) (h : alikeL l m = true) {a b c : Nat} (ha : a < l.length) (hb : b < l.length) (hc : c < l.length) (h1 : isP l m (a, b) = true) (h2 : isP l m (b, c) = true) : isP l m (a, c) = true := by
  obtain ⟨t, t0, t1, t2⟩ := isP_iff.mp h1
  obtain ⟨u, u0, u1, u2⟩ := isP_iff.mp h2
  have h3 : isP l m (u, t) = true := isP_iff.mpr ⟨b, hb, u1.symm, t2.symm⟩
  obtain ⟨s, s0, s1, s2⟩ := isP_iff.mp (alike_sym hlm h u0 t0 h3)
  exact isP_iff.mpr ⟨s, s0, s1.trans t1, s2.trans u2⟩
theorem alike_swap (hlm : l.length = m.length) : alikeL m l = alikeL l m := by
  have key : ∀ {l m : List Int}, l.length = m.length → alikeL l m = true → alikeL m l = true := fun {l m} hlm h => by
    refine List.all_eq_true.mpr fun p hp => ?_
    obtain ⟨b, e⟩ := p
    obtain ⟨h1, h2⟩ := pairs_mem hp
    have h3 := (mem_pairs h1 h2).mp hp
    rw [isP_swap hlm] at h3
    have h4 := alike_sym hlm h (show e < l.length by dsimp only at h2; omega) (show b < l.length by dsimp only at h1; omega) h3
    exact h4
  cases h1 : alikeL m l <;> cases h2 : alikeL l m
  · rfl
  · exact absurd (key hlm h2) (by rw [h1]; exact Bool.false_ne_true)
  · exact absurd (key hlm.symm h1) (by rw [h2]; exact Bool.false_ne_true)
  · rfl
/-! marks -/
def PassOk (f μ μ' : List Int) : Prop := μ'.length = f.length ∧ ∀ x, x < f.length → (∃ k, k < f.length ∧ f.getD k 0 = f.getD x 0 ∧ μ'.getD x 0 = μ.getD k 0) ∧ ∀ k, k < f.length → f.getD k 0 = f.getD x 0 → μ'.getD x 0 ≤ μ.getD k 0
def Jn (l m μ : List Int) : Prop := μ.length = l.length ∧ ∀ x, x < l.length → (∃ z, z < l.length ∧ isP l m (z, x) = true ∧ μ.getD x 0 = (z : Int)) ∧ ∀ z, z < l.length → isP l m (z, x) = true → μ.getD x 0 ≤ (z : Int)
def A1 (l μ : List Int) : Prop := μ.length = l.length ∧ ∀ x, x < l.length → (∃ z, z < l.length ∧ l.getD z 0 = l.getD x 0 ∧ μ.getD x 0 = (z : Int)) ∧ ∀ z, z < l.length → l.getD z 0 = l.getD x 0 → μ.getD x 0 ≤ (z : Int)
def Mk (l m : List Int) : Nat → List Int → Prop
  | 0, μ => μ = (List.range l.length).map fun (i : Nat) => (i : Int)
  | 1, μ => A1 l μ
  | _ + 2, μ => Jn l m μ
theorem Mk.len {k : Nat} {μ : List Int} (h : Mk l m k μ) : μ.length = l.length := by
  match k, h with
  | 0, h => rw [show μ = _ from h]; simp
  | 1, h => exact h.1
  | _ + 2, h => exact h.1
theorem pass0 {μ μ' : List Int} (h : Mk l m 0 μ) (p : PassOk l μ μ') : A1 l μ' := by
  have hμ : ∀ k, k < l.length → μ.getD k 0 = (k : Int) := fun k hk => by
    rw [show μ = _ from h, List.getD_eq_getElem?_getD, List.getElem?_map, List.getElem?_range hk]; rfl
  refine ⟨p.1, fun x hx => ?_⟩
  obtain ⟨⟨k, k0, k1, k2⟩, h2⟩ := p.2 x hx
  refine ⟨⟨k, k0, k1, by rw [k2, hμ k k0]⟩, fun z z0 z1 => ?_⟩
  have := h2 z z0 z1
  rw [hμ z z0] at this
  exact this
theorem pass1 (hlm : l.length = m.length) {μ μ' : List Int} (h : A1 l μ) (p : PassOk m μ μ') : Jn l m μ' := by
  refine ⟨p.1.trans hlm.symm, fun x hx => ?_⟩
  obtain ⟨⟨k, k0, k1, k2⟩, h2⟩ := p.2 x (by omega)
  obtain ⟨⟨z, z0, z1, z2⟩, _⟩ := h.2 k (by omega)
  refine ⟨⟨z, z0, isP_iff.mpr ⟨k, by omega, z1.symm, k1⟩, by rw [k2, z2]⟩, fun y y0 y1 => ?_⟩
  obtain ⟨t, t0, t1, t2⟩ := isP_iff.mp y1
  have h3 := h2 t (by omega) t2
  have h4 := (h.2 t t0).2 y y0 t1.symm
  omega
theorem pass2 (hlm : l.length = m.length) (ha : alikeL l m = true) {f μ μ' : List Int} (hf : f.length = l.length) (hp : ∀ k x, k < l.length → x < l.length → f.getD k 0 = f.getD x 0 → isP l m (k, x) = true) (h : Jn l m μ) (p : PassOk f μ μ') : Jn l m μ' := by
  refine ⟨p.1.trans hf, fun x hx => ?_⟩
  obtain ⟨⟨k, k0, k1, k2⟩, h2⟩ := p.2 x (by omega)
  obtain ⟨⟨z, z0, z1, z2⟩, _⟩ := h.2 k (by omega)
  refine ⟨⟨z, z0, alike_trans hlm ha z0 (by omega) hx z1 (hp k x (by omega) hx k1), by rw [k2, z2]⟩, fun y y0 y1 => ?_⟩
  have h3 := h2 x (by omega) rfl
  have h4 := (h.2 x hx).2 y y0 y1
  omega
theorem passE (hlm : l.length = m.length) (ha : alikeL l m = true) {i : Nat} {μ μ' : List Int} (h : Mk l m (2 * i) μ) (p : PassOk l μ μ') : Mk l m (2 * i + 1) μ' := by
  match i, h with
  | 0, h => exact pass0 (m := m) h p
  | i + 1, h =>
    have h' : Jn l m μ := h
    show Jn l m μ'
    exact pass2 hlm ha rfl (fun k x hk hx e => isP_iff.mpr ⟨x, hx, e.symm, rfl⟩) h' p
theorem passO (hlm : l.length = m.length) (ha : alikeL l m = true) {i : Nat} {μ μ' : List Int} (h : Mk l m (2 * i + 1) μ) (p : PassOk m μ μ') : Mk l m (2 * i + 2) μ' := by
  match i, h with
  | 0, h => exact pass1 hlm h p
  | i + 1, h =>
    have h' : Jn l m μ := h
    show Jn l m μ'
    exact pass2 hlm ha hlm.symm (fun k x hk hx e => isP_iff.mpr ⟨k, hk, rfl, e⟩) h' p
theorem Jn.iff (hlm : l.length = m.length) (ha : alikeL l m = true) {μ : List Int} (h : Jn l m μ) {b e : Nat} (hb : b < l.length) (he : e < l.length) : isP l m (b, e) = decide (μ.getD b 0 = μ.getD e 0) := by
  cases hp : isP l m (b, e) with
  | true =>
    refine (decide_eq_true ?_).symm
    have le : ∀ {b e : Nat}, b < l.length → e < l.length → isP l m (b, e) = true → μ.getD e 0 ≤ μ.getD b 0 := fun {b e} hb he hp => by
      obtain ⟨z, z0, z1, z2⟩ := (h.2 b hb).1
      rw [z2]
      exact (h.2 e he).2 z z0 (alike_trans hlm ha z0 hb he z1 hp)
    have h1 := le hb he hp
    have h2 := le he hb (alike_sym hlm ha hb he hp)
    omega
  | false =>
    refine (decide_eq_false fun q => ?_).symm
    obtain ⟨z, z0, z1, z2⟩ := (h.2 b hb).1
    obtain ⟨y, y0, y1, y2⟩ := (h.2 e he).1
    have e1 : z = y := by omega
    subst e1
    have := alike_trans hlm ha hb z0 he (alike_sym hlm ha z0 hb z1) y1
    rw [hp] at this
    cases this
/-! counting -/
theorem cnt_take {n : Nat} (q : Nat × Nat → Bool) : ∀ i, i ≤ n → (((allP n).take (i * n)).filter q).length = ((List.range i).map fun x => ((List.range n).filter fun y => q (x, y)).length).sum
  | 0, _ => by simp
  | i + 1, hi => by
    have e6 : ((i + 1) * n) = i * n + n := by rw [Nat.add_mul, Nat.one_mul]
    rw [e6, allP_take (show i < n by omega) n (Nat.le_refl _), List.filter_append, List.length_append, cnt_take q i (by omega), List.range_succ, List.map_append, List.sum_append, List.filter_map, List.length_map]
    simp [Function.comp_def]
theorem sum_cast (c : Nat → Nat) : ∀ L : List Nat, (L.map fun i => (c i : Int)).sum = (((L.map c).sum : Nat) : Int)
  | [] => rfl
  | a :: L => by
    rw [List.map_cons, List.sum_cons, sum_cast c L, List.map_cons, List.sum_cons]
    omega
theorem cnt_all (hlm : l.length = m.length) (ha : alikeL l m = true) {μ : List Int} (h : Jn l m μ) : ((List.range μ.length).map fun i => ((μ.countP fun y => decide (y = μ.getD i 0) : Nat) : Int)).sum = ((pairsL l m).length : Int) := by
  rw [sum_cast]
  congr 1
  have e1 : (pairsL l m).length = (((allP l.length).take (l.length * l.length)).filter (isP l m)).length := by
    rw [List.take_of_length_le (by rw [allP_len]; exact Nat.le_refl _)]; rfl
  rw [e1, cnt_take (isP l m) l.length (Nat.le_refl _), h.1]
  congr 1
  refine List.map_congr_left fun x hx => ?_
  have hx := List.mem_range.mp hx
  have e2 : (List.range l.length).map (fun i => μ.getD i 0) = μ := by
    have := WD.mapRange (fun x : Int => x) 0 μ h.1.symm
    rw [List.map_id''] at this
    · exact this
    · exact fun _ => rfl
  rw [← List.countP_eq_length_filter]
  conv => lhs; rw [← e2]
  rw [List.countP_map]
  refine List.countP_congr fun y hy => ?_
  have hy := List.mem_range.mp hy
  rw [h.iff hlm ha hx hy]
  have e3 : ((List.range l.length).map fun i => μ.getD i 0).getD x 0 = μ.getD x 0 := by rw [e2]
  simp only [Function.comp, decide_eq_true_eq, e3]
  exact ⟨fun z => z.symm, fun z => z.symm⟩
/-! the answer -/
def hom (l m : List Int) (p : Nat × Nat) : Nat := (amid m l p.1 p.2).getD 0
def trip (l m : List Int) (p : Nat × Nat) : PyData := .tuple [.int p.1, .int p.2, .int (hom l m p)]
theorem walk_yes : ∀ (L : List (Nat × Nat)) (acc : List PyData), (∀ p ∈ L, isP l m p = true → isP m l p = true) → walkP l m L acc = .tuple [.str "yes", .list (acc ++ (L.filter (isP l m)).map (trip l m))]
  | [], acc, _ => by simp [walkP]
  | p :: L, acc, h => by
    have ih := fun acc => walk_yes L acc fun q hq => h q (List.mem_cons_of_mem _ hq)
    unfold walkP
    cases h1 : amid l m p.1 p.2 with
    | none =>
      have hp : isP l m p = false := by unfold isP; rw [h1]; rfl
      rw [List.filter_cons_of_neg (by rw [hp]; exact Bool.false_ne_true)]
      exact ih acc
    | some a =>
      have hp : isP l m p = true := by unfold isP; rw [h1]; rfl
      have hq := h p List.mem_cons_self hp
      unfold isP at hq
      obtain ⟨t, ht⟩ := Option.isSome_iff_exists.mp hq
      rw [List.filter_cons_of_pos hp, List.map_cons]
      dsimp only
      rw [ht]
      dsimp only
      rw [ih, List.append_assoc]
      have e : trip l m p = .tuple [.int p.1, .int p.2, .int t] := by unfold trip hom; rw [ht]; rfl
      rw [e]; rfl
theorem answer_yes (h : alikeL l m = true) : answer l m = .tuple [.str "yes", .list ((pairsL l m).map (trip l m))] := by
  unfold answer
  rw [walk_yes _ _ fun p hp hq => List.all_eq_true.mp h p (List.mem_filter.mpr ⟨hp, hq⟩)]
  rfl
theorem walk_no : ∀ (L : List (Nat × Nat)) (acc : List PyData), (∃ p ∈ L, isP l m p = true ∧ isP m l p = false) → ∃ p a, p ∈ L ∧ amid l m p.1 p.2 = some a ∧ amid m l p.1 p.2 = none ∧ walkP l m L acc = .tuple [.str "no", .tuple [.int p.1, .int a, .int p.2]]
  | [], _, h => by obtain ⟨p, hp, _⟩ := h; cases hp
  | p :: L, acc, h => by
    have rest : (∃ q ∈ L, isP l m q = true ∧ isP m l q = false) ∨ (isP l m p = true ∧ isP m l p = false) := by
      obtain ⟨q, hq, h2⟩ := h
      rcases List.mem_cons.mp hq with e | e
      · rw [e] at h2; exact .inr h2
      · exact .inl ⟨q, e, h2⟩
    unfold walkP
    cases h1 : amid l m p.1 p.2 with
    | none =>
      have hp : isP l m p = false := by unfold isP; rw [h1]; rfl
      rcases rest with r | r
      · obtain ⟨q, a, h3, h4, h5, h6⟩ := walk_no L acc r
        exact ⟨q, a, List.mem_cons_of_mem _ h3, h4, h5, h6⟩
      · rw [hp] at r; cases r.1
    | some a =>
      dsimp only
      cases h2 : amid m l p.1 p.2 with
      | none => exact ⟨p, a, List.mem_cons_self, h1, h2, rfl⟩
      | some t =>
        have hp : isP m l p = true := by unfold isP; rw [h2]; rfl
        rcases rest with r | r
        · obtain ⟨q, b, h3, h4, h5, h6⟩ := walk_no L (acc ++ [.tuple [.int p.1, .int p.2, .int t]]) r
          exact ⟨q, b, List.mem_cons_of_mem _ h3, h4, h5, h6⟩
        · rw [hp] at r; cases r.2
theorem answer_no (h : alikeL l m = false) : ∃ b a e, b < l.length ∧ e < l.length ∧ amid l m b e = some a ∧ amid m l b e = none ∧ answer l m = .tuple [.str "no", .tuple [.int (b : Nat), .int (a : Nat), .int (e : Nat)]] := by
  obtain ⟨p, hp, hq⟩ := List.all_eq_false.mp h
  have hpp := List.mem_filter.mp hp
  obtain ⟨q, a, h1, h2, h3, h4⟩ := walk_no (l := l) (m := m) (allP l.length) [] ⟨p, hpp.1, hpp.2, by simpa using hq⟩
  have := allP_mem h1
  exact ⟨q.1, a, q.2, this.1, this.2, h2, h3, h4⟩
theorem amid_some {b e a : Nat} (h : amid l m b e = some a) : a < l.length ∧ l.getD a 0 = l.getD b 0 ∧ m.getD a 0 = m.getD e 0 := by
  unfold amid at h
  have h1 := List.find?_some h
  have h2 := List.mem_of_find?_eq_some h
  simp only [Bool.and_eq_true, decide_eq_true_eq] at h1
  exact ⟨List.mem_range.mp h2, h1.1, h1.2⟩
end

def sp__law_joined (K : PySem.W.Frag) : Sp := fun vs H Q _ => ∃ (M : WD.MS) (a c : Addr) (l m : List Int), vs = [.ref a, .ref c] ∧ H a = some (.tup (l.map V.int)) ∧ H c = some (.tup (m.map V.int)) ∧ l.length = m.length ∧ 1 ≤ l.length ∧ l.length ≤ 1000 ∧ WD.MIn M H ∧ alikeL l m = true ∧
  ∀ v H' μ, WD.Fr WD.M0 H H' → WD.rL WD.rI M H' v μ → Jn l m μ → Q v H'
section
variable {P : Program} {w : World} {K : PySem.W.Frag} {mg : Str → Option Value} {base : Heap}
theorem ok__law_joined (T : Tx K mg) : WD.Cal P w K mg base (CX0) 1 "_law_joined" (He.ga K "_law_joined") (sp__law_joined K) [] := by
  obtain ⟨fd, F⟩ := T.F__law_joined
  refine ⟨WD.fn0_of F sc__law_joined (fun vs H Q E h => ?_) (fun _ _ _ _ _ _ us hl => match us, hl with | [_, _], _ => rfl) (fun cdv A outer s H vs Q E hr h => ?_), F.kp, T.g__law_joined⟩
  · obtain ⟨M, a, c, l, m, rfl, ha, hc, hlm, hz0, hz, hM, hal, k⟩ := h
    rfl
  · obtain ⟨M, a, c, l, m, rfl, ha, hc, hlm, hz0, hz, hM, hal, k⟩ := h
    refine ⟨_, (pss_cons (ps_set (i := 2) sc__law_joined.nd rfl (.inr rfl) (pe_listRg rfl (by rfl) T.z_list (prg_1 (by rfl) T.z_range (pe_callB (WD.k_call_len_seq K) (by rfl) T.z_len PySem.boot_len (pa_cons (pv 0) pa_nil)))))
      (pss_cons (ps_for PassesOwn.never rfl (pi_range1 (by rfl) T.z_range (pa_cons (pe_op op_mul pe_int (pe_callB (WD.k_call_len_seq K) (by rfl) T.z_len PySem.boot_len (pa_cons (pv 0) pa_nil))) pa_nil)) (pg_name (i := 3) sc__law_joined.nd rfl (.inl rfl))
        (pss_one (ps_for PassesOwn.never rfl (WD.k_pi_list K (pe_lst (pa_cons (pv 0) (pa_cons (pv 1) pa_nil)))) (pg_name (i := 4) sc__law_joined.nd rfl (.inr rfl))
        (pss_one (ps_set (i := 2) sc__law_joined.nd rfl (.inr rfl) (pe_lc (own := [("_law_least", 5)]) rfl sc__law_joined.nd (WD.k_pi_tup K (pv 4)) (blkOk_by (N := ["_law_one", "_law_other", "_law_marks", "_law_turn", "_law_folding", "_law_least", "_law_k"]) (sc := defScope s__law_joined) (by decide +kernel)) (fun _ _ _ _ _ => (pg_name (i := 5) sc__law_joined.nd rfl (.inr rfl))) (fun _ _ _ _ _ => pts_nil) (fun _ _ _ _ _ => (pe_callB (WD.k_cr_min K rfl) (by rfl) T.z_min WD.bt_min (pa_cons (pe_lc (own := [("_law_k", 6)]) rfl sc__law_joined.nd (pi_range1 (by rfl) T.z_range (pa_cons (pe_callB (WD.k_call_len_seq K) (by rfl) T.z_len PySem.boot_len (pa_cons (pv 0) pa_nil)) pa_nil)) (blkOk_by (by kernel_rfl)) (fun _ _ _ _ _ => (pg_name (i := 6) sc__law_joined.nd rfl (.inl rfl))) (fun _ _ _ _ _ => (pts_one (pt_cmpR op_eq (pe_ix (WD.k_ix_tup K) (pv 4) (pv 6) (fun _ _ => rfl)) (pv 5) (nomark _)))) (fun _ _ _ _ _ => (pe_ix (WD.k_ix_list K) (pv 2) (pv 6) (fun _ _ => rfl)))) pa_nil)))))))))
      (pss_one (ps_ret (pv 2))))), ?_⟩
    have hSz := sizeLine_eq
    have hln : (l.map V.int).length = l.length := List.length_map _
    have f0M : ∀ {H H' : Hp}, WD.Fr WD.M0 H H' → WD.Fr M H H' := fun f => f.mono fun x e => e.elim
    refine ⟨_, rfl, a, _, rfl, .inr (SqT.of ha), _, rfl, ⟨by omega, by omega, by omega, by omega, by omega⟩, fun q nq => ?_⟩
    rw [hln, rgV_ints]
    have fq := WD.Fr.new (M := WD.M0) (o := .lst (((List.range l.length).map fun (i : Nat) => (i : Int)).map V.int)) nq
    have haq := fq.keep _ _ (fun z => z) ha
    refine ⟨_, rfl, a, _, rfl, .inr (SqT.of haq), _, _, rfl, rfl, .inl ⟨by decide, by decide⟩, _, rfl, by omega, by omega, ?_⟩
    rw [hln]
    have e2n : (2 * (l.length : Int)).toNat = 2 * l.length := by omega
    rw [e2n]
    refine for_it WD.walk_rg (fun i σ H' => ∃ v x3 x4 μ, σ = [some (.ref a), some (.ref c), some v, x3, x4, none, none] ∧ WD.Fr WD.M0 H H' ∧ WD.rL WD.rI M H' v μ ∧ Mk l m (2 * i) μ)
      ⟨_, none, none, _, rfl, fq, WD.mkLstI (hM.no nq) upd_same, rfl⟩ (fun _ _ _ _ _ => trivial) (fun i x σ H2 H3 hi pp hy => ?_) (fun σ H2 pp => ?_)
    · obtain ⟨v, x3, x4, μ, rfl, f2, hv, hk⟩ := pp
      obtain ⟨rfl, rfl⟩ := hy
      refine ⟨_, rfl, _, rfl, by show 2 ≤ sizeLine; decide, fun q2 nq2 => ?_⟩
      have fq2 := WD.Fr.new (M := WD.M0) (o := .lst [.ref a, .ref c]) nq2
      refine ⟨q2, rfl, ⟨_, SqL.of upd_same⟩, ?_⟩
      refine for_it (walk_list (xs := [V.ref a, V.ref c])) (fun j σ H' => ∃ v x4 μ, σ = [some (.ref a), some (.ref c), some v, some (.int i), x4, none, none] ∧ WD.Fr WD.M0 (upd H3 q2 (.lst [.ref a, .ref c])) H' ∧ WD.rL WD.rI M H' v μ ∧ Mk l m (2 * i + j) μ)
        ⟨v, x4, μ, rfl, WD.Fr.refl _, WD.Rep.st (f0M fq2) hv, hk⟩ (fun j σ H' _ ⟨_, _, _, _, f, _⟩ => SqL.of (f.keep _ _ (fun z => z) upd_same)) (fun j y σ H4 H5 hj pp hy => ?_) (fun σ H4 pp => ?_)
      · obtain ⟨v, x4, μ, rfl, f4, hv4, hk4⟩ := pp
        obtain ⟨rfl, hy⟩ := hy
        have F4 := f2.trans (fq2.trans f4)
        have hM4 := hM.to F4
        have ha4 := F4.keep _ _ (fun z => z) ha
        have hc4 := F4.keep _ _ (fun z => z) hc
        obtain ⟨b, rfl, nb, hb⟩ := WD.lstI hv4
        have hμl := hk4.len
        -- one pass
        have hj2 : j < 2 := hj
        obtain ⟨fa, f, rfl, hfa, hfl, hstep⟩ : ∃ (fa : Addr) (f : List Int), y = .ref fa ∧ H5 fa = some (.tup (f.map V.int)) ∧ f.length = l.length ∧ ∀ μ', PassOk f μ μ' → Mk l m (2 * i + (j + 1)) μ' := by
          rcases (show j = 0 ∨ j = 1 by omega) with e | e
          · subst e
            have e : y = .ref a := (Option.some.inj hy).symm
            exact ⟨a, l, e, ha4, rfl, fun μ' p => passE hlm hal hk4 p⟩
          · subst e
            have e : y = .ref c := (Option.some.inj hy).symm
            exact ⟨c, m, e, hc4, hlm.symm, fun μ' p => passO hlm hal hk4 p⟩
        have hfn : (f.map V.int).length = l.length := by rw [List.length_map, hfl]
        refine ⟨_, rfl, fa, rfl, ⟨_, SqT.of hfa⟩, ?_⟩
        refine WD.lc_gen (R := WD.rI) (walk_tup (xs := f.map V.int)) (M := M) (Mf := WD.M0) (J := WD.J0) (fun _ h => h.elim) WD.jok0 (by omega) hM4 trivial (fun x o => ∃ r : Int, o = some r ∧ (∃ k, k < f.length ∧ f.getD k 0 = f.getD x 0 ∧ r = μ.getD k 0) ∧ ∀ k, k < f.length → f.getD k 0 = f.getD x 0 → r ≤ μ.getD k 0) (fun _ H' _ g => SqT.of (g.keep _ _ (fun z => z) hfa)) (fun x M' H' hx t fr mi sb hJ Ky Kn ky kn y H'' hy => ?_) (fun D l7 H7 hD ll7 lP7 f7 _ hl7 => ?_)
        · obtain ⟨rfl, hy⟩ := hy
          have hx' : x < f.length := by rw [List.length_map] at hx; exact hx
          rw [List.getElem?_map] at hy
          obtain ⟨lst, el, rfl⟩ := Option.map_eq_some_iff.mp hy
          have elx : f.getD x 0 = lst := by rw [List.getD_eq_getElem?_getD, el]; rfl
          have ha6 := fr.keep _ _ (fun z => z) ha4
          have hb6 := fr.keep _ _ (fun z => z) hb
          have hfa6 := fr.keep _ _ (fun z => z) hfa
          refine ⟨rfl, _, rfl, a, _, rfl, .inr (SqT.of ha6), _, rfl, by omega, by omega, ?_⟩
          rw [hln, Int.toNat_natCast]
          refine WD.lc_sift (R := WD.rI) WD.walk_rg (fun k => if decide (f.getD k 0 = f.getD x 0) = true then some (μ.getD k 0) else none) mi (by omega) (fun _ _ => trivial) (fun k' M2 H6 hk' t2 fr2 mi2 Ky2 Kn2 ky2 kn2 z H9 hz9 => ?_) (fun D2 H8 hD2 f8 hl8 => ?_)
          · obtain ⟨rfl, rfl⟩ := hz9
            have hb7 := fr2.keep _ _ (fun z => z) hb6
            have hfa7 := fr2.keep _ _ (fun z => z) hfa6
            refine ⟨rfl, _, rfl, _, rfl, getI (SqT.of hfa7) (by omega) ?_ rfl⟩
            refine ⟨_, rfl, rfl, _, rfl, WD.iteD (fun h1 => ?_) (fun h1 => ?_)⟩
            · have h1' : f.getD k' 0 = f.getD x 0 := by rw [elx]; exact V.int.inj h1
              refine ⟨_, rfl, _, rfl, b, _, (k' : Int), .int (μ.getD k' 0), rfl, rfl, SqL.of hb7, ?_, ?_⟩
              · have hlt : ((k' : Int)).toNat < μ.length := by omega
                rw [WD.atI_int (by omega) hlt]
                congr 2
                rw [List.getD_eq_getElem?_getD, List.getElem?_eq_getElem (show k' < μ.length by omega)]
                rfl
              · exact ky2 _ _ (μ.getD k' 0) (by rw [decide_eq_true h1']; rfl) (WD.Fr.refl _) rfl
            · have h1' : ¬ f.getD k' 0 = f.getD x 0 := by rw [elx]; exact fun z => h1 (congrArg V.int z)
              exact kn2 _ (by rw [decide_eq_false h1']; rfl) (WD.Fr.refl _)
          · rw [filterMap_if] at hl8
            obtain ⟨D2', e8, nD2, hD8⟩ := WD.lstI hl8
            cases e8
            have memI : ∀ r : Int, r ∈ ((List.range l.length).filter fun k => decide (f.getD k 0 = f.getD x 0)).map (fun k => μ.getD k 0) ↔ ∃ k, k < f.length ∧ f.getD k 0 = f.getD x 0 ∧ r = μ.getD k 0 := fun r => by
              rw [List.mem_map]
              constructor
              · rintro ⟨k, hk, rfl⟩
                obtain ⟨h1, h2⟩ := List.mem_filter.mp hk
                exact ⟨k, by rw [hfl]; exact List.mem_range.mp h1, of_decide_eq_true h2, rfl⟩
              · rintro ⟨k, h1, h2, rfl⟩
                exact ⟨k, List.mem_filter.mpr ⟨List.mem_range.mpr (by omega), decide_eq_true h2⟩, rfl⟩
            refine ⟨D2, _, rfl, SqL.of hD8, List.length_pos_of_mem ((memI (μ.getD x 0)).mpr ⟨x, hx', rfl, rfl⟩), fun r hr1 hr2 => ?_⟩
            exact ky _ _ r ⟨r, rfl, (memI r).mp hr1, fun k h1 h2 => hr2 _ ((memI _).mpr ⟨k, h1, h2, rfl⟩)⟩ f8 trivial rfl
        · obtain ⟨hn7, hP7⟩ := WD.all_of (P := fun x r => (∃ k, k < f.length ∧ f.getD k 0 = f.getD x 0 ∧ r = μ.getD k 0) ∧ ∀ k, k < f.length → f.getD k 0 = f.getD x 0 → r ≤ μ.getD k 0) ll7 lP7
          generalize l7.filterMap id = μ' at hl7 hn7 hP7
          have hμ' : μ'.length = f.length := by rw [hn7, List.length_map]
          refine ⟨_, _, μ', rfl, f4.trans f7, hl7, hstep μ' ⟨hμ', fun x hx => ?_⟩⟩
          have ex : μ'[x]? = some (μ'.getD x 0) := by rw [List.getD_eq_getElem?_getD, List.getElem?_eq_getElem (show x < μ'.length by omega)]; rfl
          exact hP7 x _ ex
      · obtain ⟨v, x4, μ, rfl, f4, hv4, hk4⟩ := pp
        exact ⟨_, _, _, μ, rfl, f2.trans (fq2.trans f4), hv4, hk4⟩
    · obtain ⟨v, x3, x4, μ, rfl, f2, hv, hk⟩ := pp
      refine ⟨_, rfl, k _ _ μ f2 hv ?_⟩
      have e : 2 * (2 * l.length) = (2 * (2 * l.length) - 2) + 2 := by omega
      rw [e] at hk
      exact hk
end
theorem notInI {K : PySem.W.Frag} {M : WD.MS} {H : Hp} {y : V} {l : List Int} {h : Int} {Q : VK} (hy : WD.rL WD.rI M H y l) (k : Q (.bl (!decide (h ∈ l))) H) : rNotInD K (.int h) y H Q := by
  obtain ⟨g1, g2⟩ := WD.rJ_dp (K := K) _ _ (WD.lstJ.mpr hy)
  refine ⟨.int h, l.map .int, .int h, g1, rfl, WD.shaped_of g2 (depthI l) (Nat.le_refl _), ?_⟩
  have e : (l.map PyData.int).any (fun z => PyData.eqv z (.int h)) = decide (h ∈ l) := by
    rw [List.any_map]
    clear hy k g1 g2
    induction l with
    | nil => simp
    | cons a l ih =>
      rw [List.any_cons, ih]
      show ((a == h) || decide (h ∈ l)) = decide (h ∈ a :: l)
      rw [Bool.beq_eq_decide_eq]
      by_cases h1 : a = h
      · simp [h1]
      · by_cases h2 : h ∈ l
        · simp [h2]
        · have h3 : ¬ h = a := fun z => h1 z.symm
          simp [h1, h2, h3]
  rw [e]
  exact k
theorem pairJ {M : WD.MS} {H : Hp} {v : V} {p : Int × Int} (h : WD.rP WD.rI WD.rI M H v p) : WD.rJ M H v (.tuple [.int p.1, .int p.2]) := by
  obtain ⟨a, v1, v2, rfl, na, ha, h1, h2⟩ := h
  exact WD.rJ_tuple.mpr ⟨a, _, rfl, na, ha, WD.rJ_int.mpr h1, WD.rJ_int.mpr h2, trivial⟩
theorem eqv_pair (a b c d : Int) : PyData.eqv (.tuple [.int a, .int b]) (.tuple [.int c, .int d]) = (decide (a = c) && decide (b = d)) := by
  show ((a == c) && ((b == d) && true)) = _
  rw [Bool.beq_eq_decide_eq, Bool.beq_eq_decide_eq, Bool.and_true]
def sp__law_yes (K : PySem.W.Frag) : Sp := fun vs H Q _ => ∃ (M : WD.MS) (a c : Addr) (v : V) (l m : List Int), vs = [.ref a, .ref c, v] ∧ H a = some (.tup (l.map V.int)) ∧ H c = some (.tup (m.map V.int)) ∧ l.length = m.length ∧ 1 ≤ l.length ∧ l.length ≤ 1000 ∧ WD.MIn M H ∧ alikeL l m = true ∧
  WD.rX M H v (.list ((pairsL l m).map (trip l m))) ∧ ∀ H', WD.Fr WD.M0 H H' → Q (.bl true) H'
section
variable {P : Program} {w : World} {K : PySem.W.Frag} {mg : Str → Option Value} {base : Heap}
theorem ok__law_yes (T : Tx K mg) : WD.Cal P w K mg base (CX0) 3 "_law_yes" (He.ga K "_law_yes") (sp__law_yes K) [] := by
  obtain ⟨fd, F⟩ := T.F__law_yes
  refine ⟨WD.fn0_of F sc__law_yes (fun vs H Q E h => ?_) (fun _ _ _ _ _ _ us hl => match us, hl with | [_, _, _], _ => rfl) (fun cdv A outer s H vs Q E hr h => ?_), F.kp, T.g__law_yes⟩
  · obtain ⟨M, a, c, v, l, m, rfl, ha, hc, hlm, hz0, hz, hM, hal, hv, k⟩ := h
    rfl
  · obtain ⟨M, a, c, v, l, m, rfl, ha, hc, hlm, hz0, hz, hM, hal, hv, k⟩ := h
    refine ⟨_, (pss_cons (ps_set (i := 3) sc__law_yes.nd rfl (.inl rfl) (WD.pe_cal (ok__law_pairs T) (hr.mono (by decide)) (by rfl) (pa_cons (pv 0) (pa_cons (pv 1) pa_nil))))
      (pss_cons (ps_if (PW.pt (pw_or (pt_not (pt_val (pe_callB (WD.k_call_isi K) (by rfl) T.z_isinstance WD.bt_isinstance (pa_cons (pv 2) (pa_cons (pe_bltn (v := .ty "list") (by rfl) T.z_list WD.bt_list rfl) pa_nil))))) (pw_or1 (pt_cmpR op_ne (pe_callB (WD.k_call_len_seq K) (by rfl) T.z_len PySem.boot_len (pa_cons (pv 2) pa_nil)) (pe_callB (WD.k_call_len_seq K) (by rfl) T.z_len PySem.boot_len (pa_cons (pv 3) pa_nil)) (nomark _)))))
        (pss_one (ps_ret pe_bl))
        pss_nil)
      (pss_cons (ps_for PassesOwn.never rfl (WD.k_pi_zipA K (by rfl) T.z_zip (pa_cons (pv 3) (pa_cons (pv 2) pa_nil))) (WD.k_pg_tup K (n := 2) rfl (pgs_cons (pg_name (i := 4) sc__law_yes.nd rfl (.inl rfl)) (pgs_cons (pg_name (i := 5) sc__law_yes.nd rfl (.inl rfl)) pgs_nil)))
        (pss_cons (ps_if (PW.pt (pw_or (pt_not (pt_val (pe_callB (WD.k_call_isi K) (by rfl) T.z_isinstance WD.bt_isinstance (pa_cons (pv 5) (pa_cons (pe_bltn (v := .ty "tuple") (by rfl) T.z_tuple WD.bt_tuple rfl) pa_nil))))) (pw_or (pt_cmpR op_ne (pe_callB (WD.k_call_len_seq K) (by rfl) T.z_len PySem.boot_len (pa_cons (pv 5) pa_nil)) pe_int (nomark _)) (pw_or1 (pt_cmpR (WD.k_op_neD K hr.units) (pe_slice (WD.k_sl_tupA K) (pv 5) po_none (po_some pe_int)) (pv 4) (nomark _))))))
        (pss_one (ps_ret pe_bl))
        pss_nil)
      (pss_one (ps_if (PW.pt (pw_or (pt_not (pt_val (WD.pe_cal (ok__law_is_thing T) (hr.mono (by decide)) (by rfl) (pa_cons (pe_ix (WD.k_ix_tup K) (pv 5) pe_int (fun _ _ => rfl)) (pa_cons (pe_callB (WD.k_call_len_seq K) (by rfl) T.z_len PySem.boot_len (pa_cons (pv 0) pa_nil)) pa_nil))))) (pw_or1 (pt_cmpR (WD.k_op_notInD K (WD.hu65 hr)) (pe_ix (WD.k_ix_tup K) (pv 5) pe_int (fun _ _ => rfl)) (WD.pe_cal (ok__law_amid T) (hr.mono (by decide)) (by rfl) (pa_cons (pv 1) (pa_cons (pv 0) (pa_cons (pe_ix (WD.k_ix_tup K) (pv 4) pe_int (fun _ _ => rfl)) (pa_cons (pe_ix (WD.k_ix_tup K) (pv 4) pe_int (fun _ _ => rfl)) pa_nil))))) (by rfl)))))
        (pss_one (ps_ret pe_bl))
        pss_nil))))
      (pss_cons (ps_set (i := 6) sc__law_yes.nd rfl (.inr rfl) (WD.pe_cal (ok__law_joined T) (hr.mono (by decide)) (by rfl) (pa_cons (pv 0) (pa_cons (pv 1) pa_nil))))
      (pss_cons (ps_if (pt_cmpR (WD.k_op_neD K hr.units) (pe_lc (own := [("_law_pair", 4)]) rfl sc__law_yes.nd (WD.k_pi_list K (pv 3)) (blkOk_by (N := ["_law_one", "_law_other", "_law_told", "_law_pairs_here", "_law_pair", "_law_entry", "_law_marks", "_law_mark"]) (sc := defScope s__law_yes) (by decide +kernel)) (fun _ _ _ _ _ => (pg_name (i := 4) sc__law_yes.nd rfl (.inl rfl))) (fun _ _ _ _ _ => (pts_one (pt_cmpR op_ne (pe_ix (WD.k_ix_list K) (pv 6) (pe_ix (WD.k_ix_tup K) (pv 4) pe_int (fun _ _ => rfl)) (fun _ _ => rfl)) (pe_ix (WD.k_ix_list K) (pv 6) (pe_ix (WD.k_ix_tup K) (pv 4) pe_int (fun _ _ => rfl)) (fun _ _ => rfl)) (nomark _)))) (fun _ _ _ _ _ => (pv 4))) (pe_lst pa_nil) (nomark _))
        (pss_one (ps_ret pe_bl))
        pss_nil)
      (pss_one (ps_ret (pe_cmpR op_eq (pe_callB (WD.k_call_len_seq K) (by rfl) T.z_len PySem.boot_len (pa_cons (pv 3) pa_nil)) (pe_callB (WD.k_cr_sum K rfl) (by rfl) T.z_sum WD.bt_sum (pa_cons (pe_lc (own := [("_law_mark", 7)]) rfl sc__law_yes.nd (WD.k_pi_list K (pv 6)) (blkOk_by (N := ["_law_one", "_law_other", "_law_told", "_law_pairs_here", "_law_pair", "_law_entry", "_law_marks", "_law_mark"]) (sc := defScope s__law_yes) (by decide +kernel)) (fun _ _ _ _ _ => (pg_name (i := 7) sc__law_yes.nd rfl (.inl rfl))) (fun _ _ _ _ _ => pts_nil) (fun _ _ _ _ _ => (WD.k_pe_bm K PySem.F.plainAttrs_list PySem.F.slot_list_count PySem.F.type_list_count (WD.k_mt_countI K (hu_of hr)) (pv 6) (pa_cons (pv 7) pa_nil)))) pa_nil)) (nomark _))))))))), ?_⟩
    have hSz := sizeLine_eq
    have hln : (l.map V.int).length = l.length := List.length_map _
    have f0M : ∀ {H H' : Hp}, WD.Fr WD.M0 H H' → WD.Fr M H H' := fun f => f.mono fun x e => e.elim
    refine ⟨_, rfl, _, rfl, M, a, c, l, m, rfl, ha, hc, hlm, hz, hM, fun v1 H1 f1 hv1 => ?_⟩
    obtain ⟨D, pvs, rfl, nD, hD, pal⟩ := hv1
    have hpl := pal.len
    rw [List.length_map] at hpl
    obtain ⟨t, tvs, rfl, nt, ht, tal⟩ := WD.rJ_list.mp (WD.Rep.st (f0M f1) hv)
    have htl := tal.len
    rw [List.length_map] at htl
    refine ⟨_, rfl, _, _, _, _, true, rfl, .ty "list", .base (.lst ht), kit_ty (by decide +kernel), _, rfl, iteF ?_⟩
    refine ⟨_, rfl, t, _, rfl, .inl (SqL.of ht), _, rfl, D, _, rfl, .inl (SqL.of hD), rfl, _, rfl, WD.iteN (fun h => absurd (by rw [htl, hpl]) h) (fun _ => ?_)⟩
    refine ⟨_, rfl, _, rfl, D, t, _, _, rfl, .inl ⟨SqL.of hD, SqL.of ht, ?_⟩⟩
    have hbl : (pairsL l m).length ≤ 1000000 := by
      have h1 := pairs_len l m
      have h2 : l.length * l.length ≤ 1000 * 1000 := Nat.mul_le_mul hz hz
      omega
    refine for_it (walk_zip (xs := pvs) (ys := tvs) (n := pvs.length) (by omega)) (fun i σ H' => ∃ x4 x5, σ = [some (.ref a), some (.ref c), some (.ref t), some (.ref D), x4, x5, none, none] ∧ WD.Fr WD.M0 H1 H')
      ⟨none, none, rfl, WD.Fr.refl _⟩ (fun i σ H' _ ⟨_, _, _, f⟩ => ⟨SqL.of (f.keep _ _ (fun z => z) hD), SqL.of (f.keep _ _ (fun z => z) ht)⟩) (fun i v σ H2 H3 hi pp hy => ?_) (fun σ H2 pp => ?_)
    · obtain ⟨x4, x5, rfl, f2⟩ := pp
      obtain ⟨p, v1, v2, rfl, np, rfl, e1, e2⟩ := hy
      have fp := WD.Fr.new (M := WD.M0) (o := .tup [v1, v2]) np
      have f3 := f2.trans fp
      have F3 := f1.trans f3
      obtain ⟨z, ez, rz⟩ := pal.get e1
      rw [List.getElem?_map] at ez
      obtain ⟨⟨b, e⟩, eb, rfl⟩ := Option.map_eq_some_iff.mp ez
      have hbm := List.mem_of_getElem? eb
      have hbe := pairs_mem hbm
      obtain ⟨d, ed, rd0⟩ := tal.get e2
      rw [List.getElem?_map, eb] at ed
      have ed' : trip l m (b, e) = d := Option.some.inj ed
      subst ed'
      have rd1 := WD.Rep.st (f0M f3) rd0
      have rz1 := WD.Rep.st (f0M f3) rz
      obtain ⟨et, etv, rfl, net, het, eal⟩ := WD.rJ_tuple.mp rd1
      obtain ⟨pt, w1, w2, rfl, npt, hpt, rfl, rfl⟩ := id rz1
      have hev : etv = [.int b, .int e, .int (hom l m (b, e))] := by
        match etv, eal with
        | [y1, y2, y3], ⟨q1, q2, q3, _⟩ => rw [WD.rJ_int.mp q1, WD.rJ_int.mp q2, WD.rJ_int.mp q3]
      subst hev
      refine ⟨p, _, rfl, SqT.of upd_same, rfl, _, _, rfl, _, _, rfl, rfl, ?_⟩
      refine ⟨_, rfl, _, _, _, _, true, rfl, .ty "tuple", .base (.tup het), kit_ty (by decide +kernel), _, rfl, iteF ?_⟩
      refine ⟨_, rfl, et, _, rfl, .inr (SqT.of het), rfl, _, rfl, WD.iteN (fun h => absurd rfl h) (fun _ => ?_)⟩
      refine ⟨_, rfl, 2, rfl, et, _, rfl, SqT.of het, fun z => absurd z.2 (by show ¬ HT.sIx 3 3 (some 2) = 3; decide), fun _ p2 np2 => ?_⟩
      have fp2 := WD.Fr.new (M := WD.M0) (o := .tup (cutV [.int (b : Int), .int (e : Int), .int ((hom l m (b, e) : Nat) : Int)] none (some 2))) np2
      have r2 : WD.rX WD.M0 (upd (upd H2 p (.tup [.ref pt, .ref et])) p2 (.tup (cutV [.int (b : Int), .int (e : Int), .int ((hom l m (b, e) : Nat) : Int)] none (some 2)))) (.ref p2) (.tuple [.int b, .int e]) :=
        WD.rJ_tuple.mpr ⟨p2, [.int b, .int e], rfl, fun z => z, upd_same, WD.rJ_int.mpr rfl, WD.rJ_int.mpr rfl, trivial⟩
      have rz2 := WD.Rep.st (f0M fp2) rz1
      refine ⟨_, rfl, WD.neJ r2 (pairJ rz2) (by show 1 ≤ 64; decide) (by show 1 ≤ 64; decide) ⟨_, rfl, ?_⟩⟩
      have ev : PyData.eqv (.tuple [.int (b : Int), .int (e : Int)]) (.tuple [.int (zP (b, e)).1, .int (zP (b, e)).2]) = true := by
        rw [eqv_pair]
        show (decide ((b : Int) = (b : Int)) && decide ((e : Int) = (e : Int))) = true
        simp
      rw [ev]
      refine iteF ?_
      have het2 := fp2.keep _ _ (fun z => z) het
      have hpt2 := fp2.keep _ _ (fun z => z) hpt
      have hp := (mem_pairs hbe.1 hbe.2).mp hbm
      have hq : isP m l (b, e) = true := List.all_eq_true.mp hal _ hbm
      obtain ⟨h, hh⟩ := Option.isSome_iff_exists.mp (show (amid m l b e).isSome = true from hq)
      have ehom : hom l m (b, e) = h := by unfold hom; rw [hh]; rfl
      obtain ⟨h0, h1, h2⟩ := amid_some hh
      have ha3 := (F3.trans fp2).keep _ _ (fun z => z) ha
      have hc3 := (F3.trans fp2).keep _ _ (fun z => z) hc
      rw [ehom] at het2 ⊢
      refine ⟨_, rfl, et, _, 2, .int (h : Int), rfl, rfl, SqT.of het2, rfl, ?_⟩
      refine ⟨_, rfl, a, _, rfl, .inr (SqT.of ha3), _, _, _, rfl, .int (h : Int), ?_⟩
      have hin : WD.inR ((l.map V.int).length : Int) (h : Int) = true := by
        unfold WD.inR
        rw [hln, decide_eq_true (by omega), decide_eq_true (by omega)]; rfl
      rw [hin]
      refine ⟨_, rfl, iteF ?_⟩
      refine ⟨_, rfl, et, _, 2, .int (h : Int), rfl, rfl, SqT.of het2, rfl, ?_⟩
      refine ⟨_, rfl, _, rfl, _, rfl, pt, _, 0, .int (b : Int), rfl, rfl, SqT.of hpt2, rfl, _, rfl, pt, _, 1, .int (e : Int), rfl, rfl, SqT.of hpt2, rfl, ?_⟩
      refine ⟨M, c, a, m, l, b, e, rfl, hc3, ha3, hlm.symm, by omega, by omega, by omega, hM.to (F3.trans fp2), fun v4 H4 f4 hv4 => ?_⟩
      refine notInI hv4 ⟨_, rfl, ?_⟩
      have hmem : (h : Int) ∈ (amids m l b e).map fun (t : Nat) => (t : Int) := List.mem_map.mpr ⟨h, List.mem_filter.mpr ⟨List.mem_range.mpr h0, by rw [decide_eq_true h1, decide_eq_true h2]; rfl⟩, rfl⟩
      rw [decide_eq_true hmem]
      refine iteF ?_
      exact ⟨_, _, rfl, f3.trans (fp2.trans f4)⟩
    · obtain ⟨x4, x5, rfl, f2⟩ := pp
      have F2 := f1.trans f2
      have hD2 := f2.keep _ _ (fun z => z) hD
      refine ⟨_, rfl, _, rfl, M, a, c, l, m, rfl, F2.keep _ _ (fun z => z) ha, F2.keep _ _ (fun z => z) hc, hlm, hz0, hz, hM.to F2, hal, fun v3 H3 μ f3 hv3 hJ => ?_⟩
      obtain ⟨b, rfl, nb, hb⟩ := WD.lstI hv3
      have hD3 := f3.keep _ _ (fun z => z) hD2
      have pal3 : WD.All2 (WD.rP WD.rI WD.rI M H3) pvs ((pairsL l m).map zP) := pal.imp fun _ _ z => WD.Rep.st (f0M (f2.trans f3)) z
      have hμ := hJ.1
      have ixm : ∀ {i : Nat} {H' : Hp} {x : V} {Q' : VK}, i < l.length → H' b = some (.lst (μ.map V.int)) → x = .int (i : Int) → Q' (.int (μ.getD i 0)) H' → rIxL K (.ref b) x H' Q' := fun {i H' x Q'} hi h ex q => by
        refine ⟨b, _, (i : Int), .int (μ.getD i 0), rfl, ex, SqL.of h, ?_, q⟩
        have hlt : ((i : Int)).toNat < μ.length := by omega
        rw [WD.atI_int (by omega) hlt]
        congr 2
        rw [List.getD_eq_getElem?_getD, List.getElem?_eq_getElem (show i < μ.length by omega)]
        rfl
      refine ⟨_, rfl, D, rfl, ⟨_, SqL.of hD3⟩, ?_⟩
      refine WD.lc_sift (R := WD.rI) (walk_list (xs := pvs)) (fun _ => none) (hM.to (F2.trans f3)) (by omega) (fun H' f => SqL.of (f.keep _ _ (fun z => z) hD3)) (fun i M' H' hi t2 fr mi Ky Kn ky kn x H'' hy => ?_) (fun D4 H4 hD4 f4 hl4 => ?_)
      · obtain ⟨rfl, hx⟩ := hy
        obtain ⟨z, ez, rz⟩ := pal3.get hx
        rw [List.getElem?_map] at ez
        obtain ⟨⟨p1, p2⟩, eb, rfl⟩ := Option.map_eq_some_iff.mp ez
        have hbm := List.mem_of_getElem? eb
        have hbe := pairs_mem hbm
        obtain ⟨pt, w1, w2, rfl, npt, hpt, rfl, rfl⟩ := rz
        have hpt3 := fr.keep _ _ (fun z => z) hpt
        have hb3 := fr.keep _ _ (fun z => z) hb
        refine ⟨rfl, _, rfl, _, rfl, pt, _, 0, .int (p1 : Int), rfl, rfl, SqT.of hpt3, rfl, ?_⟩
        refine ixm hbe.1 hb3 rfl ?_
        refine ⟨_, rfl, _, rfl, pt, _, 1, .int (p2 : Int), rfl, rfl, SqT.of hpt3, rfl, ?_⟩
        refine ixm hbe.2 hb3 rfl ?_
        have hp := (mem_pairs hbe.1 hbe.2).mp hbm
        rw [hJ.iff hlm hal hbe.1 hbe.2] at hp
        have hp2 := of_decide_eq_true hp
        refine ⟨rfl, _, rfl, WD.iteN (fun hne => absurd (congrArg V.int hp2) hne) (fun _ => ?_)⟩
        exact kn _ rfl (WD.Fr.refl _)
      · have e0 : (List.range pvs.length).filterMap (fun _ => (none : Option Int)) = [] := by simp
        rw [e0] at hl4
        refine ⟨Nat.zero_le _, fun q nq => ?_⟩
        have fq := WD.Fr.new (M := WD.M0) (o := .lst []) nq
        have h1 : WD.rJ M (upd H4 q (.lst [])) (.ref D4) (.list ([].map .int)) := WD.lstJ.mpr (WD.Rep.st (f0M fq) hl4)
        have h2 : WD.rJ WD.M0 (upd H4 q (.lst [])) (.ref q) (.list ([].map .int)) := WD.lstJ.mpr ⟨q, [], rfl, fun z => z, upd_same, trivial⟩
        refine WD.neJ h1 h2 (depthI _) (depthI _) ⟨_, rfl, ?_⟩
        rw [eqv_ints]
        refine WD.iteN (fun h => absurd rfl h) (fun _ => ?_)
        have f5 := f4.trans fq
        have hD5 := f5.keep _ _ (fun z => z) hD3
        have hb5 := f5.keep _ _ (fun z => z) hb
        refine ⟨_, rfl, D, _, rfl, .inl (SqL.of hD5), ?_⟩
        refine ⟨_, rfl, b, rfl, ⟨_, SqL.of hb5⟩, ?_⟩
        have hml : (μ.map V.int).length = μ.length := List.length_map _
        refine WD.lc_map (R := WD.rI) (M := WD.M0) (walk_list (xs := μ.map V.int)) (fun i => ((μ.countP fun y => decide (y = μ.getD i 0) : Nat) : Int)) WD.MIn.zero (by omega) (fun H' f => SqL.of (f.keep _ _ (fun z => z) hb5)) (fun i M' H' hi t2 fr mi Ky ky x H'' hy => ?_) (fun D6 H6 hD6 f6 hl6 => ?_)
        · obtain ⟨rfl, hx⟩ := hy
          rw [List.getElem?_map] at hx
          obtain ⟨y, ey, rfl⟩ := Option.map_eq_some_iff.mp hx
          have hb6 := fr.keep _ _ (fun z => z) hb5
          have e : μ.getD i 0 = y := by rw [List.getD_eq_getElem?_getD, ey]; rfl
          rw [e] at ky
          exact ⟨rfl, _, rfl, .inl ⟨rfl, _, SqL.of hb6⟩, _, rfl, b, μ, y, rfl, rfl, SqL.of hb6, ky _ _ (WD.Fr.refl _) rfl⟩
        · obtain ⟨D6', e6, nD6, hd6⟩ := WD.lstI hl6
          cases e6
          refine ⟨D6, _, rfl, SqL.of hd6, rfl, ?_⟩
          rw [hml, cnt_all hlm hal hJ, hpl]
          have := k H6 (F2.trans (f3.trans (f5.trans f6)))
          rw [decide_eq_true rfl]
          exact this
end
def sp__law_no (K : PySem.W.Frag) : Sp := fun vs H Q _ => ∃ (M : WD.MS) (a c : Addr) (v : V) (l m : List Int) (b x e : Nat), vs = [.ref a, .ref c, v] ∧ H a = some (.tup (l.map V.int)) ∧ H c = some (.tup (m.map V.int)) ∧ l.length = m.length ∧ 1 ≤ l.length ∧ l.length ≤ 1000 ∧ WD.MIn M H ∧
  WD.rX M H v (.tuple [.int b, .int x, .int e]) ∧ b < l.length ∧ e < l.length ∧ amid l m b e = some x ∧ amid m l b e = none ∧ ∀ H', WD.Fr WD.M0 H H' → Q (.bl true) H'
section
variable {P : Program} {w : World} {K : PySem.W.Frag} {mg : Str → Option Value} {base : Heap}
theorem ok__law_no (T : Tx K mg) : WD.Cal P w K mg base (CX0) 2 "_law_no" (He.ga K "_law_no") (sp__law_no K) [] := by
  obtain ⟨fd, F⟩ := T.F__law_no
  refine ⟨WD.fn0_of F sc__law_no (fun vs H Q E h => ?_) (fun _ _ _ _ _ _ us hl => match us, hl with | [_, _, _], _ => rfl) (fun cdv A outer s H vs Q E hr h => ?_), F.kp, T.g__law_no⟩
  · obtain ⟨M, a, c, v, l, m, b, x, e, rfl, ha, hc, hlm, hz0, hz, hM, hv, hb, he, hx, hn, k⟩ := h
    rfl
  · obtain ⟨M, a, c, v, l, m, b, x, e, rfl, ha, hc, hlm, hz0, hz, hM, hv, hb, he, hx, hn, k⟩ := h
    refine ⟨_, (pss_cons (ps_if (PW.pt (pw_or (pt_not (pt_val (pe_callB (WD.k_call_isi K) (by rfl) T.z_isinstance WD.bt_isinstance (pa_cons (pv 2) (pa_cons (pe_bltn (v := .ty "tuple") (by rfl) T.z_tuple WD.bt_tuple rfl) pa_nil))))) (pw_or (pt_cmpR op_ne (pe_callB (WD.k_call_len_seq K) (by rfl) T.z_len PySem.boot_len (pa_cons (pv 2) pa_nil)) pe_int (nomark _)) (pw_or1 (pt_not (pt_val (pe_callB (WD.k_cr_all K rfl) (by rfl) T.z_all WD.bt_all (pa_cons (pe_lc (own := [("_law_thing", 6)]) rfl sc__law_no.nd (WD.k_pi_tup K (pv 2)) (blkOk_by (N := ["_law_one", "_law_other", "_law_told", "_law_begin", "_law_amid_here", "_law_end", "_law_thing"]) (sc := defScope s__law_no) (by decide +kernel)) (fun _ _ _ _ _ => (pg_name (i := 6) sc__law_no.nd rfl (.inl rfl))) (fun _ _ _ _ _ => pts_nil) (fun _ _ _ _ _ => (WD.pe_cal (ok__law_is_thing T) (hr.mono (by decide)) (by rfl) (pa_cons (pv 6) (pa_cons (pe_callB (WD.k_call_len_seq K) (by rfl) T.z_len PySem.boot_len (pa_cons (pv 0) pa_nil)) pa_nil))))) pa_nil))))))))
        (pss_one (ps_ret pe_bl))
        pss_nil)
      (pss_cons (ps_asg (pv 2) (WD.k_pg_tup K (n := 3) rfl (pgs_cons (pg_name (i := 3) sc__law_no.nd rfl (.inl rfl)) (pgs_cons (pg_name (i := 4) sc__law_no.nd rfl (.inl rfl)) (pgs_cons (pg_name (i := 5) sc__law_no.nd rfl (.inl rfl)) pgs_nil)))))
      (pss_cons (ps_if (PW.pt (pw_or (pt_cmpR op_ne (pe_ix (WD.k_ix_tup K) (pv 0) (pv 3) (fun _ _ => rfl)) (pe_ix (WD.k_ix_tup K) (pv 0) (pv 4) (fun _ _ => rfl)) (nomark _)) (pw_or1 (pt_cmpR op_ne (pe_ix (WD.k_ix_tup K) (pv 1) (pv 4) (fun _ _ => rfl)) (pe_ix (WD.k_ix_tup K) (pv 1) (pv 5) (fun _ _ => rfl)) (nomark _)))))
        (pss_one (ps_ret pe_bl))
        pss_nil)
      (pss_one (ps_ret (pe_cmpR (WD.k_op_eqD K hr.units) (WD.pe_cal (ok__law_amid T) (hr.mono (by decide)) (by rfl) (pa_cons (pv 1) (pa_cons (pv 0) (pa_cons (pv 3) (pa_cons (pv 5) pa_nil))))) (pe_lst pa_nil) (nomark _))))))), ?_⟩
    have hln : (l.map V.int).length = l.length := List.length_map _
    have hv' : WD.rT WD.rI M H v [(b : Int), (x : Int), (e : Int)] := WD.tupJ.mp hv
    obtain ⟨t, rfl, nt, ht⟩ := WD.tupI hv'
    obtain ⟨x0, x1, x2⟩ := amid_some hx
    refine ⟨_, rfl, _, _, _, _, true, rfl, .ty "tuple", .base (.tup ht), kit_ty (by decide +kernel), _, rfl, iteF ?_⟩
    refine ⟨_, rfl, t, _, rfl, .inr (SqT.of ht), rfl, _, rfl, WD.iteN (fun h => absurd rfl h) (fun _ => ?_)⟩
    refine ⟨_, rfl, t, rfl, ⟨_, SqT.of ht⟩, ?_⟩
    have hin : ∀ y ∈ [(b : Int), (x : Int), (e : Int)], WD.inR (l.length : Int) y = true := fun y hy => by
      have : y = b ∨ y = x ∨ y = e := by simpa using hy
      unfold WD.inR
      rw [decide_eq_true (by omega), decide_eq_true (by omega)]; rfl
    refine WD.lc_map (R := WD.rB) (M := WD.M0) (walk_tup (xs := [(b : Int), (x : Int), (e : Int)].map V.int)) (fun _ => true) WD.MIn.zero (by show 3 ≤ 1000000; decide) (fun H' f => SqT.of (f.keep _ _ (fun z => z) ht)) (fun i M' H' hi t2 fr mi Ky ky y H'' hy => ?_) (fun D H1 hD f1 hl1 => ?_)
    · obtain ⟨rfl, hy⟩ := hy
      rw [List.getElem?_map] at hy
      obtain ⟨z, ez, rfl⟩ := Option.map_eq_some_iff.mp hy
      have ha2 := fr.keep _ _ (fun z => z) ha
      refine ⟨rfl, _, rfl, _, rfl, a, _, rfl, .inr (SqT.of ha2), _, _, _, rfl, .int z, ?_⟩
      rw [hln, hin z (List.mem_of_getElem? ez)]
      exact ky _ _ (WD.Fr.refl _) rfl
    obtain ⟨D', ws, e1, _, e2, e3⟩ := hl1
    cases e1
    have e4 := e3.eq_map (f := V.bl) fun _ _ q => q
    rw [e4] at e2
    refine ⟨D, _, rfl, SqL.of e2, _, rfl, ?_⟩
    have e5 : ((List.range ([(b : Int), (x : Int), (e : Int)].map V.int).length).map fun _ => true).all id = true := by
      rw [List.all_map]; exact List.all_eq_true.mpr fun _ _ => rfl
    rw [e5]
    refine iteF ?_
    have ht1 := f1.keep _ _ (fun z => z) ht
    have ha1 := f1.keep _ _ (fun z => z) ha
    have hc1 := f1.keep _ _ (fun z => z) hc
    refine ⟨_, rfl, t, _, rfl, SqT.of ht1, rfl, _, _, rfl, _, _, rfl, _, _, rfl, rfl, ?_⟩
    refine ⟨_, rfl, _, rfl, getI (SqT.of ha1) hb ?_ rfl⟩
    refine ⟨_, rfl, _, rfl, getI (SqT.of ha1) x0 ?_ rfl⟩
    refine ⟨rfl, _, rfl, WD.iteN (fun h => absurd (congrArg V.int x1.symm) h) (fun _ => ?_)⟩
    refine ⟨_, rfl, _, rfl, getI (SqT.of hc1) (by omega) ?_ rfl⟩
    refine ⟨_, rfl, _, rfl, getI (SqT.of hc1) (by omega) ?_ rfl⟩
    refine ⟨rfl, _, rfl, WD.iteN (fun h => absurd (congrArg V.int x2) h) (fun _ => ?_)⟩
    refine ⟨_, rfl, _, rfl, _, rfl, _, rfl, M, c, a, m, l, b, e, rfl, hc1, ha1, hlm.symm, by omega, by omega, by omega, hM.to f1, fun v2 H2 f2 hv2 => ?_⟩
    refine ⟨Nat.zero_le _, fun q nq => ?_⟩
    have fq := WD.Fr.new (M := WD.M0) (o := .lst []) nq
    have hem : amids m l b e = [] := amids_ne.mpr (by unfold isP; rw [hn]; rfl)
    rw [hem] at hv2
    have h1 : WD.rJ M (upd H2 q (.lst [])) v2 (.list ([].map .int)) := WD.lstJ.mpr (WD.Rep.st (fq.mono fun _ z => z.elim) hv2)
    have h2 : WD.rJ WD.M0 (upd H2 q (.lst [])) (.ref q) (.list ([].map .int)) := WD.lstJ.mpr ⟨q, [], rfl, fun z => z, upd_same, trivial⟩
    refine WD.eqJ h1 h2 (depthI _) (depthI _) ?_
    rw [eqv_ints]
    exact k _ (f1.trans (f2.trans fq))
end
def dueStr (l m : List Int) : Str := if alikeL l m = true then "yes" else "no"
theorem ask_yes (l m : List Int) (hz : l.length ≤ 1000) : Ask (.tuple [.str "yes", .list ((pairsL l m).map (trip l m))]) := by
  refine ⟨by show 2 ≤ 1000; decide, fun x y e => ?_⟩
  injection e with e
  injection e with e1 e2
  injection e2 with e3
  subst e1 e3
  refine ⟨⟨_, rfl⟩, ?_, fun z hz => ?_⟩
  · show ((pairsL l m).map (trip l m)).length ≤ 1000000
    rw [List.length_map]
    have h1 := pairs_len l m
    have h2 : l.length * l.length ≤ 1000 * 1000 := Nat.mul_le_mul hz hz
    omega
  · have hz' : z ∈ (pairsL l m).map (trip l m) := hz
    obtain ⟨p, _, rfl⟩ := List.mem_map.mp hz'
    show 3 ≤ 1000000
    decide
theorem ask_no (b0 x0 e0 : Int) : Ask (.tuple [.str "no", .tuple [.int b0, .int x0, .int e0]]) := by
  refine ⟨by show 2 ≤ 1000; decide, fun x y e => ?_⟩
  injection e with e
  injection e with e1 e2
  injection e2 with e3
  subst e1 e3
  refine ⟨⟨_, rfl⟩, by show 3 ≤ 1000000; decide, fun z hz => ?_⟩
  have h1 : z ∈ [PyData.int b0, .int x0, .int e0] := hz
  have h : z = .int b0 ∨ z = .int x0 ∨ z = .int e0 := by simpa using h1
  rcases h with h | h | h <;> rw [h] <;> exact Nat.zero_le _
theorem entry_ok {l m : List Int} (hlm : l.length = m.length) {p : Nat × Nat} (h1 : p.1 < l.length) (h2 : p.2 < l.length) (h : isP m l p = true) : entryOk l m (trip l m p) p = true := by
  obtain ⟨t, ht⟩ := Option.isSome_iff_exists.mp (show (amid m l p.1 p.2).isSome = true from h)
  have e : hom l m p = t := by unfold hom; rw [ht]; rfl
  obtain ⟨t0, t1, t2⟩ := amid_some ht
  unfold entryOk trip
  rw [e]
  have eI : intsD (.tuple [.int p.1, .int p.2, .int (t : Int)]) = [(p.1 : Int), (p.2 : Int), (t : Int)] := rfl
  rw [eI]
  have e3 : ((t : Int)).toNat = t := Int.toNat_natCast t
  have er : WD.rowD (.tuple [.int p.1, .int p.2, .int (t : Int)]) 3 (l.length : Int) = true := by
    show (decide ((3 : Int) = 3) && (WD.inR l.length p.1 && (WD.inR l.length p.2 && (WD.inR l.length t && true)))) = true
    unfold WD.inR
    rw [decide_eq_true (show (p.1 : Int) < l.length by omega), decide_eq_true (show (p.2 : Int) < l.length by omega), decide_eq_true (show (t : Int) < l.length by omega), decide_eq_true (show (0 : Int) ≤ p.1 by omega), decide_eq_true (show (0 : Int) ≤ p.2 by omega), decide_eq_true (show (0 : Int) ≤ t by omega)]
    rfl
  rw [er]
  show (true && ((decide ((p.1 : Int) = p.1) && decide ((p.2 : Int) = p.2)) && (decide (m.getD ((t : Int)).toNat 0 = m.getD p.1 0) && decide (l.getD ((t : Int)).toNat 0 = l.getD p.2 0)))) = true
  rw [e3, decide_eq_true t1, decide_eq_true t2]
  simp
theorem due_yes {l m : List Int} (hlm : l.length = m.length) : ∀ (L M : List (Nat × Nat)), (∀ p ∈ L, p.1 < l.length ∧ p.2 < l.length ∧ isP m l p = true) → dueY l m ((M ++ L).map (trip l m)) L M.length = none
  | [], M, _ => by
    show (if M.length < ((M ++ []).map (trip l m)).length then some M.length else none) = none
    rw [if_neg (by rw [List.append_nil, List.length_map]; omega)]
  | p :: L, M, h => by
    have e : ((M ++ p :: L).map (trip l m))[M.length]? = some (trip l m p) := by
      rw [List.getElem?_map, List.getElem?_append_right (Nat.le_refl _), Nat.sub_self]; rfl
    show (match ((M ++ p :: L).map (trip l m))[M.length]? with | none => some M.length | some d => if entryOk l m d p = true then dueY l m ((M ++ p :: L).map (trip l m)) L (M.length + 1) else some M.length) = none
    rw [e]
    dsimp only
    obtain ⟨h1, h2, h3⟩ := h p List.mem_cons_self
    rw [if_pos (entry_ok hlm h1 h2 h3)]
    have := due_yes hlm L (M ++ [p]) fun q hq => h q (List.mem_cons_of_mem _ hq)
    rw [List.append_assoc, List.length_append] at this
    exact this
theorem duePerm_answer {l m : List Int} (hlm : l.length = m.length) : duePerm l m (answer l m) = none := by
  cases hal : alikeL l m with
  | true =>
    rw [answer_yes hal]
    dsimp only [duePerm]
    rw [if_pos ⟨rfl, rfl⟩]
    have := due_yes hlm (pairsL l m) [] fun p hp => by
      have h1 := pairs_mem hp
      exact ⟨h1.1, h1.2, List.all_eq_true.mp hal p hp⟩
    rw [List.nil_append] at this
    show Option.map _ (dueY l m ((pairsL l m).map (trip l m)) (pairsL l m) 0) = none
    rw [show dueY l m ((pairsL l m).map (trip l m)) (pairsL l m) 0 = none from this]; rfl
  | false =>
    obtain ⟨b, x, e, hb, he, hx, hn, ea⟩ := answer_no hal
    obtain ⟨x0, x1, x2⟩ := amid_some hx
    rw [ea]
    have er : WD.rowD (.tuple [.int (b : Int), .int (x : Int), .int (e : Int)]) 3 (l.length : Int) = true := by
      show (decide ((3 : Int) = 3) && (WD.inR l.length b && (WD.inR l.length x && (WD.inR l.length e && true)))) = true
      unfold WD.inR
      rw [decide_eq_true (show (b : Int) < l.length by omega), decide_eq_true (show (x : Int) < l.length by omega), decide_eq_true (show (e : Int) < l.length by omega), decide_eq_true (show (0 : Int) ≤ b by omega), decide_eq_true (show (0 : Int) ≤ x by omega), decide_eq_true (show (0 : Int) ≤ e by omega)]
      rfl
    dsimp only [duePerm]
    rw [if_neg (fun z => absurd z.1 (by decide +kernel)), if_pos ⟨rfl, er⟩]
    show Option.map _ (dueN l m ((b : Int)).toNat ((x : Int)).toNat ((e : Int)).toNat) = none
    rw [Int.toNat_natCast, Int.toNat_natCast, Int.toNat_natCast]
    unfold dueN
    rw [if_pos x1.symm, if_pos x2, hn]
    rfl
def sp__law_told_right (K : PySem.W.Frag) : Sp := fun vs H Q _ => ∃ (M : WD.MS) (v u : V) (l m : List Int), vs = [v, u, .str (dueStr l m)] ∧ WD.rT WD.rI M H v l ∧ WD.rT WD.rI M H u m ∧ WD.MIn M H ∧ l.length = m.length ∧ 1 ≤ l.length ∧ l.length ≤ 1000 ∧ okTwo (.tuple (l.map .int)) (.tuple (m.map .int)) = true ∧
  ∀ H', WD.Fr WD.M0 H H' → Q (.bl true) H'
section
variable {P : Program} {w : World} {K : PySem.W.Frag} {mg : Str → Option Value} {base : Heap}
theorem ok__law_told_right (T : Tx K mg) : WD.Cal P w K mg base (CX0) 7 "_law_told_right" (He.ga K "_law_told_right") (sp__law_told_right K) [] := by
  obtain ⟨fd, F⟩ := T.F__law_told_right
  refine ⟨WD.fn0_of F sc__law_told_right (fun vs H Q E h => ?_) (fun _ _ _ _ _ _ us hl => match us, hl with | [_, _, _], _ => rfl) (fun cdv A outer s H vs Q E hr h => ?_), F.kp, T.g__law_told_right⟩
  · obtain ⟨M, v, u, l, m, rfl, hv, hu, hM, hlm, hz0, hz, ok, k⟩ := h
    rfl
  · obtain ⟨M, v, u, l, m, rfl, hv, hu, hM, hlm, hz0, hz, ok, k⟩ := h
    refine ⟨_, (pss_cons (ps_set (i := 3) sc__law_told_right.nd rfl (.inl rfl) (WD.pe_calX (ok_permuted T) takes0 (hr.mono (by decide)) (by rfl) (pa_cons (pv 0) (pa_cons (pv 1) pa_nil))))
      (pss_cons (ps_if (PW.pt (pw_or (pt_not (pt_val (pe_callB (WD.k_call_isi K) (by rfl) T.z_isinstance WD.bt_isinstance (pa_cons (pv 3) (pa_cons (pe_bltn (v := .ty "tuple") (by rfl) T.z_tuple WD.bt_tuple rfl) pa_nil))))) (pw_or (pt_cmpR op_ne (pe_callB (WD.k_call_len_seq K) (by rfl) T.z_len PySem.boot_len (pa_cons (pv 3) pa_nil)) pe_int (nomark _)) (pw_or1 (pt_cmpR op_ne (pe_ix (WD.k_ix_tup K) (pv 3) pe_int (fun _ _ => rfl)) (pv 2) (nomark _))))))
        (pss_one (ps_ret pe_bl))
        pss_nil)
      (pss_cons (ps_if (PW.pt (pw_or (PW.pt (pw_and (pt_cmpR op_eq (pv 2) pe_str (nomark _)) (pw_and1 (pt_not (pt_val (WD.pe_cal (ok__law_yes T) (hr.mono (by decide)) (by rfl) (pa_cons (pv 0) (pa_cons (pv 1) (pa_cons (pe_ix (WD.k_ix_tup K) (pv 3) pe_int (fun _ _ => rfl)) pa_nil))))))))) (pw_or1 (PW.pt (pw_and (pt_cmpR op_eq (pv 2) pe_str (nomark _)) (pw_and1 (pt_not (pt_val (WD.pe_cal (ok__law_no T) (hr.mono (by decide)) (by rfl) (pa_cons (pv 0) (pa_cons (pv 1) (pa_cons (pe_ix (WD.k_ix_tup K) (pv 3) pe_int (fun _ _ => rfl)) pa_nil))))))))))))
        (pss_one (ps_ret pe_bl))
        pss_nil)
      (pss_cons (ps_if (pt_cmpR op_notN (WD.pe_calX (ok_check_permuted T) takes0 (hr.mono (by decide)) (by rfl) (pa_cons (pv 0) (pa_cons (pv 1) (pa_cons (pv 3) pa_nil)))) pe_non (nomark _))
        (pss_one (ps_ret pe_bl))
        pss_nil)
      (Evl.pss_cut (ps_if (pt_cmpR op_eq (pv 2) pe_str (nomark _))
        (pss_one (ps_expr (WD.k_pe_bm0 K PySem.F.plainAttrs_list PySem.F.slot_list_clear PySem.F.type_list_clear mt_clear (pe_ix (WD.k_ix_tup K) (pv 3) pe_int (fun _ _ => rfl)))))
        pss_nil)
      (pss_one (ps_ret (pe_cmpR op_eq (pe_ix (WD.k_ix_tup K) (WD.pe_calX (ok_permuted T) takes0 (hr.mono (by decide)) (by rfl) (pa_cons (pv 0) (pa_cons (pv 1) pa_nil))) pe_int (fun _ _ => rfl)) (pv 2) (nomark _))))))))), ?_⟩
    have f0M : ∀ {H H' : Hp}, WD.Fr WD.M0 H H' → WD.Fr M H H' := fun f => f.mono fun x e => e.elim
    have z1 : (WD.itemsD (.tuple (l.map .int))).length ≤ 1000 := by show (l.map PyData.int).length ≤ 1000; rw [List.length_map]; exact hz
    have z2 : (WD.itemsD (.tuple (m.map .int))).length ≤ 1000 := by show (m.map PyData.int).length ≤ 1000; rw [List.length_map]; omega
    have okn : okTwo (.tuple (l.map .int)) (.tuple (m.map .int)) ≠ false := by rw [ok]; exact fun z => nomatch z
    refine ⟨_, rfl, _, rfl, M, v, u, _, _, rfl, WD.tupJ.mpr hv, WD.tupJ.mpr hu, hM, z1, z2, fun _ w1 H1 f1 hw1 nw1 => ?_, fun h => absurd h okn⟩
    rw [intsD_ints, intsD_ints] at hw1
    have hv1 := WD.Rep.st (f0M f1) hv
    have hu1 := WD.Rep.st (f0M f1) hu
    have hM1 := hM.to f1
    obtain ⟨a, rfl, na, ha⟩ := WD.tupI hv1
    obtain ⟨c, rfl, nc, hc⟩ := WD.tupI hu1
    -- the shape of the answer
    obtain ⟨s, y, ey, es, hask⟩ : ∃ s y, answer l m = .tuple [.str s, y] ∧ s = dueStr l m ∧ Ask (answer l m) := by
      cases hal : alikeL l m with
      | true => exact ⟨_, _, answer_yes hal, by unfold dueStr; rw [hal]; rfl, by rw [answer_yes hal]; exact ask_yes l m hz⟩
      | false =>
        obtain ⟨b, x, e, hb, he, hx, hn, ea⟩ := answer_no hal
        exact ⟨_, _, ea, by unfold dueStr; rw [hal]; rfl, by rw [ea]; exact ask_no _ _ _⟩
    have hw1' := hw1
    rw [ey] at hw1'
    obtain ⟨t, tvs, rfl, nt, ht, tal⟩ := WD.rJ_tuple.mp hw1'
    match tvs, tal with
    | [vx, vy], ⟨r1, r2, _⟩ =>
      obtain ⟨rfl, hs⟩ := WD.rJ_str.mp r1
      subst es
      refine ⟨_, rfl, _, _, _, _, true, rfl, .ty "tuple", .base (.tup ht), kit_ty (by decide +kernel), _, rfl, iteF ?_⟩
      refine ⟨_, rfl, t, _, rfl, .inr (SqT.of ht), rfl, _, rfl, WD.iteN (fun h => absurd rfl h) (fun _ => ?_)⟩
      refine ⟨_, rfl, t, _, 0, _, rfl, rfl, SqT.of ht, rfl, _, rfl, rfl, _, rfl, WD.iteN (fun h => absurd rfl h) (fun _ => ?_)⟩
      have ht1 := ht
      have okp : ∀ {H2 : Hp}, WD.Fr WD.M0 H H2 → WD.rX M H2 (.ref t) (answer l m) → ∀ {Qk : VK}, (∀ H3, WD.Fr WD.M0 H2 H3 → Qk .non H3) → sp_check_permuted K [.ref a, .ref c, .ref t] H2 Qk (fun _ _ _ => False) := fun {H2} f2 h2 {Qk} kk =>
        ⟨M, _, _, _, _, _, _, rfl, WD.tupJ.mpr (WD.Rep.st (f0M f2) hv), WD.tupJ.mpr (WD.Rep.st (f0M f2) hu), h2, hM.to f2, z1, z2, hask, fun _ => ⟨fun _ H3 f3 => kk H3 f3, fun k hk => by rw [intsD_ints, intsD_ints, duePerm_answer hlm] at hk; cases hk⟩, fun h => absurd h okn⟩
      have last : ∀ {H5 : Hp} {Qk : Bool → Hp → Prop}, WD.Fr WD.M0 H H5 → (∀ H6, WD.Fr WD.M0 H H6 → Qk true H6) → ∀ (Qp : VK), (∀ (w : V) (H6 : Hp), WD.Fr WD.M0 H H6 → (∃ t2 vy2, w = .ref t2 ∧ H6 t2 = some (.tup [.str (dueStr l m), vy2])) → Qp w H6) → sp_permuted K [.ref a, .ref c] H5 Qp (fun _ _ _ => False) := fun {H5 Qk} f5 _ Qp kp =>
        ⟨M, _, _, _, _, rfl, WD.tupJ.mpr (WD.Rep.st (f0M f5) hv), WD.tupJ.mpr (WD.Rep.st (f0M f5) hu), hM.to f5, z1, z2, fun _ w6 H6 f6 hw6 _ => kp w6 H6 (f5.trans f6) (by
          rw [intsD_ints, intsD_ints, ey] at hw6
          obtain ⟨t2, tvs2, rfl, _, ht2, tal2⟩ := WD.rJ_tuple.mp hw6
          match tvs2, tal2 with
          | [vx2, vy2], ⟨q1, _, _⟩ =>
            obtain ⟨rfl, _⟩ := WD.rJ_str.mp q1
            exact ⟨t2, vy2, rfl, ht2⟩), fun h => absurd h okn⟩
      cases hal : alikeL l m with
      | true =>
        have ed : dueStr l m = "yes" := by unfold dueStr; rw [hal]; rfl
        have ey2 : y = .list ((pairsL l m).map (trip l m)) := by
          have := (answer_yes hal).symm.trans ey
          injection this with h1
          injection h1 with _ h2
          injection h2 with h3
          exact h3.symm
        subst ey2
        refine ⟨_, rfl, rfl, _, rfl, WD.iteD (fun _ => ?_) (fun h => absurd (congrArg V.str ed) h)⟩
        refine ⟨_, rfl, _, rfl, _, rfl, t, _, 1, _, rfl, rfl, SqT.of ht, rfl, ?_⟩
        refine ⟨M, a, c, vy, l, m, rfl, ha, hc, hlm, hz0, hz, hM1, hal, r2, fun H2 f2 => ⟨_, rfl, iteF ?_⟩⟩
        have F2 := f1.trans f2
        refine ⟨_, rfl, rfl, _, rfl, WD.iteD (fun h => absurd (ed.symm.trans (V.str.inj h)) (by decide +kernel)) (fun _ => ?_)⟩
        refine ⟨_, rfl, _, rfl, _, rfl, okp F2 (WD.Rep.st (f0M f2) hw1) fun H3 f3 => ?_⟩
        refine ⟨rfl, _, rfl, iteF ?_⟩
        have F3 := F2.trans f3
        refine ⟨fun σ' H' => σ' = [some (.ref a), some (.ref c), some (.str (dueStr l m)), some (.ref t)] ∧ WD.Fr WD.M0 H H', ?_, ?_⟩
        · refine ⟨_, rfl, rfl, _, rfl, WD.iteD (fun _ => ?_) (fun h => absurd (congrArg V.str ed) h)⟩
          obtain ⟨q, qvs, rfl, nq, hq, qal⟩ := WD.rJ_list.mp r2
          have nqH : H q = none := nw1 t (.str (dueStr l m)) q rfl ht
          have ht3 := (f2.trans f3).keep _ _ (fun z => z) ht
          have hq3 := (f2.trans f3).keep _ _ (fun z => z) hq
          refine ⟨_, rfl, t, _, 1, _, rfl, rfl, SqT.of ht3, rfl, .inl ⟨rfl, _, SqL.of hq3⟩, ?_⟩
          exact ⟨q, _, rfl, rfl, hq3, rfl, F3.mutNew nqH⟩
        · rintro σ5 H5 ⟨rfl, f5⟩
          refine ⟨_, rfl, _, rfl, last (Qk := fun _ _ => True) f5 (fun _ _ => trivial) _ fun w6 H6 f6 hh => ?_⟩
          obtain ⟨t2, vy2, rfl, ht2⟩ := hh
          refine ⟨t2, _, 0, _, rfl, rfl, SqT.of ht2, rfl, _, rfl, rfl, ?_⟩
          rw [decide_eq_true rfl]
          exact k _ f6
      | false =>
        have ed : dueStr l m = "no" := by unfold dueStr; rw [hal]; rfl
        obtain ⟨b, x, e, hb, he, hx, hn, ea⟩ := answer_no hal
        have ey2 : y = .tuple [.int (b : Nat), .int (x : Nat), .int (e : Nat)] := by
          have := ea.symm.trans ey
          injection this with h1
          injection h1 with _ h2
          injection h2 with h3
          exact h3.symm
        subst ey2
        refine ⟨_, rfl, rfl, _, rfl, WD.iteD (fun h => absurd (ed.symm.trans (V.str.inj h)) (by decide +kernel)) (fun _ => ?_)⟩
        refine ⟨_, rfl, rfl, _, rfl, WD.iteD (fun _ => ?_) (fun h => absurd (congrArg V.str ed) h)⟩
        refine ⟨_, rfl, _, rfl, _, rfl, t, _, 1, _, rfl, rfl, SqT.of ht, rfl, ?_⟩
        refine ⟨M, a, c, vy, l, m, b, x, e, rfl, ha, hc, hlm, hz0, hz, hM1, r2, hb, he, hx, hn, fun H2 f2 => ⟨_, rfl, iteF ?_⟩⟩
        have F2 := f1.trans f2
        refine ⟨_, rfl, _, rfl, _, rfl, okp F2 (WD.Rep.st (f0M f2) hw1) fun H3 f3 => ?_⟩
        refine ⟨rfl, _, rfl, iteF ?_⟩
        have F3 := F2.trans f3
        refine ⟨fun σ' H' => σ' = [some (.ref a), some (.ref c), some (.str (dueStr l m)), some (.ref t)] ∧ WD.Fr WD.M0 H H', ?_, ?_⟩
        · exact ⟨_, rfl, rfl, _, rfl, WD.iteD (fun h => absurd (ed.symm.trans (V.str.inj h)) (by decide +kernel)) (fun _ => ⟨rfl, F3⟩)⟩
        · rintro σ5 H5 ⟨rfl, f5⟩
          refine ⟨_, rfl, _, rfl, last (Qk := fun _ _ => True) f5 (fun _ _ => trivial) _ fun w6 H6 f6 hh => ?_⟩
          obtain ⟨t2, vy2, rfl, ht2⟩ := hh
          refine ⟨t2, _, 0, _, rfl, rfl, SqT.of ht2, rfl, _, rfl, rfl, ?_⟩
          rw [decide_eq_true rfl]
          exact k _ f6
end
theorem ask_y0 : Ask (.tuple [.str "yes", .list []]) := by
  refine ⟨by show 2 ≤ 1000; decide, fun x y e => ?_⟩
  injection e with e
  injection e with e1 e2
  injection e2 with e3
  subst e1 e3
  exact ⟨⟨_, rfl⟩, Nat.zero_le _, fun z hz => by cases hz⟩
def noFold : PyData := .tuple [.str "no folding", .int (-1), .bool true]
theorem strNF : PyData.strOk ("no folding" : Str) = true := by decide +kernel
def sp__law_asked_at (K : PySem.W.Frag) : Sp := fun vs H Q _ => ∃ (M : WD.MS) (v u : V) (d e : PyData) (i : Int), vs = [.int i, v, u] ∧ WD.rX M H v d ∧ WD.rX M H u e ∧ WD.MIn M H ∧ (WD.itemsD d).length ≤ 1000 ∧ (WD.itemsD e).length ≤ 1000 ∧ okTwo d e = false ∧
  ∀ w H', WD.Fr WD.M0 H H' → WD.rX M H' w noFold → Q w H'
section
variable {P : Program} {w : World} {K : PySem.W.Frag} {mg : Str → Option Value} {base : Heap}
theorem ok__law_asked_at (T : Tx K mg) : WD.Cal P w K mg base (CX0) 7 "_law_asked_at" (He.ga K "_law_asked_at") (sp__law_asked_at K) [] := by
  obtain ⟨fd, F⟩ := T.F__law_asked_at
  refine ⟨WD.fn0_of F sc__law_asked_at (fun vs H Q E h => ?_) (fun _ _ _ _ _ _ us hl => match us, hl with | [_, _, _], _ => rfl) (fun cdv A outer s H vs Q E hr h => ?_), F.kp, T.g__law_asked_at⟩
  · obtain ⟨M, v, u, d, e, i, rfl, hv, hu, hM, z1, z2, bad, k⟩ := h
    rfl
  · obtain ⟨M, v, u, d, e, i, rfl, hv, hu, hM, z1, z2, bad, k⟩ := h
    refine ⟨_, (pss_cons (ps_set (i := 3) sc__law_asked_at.nd rfl (.inl rfl) pe_non)
      (pss_cons (WD.ps_try_clauses rfl rfl sc__law_asked_at.nd takes0 (fun W pn xe tk => (pss_one (ps_if (pt_cmpR op_eq (pv 0) pe_int (nomark _))
        (pss_one (ps_set (i := 3) sc__law_asked_at.nd rfl (.inl rfl) (pe_tup (pa_cons pe_str (pa_cons (WD.pe_calX (ok_permuted T) tk (hr.mono (by decide)) (by rfl) (pa_cons (pv 1) (pa_cons (pv 2) pa_nil))) pa_nil)))))
        (pss_one (ps_set (i := 3) sc__law_asked_at.nd rfl (.inl rfl) (pe_tup (pa_cons pe_str (pa_cons (WD.pe_calX (ok_check_permuted T) tk (hr.mono (by decide)) (by rfl) (pa_cons (pv 1) (pa_cons (pv 2) (pa_cons (pe_tup (pa_cons pe_str (pa_cons (pe_lst pa_nil) pa_nil))) pa_nil)))) pa_nil))))))))
        (WD.Clauses.cons (i := 4) ⟨by rfl, by decide, .inl T.g_NoFolding⟩ rfl rfl (fun a oe cls d pn hz hf => (pss_one (ps_set (i := 3) sc__law_asked_at.nd rfl (.inl rfl) (pe_tup (pa_cons pe_str (pa_cons (WD.pe_xfA hz hf (pv 4)) (pa_cons (pe_and (pe_callB (WD.call_isX hz hf) (by rfl) T.z_isinstance WD.bt_isinstance (pa_cons (pv 4) (pa_cons (pe_bltn (v := .ty "ValueError") (by rfl) T.z_ValueError WD.bt_ValueError rfl) pa_nil))) (pe_one (pe_not (pe_callB (WD.call_isX hz hf) (by rfl) T.z_isinstance WD.bt_isinstance (pa_cons (pv 4) (pa_cons (pe_glob (v := .ref (He.ga K "NoPaper")) (by rfl) T.g_NoPaper rfl) pa_nil)))))) pa_nil))))))) (WD.Clauses.cons (i := 4) ⟨by rfl, by decide, .inl T.g_NoPaper⟩ rfl rfl (fun a oe cls d pn hz hf => (pss_one (ps_set (i := 3) sc__law_asked_at.nd rfl (.inl rfl) (pe_tup (pa_cons pe_str (pa_cons (WD.pe_xfA hz hf (pv 4)) pa_nil)))))) WD.Clauses.nil)))
      (pss_one (ps_ret (pv 3))))), ?_⟩
    have f0M : ∀ {H H' : Hp}, WD.Fr WD.M0 H H' → WD.Fr M H H' := fun f => f.mono fun x e => e.elim
    have okn : okTwo d e ≠ true := by rw [bad]; exact fun z => nomatch z
    have fin : ∀ {H1 : Hp} {p : Addr}, WD.Fr WD.M0 H H1 → H1 p = none → WD.rX M (upd H1 p (.tup [.str "no folding", .int (-1), .bl true])) (.ref p) noFold ∧ WD.Fr WD.M0 H (upd H1 p (.tup [.str "no folding", .int (-1), .bl true])) := fun {H1 p} f np =>
      ⟨WD.rJ_tuple.mpr ⟨p, _, rfl, (hM.to f).no np, upd_same, WD.rJ_str.mpr ⟨rfl, strNF⟩, WD.rJ_int.mpr rfl, WD.rJ_bool.mpr rfl, trivial⟩, f.trans (WD.Fr.new np)⟩
    have vty : ∀ u : Value, RelV (.ty "ValueError") u → u = .type "ValueError" := fun u h => h
    refine ⟨_, rfl, rfl, _, rfl, WD.iteD (fun h0 => ?_) (fun h0 => ?_)⟩
    · refine ⟨_, rfl, _, rfl, M, _, _, d, e, rfl, hv, hu, hM, z1, z2, fun h => absurd h okn, fun _ H1 dd f1 hdd => ?_⟩
      refine ⟨true, T.em_NoFolding_NoFolding, fun _ a na => ?_, fun h => nomatch h⟩
      have hfs : ∀ x, some dd = some x → ∃ fs, H1 x = some (.xd fs) := fun x e => by cases e; exact ⟨_, hdd⟩
      refine ⟨_, rfl, _, rfl, rfl, T.ex_NoFolding, T.nx_NoFolding, dd, _, .int (-1), rfl, hdd, rfl, ?_⟩
      refine ⟨_, rfl, _, .ty "ValueError", _, true, rfl, T.ex_NoFolding, hfs, rfl, vty, T.kv_NoFolding, true, rfl, iteT ?_⟩
      refine ⟨_, rfl, _, .ref (He.ga K "NoPaper"), _, false, rfl, T.ex_NoFolding, hfs, rfl, fun u h => h, T.ki_NoFolding_NoPaper, false, rfl, ?_⟩
      refine ⟨by show 3 ≤ sizeLine; decide, fun p np => ⟨_, rfl, ?_⟩⟩
      obtain ⟨r1, r2⟩ := fin f1 np
      exact k _ _ r2 r1
    · refine ⟨_, rfl, _, rfl, Nat.zero_le _, fun q nq => ⟨by show 2 ≤ sizeLine; decide, fun q2 nq2 => ?_⟩⟩
      have fq := WD.Fr.new (M := WD.M0) (o := .lst []) nq
      have fq2 := WD.Fr.new (M := WD.M0) (o := .tup [.str "yes", .ref q]) nq2
      have f0 := fq.trans fq2
      have hans : WD.rX M (upd (upd H q (.lst [])) q2 (.tup [.str "yes", .ref q])) (.ref q2) (.tuple [.str "yes", .list []]) :=
        WD.rJ_tuple.mpr ⟨q2, _, rfl, (hM.to fq).no nq2, upd_same, WD.rJ_str.mpr ⟨rfl, strYes⟩, WD.rJ_list.mpr ⟨q, [], rfl, hM.no nq, fq2.keep _ _ (fun z => z) upd_same, trivial⟩, trivial⟩
      refine ⟨M, _, _, _, d, e, _, rfl, WD.Rep.st (f0M f0) hv, WD.Rep.st (f0M f0) hu, hans, hM.to f0, z1, z2, ask_y0, fun h => absurd h okn, fun _ H1 dd f1' hdd => ?_⟩
      have f1 := f0.trans f1'
      refine ⟨true, T.em_NoFolding_NoFolding, fun _ a na => ?_, fun h => nomatch h⟩
      have hfs : ∀ x, some dd = some x → ∃ fs, H1 x = some (.xd fs) := fun x e => by cases e; exact ⟨_, hdd⟩
      refine ⟨_, rfl, _, rfl, rfl, T.ex_NoFolding, T.nx_NoFolding, dd, _, .int (-1), rfl, hdd, rfl, ?_⟩
      refine ⟨_, rfl, _, .ty "ValueError", _, true, rfl, T.ex_NoFolding, hfs, rfl, vty, T.kv_NoFolding, true, rfl, iteT ?_⟩
      refine ⟨_, rfl, _, .ref (He.ga K "NoPaper"), _, false, rfl, T.ex_NoFolding, hfs, rfl, fun u h => h, T.ki_NoFolding_NoPaper, false, rfl, ?_⟩
      refine ⟨by show 3 ≤ sizeLine; decide, fun p np => ⟨_, rfl, ?_⟩⟩
      obtain ⟨r1, r2⟩ := fin f1 np
      exact k _ _ r2 r1
end
theorem eqv_self_nf : PyData.eqv noFold noFold = true := by decide +kernel
theorem dep_nf : noFold.depth ≤ 64 := by decide +kernel
def sp__law_refused (K : PySem.W.Frag) : Sp := fun vs H Q _ => ∃ (M : WD.MS) (v u : V) (d e : PyData), vs = [v, u] ∧ WD.rX M H v d ∧ WD.rX M H u e ∧ WD.MIn M H ∧ (WD.itemsD d).length ≤ 1000 ∧ (WD.itemsD e).length ≤ 1000 ∧ okTwo d e = false ∧
  ∀ w H', WD.Fr WD.M0 H H' → WD.rX M H' w noFold → Q w H'
section
variable {P : Program} {w : World} {K : PySem.W.Frag} {mg : Str → Option Value} {base : Heap}
theorem ok__law_refused (T : Tx K mg) : WD.Cal P w K mg base (CX0) 8 "_law_refused" (He.ga K "_law_refused") (sp__law_refused K) [] := by
  obtain ⟨fd, F⟩ := T.F__law_refused
  refine ⟨WD.fn0_of F sc__law_refused (fun vs H Q E h => ?_) (fun _ _ _ _ _ _ us hl => match us, hl with | [_, _], _ => rfl) (fun cdv A outer s H vs Q E hr h => ?_), F.kp, T.g__law_refused⟩
  · obtain ⟨M, v, u, d, e, rfl, hv, hu, hM, z1, z2, bad, k⟩ := h
    rfl
  · obtain ⟨M, v, u, d, e, rfl, hv, hu, hM, z1, z2, bad, k⟩ := h
    refine ⟨_, (pss_cons (ps_set (i := 2) sc__law_refused.nd rfl (.inl rfl) (WD.pe_cal (ok__law_asked_at T) (hr.mono (by decide)) (by rfl) (pa_cons pe_int (pa_cons (pv 0) (pa_cons (pv 1) pa_nil)))))
      (pss_one (ps_ret (pe_ifExp (pt_cmpR (WD.k_op_eqD K hr.units) (WD.pe_cal (ok__law_asked_at T) (hr.mono (by decide)) (by rfl) (pa_cons pe_int (pa_cons (pv 0) (pa_cons (pv 1) pa_nil)))) (pv 2) (nomark _)) (pv 2) pe_non)))), ?_⟩
    have f0M : ∀ {H H' : Hp}, WD.Fr WD.M0 H H' → WD.Fr M H H' := fun f => f.mono fun x e => e.elim
    refine ⟨_, rfl, _, rfl, M, v, u, d, e, 0, rfl, hv, hu, hM, z1, z2, bad, fun w1 H1 f1 h1 => ?_⟩
    refine ⟨_, rfl, _, rfl, M, v, u, d, e, 1, rfl, WD.Rep.st (f0M f1) hv, WD.Rep.st (f0M f1) hu, hM.to f1, z1, z2, bad, fun w2 H2 f2 h2 => ?_⟩
    have h1' := WD.Rep.st (f0M f2) h1
    refine ⟨_, rfl, WD.eqJ h2 h1' dep_nf dep_nf ⟨_, rfl, ?_⟩⟩
    rw [eqv_self_nf]
    exact iteT ⟨_, rfl, k _ _ (f1.trans f2) h1'⟩
end
/-! ### what is put otherwise -/
theorem part_at {l : List Int} (h : partB l = true) {i : Nat} (hi : i < l.length) : l.getD i 0 ≤ (i : Int) ∧ l.getD (l.getD i 0).toNat 0 = l.getD i 0 := by
  have := List.all_eq_true.mp h i (List.mem_range.mpr hi)
  simp only [Bool.and_eq_true, decide_eq_true_eq] at this
  exact this
theorem row_ints {l : List Int} {n : Int} (h1 : (l.length : Int) = n) (h2 : ∀ x ∈ l, 0 ≤ x ∧ x < n) : WD.rowD (.tuple (l.map .int)) n n = true := by
  show (decide (((l.map PyData.int).length : Int) = n) && (l.map PyData.int).all (WD.thingD n)) = true
  rw [List.length_map, decide_eq_true h1, List.all_map, Bool.true_and]
  refine List.all_eq_true.mpr fun x hx => ?_
  show WD.inR n x = true
  unfold WD.inR
  rw [decide_eq_true (h2 x hx).1, decide_eq_true (h2 x hx).2]; rfl
theorem okTwo_of {l m : List Int} (hlm : l.length = m.length) (h1 : partB l = true) (h2 : partB m = true) (h3 : ∀ x ∈ l, 0 ≤ x ∧ x < (l.length : Int)) (h4 : ∀ x ∈ m, 0 ≤ x ∧ x < (m.length : Int)) : okTwo (.tuple (l.map .int)) (.tuple (m.map .int)) = true := by
  have e1 : lenD (.tuple (l.map .int)) = (l.length : Int) := by show (((l.map PyData.int).length : Nat) : Int) = _; rw [List.length_map]
  unfold okTwo partD
  rw [e1, intsD_ints, intsD_ints, h1, h2, row_ints rfl h3, row_ints (by omega) (fun x hx => by rw [hlm]; exact h4 x hx)]
  rfl
/-- of the odd ones none is a parting of n -/
theorem odd_fst {d e : PyData} (h : WD.tupD d = false ∨ partD d (lenD d) = false ∨ partD e (lenD d) = false) : okTwo d e = false := by
  unfold okTwo
  rcases h with h | h | h <;> rw [h] <;> simp

theorem any_enc {α : Type} [DecidableEq α] {R : WD.Rl α} {enc : α → PyData} {n : Nat} (E : WD.EncOk R enc n) (a : α) : ∀ l : List α, (l.map enc).any (fun z => PyData.eqv z (enc a)) = decide (a ∈ l)
  | [] => by simp
  | b :: l => by
    rw [List.map_cons, List.any_cons, any_enc E a l, E.eq]
    by_cases h1 : b = a
    · simp [h1]
    · have h2 : ¬ a = b := fun z => h1 z.symm
      by_cases h3 : a ∈ l <;> simp [h1, h2, h3]
theorem notInE {α : Type} [DecidableEq α] {R : WD.Rl α} {enc : α → PyData} {n : Nat} (E : WD.EncOk R enc n) {K : PySem.W.Frag} {M M' : WD.MS} {H : Hp} {x y : V} {a : α} {l : List α} {Q : VK} (hn : n + 1 ≤ 64) (hx : R M H x a) (hy : WD.rL R M' H y l) {bb : Bool} (hb : bb = true ↔ a ∈ l) (k : Q (.bl (!bb)) H) : rNotInD K x y H Q := by
  have eb : decide (a ∈ l) = bb := by
    cases bb with
    | true => exact decide_eq_true (hb.mp rfl)
    | false => exact decide_eq_false fun z => Bool.false_ne_true (hb.mpr z)
  obtain ⟨d1, l1⟩ := E.dp (K := K) hx
  obtain ⟨d2, l2⟩ := (WD.encL E).dp (K := K) hy
  refine ⟨_, _, d1, d2, WD.shaped_of l1 (E.dep a) (by omega), WD.shaped_of l2 ((WD.encL E).dep l) hn, ?_⟩
  rw [any_enc E, eb]
  exact k
theorem zP_inj {p q : Nat × Nat} (h : zP p = zP q) : p = q := by
  have h1 := congrArg Prod.fst h
  have h2 := congrArg Prod.snd h
  simp only [zP] at h1 h2
  exact Prod.ext (by omega) (by omega)
theorem mem_zP {p : Nat × Nat} {L : List (Nat × Nat)} : zP p ∈ L.map zP ↔ p ∈ L := by
  rw [List.mem_map]
  exact ⟨fun ⟨q, hq, e⟩ => zP_inj e ▸ hq, fun h => ⟨p, h, rfl⟩⟩
theorem alike_self (l : List Int) : alikeL l l = true := by
  refine List.all_eq_true.mpr fun p hp => (List.mem_filter.mp hp).2
theorem intsD_map (l : List Int) (h : WD.tupD (.tuple (l.map .int)) = true) : intsD (.tuple (l.map .int)) = l := intsD_ints l
theorem rowD_len {ds : List PyData} {m n : Int} (h : (ds.length : Int) ≠ m) : WD.rowD (.tuple ds) m n = false := by
  show (decide ((ds.length : Int) = m) && _) = false
  rw [decide_eq_false h]; rfl
theorem rowD_bad {ds : List PyData} {m n : Int} {d : PyData} (h : d ∈ ds) (hd : WD.thingD n d = false) : WD.rowD (.tuple ds) m n = false := by
  show (decide ((ds.length : Int) = m) && ds.all (WD.thingD n)) = false
  have : ds.all (WD.thingD n) = false := by
    rw [List.all_eq_false]
    exact ⟨d, h, by rw [hd]; exact Bool.false_ne_true⟩
  rw [this, Bool.and_false]
theorem partD_row {d : PyData} {n : Int} (h : WD.rowD d n n = false) : partD d n = false := by unfold partD; rw [h]; rfl
/-- an odd one beside a parting of n things -/
structure Odd (l : List Int) (d : PyData) : Prop where
  a : okTwo d (.tuple (l.map .int)) = false
  b : okTwo (.tuple (l.map .int)) d = false
  z : (WD.itemsD d).length ≤ 1000
theorem lenD_ints (l : List Int) : lenD (.tuple (l.map .int)) = (l.length : Int) := by show (((l.map PyData.int).length : Nat) : Int) = _; rw [List.length_map]
theorem odd_not {l : List Int} {d : PyData} (h : WD.tupD d = false) (hr : ∀ n, WD.rowD d n n = false) (z : (WD.itemsD d).length ≤ 1000) : Odd l d :=
  ⟨odd_fst (.inl h), odd_fst (.inr (.inr (partD_row (hr _)))), z⟩
theorem odd_row {l : List Int} {d : PyData} (hr : WD.rowD d (lenD d) (lenD d) = false) (hr2 : WD.rowD d l.length l.length = false) (z : (WD.itemsD d).length ≤ 1000) : Odd l d :=
  ⟨odd_fst (.inr (.inl (partD_row hr))), odd_fst (.inr (.inr (partD_row (by rw [lenD_ints]; exact hr2)))), z⟩
theorem odd_longer {l : List Int} (hz : l.length ≤ 999) : Odd l (.tuple ((l ++ [0]).map .int)) := by
  refine ⟨odd_fst (.inr (.inr (partD_row ?_))), odd_fst (.inr (.inr (partD_row ?_))), ?_⟩
  · rw [lenD_ints]
    refine rowD_len ?_
    rw [List.length_map, List.length_append]
    show (l.length : Int) ≠ ((l.length + 1 : Nat) : Int)
    omega
  · rw [lenD_ints]
    refine rowD_len ?_
    rw [List.length_map, List.length_append]
    show ((l.length + 1 : Nat) : Int) ≠ _
    omega
  · show ((l ++ [0]).map PyData.int).length ≤ 1000
    rw [List.length_map, List.length_append]
    show l.length + 1 ≤ 1000
    omega
theorem odd_first {l : List Int} (hz0 : 1 ≤ l.length) (hz : l.length ≤ 1000) (h0 : l.getD 0 0 = 0) : Odd l (.tuple (((l.getD 0 0 + 1) :: l.drop 1).map .int)) := by
  have hl : ((l.getD 0 0 + 1) :: l.drop 1).length = l.length := by rw [List.length_cons, List.length_drop]; omega
  have hp : ∀ n : Int, partD (.tuple (((l.getD 0 0 + 1) :: l.drop 1).map .int)) n = false := fun n => by
    unfold partD
    rw [intsD_ints]
    have : partB ((l.getD 0 0 + 1) :: l.drop 1) = false := by
      unfold partB
      rw [List.all_eq_false]
      refine ⟨0, List.mem_range.mpr (by rw [hl]; omega), ?_⟩
      have e : ((l.getD 0 0 + 1) :: l.drop 1).getD 0 0 = 1 := by rw [h0]; rfl
      rw [e]
      simp
    rw [this, Bool.and_false]
  refine ⟨odd_fst (.inr (.inl (hp _))), odd_fst (.inr (.inr (hp _))), ?_⟩
  show (((l.getD 0 0 + 1) :: l.drop 1).map PyData.int).length ≤ 1000
  rw [List.length_map, hl]
  exact hz
theorem odd_last {l : List Int} {d : PyData} (hz0 : 1 ≤ l.length) (hz : l.length ≤ 1000) (hd : WD.thingD l.length d = false) : Odd l (.tuple ((l.take (l.length - 1)).map .int ++ [d])) := by
  have hl : ((l.take (l.length - 1)).map PyData.int ++ [d]).length = l.length := by rw [List.length_append, List.length_map, List.length_take]; show min _ _ + 1 = _; omega
  have e : lenD (.tuple ((l.take (l.length - 1)).map .int ++ [d])) = (l.length : Int) := by show ((((l.take (l.length - 1)).map PyData.int ++ [d]).length : Nat) : Int) = _; rw [hl]
  have hr : WD.rowD (.tuple ((l.take (l.length - 1)).map .int ++ [d])) l.length l.length = false := rowD_bad (d := d) (by simp) hd
  exact odd_row (by rw [e]; exact hr) hr (by show ((l.take (l.length - 1)).map PyData.int ++ [d]).length ≤ 1000; rw [hl]; exact hz)
theorem all_filter {α : Type} (p : α → Bool) (L : List α) : decide ((L.filter fun x => !p x) = []) = L.all p := by
  cases h : L.all p with
  | true =>
    refine decide_eq_true (List.filter_eq_nil_iff.mpr fun a ha => ?_)
    rw [List.all_eq_true.mp h a ha]
    exact Bool.false_ne_true
  | false =>
    refine decide_eq_false fun z => ?_
    obtain ⟨a, ha, hp⟩ := List.all_eq_false.mp h
    have := List.filter_eq_nil_iff.mp z a ha
    cases hq : p a with
    | true => exact hp hq
    | false => rw [hq] at this; exact this rfl
def sp__law_right (_ : PySem.W.Frag) : Sp := fun vs H Q _ => ∃ (w : Addr), vs = [.ref w] ∧ WD.Well w H ∧ ∀ H', WD.Fr (WD.only w) H H' → Q (.bl true) H'
section
variable {P : Program} {w : World} {K : PySem.W.Frag} {mg : Str → Option Value} {base : Heap}
theorem ok__law_right (T : Tx K mg) : WD.Cal P w K mg base (CX0) 9 "_law_right" (He.ga K "_law_right") (sp__law_right K) [] := by
  obtain ⟨fd, F⟩ := T.F__law_right
  refine ⟨WD.fn0_of F sc__law_right (fun vs H Q E h => ?_) (fun _ _ _ _ _ _ us hl => match us, hl with | [_], _ => rfl) (fun cdv A outer s H vs Q E hr h => ?_), F.kp, T.g__law_right⟩
  · obtain ⟨w, rfl, hW, k⟩ := h
    rfl
  · obtain ⟨w, rfl, hW, k⟩ := h
    refine ⟨_, (pss_cons (ps_set (i := 1) sc__law_right.nd rfl (.inl rfl) (pe_ix (WD.k_ix_list K) (pe_lst (pa_cons (pe_op op_add pe_int (WD.pe_cal (ok__law_draw T) (hr.mono (by decide)) (by rfl) (pa_cons (pv 0) (pa_cons pe_int pa_nil)))) (pa_cons (pe_op op_add pe_int (WD.pe_cal (ok__law_draw T) (hr.mono (by decide)) (by rfl) (pa_cons (pv 0) (pa_cons pe_int pa_nil)))) pa_nil))) (pe_callTy call_int1 (by rfl) T.z_int WD.bt_int (pa_cons (pe_cmpR op_eq (WD.pe_cal (ok__law_draw T) (hr.mono (by decide)) (by rfl) (pa_cons (pv 0) (pa_cons pe_int pa_nil))) pe_int (nomark _)) pa_nil)) (fun _ _ => rfl)))
      (pss_cons (ps_set (i := 2) sc__law_right.nd rfl (.inl rfl) (WD.pe_cal (ok__law_draw T) (hr.mono (by decide)) (by rfl) (pa_cons (pv 0) (pa_cons pe_int pa_nil))))
      (pss_cons (ps_asg (WD.pe_cal (ok__law_two T) (hr.mono (by decide)) (by rfl) (pa_cons (pv 0) (pa_cons (pv 1) pa_nil))) (WD.k_pg_tup K (n := 2) rfl (pgs_cons (pg_name (i := 3) sc__law_right.nd rfl (.inr rfl)) (pgs_cons (pg_name (i := 4) sc__law_right.nd rfl (.inr rfl)) pgs_nil))))
      (pss_cons (ps_set (i := 5) sc__law_right.nd rfl (.inl rfl) (pe_cmpR (WD.k_op_eqD K hr.units) (pe_lc (own := [("_law_pair", 8)]) rfl sc__law_right.nd (WD.k_pi_list K (WD.pe_cal (ok__law_pairs T) (hr.mono (by decide)) (by rfl) (pa_cons (pv 3) (pa_cons (pv 4) pa_nil)))) (blkOk_by (N := ["_law_well", "_law_size", "_law_bad", "_law_one", "_law_other", "_law_alike", "_law_due", "_law_odd", "_law_pair"]) (sc := defScope s__law_right) (by decide +kernel)) (fun _ _ _ _ _ => (pg_name (i := 8) sc__law_right.nd rfl (.inl rfl))) (fun _ _ _ _ _ => (pts_one (pt_cmpR (WD.k_op_notInD K (WD.hu65 hr)) (pv 8) (WD.pe_cal (ok__law_pairs T) (hr.mono (by decide)) (by rfl) (pa_cons (pv 4) (pa_cons (pv 3) pa_nil))) (by rfl)))) (fun _ _ _ _ _ => (pv 8))) (pe_lst pa_nil) (nomark _)))
      (pss_cons (ps_set (i := 6) sc__law_right.nd rfl (.inl rfl) (pe_ix (WD.k_ix_list K) (pe_lst (pa_cons pe_str (pa_cons pe_str pa_nil))) (pe_callTy call_int1 (by rfl) T.z_int WD.bt_int (pa_cons (pv 5) pa_nil)) (fun _ _ => rfl)))
      (pss_cons (ps_if (PW.pt (pw_or (pt_not (pt_val (WD.pe_cal (ok__law_told_right T) (hr.mono (by decide)) (by rfl) (pa_cons (pv 3) (pa_cons (pv 4) (pa_cons (pv 6) pa_nil)))))) (pw_or1 (pt_not (pt_val (WD.pe_cal (ok__law_told_right T) (hr.mono (by decide)) (by rfl) (pa_cons (pv 4) (pa_cons (pv 3) (pa_cons (pv 6) pa_nil)))))))))
        (pss_one (ps_ret pe_bl))
        pss_nil)
      (pss_cons (ps_set (i := 7) sc__law_right.nd rfl (.inl rfl) (pe_ix (WD.k_ix_list K) (pe_lst (pa_cons (pe_callTy (WD.k_call_list_of K) (by rfl) T.z_list WD.bt_list (pa_cons (pv 3) pa_nil)) (pa_cons (pe_op (WD.k_op_catA K) (pv 3) (pe_tup (pa_cons pe_int pa_nil))) (pa_cons (pe_op (WD.k_op_catA K) (pe_slice (WD.k_sl_tupA K) (pv 3) po_none (po_some (pe_un un_neg pe_int))) (pe_tup (pa_cons (pv 1) pa_nil))) (pa_cons (pe_op (WD.k_op_catA K) (pe_slice (WD.k_sl_tupA K) (pv 3) po_none (po_some (pe_un un_neg pe_int))) (pe_tup (pa_cons pe_bl pa_nil))) (pa_cons pe_non (pa_cons (pe_op (WD.k_op_catA K) (pe_tup (pa_cons (pe_op op_add (pe_ix (WD.k_ix_tup K) (pv 3) pe_int (fun _ _ => rfl)) pe_int) pa_nil)) (pe_slice (WD.k_sl_tupA K) (pv 3) (po_some pe_int) po_none)) (pa_cons pe_str pa_nil)))))))) (pv 2) (fun _ _ => rfl)))
      (pss_cons (ps_if (PW.pt (pw_or (pt_cmpR (WD.k_op_neD K hr.units) (WD.pe_cal (ok__law_refused T) (hr.mono (by decide)) (by rfl) (pa_cons (pv 7) (pa_cons (pv 3) pa_nil))) (pe_tup (pa_cons pe_str (pa_cons (pe_un un_neg pe_int) (pa_cons pe_bl pa_nil)))) (nomark _)) (pw_or1 (pt_cmpR (WD.k_op_neD K hr.units) (WD.pe_cal (ok__law_refused T) (hr.mono (by decide)) (by rfl) (pa_cons (pv 3) (pa_cons (pv 7) pa_nil))) (pe_tup (pa_cons pe_str (pa_cons (pe_un un_neg pe_int) (pa_cons pe_bl pa_nil)))) (nomark _)))))
        (pss_one (ps_ret pe_bl))
        pss_nil)
      (pss_one (ps_ret (pe_cmpR op_eq (pe_ix (WD.k_ix_tup K) (WD.pe_calX (ok_permuted T) takes0 (hr.mono (by decide)) (by rfl) (pa_cons (pv 3) (pa_cons (pv 3) pa_nil))) pe_int (fun _ _ => rfl)) pe_str (nomark _)))))))))))), ?_⟩
    have hSz := sizeLine_eq
    have f0w : ∀ {H H' : Hp}, WD.Fr WD.M0 H H' → WD.Fr (WD.only w) H H' := fun f => f.mono fun x e => e.elim
    refine ⟨_, rfl, w, 6, rfl, hW, by decide, by decide, fun r1 H1 r10 r11 f1 hW1 _ => ⟨_, _, rfl, rfl, ?_⟩⟩
    refine ⟨_, rfl, w, 4, rfl, hW1, by decide, by decide, fun r2 H2 r20 r21 f2 hW2 _ => ⟨_, _, rfl, rfl, by show 2 ≤ sizeLine; decide, fun l1 nl1 => ?_⟩⟩
    have g2 : WD.Fr WD.M0 H2 (upd H2 l1 (.lst [.int (1 + r1), .int (6 + r2)])) := WD.Fr.new nl1
    refine ⟨_, rfl, w, 4, rfl, hW2.upd nl1, by decide, by decide, fun r3 H3 r30 r31 f3 hW3 _ => ?_⟩
    have nl1w : l1 ≠ w := fun z => hW2.ne (by rw [← z]; exact nl1)
    have hl3 : H3 l1 = some (.lst ([1 + r1, 6 + r2].map V.int)) := f3.keep _ _ nl1w upd_same
    have F3 := (f1.trans f2).trans ((f0w g2).trans f3)
    refine ⟨rfl, .inr ⟨_, rfl, ?_⟩⟩
    obtain ⟨n, hn, n0, n1⟩ : ∃ n : Nat, atI ([1 + r1, 6 + r2].map V.int) (if decide (V.int r3 = V.int 0) = true then 1 else 0) = some (.int (n : Int)) ∧ 1 ≤ n ∧ n ≤ 9 := by
      cases decide (V.int r3 = V.int 0)
      · exact ⟨(1 + r1).toNat, by show some (V.int (1 + r1)) = _; rw [show (((1 + r1).toNat : Nat) : Int) = 1 + r1 by omega], by omega, by omega⟩
      · exact ⟨(6 + r2).toNat, by show some (V.int (6 + r2)) = _; rw [show (((6 + r2).toNat : Nat) : Int) = 6 + r2 by omega], by omega, by omega⟩
    refine ⟨l1, _, _, _, rfl, rfl, SqL.of hl3, hn, ?_⟩
    refine ⟨_, rfl, w, 7, rfl, hW3, by decide, by decide, fun bad H4 b0 b1 f4 hW4 _ => ?_⟩
    refine ⟨_, rfl, _, rfl, WD.only w, w, n, rfl, rfl, hW4.in_, hW4, n0, n1, fun v5 H5 lm mm f5 hW5 hv5 nl nm => ?_⟩
    obtain ⟨p5, va, vc, rfl, np5, hp5, hva, hvc⟩ := hv5
    refine ⟨p5, _, rfl, SqT.of hp5, rfl, _, _, rfl, _, _, rfl, rfl, ?_⟩
    have F5 := F3.trans (f4.trans f5)
    -- the two partings
    have hlen1 := marks_len lm
    have hlen2 := marks_len mm
    have hin1 := marks_in (ns := lm)
    have hin2 := marks_in (ns := mm)
    have hp1 := marks_part lm
    have hp2 := marks_part mm
    have hn1 : (ofMarks lm).length = n := by omega
    have hn2 : (ofMarks mm).length = n := by omega
    dsimp only at hva hvc
    generalize ofMarks lm = l at hva hin1 hp1 hn1 hlen1
    generalize ofMarks mm = m at hvc hin2 hp2 hn2 hlen2
    have hlm : l.length = m.length := by omega
    have ok12 : okTwo (.tuple (l.map .int)) (.tuple (m.map .int)) = true := okTwo_of hlm hp1 hp2 hin1 hin2
    have ok21 : okTwo (.tuple (m.map .int)) (.tuple (l.map .int)) = true := okTwo_of hlm.symm hp2 hp1 hin2 hin1
    have ok11 : okTwo (.tuple (l.map .int)) (.tuple (l.map .int)) = true := okTwo_of rfl hp1 hp1 hin1 hin1
    obtain ⟨a, rfl, na, ha⟩ := WD.tupI hva
    obtain ⟨c, rfl, nc, hc⟩ := WD.tupI hvc
    refine ⟨_, rfl, _, rfl, WD.only w, a, c, l, m, rfl, ha, hc, hlm, by omega, hW5.in_, fun v6 H6 f6 hv6 => ?_⟩
    obtain ⟨D, pvs, rfl, nD, hD, pal⟩ := hv6
    have hpl := pal.len
    rw [List.length_map] at hpl
    have hbl : (pairsL l m).length ≤ 1000000 := by
      have h1 := pairs_len l m
      have h2 : l.length * l.length ≤ 1000 * 1000 := Nat.mul_le_mul (by omega) (by omega)
      omega
    have ha6 := f6.keep _ _ (fun z => z) ha
    have hc6 := f6.keep _ _ (fun z => z) hc
    have hM6 := hW5.in_.to f6
    refine ⟨D, rfl, ⟨_, SqL.of hD⟩, ?_⟩
    refine WD.lc_sift (R := WD.rP WD.rI WD.rI) (walk_list (xs := pvs)) (fun i => if (!isP m l ((pairsL l m).getD i (0, 0))) = true then some (zP ((pairsL l m).getD i (0, 0))) else none) hM6 (by omega) (fun H' f => SqL.of (f.keep _ _ (fun z => z) hD)) (fun i M' H' hi t2 fr mi Ky Kn ky kn x H'' hy => ?_) (fun D7 H7 hD7 f7 hl7 => ?_)
    · obtain ⟨rfl, hx⟩ := hy
      obtain ⟨z, ez, rz⟩ := pal.get hx
      rw [List.getElem?_map] at ez
      obtain ⟨⟨b, e⟩, eb, rfl⟩ := Option.map_eq_some_iff.mp ez
      have hbe := pairs_mem (List.mem_of_getElem? eb)
      have egd : (pairsL l m).getD i (0, 0) = (b, e) := by rw [List.getD_eq_getElem?_getD, eb]; rfl
      rw [egd] at ky kn
      have rz2 := t2 rz
      refine ⟨rfl, _, rfl, _, rfl, _, rfl, M', c, a, m, l, rfl, fr.keep _ _ (fun z => z) hc6, fr.keep _ _ (fun z => z) ha6, hlm.symm, by omega, mi, fun v8 H8 f8 hv8 => ?_⟩
      have h1 : isP m l (b, e) = true ↔ zP (b, e) ∈ (pairsL m l).map zP := (mem_zP.trans (mem_pairs (by rw [← hlm]; exact hbe.1) (by rw [← hlm]; exact hbe.2))).symm
      refine notInE (WD.encP WD.encI WD.encI) (by decide) (WD.Rep.st (f8.mono fun _ z => z.elim) rz2) hv8 h1 ⟨_, rfl, ?_⟩
      cases hq : isP m l (b, e) with
      | true => exact iteF (kn _ (by rw [hq]; rfl) f8)
      | false => exact iteT ⟨_, rfl, ky _ _ (zP (b, e)) (by rw [hq]; rfl) f8 (WD.Rep.st (f8.mono fun _ z => z.elim) rz2)⟩
    have eres : ((List.range pvs.length).filterMap fun i => if (!isP m l ((pairsL l m).getD i (0, 0))) = true then some (zP ((pairsL l m).getD i (0, 0))) else none) = ((pairsL l m).filter fun p => !isP m l p).map zP := by
      rw [hpl]
      have h1 : ((List.range (pairsL l m).length).filterMap fun i => if (!isP m l ((pairsL l m).getD i (0, 0))) = true then some (zP ((pairsL l m).getD i (0, 0))) else none) = ((List.range (pairsL l m).length).map fun i => (pairsL l m).getD i (0, 0)).filterMap fun p => if (!isP m l p) = true then some (zP p) else none := by
        rw [List.filterMap_map]; rfl
      have h2 := WD.mapRange (fun p : Nat × Nat => p) (0, 0) (pairsL l m) rfl
      rw [List.map_id'' (fun _ => rfl)] at h2
      rw [h1, h2, filterMap_if (fun p => !isP m l p) zP]
    rw [eres] at hl7
    refine ⟨Nat.zero_le _, fun q nq => ?_⟩
    have fq := WD.Fr.new (M := WD.M0) (o := .lst []) nq
    have hq0 : WD.rL (WD.rP WD.rI WD.rI) WD.M0 (upd H7 q (.lst [])) (.ref q) [] := ⟨q, [], rfl, fun z => z, upd_same, trivial⟩
    refine WD.eqD_of (WD.encL (WD.encP WD.encI WD.encI)) (WD.Rep.st (f0w fq) hl7) hq0 ?_
    have eal : decide (((pairsL l m).filter fun p => !isP m l p).map zP = []) = alikeL l m := by
      show _ = (pairsL l m).all (isP m l)
      rw [← all_filter (isP m l) (pairsL l m)]
      exact decide_eq_decide.mpr List.map_eq_nil_iff
    rw [eal]
    have F8 := f6.trans (f7.trans fq)
    generalize upd H7 q (.lst []) = H8 at F8
    have ha8 := F8.keep _ _ (fun z => z) ha
    have hc8 := F8.keep _ _ (fun z => z) hc
    have hW8 := hW5.fr (M := WD.M0) (fun z => z) F8
    refine ⟨by show 2 ≤ sizeLine; decide, fun q2 nq2 => ?_⟩
    have fq2 := WD.Fr.new (M := WD.M0) (o := .lst [.str "no", .str "yes"]) nq2
    refine ⟨_, rfl, .inr ⟨_, rfl, ?_⟩⟩
    have hdue : atI [V.str "no", V.str "yes"] (if alikeL l m = true then 1 else 0) = some (.str (dueStr l m)) := by
      unfold dueStr
      cases alikeL l m <;> rfl
    refine ⟨q2, _, _, _, rfl, rfl, SqL.of upd_same, hdue, ?_⟩
    have F9 := F8.trans fq2
    generalize upd H8 q2 (.lst [.str "no", .str "yes"]) = H9 at F9
    have st9 : ∀ {H' : Hp}, WD.Fr WD.M0 H5 H' → H' a = some (.tup (l.map V.int)) ∧ H' c = some (.tup (m.map V.int)) ∧ WD.MIn (WD.only w) H' := fun f => ⟨f.keep _ _ (fun z => z) ha, f.keep _ _ (fun z => z) hc, hW5.in_.to f⟩
    obtain ⟨ha9, hc9, hM9⟩ := st9 F9
    refine ⟨_, rfl, _, rfl, _, rfl, WD.only w, _, _, l, m, rfl, WD.mkTupI na ha9, WD.mkTupI nc hc9, hM9, hlm, by omega, by omega, ok12, fun H10 f10 => ⟨_, rfl, iteF ?_⟩⟩
    have F10 := F9.trans f10
    obtain ⟨ha10, hc10, hM10⟩ := st9 F10
    have hdsw : dueStr l m = dueStr m l := by unfold dueStr; rw [alike_swap hlm.symm]
    rw [hdsw]
    refine ⟨_, rfl, _, rfl, _, rfl, WD.only w, _, _, m, l, rfl, WD.mkTupI nc hc10, WD.mkTupI na ha10, hM10, hlm.symm, by omega, by omega, ok21, fun H11 f11 => ⟨_, rfl, iteF ?_⟩⟩
    have F11 := F10.trans f11
    obtain ⟨ha11, hc11, hM11⟩ := st9 F11
    have hln : (l.map V.int).length = l.length := List.length_map _
    have f0M : ∀ {H H' : Hp}, WD.Fr WD.M0 H H' → WD.Fr (WD.only w) H H' := f0w
    -- the odd ones
    have rone : ∀ {H' : Hp}, WD.Fr WD.M0 H11 H' → WD.rT WD.rI (WD.only w) H' (.ref a) l := fun f => WD.mkTupI na (f.keep _ _ (fun z => z) ha11)
    refine ⟨_, rfl, a, _, rfl, .inr (SqT.of ha11), fun o1 no1 => ?_⟩
    have g1 := WD.Fr.new (M := WD.M0) (o := .lst (l.map V.int)) no1
    have ro1 : WD.rX (WD.only w) (upd H11 o1 (.lst (l.map V.int))) (.ref o1) (.list (l.map .int)) := WD.lstJ.mpr (WD.mkLstI (hM11.no no1) upd_same)
    generalize upd H11 o1 (.lst (l.map V.int)) = G1 at g1 ro1
    refine ⟨_, rfl, by show 1 ≤ sizeLine; decide, fun t1 nt1 => ?_⟩
    have e1 := WD.Fr.new (M := WD.M0) (o := .tup [.int 0]) nt1
    refine WD.catT (R := WD.rI) ((hM11.to g1).to e1) (rone (g1.trans e1)) (WD.tup1 (hM11.to g1) nt1 rfl) (by show l.length + 1 ≤ _; omega) fun o2 G2 g2 ro2 => ?_
    have g2' := e1.trans g2
    have G12 := g1.trans g2'
    have ro2' : WD.rX (WD.only w) G2 o2 (.tuple ((l ++ [0]).map .int)) := WD.tupJ.mpr ro2
    -- one[:-1]
    have cutl : cutV (l.map V.int) none (some (-1)) = (l.take (l.length - 1)).map V.int := by
      unfold cutV
      rw [hln, HT.sIx_none]
      show ((l.map V.int).drop 0).take ((if (-1 : Int) < 0 then ((-1 : Int) + (l.length : Int)).toNat else min (-1 : Int).toNat l.length) - 0) = _
      rw [if_pos (by decide), List.drop_zero, List.map_take, Nat.sub_zero]
      congr 1
      omega
    have ncut : ¬ (HT.sIx (l.map V.int).length 0 none = 0 ∧ HT.sIx (l.map V.int).length (l.map V.int).length (some (-1)) = (l.map V.int).length) := fun z => by
      have h2 := z.2
      rw [hln] at h2
      have h3 : (if (-1 : Int) < 0 then ((-1 : Int) + (l.length : Int)).toNat else min (-1 : Int).toNat l.length) = l.length := h2
      rw [if_pos (by decide)] at h3
      omega
    have htk : (l.take (l.length - 1)).length ≤ 1000 := by rw [List.length_take]; omega
    refine ⟨_, rfl, _, rfl, _, rfl, a, _, rfl, SqT.of (G12.keep _ _ (fun z => z) ha11), fun z => absurd z ncut, fun _ t2 nt2 => ?_⟩
    rw [cutl]
    have e2 := WD.Fr.new (M := WD.M0) (o := .tup ((l.take (l.length - 1)).map V.int)) nt2
    have rt2 : WD.rT WD.rI (WD.only w) (upd G2 t2 (.tup ((l.take (l.length - 1)).map V.int))) (.ref t2) (l.take (l.length - 1)) := WD.mkTupI ((hM11.to G12).no nt2) upd_same
    generalize upd G2 t2 (.tup ((l.take (l.length - 1)).map V.int)) = G3 at e2 rt2
    have hM3 := (hM11.to G12).to e2
    refine ⟨_, rfl, by show 1 ≤ sizeLine; decide, fun t3 nt3 => ?_⟩
    have e3 := WD.Fr.new (M := WD.M0) (o := .tup [.int (n : Int)]) nt3
    refine WD.catT (R := WD.rI) (hM3.to e3) (WD.Rep.st (f0w e3) rt2) (WD.tup1 hM3 nt3 rfl) (by show (l.take (l.length - 1)).length + 1 ≤ _; omega) fun o3 G4 g4 ro3 => ?_
    have G34 := e3.trans g4
    have ro3' : WD.rX (WD.only w) G4 o3 (.tuple ((l.take (l.length - 1)).map .int ++ [.int (n : Int)])) := by
      have := WD.tupJ.mpr ro3
      rw [List.map_append] at this
      exact this
    have G14 := G12.trans (e2.trans G34)
    refine ⟨_, rfl, _, rfl, _, rfl, a, _, rfl, SqT.of (G14.keep _ _ (fun z => z) ha11), fun z => absurd z ncut, fun _ t4 nt4 => ?_⟩
    rw [cutl]
    have e4 := WD.Fr.new (M := WD.M0) (o := .tup ((l.take (l.length - 1)).map V.int)) nt4
    have rt4 : WD.rT WD.rX (WD.only w) (upd G4 t4 (.tup ((l.take (l.length - 1)).map V.int))) (.ref t4) ((l.take (l.length - 1)).map .int) := WD.rJ_tuple.mp (WD.tupJ.mpr (WD.mkTupI ((hM11.to G14).no nt4) upd_same))
    generalize upd G4 t4 (.tup ((l.take (l.length - 1)).map V.int)) = G5 at e4 rt4
    have hM5 := (hM11.to G14).to e4
    refine ⟨by show 1 ≤ sizeLine; decide, fun t5 nt5 => ?_⟩
    have e5 := WD.Fr.new (M := WD.M0) (o := .tup [.bl true]) nt5
    refine WD.catT (R := WD.rX) (hM5.to e5) (WD.Rep.st (f0w e5) rt4) (WD.tup1 (R := WD.rX) (a := .bool true) hM5 nt5 (WD.rJ_bool.mpr rfl)) (by rw [List.length_map]; show (l.take (l.length - 1)).length + 1 ≤ _; omega) fun o4 G6 g6 ro4 => ?_
    have ro4' : WD.rX (WD.only w) G6 o4 (.tuple ((l.take (l.length - 1)).map .int ++ [.bool true])) := WD.rJ_tuple.mpr ro4
    have G56 := e5.trans g6
    have G16 := G14.trans (e4.trans G56)
    have hM6' := hM11.to G16
    -- (one[0] + 1,) + one[1:]
    have hzero : l.getD 0 0 = 0 := by
      have h1 := (part_at hp1 (show 0 < l.length by omega)).1
      have h2 := (hin1 (l.getD 0 0) (by rw [List.getD_eq_getElem?_getD, List.getElem?_eq_getElem (show 0 < l.length by omega)]; exact List.getElem_mem _)).1
      omega
    have haG6 := G16.keep _ _ (fun z => z) ha11
    refine ⟨_, rfl, a, _, 0, .int (l.getD 0 0), rfl, rfl, SqT.of haG6, ?_, _, _, rfl, rfl, by show 1 ≤ sizeLine; decide, fun t6 nt6 => ?_⟩
    · have hlt : ((0 : Int)).toNat < l.length := by show 0 < l.length; omega
      rw [WD.atI_int (by decide) hlt, List.getD_eq_getElem?_getD, List.getElem?_eq_getElem (show 0 < l.length by omega)]
      rfl
    have e6 := WD.Fr.new (M := WD.M0) (o := .tup [.int (l.getD 0 0 + 1)]) nt6
    have haG7 := e6.keep _ _ (fun z => z) haG6
    have cutr : cutV (l.map V.int) (some 1) none = (l.drop 1).map V.int := by
      unfold cutV
      rw [hln, HT.sIx_none, show (some (1 : Int)) = some ((1 : Nat) : Int) from rfl, HT.sIx_nat, Nat.min_eq_left (by omega), List.map_drop]
      exact List.take_of_length_le (by rw [List.length_drop, hln]; exact Nat.le_refl _)
    have ncut2 : ¬ (HT.sIx (l.map V.int).length 0 (some 1) = 0 ∧ HT.sIx (l.map V.int).length (l.map V.int).length none = (l.map V.int).length) := fun z => by
      have h2 := z.1
      rw [hln, show (some (1 : Int)) = some ((1 : Nat) : Int) from rfl, HT.sIx_nat, Nat.min_eq_left (by omega)] at h2
      exact absurd h2 (by decide)
    refine ⟨_, rfl, 1, rfl, a, _, rfl, SqT.of haG7, fun z => absurd z ncut2, fun _ t7 nt7 => ?_⟩
    rw [cutr]
    have e7 := WD.Fr.new (M := WD.M0) (o := .tup ((l.drop 1).map V.int)) nt7
    have hM7 := hM6'.to e6
    refine WD.catT (R := WD.rI) (hM7.to e7) (WD.Rep.st (f0w e7) (WD.tup1 hM6' nt6 rfl)) (WD.mkTupI (hM7.no nt7) upd_same) (by rw [List.length_drop]; show 1 + _ ≤ _; omega) fun o6 G8 g8 ro6 => ?_
    have G68 := e6.trans (e7.trans g8)
    have ro6' : WD.rX (WD.only w) G8 o6 (.tuple (((l.getD 0 0 + 1) :: l.drop 1).map .int)) := WD.tupJ.mpr ro6
    have G18 := G16.trans G68
    refine ⟨by show 7 ≤ sizeLine; decide, fun q7 nq7 => ?_⟩
    have e8 := WD.Fr.new (M := WD.M0) (o := .lst [.ref o1, o2, o3, o4, .non, o6, .str "0"]) nq7
    have G19 := G18.trans e8
    have fromG : ∀ {Ha Hb : Hp} {v : V} {d : PyData}, WD.Fr WD.M0 Ha Hb → WD.rX (WD.only w) Ha v d → WD.rX (WD.only w) Hb v d := fun f r => WD.Rep.st (f0w f) r
    have hpick : ∃ v d, atI [V.ref o1, o2, o3, o4, .non, o6, .str "0"] bad = some v ∧ WD.rX (WD.only w) (upd G8 q7 (.lst [.ref o1, o2, o3, o4, .non, o6, .str "0"])) v d ∧ Odd l d := by
      have hh : bad = 0 ∨ bad = 1 ∨ bad = 2 ∨ bad = 3 ∨ bad = 4 ∨ bad = 5 ∨ bad = 6 := by omega
      rcases hh with e | e | e | e | e | e | e
      · subst e
        exact ⟨_, _, rfl, fromG (g2'.trans (e2.trans (G34.trans (e4.trans (G56.trans (G68.trans e8)))))) ro1, odd_not rfl (fun _ => rfl) (by show (l.map PyData.int).length ≤ 1000; rw [List.length_map]; omega)⟩
      · subst e
        exact ⟨_, _, rfl, fromG (e2.trans (G34.trans (e4.trans (G56.trans (G68.trans e8))))) ro2', odd_longer (by omega)⟩
      · subst e
        exact ⟨_, _, rfl, fromG (e4.trans (G56.trans (G68.trans e8))) ro3', odd_last (by omega) (by omega) (by show WD.inR (l.length : Int) (n : Int) = false; unfold WD.inR; rw [decide_eq_false (show ¬ (n : Int) < l.length by omega), Bool.and_false])⟩
      · subst e
        exact ⟨_, _, rfl, fromG (G68.trans e8) ro4', odd_last (by omega) (by omega) rfl⟩
      · subst e
        exact ⟨_, .none, rfl, WD.rJ_none.mpr rfl, odd_not rfl (fun _ => rfl) (Nat.zero_le _)⟩
      · subst e
        exact ⟨_, _, rfl, fromG e8 ro6', odd_first (by omega) (by omega) hzero⟩
      · subst e
        exact ⟨_, .str "0", rfl, WD.rJ_str.mpr ⟨rfl, by decide +kernel⟩, odd_not rfl (fun _ => rfl) (Nat.zero_le _)⟩
    obtain ⟨vo, dO, evo, hvo, odd⟩ := hpick
    refine ⟨_, rfl, q7, _, _, vo, rfl, rfl, SqL.of upd_same, evo, ?_⟩
    generalize upd G8 q7 (.lst [.ref o1, o2, o3, o4, .non, o6, .str "0"]) = G9 at G19 hvo
    have F12 := F11.trans G19
    obtain ⟨ha12, hc12, hM12⟩ := st9 F12
    have zl : (WD.itemsD (.tuple (l.map .int))).length ≤ 1000 := by show (l.map PyData.int).length ≤ 1000; rw [List.length_map]; omega
    have ra : ∀ {H' : Hp}, WD.Fr WD.M0 H5 H' → WD.rX (WD.only w) H' (.ref a) (.tuple (l.map .int)) := fun f => WD.tupJ.mpr (WD.mkTupI na (f.keep _ _ (fun z => z) ha))
    have tup3 : ∀ {H' : Hp} {p : Addr}, WD.rX WD.M0 (upd H' p (.tup [.str "no folding", .int (-1), .bl true])) (.ref p) noFold := fun {H' p} => WD.rJ_tuple.mpr ⟨p, _, rfl, fun z => z, upd_same, WD.rJ_str.mpr ⟨rfl, strNF⟩, WD.rJ_int.mpr rfl, WD.rJ_bool.mpr rfl, trivial⟩
    refine ⟨_, rfl, _, rfl, WD.only w, _, _, dO, _, rfl, hvo, ra F12, hM12, odd.z, zl, odd.a, fun w1 H13 f13 hw1 => ?_⟩
    refine ⟨_, rfl, by show 3 ≤ sizeLine; decide, fun p1 np1 => ?_⟩
    have i1 := WD.Fr.new (M := WD.M0) (o := .tup [.str "no folding", .int (-1), .bl true]) np1
    refine WD.neJ (WD.Rep.st (f0w i1) hw1) tup3 dep_nf dep_nf ⟨_, rfl, ?_⟩
    rw [eqv_self_nf]
    refine iteF ?_
    have F13 := F12.trans (f13.trans i1)
    refine ⟨_, rfl, _, rfl, WD.only w, _, _, _, dO, rfl, ra F13, fromG (f13.trans i1) hvo, hM12.to (f13.trans i1), zl, odd.z, odd.b, fun w2 H14 f14 hw2 => ?_⟩
    refine ⟨_, rfl, by show 3 ≤ sizeLine; decide, fun p2 np2 => ?_⟩
    have i2 := WD.Fr.new (M := WD.M0) (o := .tup [.str "no folding", .int (-1), .bl true]) np2
    refine WD.neJ (WD.Rep.st (f0w i2) hw2) tup3 dep_nf dep_nf ⟨_, rfl, ?_⟩
    rw [eqv_self_nf]
    refine iteF ?_
    have F14 := F13.trans (f14.trans i2)
    have hM14 := hM12.to ((f13.trans i1).trans (f14.trans i2))
    refine ⟨_, rfl, _, rfl, WD.only w, _, _, _, _, rfl, ra F14, ra F14, hM14, zl, zl, fun _ w3 H15 f15 hw3 _ => ?_, fun h => absurd h (by rw [ok11]; exact fun z => nomatch z)⟩
    rw [intsD_ints, answer_yes (alike_self l)] at hw3
    obtain ⟨t9, tvs9, rfl, _, ht9, tal9⟩ := WD.rJ_tuple.mp hw3
    match tvs9, tal9 with
    | [vx9, vy9], ⟨q1, _, _⟩ =>
      obtain ⟨rfl, _⟩ := WD.rJ_str.mp q1
      refine ⟨t9, _, 0, _, rfl, rfl, SqT.of ht9, rfl, rfl, ?_⟩
      rw [decide_eq_true rfl]
      exact k _ (F5.trans (f0w (F14.trans f15)))
end
theorem alike_ex1 : alikeL [0, 0, 2] [0, 1, 1] = false := by decide +kernel
theorem alike_ex2 : alikeL [0, 0] [0, 1] = true := by decide +kernel
theorem ok_ex1 : okTwo (.tuple ([0, 0, 2].map .int)) (.tuple ([0, 1, 1].map .int)) = true := by decide +kernel
theorem ok_ex2 : okTwo (.tuple ([0, 0].map .int)) (.tuple ([0, 1].map .int)) = true := by decide +kernel
def sp_law (K : PySem.W.Frag) : Sp := fun vs H Q _ => ∃ (a : Addr) (ns : List Int), vs = [.ref a] ∧ SqL K H a (ns.map V.int) ∧ ns.length ≤ 63 ∧ ∀ H', Q (.bl true) H'
theorem law_ask {K : PySem.W.Frag} {H : Hp} {a : Addr} {ns : List Int} (hl : ns.length ≤ 63) (hS : SqL K H a (ns.map V.int)) : sp_law K [.ref a] H (fun v _ => v = .bl true) (fun _ _ _ => False) := ⟨a, ns, rfl, hS, hl, fun _ => rfl⟩
section
variable {P : Program} {w : World} {K : PySem.W.Frag} {mg : Str → Option Value} {base : Heap}
theorem law_fn {fd : FuncData} (T : Tx K mg) (F : FunD K "law" "law" (defArgs s_law) (defBody s_law) (defScope s_law) [] [] (He.ga K "law") fd) : FnOk P w K mg base CX0 10 (He.ga K "law") fd ["_law_script"] (sp_law K) := by
  refine F.ok sc_law (fun vs H Q E h => ?_) (fun cdv A outer s H vs Q E hr h => ?_)
  · obtain ⟨a, ns, rfl, hS, hl, k⟩ := h
    rfl
  · obtain ⟨a, ns, rfl, hS, hl, k⟩ := h
    refine ⟨_, PSs.nox (pss_cons (ps_for PassesOwn.never rfl (WD.k_pi_enum K (by rfl) T.z_enumerate (pa_cons (pe_slice (WD.k_sl_list K) (pe_op (WD.k_op_catL K) (pv 0) (pe_lst (pa_cons pe_int pa_nil))) po_none (po_some pe_int)) pa_nil)) (WD.k_pg_tup K (n := 2) rfl (pgs_cons (pg_name (i := 1) sc_law.nd rfl (.inl rfl)) (pgs_cons (pg_name (i := 2) sc_law.nd rfl (.inl rfl)) pgs_nil)))
        (pss_one (ps_if (pt_not (pt_val (WD.pe_cal (ok__law_right T) (hr.mono (by decide)) (by rfl) (pa_cons (pe_lst (pa_cons (pe_op op_mul (pv 2) (pe_callTy call_int1 (by rfl) T.z_int WD.bt_int (pa_cons (pe_cmpR op_ge (pv 2) (pe_op op_pow pe_int pe_int) (nomark _)) pa_nil))) (pa_cons (pe_op op_add (pe_op op_mod (pv 2) pe_int) (pe_op op_mul pe_int (pv 1))) (pa_cons pe_int pa_nil)))) pa_nil))))
        (pss_one (ps_ret pe_bl))
        pss_nil)))
      (pss_one (ps_ret (pe_and (pe_cmpR op_eq (pe_ix (WD.k_ix_tup K) (WD.pe_calX (ok_permuted T) takes0 (hr.mono (by decide)) (by rfl) (pa_cons (pe_tup (pa_cons pe_int (pa_cons pe_int (pa_cons pe_int pa_nil)))) (pa_cons (pe_tup (pa_cons pe_int (pa_cons pe_int (pa_cons pe_int pa_nil)))) pa_nil))) pe_int (fun _ _ => rfl)) pe_str (nomark _)) (pe_one (pe_cmpR op_eq (pe_ix (WD.k_ix_tup K) (WD.pe_calX (ok_permuted T) takes0 (hr.mono (by decide)) (by rfl) (pa_cons (pe_tup (pa_cons pe_int (pa_cons pe_int pa_nil))) (pa_cons (pe_tup (pa_cons pe_int (pa_cons pe_int pa_nil))) pa_nil))) pe_int (fun _ _ => rfl)) pe_str (nomark _))))))), ?_⟩
    have hSz := sizeLine_eq
    refine ⟨_, rfl, by show 1 ≤ sizeLine; decide, fun l1 nl1 => ?_⟩
    have f1 : WD.Fr WD.M0 H (upd H l1 (.lst [.int 0])) := WD.Fr.new nl1
    have hS1 : SqL K (upd H l1 (.lst [.int 0])) a (ns.map V.int) := Same.seq (fun b o e => f1.keep b o (fun z => z) e) hS
    refine ⟨a, l1, _, _, rfl, rfl, hS1, SqL.of upd_same, by rw [List.length_map]; show _ + 1 ≤ _; omega, fun l2 nl2 => ?_⟩
    refine ⟨6, rfl, l2, _, rfl, SqL.of upd_same, fun l3 nl3 => ?_⟩
    obtain ⟨cs, hcs⟩ : ∃ cs : List Int, cutV (ns.map V.int ++ [.int 0]) none (some 6) = cs.map V.int := by
      refine ⟨WD.cutL (ns ++ [0]) none (some 6), ?_⟩
      have e : ns.map V.int ++ [.int 0] = (ns ++ [0]).map V.int := by rw [List.map_append]; rfl
      rw [e]
      exact ((WD.All2.of_map (R := fun v i => v = V.int i) (fun _ => rfl) (ns ++ [0])).cut none (some 6)).eq_map fun _ _ z => z
    rw [hcs]
    generalize upd (upd H l1 (.lst [.int 0])) l2 (.lst (ns.map V.int ++ [.int 0])) = Hx at nl3
    refine ⟨l3, _, rfl, SqL.of upd_same, ?_⟩
    refine for_it (walk_enum (xs := cs.map V.int)) (fun i σ H' => ∃ y z, σ = [some (.ref a), y, z] ∧ H' l3 = some (.lst (cs.map V.int))) ⟨none, none, rfl, upd_same⟩ (fun i σ H' _ ⟨y, z, _, h⟩ => SqL.of h) (fun i v σ H1 H2 hi pp hy => ?_) (fun σ H1 pp => ?_)
    · obtain ⟨y, z, rfl, h3⟩ := pp
      obtain ⟨t, v1, v2, rfl, nt, rfl, e1, e2⟩ := hy
      cases e1
      have e2' : (cs.map V.int)[i]? = some v2 := e2
      rw [List.getElem?_map] at e2'
      obtain ⟨c, ec, rfl⟩ := Option.map_eq_some_iff.mp e2'
      refine ⟨t, _, rfl, SqT.of upd_same, rfl, _, _, rfl, _, _, rfl, rfl, ?_⟩
      have hcond : (0 : Int) < 2147483647 := by decide
      refine ⟨_, rfl, _, rfl, _, _, rfl, rfl, ⟨by decide, by decide, by decide⟩, _, _, rfl, rfl, .inr ⟨_, rfl, ?_⟩⟩
      refine ⟨_, _, rfl, rfl, .inr (by split <;> exact ⟨by decide, by decide⟩), ?_⟩
      refine ⟨_, rfl, _, _, rfl, rfl, hcond, _, rfl, _, _, rfl, rfl, .inl ⟨by decide, by decide⟩, _, _, rfl, rfl, by show 3 ≤ sizeLine; decide, fun l4 nl4 => ?_⟩
      refine ⟨l4, rfl, ⟨_, _, _, upd_same⟩, fun H4 f4 => ⟨true, rfl, iteF ?_⟩⟩
      refine ⟨_, _, rfl, f4.keep _ _ (fun z => ?_) ?_⟩
      · rw [← z] at nl4
        rw [upd_ne (ne_of_none h3 nt), h3] at nl4
        cases nl4
      · have h3t : (upd H1 t (.tup [.int (i : Nat), .int c])) l3 = some (.lst (cs.map V.int)) := by rw [upd_ne (ne_of_none h3 nt)]; exact h3
        rw [upd_ne (ne_of_none h3t nl4)]
        exact h3t
    · obtain ⟨y, z, rfl, h3⟩ := pp
      refine ⟨by show 3 ≤ sizeLine; decide, fun e1 ne1 => ⟨by show 3 ≤ sizeLine; decide, fun e2 ne2 => ?_⟩⟩
      have i1 := WD.Fr.new (M := WD.M0) (o := .tup [.int 0, .int 0, .int 2]) ne1
      have i2 := WD.Fr.new (M := WD.M0) (o := .tup [.int 0, .int 1, .int 1]) ne2
      have r1 : WD.rX WD.M0 (upd (upd H1 e1 (.tup [.int 0, .int 0, .int 2])) e2 (.tup [.int 0, .int 1, .int 1])) (.ref e1) (.tuple ([0, 0, 2].map .int)) := WD.tupJ.mpr (WD.mkTupI (fun z => z) (i2.keep _ _ (fun z => z) upd_same))
      have r2 : WD.rX WD.M0 (upd (upd H1 e1 (.tup [.int 0, .int 0, .int 2])) e2 (.tup [.int 0, .int 1, .int 1])) (.ref e2) (.tuple ([0, 1, 1].map .int)) := WD.tupJ.mpr (WD.mkTupI (fun z => z) upd_same)
      refine ⟨WD.M0, _, _, _, _, rfl, r1, r2, WD.MIn.zero, by show 3 ≤ 1000; decide, by show 3 ≤ 1000; decide, fun _ w1 H5 f5 hw1 _ => ?_, fun h => absurd h (by rw [ok_ex1]; exact fun z => nomatch z)⟩
      rw [intsD_ints, intsD_ints] at hw1
      obtain ⟨b, x, e, _, _, _, _, ea⟩ := answer_no alike_ex1
      rw [ea] at hw1
      obtain ⟨t9, tvs9, rfl, _, ht9, tal9⟩ := WD.rJ_tuple.mp hw1
      match tvs9, tal9 with
      | [vx9, vy9], ⟨q1, _, _⟩ =>
        obtain ⟨rfl, _⟩ := WD.rJ_str.mp q1
        refine ⟨t9, _, 0, _, rfl, rfl, SqT.of ht9, rfl, rfl, _, rfl, ?_⟩
        rw [decide_eq_true rfl]
        refine iteT ?_
        refine ⟨by show 2 ≤ sizeLine; decide, fun e3 ne3 => ⟨by show 2 ≤ sizeLine; decide, fun e4 ne4 => ?_⟩⟩
        have i3 := WD.Fr.new (M := WD.M0) (o := .tup [.int 0, .int 0]) ne3
        have i4 := WD.Fr.new (M := WD.M0) (o := .tup [.int 0, .int 1]) ne4
        have r3 : WD.rX WD.M0 (upd (upd H5 e3 (.tup [.int 0, .int 0])) e4 (.tup [.int 0, .int 1])) (.ref e3) (.tuple ([0, 0].map .int)) := WD.tupJ.mpr (WD.mkTupI (fun z => z) (i4.keep _ _ (fun z => z) upd_same))
        have r4 : WD.rX WD.M0 (upd (upd H5 e3 (.tup [.int 0, .int 0])) e4 (.tup [.int 0, .int 1])) (.ref e4) (.tuple ([0, 1].map .int)) := WD.tupJ.mpr (WD.mkTupI (fun z => z) upd_same)
        refine ⟨WD.M0, _, _, _, _, rfl, r3, r4, WD.MIn.zero, by show 2 ≤ 1000; decide, by show 2 ≤ 1000; decide, fun _ w2 H6 f6 hw2 _ => ?_, fun h => absurd h (by rw [ok_ex2]; exact fun z => nomatch z)⟩
        rw [intsD_ints, intsD_ints, answer_yes alike_ex2] at hw2
        obtain ⟨t8, tvs8, rfl, _, ht8, tal8⟩ := WD.rJ_tuple.mp hw2
        match tvs8, tal8 with
        | [vx8, vy8], ⟨q2, _, _⟩ =>
          obtain ⟨rfl, _⟩ := WD.rJ_str.mp q2
          refine ⟨t8, _, 0, _, rfl, rfl, SqT.of ht8, rfl, rfl, ?_⟩
          rw [decide_eq_true rfl]
          exact k _
end
end K57
/-! ### the head and the end -/
namespace K57
open PySem PySem.Spec PyProof.Rows L2
abbrev R : PySem.W.OpenRow := PySem.W.OpenLaw.row PySem.Challenge.rw_wishdeeds_k57_whole_permuted_or_not
abbrev hk : PySem.W.Hook := WD.hookE 5 fa fn fx
def ob (s : PySem.W.SharedT) : He.AlD := WD.obsEG 5 fa fn fx (HandSHeadRun.getT s)
theorem ob_eq (s : PySem.W.SharedT) : ob s = hk.obs s.abs := WD.obsEG_eq (HandSHeadRun.getT_eq s)
def loose : List PySem.Str := (["WishError", "NoPaper", "NoFolding", "is_whole", "is_thing", "is_row", "is_parting", "check_two", "amid_of", "permuted", "ends_led", "check_yes", "check_no", "check_permuted", "_law_draw", "_law_of_marks", "_law_two", "_law_amid", "_law_pairs", "_law_joined", "_law_is_thing", "_law_yes", "_law_no", "_law_told_right", "_law_asked_at", "_law_refused", "_law_right"] : List PySem.Str)
theorem run (w : World) : HandSHeadRun.RunEq R (PySem.W.view R.prog [32]) hk ob 6000 loose w := by
  intro os
  kernel_rfl
theorem facts {P : Program} {w : World} {K : PySem.W.Frag} {h : Heap} {mg : Str → Option Value} {f : Addr} (X : K.In h) (G : h.Ns mainGlobals mg) (hfa : mg ("law" : Str) = some (.ref f)) (c : WD.SaysE fa fn fx K) :
    ∃ fd : FuncData, (∀ (s : Shared) (v : Value), BindsTo s fd ⟨[v], []⟩ [("_law_script", v)]) ∧ ∀ base : Heap, K.In base → base.Ns mainGlobals mg → FnOk P w K mg base CX0 10 f fd ["_law_script"] (sp_law K) := by
  have T := mkTx X G c
  obtain ⟨fd, F⟩ := T.F_law
  have e := hfa.symm.trans T.g_law
  cases e
  have b := FunD.bindsA (ps := ["_law_script"]) F fun _ _ _ _ _ _ us hl => match us, hl with | [_], _ => rfl
  exact ⟨fd, fun s v => b s [v] rfl, fun base _ _ => law_fn T F⟩
end K57
open PySem PySem.W PySem.Calls PyProof.Rows
set_option maxHeartbeats 0 in
theorem PySem.Challenge.cw_wishdeeds_k57_whole_permuted_or_not_holds : PySem.Challenge.rw_wishdeeds_k57_whole_permuted_or_not.Holds := by
  w_on; o_law
  refine HandSHeadRun.head_any (r := OpenLaw.row PySem.Challenge.rw_wishdeeds_k57_whole_permuted_or_not) (q := view (OpenLaw.row PySem.Challenge.rw_wishdeeds_k57_whole_permuted_or_not).prog [32]) (H := K57.hk) (ob := K57.ob) (M := 6000) (loose := K57.loose) (d := HandSHeadRun.topDef (OpenLaw.row PySem.Challenge.rw_wishdeeds_k57_whole_permuted_or_not).prog 32) (kwd := []) K57.ob_eq
    (by kernel_rfl) (fun s => by kernel_rfl) K57.run (by kernel_rfl) (by kernel_rfl) (by kernel_rfl) (by rfl) (by first | assumption | decide +kernel) (by decide +kernel) ⟨rfl, rfl, rfl, rfl, rfl, by decide +kernel⟩ ?hw ?hc
  case hw => w_witness2
  case hc =>
    refine L2.walk_ofE (l := PySem.Challenge.rw_wishdeeds_k57_whole_permuted_or_not) (n := 63) (k := 10) (x := "_law_script") (CX := L2.CX0) rfl (by decide) (by kernel_rfl) ⟨rfl, by decide, by decide⟩ ?F (fun _ _ _ _ z => z)
    intro w mg fa h Y G hmg0
    obtain ⟨K, KX, c⟩ := Y
    have hmg : mg ("law" : PySem.Str) = some (.ref fa) := by
      have e : (HandSHeadRun.topDef (OpenLaw.row PySem.Challenge.rw_wishdeeds_k57_whole_permuted_or_not).prog 32).name = ("law" : PySem.Str) := by kernel_rfl
      rw [← e]
      exact hmg0
    obtain ⟨fd, hb, hF⟩ := K57.facts (P := (PySem.Challenge.rw_wishdeeds_k57_whole_permuted_or_not).prog) (w := w) KX G hmg c
    exact ⟨K, fd, K57.sp_law K, KX, hb, fun H a ns hl _ hS => K57.law_ask hl hS, hF⟩
