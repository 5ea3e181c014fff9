import PyProof.Rows.All
import Wide.All
import OpenK.AllK
import Wide.FinOn
import KE.KStateDown
import KE.KTupSum
import KE.DataMinMax
import HandS.ForMost
import HandS.IsInst
import HandS.Walk
import HandS.Conv
import HandS.Zip
import HandS.TupLe
import HandS.TupAny
import HandS.Evl
import HandS.Deep
import HandS.Defaults
import HandS.HeadHook1
import HandS.HeadHook2
import HandS.Head0
import HandS.Head1
import HandS.Head2
import HandS.HeadEnd
import HandS.WordsExc
import HandS.Steps
import KE.KDictList
import HandS.ListItems
import HandS.Codes
import PySem.Challenge.RW_wishdeeds_k04_houses_that_fit
set_option Elab.async false
set_option linter.all false
set_option maxRecDepth 100000
set_option maxHeartbeats 4000000
namespace WD
open PySem PySem.Spec PyProof.Rows L2

/-! ### frames -/
abbrev MS := Addr → Prop
structure Fr (M : MS) (H H' : Hp) : Prop where
  keep : ∀ a o, ¬ M a → H a = some o → H' a = some o
  dom : ∀ a, H' a = none → H a = none
abbrev M0 : MS := fun _ => False
abbrev plus (M : MS) (D : Addr) : MS := fun x => M x ∨ x = D
theorem Fr.refl {M : MS} (H : Hp) : Fr M H H := ⟨fun _ _ _ h => h, fun _ h => h⟩
theorem Fr.trans {M : MS} {H H1 H2 : Hp} (a : Fr M H H1) (b : Fr M H1 H2) : Fr M H H2 :=
  ⟨fun x o n h => b.keep x o n (a.keep x o n h), fun x h => a.dom x (b.dom x h)⟩
theorem Fr.mono {M M' : MS} {H H' : Hp} (a : Fr M H H') (s : ∀ x, M x → M' x) : Fr M' H H' :=
  ⟨fun x o n h => a.keep x o (fun z => n (s x z)) h, a.dom⟩
theorem upd_none {H : Hp} {p a : Addr} {o : HO} (h : upd H p o a = none) : a ≠ p ∧ H a = none := by
  by_cases e : a = p
  · subst e; rw [upd_same] at h; cases h
  · rw [upd_ne e] at h; exact ⟨e, h⟩
theorem Fr.new {M : MS} {H : Hp} {p : Addr} {o : HO} (h : H p = none) : Fr M H (upd H p o) :=
  ⟨fun a u _ e => by rw [upd_ne (ne_of_none e h)]; exact e, fun a e => (upd_none e).2⟩
theorem Fr.mutNew {M : MS} {H H' : Hp} {p : Addr} {o : HO} (f : Fr M H H') (h : H p = none) : Fr M H (upd H' p o) :=
  ⟨fun a u n e => by rw [upd_ne (ne_of_none e h)]; exact f.keep a u n e, fun a e => f.dom a (upd_none e).2⟩
theorem Fr.mut {M : MS} {H : Hp} {p : Addr} {o : HO} (h : M p) : Fr M H (upd H p o) :=
  ⟨fun a u n e => by rw [upd_ne (fun z : a = p => n (by rw [z]; exact h))]; exact e, fun a e => (upd_none e).2⟩
theorem Fr.of_plus {M : MS} {H H' : Hp} {D : Addr} (f : Fr (plus M D) H H') (h : H D = none) : Fr M H H' :=
  ⟨fun a o n e => f.keep a o (fun z => z.elim n (fun q => by rw [q, h] at e; cases e)) e, f.dom⟩
def MIn (M : MS) (H : Hp) : Prop := ∀ a, M a → H a ≠ none
theorem MIn.to {M M' : MS} {H H' : Hp} (m : MIn M H) (f : Fr M' H H') : MIn M H' := fun a h z => m a h (f.dom a z)
theorem MIn.no {M : MS} {H : Hp} {p : Addr} (m : MIn M H) (h : H p = none) : ¬ M p := fun z => m p z h
theorem MIn.plus {M : MS} {H : Hp} {D : Addr} {o : HO} (m : MIn M H) (h : H D = some o) : MIn (plus M D) H := fun a z => z.elim (m a) (fun q => by rw [q, h]; exact fun e => nomatch e)
theorem MIn.zero {H : Hp} : MIn M0 H := fun _ h => h.elim

/-! ### relations: a value in a heap and the datum that it is -/
abbrev Rl (α : Type) := MS → Hp → V → α → Prop
class Rep {α : Type} (R : Rl α) : Prop where
  st : ∀ {M : MS} {H H' : Hp} {v : V} {a : α}, Fr M H H' → R M H v a → R M H' v a
  wk : ∀ {M M' : MS} {H : Hp} {v : V} {a : α}, (∀ x, M x → M' x) → R M' H v a → R M H v a
  ad : ∀ {M : MS} {H : Hp} {v : V} {a : α} {D : Addr}, H D = none → R M H v a → R (plus M D) H v a
/-- what was known there is known here -/
def Tr (M : MS) (H : Hp) (M' : MS) (H' : Hp) : Prop := ∀ {α : Type} {R : Rl α} [Rep R] {v : V} {a : α}, R M H v a → R M' H' v a
theorem Fr.tr {M : MS} {H H' : Hp} (f : Fr M H H') : Tr M H M H' := fun h => Rep.st f h
theorem Tr.refl {M : MS} {H : Hp} : Tr M H M H := fun h => h
theorem Tr.trans {M M1 M2 : MS} {H H1 H2 : Hp} (a : Tr M H M1 H1) (b : Tr M1 H1 M2 H2) : Tr M H M2 H2 := fun h => b (a h)
theorem Tr.ad {M : MS} {H : Hp} {D : Addr} (h : H D = none) : Tr M H (plus M D) H := fun x => Rep.ad h x
theorem Tr.wk {M M' : MS} {H : Hp} (s : ∀ x, M x → M' x) : Tr M' H M H := fun x => Rep.wk s x
theorem Tr.of_plus {M : MS} {H : Hp} {D : Addr} : Tr (plus M D) H M H := Tr.wk fun _ h => .inl h

def All2 {α : Type} (R : V → α → Prop) : List V → List α → Prop
  | [], [] => True
  | v :: vs, a :: as => R v a ∧ All2 R vs as
  | _, _ => False
section
variable {α β : Type} {R : V → α → Prop}
theorem All2.len : ∀ {vs : List V} {as : List α}, All2 R vs as → vs.length = as.length
  | [], [], _ => rfl
  | _ :: _, _ :: _, h => congrArg Nat.succ h.2.len
  | [], _ :: _, h => h.elim
  | _ :: _, [], h => h.elim
theorem All2.imp {R' : V → α → Prop} (f : ∀ v a, R v a → R' v a) : ∀ {vs : List V} {as : List α}, All2 R vs as → All2 R' vs as
  | [], [], _ => trivial
  | _ :: _, _ :: _, h => ⟨f _ _ h.1, h.2.imp f⟩
  | [], _ :: _, h => h.elim
  | _ :: _, [], h => h.elim
theorem All2.app : ∀ {vs ws : List V} {as bs : List α}, All2 R vs as → All2 R ws bs → All2 R (vs ++ ws) (as ++ bs)
  | [], _, [], _, _, h => h
  | _ :: _, _, _ :: _, _, g, h => ⟨g.1, g.2.app h⟩
  | [], _, _ :: _, _, g, _ => g.elim
  | _ :: _, _, [], _, g, _ => g.elim
theorem All2.one {v : V} {a : α} (h : R v a) : All2 R [v] [a] := ⟨h, trivial⟩
theorem All2.get : ∀ {vs : List V} {as : List α} {i : Nat} {v : V}, All2 R vs as → vs[i]? = some v → ∃ a, as[i]? = some a ∧ R v a
  | [], [], _, _, _, e => by simp at e
  | x :: _, a :: _, 0, v, h, e => ⟨a, rfl, by
      have z : x = v := Option.some.inj e
      rw [← z]; exact h.1⟩
  | _ :: _, _ :: _, i + 1, v, h, e => All2.get (i := i) h.2 e
  | [], _ :: _, _, _, h, _ => h.elim
  | _ :: _, [], _, _, h, _ => h.elim
theorem All2.at_ : ∀ {vs : List V} {as : List α} {i : Nat} {a : α}, All2 R vs as → as[i]? = some a → ∃ v, vs[i]? = some v ∧ R v a
  | [], [], _, _, _, e => by simp at e
  | v :: _, x :: _, 0, a, h, e => ⟨v, rfl, by
      have z : x = a := Option.some.inj e
      rw [← z]; exact h.1⟩
  | _ :: _, _ :: _, i + 1, v, h, e => All2.at_ (i := i) h.2 e
  | [], _ :: _, _, _, h, _ => h.elim
  | _ :: _, [], _, _, h, _ => h.elim
theorem All2.take : ∀ {vs : List V} {as : List α} (n : Nat), All2 R vs as → All2 R (vs.take n) (as.take n)
  | [], [], n, _ => by cases n <;> exact trivial
  | _ :: _, _ :: _, 0, _ => trivial
  | _ :: _, _ :: _, n + 1, h => ⟨h.1, h.2.take n⟩
  | [], _ :: _, _, h => h.elim
  | _ :: _, [], _, h => h.elim
theorem All2.drop : ∀ {vs : List V} {as : List α} (n : Nat), All2 R vs as → All2 R (vs.drop n) (as.drop n)
  | [], [], n, _ => by cases n <;> exact trivial
  | _ :: _, _ :: _, 0, h => h
  | _ :: _, _ :: _, n + 1, h => h.2.drop n
  | [], _ :: _, _, h => h.elim
  | _ :: _, [], _, h => h.elim
theorem All2.of_map {f : α → V} (h : ∀ a, R (f a) a) : ∀ (as : List α), All2 R (as.map f) as
  | [] => trivial
  | a :: as => ⟨h a, All2.of_map h as⟩
theorem All2.eq_map {f : α → V} (h : ∀ v a, R v a → v = f a) : ∀ {vs : List V} {as : List α}, All2 R vs as → vs = as.map f
  | [], [], _ => rfl
  | _ :: _, _ :: _, g => by rw [List.map_cons, ← h _ _ g.1, ← g.2.eq_map h]
  | [], _ :: _, g => g.elim
  | _ :: _, [], g => g.elim
end

def rI : Rl Int := fun _ _ v i => v = .int i
def rB : Rl Bool := fun _ _ v b => v = .bl b
def rS : Rl Str := fun _ _ v x => v = .str x ∧ PyData.strOk x = true
def rN : Rl Unit := fun _ _ v _ => v = .non
instance : Rep rI := ⟨fun _ h => h, fun _ h => h, fun _ h => h⟩
instance : Rep rB := ⟨fun _ h => h, fun _ h => h, fun _ h => h⟩
instance : Rep rS := ⟨fun _ h => h, fun _ h => h, fun _ h => h⟩
instance : Rep rN := ⟨fun _ h => h, fun _ h => h, fun _ h => h⟩
section
variable {α β γ : Type}
def rL (R : Rl α) : Rl (List α) := fun M H v l => ∃ a vs, v = .ref a ∧ ¬ M a ∧ H a = some (.lst vs) ∧ All2 (R M H) vs l
def rT (R : Rl α) : Rl (List α) := fun M H v l => ∃ a vs, v = .ref a ∧ ¬ M a ∧ H a = some (.tup vs) ∧ All2 (R M H) vs l
def rP (R : Rl α) (S : Rl β) : Rl (α × β) := fun M H v p => ∃ a v1 v2, v = .ref a ∧ ¬ M a ∧ H a = some (.tup [v1, v2]) ∧ R M H v1 p.1 ∧ S M H v2 p.2
def rP3 (R : Rl α) (S : Rl β) (T : Rl γ) : Rl (α × β × γ) := fun M H v p => ∃ a v1 v2 v3, v = .ref a ∧ ¬ M a ∧ H a = some (.tup [v1, v2, v3]) ∧ R M H v1 p.1 ∧ S M H v2 p.2.1 ∧ T M H v3 p.2.2
theorem ad_ne {M : MS} {H : Hp} {a D : Addr} {o : HO} (h : H a = some o) (n : ¬ M a) (hD : H D = none) : ¬ plus M D a := fun z => z.elim n (fun e => by rw [e, hD] at h; cases h)
instance {R : Rl α} [Rep R] : Rep (rL R) := ⟨fun f ⟨a, vs, e, n, h, g⟩ => ⟨a, vs, e, n, f.keep a _ n h, g.imp fun _ _ x => Rep.st f x⟩,
  fun s ⟨a, vs, e, n, h, g⟩ => ⟨a, vs, e, fun z => n (s a z), h, g.imp fun _ _ x => Rep.wk s x⟩, fun hD ⟨a, vs, e, n, h, g⟩ => ⟨a, vs, e, ad_ne h n hD, h, g.imp fun _ _ x => Rep.ad hD x⟩⟩
instance {R : Rl α} [Rep R] : Rep (rT R) := ⟨fun f ⟨a, vs, e, n, h, g⟩ => ⟨a, vs, e, n, f.keep a _ n h, g.imp fun _ _ x => Rep.st f x⟩,
  fun s ⟨a, vs, e, n, h, g⟩ => ⟨a, vs, e, fun z => n (s a z), h, g.imp fun _ _ x => Rep.wk s x⟩, fun hD ⟨a, vs, e, n, h, g⟩ => ⟨a, vs, e, ad_ne h n hD, h, g.imp fun _ _ x => Rep.ad hD x⟩⟩
instance {R : Rl α} {S : Rl β} [Rep R] [Rep S] : Rep (rP R S) := ⟨fun f ⟨a, v1, v2, e, n, h, g1, g2⟩ => ⟨a, v1, v2, e, n, f.keep a _ n h, Rep.st f g1, Rep.st f g2⟩,
  fun s ⟨a, v1, v2, e, n, h, g1, g2⟩ => ⟨a, v1, v2, e, fun z => n (s a z), h, Rep.wk s g1, Rep.wk s g2⟩, fun hD ⟨a, v1, v2, e, n, h, g1, g2⟩ => ⟨a, v1, v2, e, ad_ne h n hD, h, Rep.ad hD g1, Rep.ad hD g2⟩⟩
instance {R : Rl α} {S : Rl β} {T : Rl γ} [Rep R] [Rep S] [Rep T] : Rep (rP3 R S T) := ⟨fun f ⟨a, v1, v2, v3, e, n, h, g1, g2, g3⟩ => ⟨a, v1, v2, v3, e, n, f.keep a _ n h, Rep.st f g1, Rep.st f g2, Rep.st f g3⟩,
  fun s ⟨a, v1, v2, v3, e, n, h, g1, g2, g3⟩ => ⟨a, v1, v2, v3, e, fun z => n (s a z), h, Rep.wk s g1, Rep.wk s g2, Rep.wk s g3⟩, fun hD ⟨a, v1, v2, v3, e, n, h, g1, g2, g3⟩ => ⟨a, v1, v2, v3, e, ad_ne h n hD, h, Rep.ad hD g1, Rep.ad hD g2, Rep.ad hD g3⟩⟩
theorem ints_of {M : MS} {H : Hp} {vs : List V} {l : List Int} (h : All2 (rI M H) vs l) : vs = l.map V.int := h.eq_map fun _ _ e => e
theorem of_ints {M : MS} {H : Hp} (l : List Int) : All2 (rI M H) (l.map V.int) l := All2.of_map (f := V.int) (fun _ => rfl) l
/-- a tuple of ints | a list of ints, written out -/
theorem tupI {M : MS} {H : Hp} {v : V} {l : List Int} (h : rT rI M H v l) : ∃ a, v = .ref a ∧ ¬ M a ∧ H a = some (.tup (l.map V.int)) := by
  obtain ⟨a, vs, e, n, h, g⟩ := h
  rw [ints_of g] at h
  exact ⟨a, e, n, h⟩
theorem lstI {M : MS} {H : Hp} {v : V} {l : List Int} (h : rL rI M H v l) : ∃ a, v = .ref a ∧ ¬ M a ∧ H a = some (.lst (l.map V.int)) := by
  obtain ⟨a, vs, e, n, h, g⟩ := h
  rw [ints_of g] at h
  exact ⟨a, e, n, h⟩
theorem mkTupI {M : MS} {H : Hp} {a : Addr} {l : List Int} (n : ¬ M a) (h : H a = some (.tup (l.map V.int))) : rT rI M H (.ref a) l := ⟨a, _, rfl, n, h, of_ints l⟩
theorem mkLstI {M : MS} {H : Hp} {a : Addr} {l : List Int} (n : ¬ M a) (h : H a = some (.lst (l.map V.int))) : rL rI M H (.ref a) l := ⟨a, _, rfl, n, h, of_ints l⟩
end

/-! ### == of data -/
structure EncOk {α : Type} [DecidableEq α] (R : Rl α) (enc : α → PyData) (n : Nat) : Prop where
  dp : ∀ {K : PySem.W.Frag} {M : MS} {H : Hp} {v : V} {a : α}, R M H v a → Dp K H v (enc a) ∧ (enc a).canLay0 = true
  dep : ∀ a, (enc a).depth ≤ n
  eq : ∀ a b, PyData.eqv (enc a) (enc b) = decide (a = b)
section
variable {α β γ : Type} [DecidableEq α] [DecidableEq β] [DecidableEq γ] {R : Rl α} {S : Rl β} {T : Rl γ} {e1 : α → PyData} {e2 : β → PyData} {e3 : γ → PyData} {n : Nat}
theorem shaped_of {d : PyData} {n : Nat} (h1 : d.canLay0 = true) (h2 : d.depth ≤ n) (hn : n ≤ 64) : SeqAt.shaped d = true := by
  show (d.canLay0 && decide (d.depth ≤ 64)) = true
  rw [h1, decide_eq_true (Nat.le_trans h2 hn)]; rfl
theorem encI : EncOk rI PyData.int 0 := ⟨fun h => by cases h; exact ⟨.int _, rfl⟩, fun _ => Nat.le_refl _, fun a b => by
  show (a == b) = decide (a = b)
  exact Bool.beq_eq_decide_eq a b⟩
theorem encB : EncOk rB PyData.bool 0 := ⟨fun h => by cases h; exact ⟨.bl _, rfl⟩, fun _ => Nat.le_refl _, fun a b => by
  show (a == b) = decide (a = b)
  exact Bool.beq_eq_decide_eq a b⟩
theorem encS : EncOk rS PyData.str 0 := ⟨fun h => by obtain ⟨rfl, h⟩ := h; exact ⟨.str _, h⟩, fun _ => Nat.le_refl _, fun a b => by
  show (a == b) = decide (a = b)
  exact Bool.beq_eq_decide_eq a b⟩
theorem encAll {K : PySem.W.Frag} {M : MS} {H : Hp} (E : EncOk R e1 n) : ∀ {vs : List V} {as : List α}, All2 (R M H) vs as → DpAll K H vs (as.map e1) ∧ PyData.canLayAll0 (as.map e1) = true
  | [], [], _ => ⟨.nil, rfl⟩
  | v :: vs, a :: as, h => by
    obtain ⟨h1, h2⟩ := E.dp (K := K) h.1
    obtain ⟨h3, h4⟩ := encAll (K := K) E h.2
    exact ⟨.cons h1 h3, by show ((e1 a).canLay0 && PyData.canLayAll0 (as.map e1)) = true; rw [h2, h4]; rfl⟩
  | [], _ :: _, h => h.elim
  | _ :: _, [], h => h.elim
theorem encDep (E : EncOk R e1 n) : ∀ (as : List α), PyData.depthAll (as.map e1) ≤ n
  | [] => Nat.zero_le _
  | a :: as => by
    show max (e1 a).depth (PyData.depthAll (as.map e1)) ≤ n
    exact Nat.max_le.mpr ⟨E.dep a, encDep E as⟩
theorem encEqAll (E : EncOk R e1 n) : ∀ (as bs : List α), PyData.eqvAll (as.map e1) (bs.map e1) = decide (as = bs)
  | [], [] => by simp [PyData.eqvAll]
  | [], _ :: _ => by simp [PyData.eqvAll]
  | _ :: _, [] => by simp [PyData.eqvAll]
  | a :: as, b :: bs => by
    show (PyData.eqv (e1 a) (e1 b) && PyData.eqvAll (as.map e1) (bs.map e1)) = _
    rw [E.eq, encEqAll E as bs]
    by_cases h1 : a = b <;> by_cases h2 : as = bs <;> simp [h1, h2]
theorem encL (E : EncOk R e1 n) : EncOk (rL R) (fun l => .list (l.map e1)) (n + 1) := ⟨fun h => by
    obtain ⟨a, vs, rfl, _, h, g⟩ := h
    obtain ⟨g1, g2⟩ := encAll E g
    exact ⟨.lst (SqL.of h) g1, g2⟩, fun l => Nat.succ_le_succ (encDep E l), fun a b => encEqAll E a b⟩
theorem encT (E : EncOk R e1 n) : EncOk (rT R) (fun l => .tuple (l.map e1)) (n + 1) := ⟨fun h => by
    obtain ⟨a, vs, rfl, _, h, g⟩ := h
    obtain ⟨g1, g2⟩ := encAll E g
    exact ⟨.tup (SqT.of h) g1, g2⟩, fun l => Nat.succ_le_succ (encDep E l), fun a b => encEqAll E a b⟩
theorem encP (E : EncOk R e1 n) (F : EncOk S e2 n) : EncOk (rP R S) (fun p => .tuple [e1 p.1, e2 p.2]) (n + 1) := ⟨fun {K _ _ _ _} h => by
    obtain ⟨a, v1, v2, rfl, _, h, g1, g2⟩ := h
    obtain ⟨h1, h2⟩ := E.dp (K := K) g1
    obtain ⟨h3, h4⟩ := F.dp (K := K) g2
    exact ⟨.tup (SqT.of h) (.cons h1 (.cons h3 .nil)), by
      show ((e1 _).canLay0 && ((e2 _).canLay0 && true)) = true
      rw [h2, h4]; rfl⟩, fun p => by
    show max (e1 p.1).depth (max (e2 p.2).depth 0) + 1 ≤ n + 1
    have := E.dep p.1; have := F.dep p.2; omega, fun p q => by
    show (PyData.eqv (e1 p.1) (e1 q.1) && (PyData.eqv (e2 p.2) (e2 q.2) && true)) = _
    obtain ⟨a, b⟩ := p; obtain ⟨c, d⟩ := q
    rw [E.eq, F.eq]
    by_cases h1 : a = c <;> by_cases h2 : b = d <;> simp [h1, h2]⟩
theorem encP3 (E : EncOk R e1 n) (F : EncOk S e2 n) (G : EncOk T e3 n) : EncOk (rP3 R S T) (fun p => .tuple [e1 p.1, e2 p.2.1, e3 p.2.2]) (n + 1) := ⟨fun {K _ _ _ _} h => by
    obtain ⟨a, v1, v2, v3, rfl, _, h, g1, g2, g3⟩ := h
    obtain ⟨h1, h2⟩ := E.dp (K := K) g1
    obtain ⟨h3, h4⟩ := F.dp (K := K) g2
    obtain ⟨h5, h6⟩ := G.dp (K := K) g3
    exact ⟨.tup (SqT.of h) (.cons h1 (.cons h3 (.cons h5 .nil))), by
      show ((e1 _).canLay0 && ((e2 _).canLay0 && ((e3 _).canLay0 && true))) = true
      rw [h2, h4, h6]; rfl⟩, fun p => by
    show max (e1 p.1).depth (max (e2 p.2.1).depth (max (e3 p.2.2).depth 0)) + 1 ≤ n + 1
    have := E.dep p.1; have := F.dep p.2.1; have := G.dep p.2.2; omega, fun p q => by
    show (PyData.eqv (e1 p.1) (e1 q.1) && (PyData.eqv (e2 p.2.1) (e2 q.2.1) && (PyData.eqv (e3 p.2.2) (e3 q.2.2) && true))) = _
    obtain ⟨a, b, c⟩ := p; obtain ⟨a', b', c'⟩ := q
    rw [E.eq, F.eq, G.eq]
    by_cases h1 : a = a' <;> by_cases h2 : b = b' <;> by_cases h3 : c = c' <;> simp [h1, h2, h3]⟩
theorem EncOk.up {m : Nat} (E : EncOk R e1 n) (h : n ≤ m) : EncOk R e1 m := ⟨E.dp, fun a => Nat.le_trans (E.dep a) h, E.eq⟩
theorem eqD_of {K : PySem.W.Frag} {M M' : MS} {H : Hp} {x y : V} {a b : α} {Q : VK} (E : EncOk R e1 n) (h1 : R M H x a) (h2 : R M' H y b) (q : Q (.bl (decide (a = b))) H) (hn : n ≤ 64 := by decide) : rEqD K x y H Q := by
  obtain ⟨d1, l1⟩ := E.dp (K := K) h1
  obtain ⟨d2, l2⟩ := E.dp (K := K) h2
  exact ⟨_, _, d1, d2, shaped_of l1 (E.dep a) hn, shaped_of l2 (E.dep b) hn, by rw [E.eq]; exact q⟩
theorem neD_of {K : PySem.W.Frag} {M M' : MS} {H : Hp} {x y : V} {a b : α} {Q : VK} (E : EncOk R e1 n) (h1 : R M H x a) (h2 : R M' H y b) (q : Q (.bl (!decide (a = b))) H) (hn : n ≤ 64 := by decide) : rNeD K x y H Q := by
  obtain ⟨d1, l1⟩ := E.dp (K := K) h1
  obtain ⟨d2, l2⟩ := E.dp (K := K) h2
  exact ⟨_, _, d1, d2, shaped_of l1 (E.dep a) hn, shaped_of l2 (E.dep b) hn, by rw [E.eq]; exact q⟩
end
end WD
namespace WD
open PySem PySem.Spec PyProof.Rows L2

/-! ### what holds of the changing objects -/
def JOk (M : MS) (J : Hp → Prop) : Prop := ∀ H H', (∀ x, M x → H' x = H x) → J H → J H'
abbrev J0 : Hp → Prop := fun _ => True
theorem jok0 {M : MS} : JOk M J0 := fun _ _ _ _ => trivial
/-- the well: a list of three ints -/
def Well (w : Addr) (H : Hp) : Prop := ∃ a b c : Int, H w = some (.lst [.int a, .int b, .int c])
theorem jokW {M : MS} {w : Addr} (h : M w) : JOk M (Well w) := fun H H' e ⟨a, b, c, q⟩ => ⟨a, b, c, by rw [e w h]; exact q⟩
abbrev only (w : Addr) : MS := fun x => x = w
theorem Well.ne {w : Addr} {H : Hp} (h : Well w H) : H w ≠ none := fun z => by
  obtain ⟨a, b, c, e⟩ := h
  rw [z] at e; cases e
theorem Well.in_ {w : Addr} {H : Hp} (h : Well w H) : MIn (only w) H := fun a e => by rw [e]; exact h.ne
theorem Well.upd {w p : Addr} {H : Hp} {o : HO} (h : Well w H) (n : H p = none) : Well w (upd H p o) := by
  obtain ⟨a, b, c, e⟩ := h
  exact ⟨a, b, c, by rw [upd_ne (ne_of_none e n)]; exact e⟩
theorem Well.fr {M : MS} {w : Addr} {H H' : Hp} (h : Well w H) (n : ¬ M w) (f : Fr M H H') : Well w H' := by
  obtain ⟨a, b, c, e⟩ := h
  exact ⟨a, b, c, f.keep _ _ n e⟩

/-! ### comprehensions -/
theorem filterMap_snoc {α : Type} (l : List (Option α)) (o : Option α) : (l ++ [o]).filterMap id = l.filterMap id ++ (match o with | some a => [a] | none => []) := by
  rw [List.filterMap_append]
  cases o <;> rfl
theorem lc_gen {α : Type} {R : Rl α} [Rep R] {W : It} {n : Nat} {G : Hp → Prop} {Y : Nat → Hp → V → Hp → Prop} (w : Walk W n G Y) {g : TG} {tt : TT} {te : TE} {vs : List Nat} {σ : L2.St} {H1 : Hp} {Q : Addr → Hp → Prop}
    {M Mf : MS} {J : Hp → Prop} (hMf : ∀ x, Mf x → M x) (hJm : JOk Mf J) (hn : n ≤ 1000000) (hM : MIn M H1) (hJ : J H1) (P : Nat → Option α → Prop)
    (hG : ∀ M' H', Tr M H1 M' H' → Fr Mf H1 H' → G H')
    (hb : ∀ i M' H', i < n → Tr M H1 M' H' → Fr Mf H1 H' → MIn M' H' → (∀ x, M x → M' x) → J H' → ∀ (Ky : V → Hp → Prop) (Kn : Hp → Prop),
      (∀ y H4 a, P i (some a) → Fr Mf H' H4 → J H4 → R M' H4 y a → Ky y H4) → (∀ H3, P i none → Fr Mf H' H3 → J H3 → Kn H3) →
      ∀ x H'', Y i H' x H'' → g x (wipe σ vs) H'' fun σ2 H2 => wipe σ2 vs = wipe σ vs ∧ tt σ2 H2 fun b H3 => if b = true then te σ2 H3 Ky else Kn H3)
    (k : ∀ (D : Addr) (l : List (Option α)) (H' : Hp), H1 D = none → l.length = n → (∀ i o, l[i]? = some o → P i o) → Fr Mf H1 H' → J H' → rL R M H' (.ref D) (l.filterMap id) → Q D H') :
    ∀ D, H1 D = none → ∃ W' : Nat → Nat → Hp → Prop, (∃ m, W' 0 m (upd H1 D (.lst []))) ∧ ∀ i m H, W' i m H →
      (W.stop i H ∧ Q D H) ∨ (W.go i H ∧ ∃ Nx : Hp → Prop, (∀ H', Nx H' → ∃ m', m' < m ∧ W' (i + 1) m' H') ∧ ∀ x H', W.yld i H x H' → g x (wipe σ vs) H' fun σ2 H2 => wipe σ2 vs = wipe σ vs ∧ tt σ2 H2 fun b H3 =>
        if b = true then te σ2 H3 fun y H4 => ∃ acc, H4 D = some (.lst acc) ∧ acc.length < sizeLine ∧ Nx (upd H4 D (.lst (acc ++ [y]))) else Nx H3) := by
  intro D hD
  have nD : ¬ M D := hM.no hD
  have nDf : ¬ Mf D := fun z => nD (hMf D z)
  have jup : ∀ {H : Hp} {o : HO}, J H → J (upd H D o) := fun {H o} h => hJm H _ (fun x hx => upd_ne (fun z => nDf (z ▸ hx))) h
  have base : Tr M H1 (plus M D) (upd H1 D (.lst [])) := fun {_ _ _ _ _} h => Rep.st (Fr.new hD) (Rep.ad hD h)
  have up : ∀ {H H' : Hp}, Fr Mf H H' → Fr (plus M D) H H' := fun f => f.mono fun x z => .inl (hMf x z)
  refine lc_it w (fun i H => ∃ l : List (Option α), l.length = i ∧ (∀ j o, l[j]? = some o → P j o) ∧ Fr Mf H1 H ∧ J H ∧ Tr M H1 (plus M D) H ∧ MIn (plus M D) H ∧ ∃ acc, H D = some (.lst acc) ∧ All2 (R (plus M D) H) acc (l.filterMap id))
    ⟨[], rfl, fun j o e => by simp at e, Fr.new hD, jup hJ, base, (hM.to (M' := M) (Fr.new hD)).plus upd_same, [], upd_same, trivial⟩ (fun i H _ ⟨l, _, _, f, _, t, _⟩ => hG _ _ t f) (fun i x H H' hi ⟨l, ll, lP, f, j, t, mi, acc, ha, al⟩ hy => ?_) (fun H ⟨l, ll, lP, f, j, t, mi, acc, ha, al⟩ => ?_)
  · refine hb i (plus M D) H hi t f mi (fun x h => .inl h) j _ _ (fun y H4 a pa f4 j4 r4 => ?_) (fun H3 pn f3 j3 => ?_) x H' hy
    · have hD4 : H4 D = some (.lst acc) := f4.keep D _ nDf ha
      have sz : acc.length < sizeLine := by
        have h1 := al.len
        have h2 : (l.filterMap id).length ≤ l.length := List.length_filterMap_le _ _
        have h3 := sizeLine_eq
        omega
      refine ⟨acc, hD4, sz, l ++ [some a], by rw [List.length_append, ll]; rfl, fun j o e => ?_, (f.trans f4).mutNew hD, jup j4, ?_, ?_, acc ++ [y], upd_same, ?_⟩
      · by_cases hj : j < l.length
        · rw [List.getElem?_append_left hj] at e; exact lP j o e
        · rw [List.getElem?_append_right (by omega)] at e
          have hj2 : j - l.length = 0 := by
            have := (List.getElem?_eq_some_iff.mp e).1
            simp at this; omega
          rw [hj2] at e
          have ej : j = i := by omega
          rw [ej, ← Option.some.inj e]
          exact pa
      · intro β S _ v b h
        exact Rep.st (M := plus M D) (Fr.mut (.inr rfl)) (Rep.st (up f4) (t h))
      · exact (mi.to f4).to (M' := plus M D) (Fr.mut (.inr rfl))
      · rw [filterMap_snoc]
        refine All2.app (al.imp fun v b z => ?_) (All2.one ?_)
        · exact Rep.st (M := plus M D) (Fr.mut (.inr rfl)) (Rep.st (up f4) z)
        · exact Rep.st (M := plus M D) (Fr.mut (.inr rfl)) r4
    · have hD3 : H3 D = some (.lst acc) := f3.keep D _ nDf ha
      refine ⟨l ++ [none], by rw [List.length_append, ll]; rfl, fun j o e => ?_, f.trans f3, j3, ?_, mi.to f3, acc, hD3, ?_⟩
      · by_cases hj : j < l.length
        · rw [List.getElem?_append_left hj] at e; exact lP j o e
        · rw [List.getElem?_append_right (by omega)] at e
          have hj2 : j - l.length = 0 := by
            have := (List.getElem?_eq_some_iff.mp e).1
            simp at this; omega
          rw [hj2] at e
          have ej : j = i := by omega
          rw [ej, ← Option.some.inj e]
          exact pn
      · intro β S _ v b h
        exact Rep.st (up f3) (t h)
      · rw [filterMap_snoc]
        show All2 _ _ (l.filterMap id ++ [])
        rw [List.append_nil]
        exact al.imp fun v b z => Rep.st (up f3) z
  · exact k D l H hD ll lP f j ⟨D, acc, rfl, nD, ha, al.imp fun v b z => Rep.wk (fun _ q => .inl q) z⟩
/-- no test, what comes at turn i is f i -/
theorem all_some {α : Type} {n : Nat} {l : List (Option α)} {f : Nat → α} (h1 : l.length = n) (h2 : ∀ i o, l[i]? = some o → o = some (f i)) : l.filterMap id = (List.range n).map f := by
  have e : l = (List.range n).map fun i => some (f i) := by
    refine List.ext_getElem? fun i => ?_
    by_cases hi : i < n
    · have hi2 : i < l.length := by omega
      rw [List.getElem?_eq_getElem hi2, h2 i _ (List.getElem?_eq_getElem hi2)]
      simp [hi]
    · rw [List.getElem?_eq_none (by omega), List.getElem?_eq_none (by simp; omega)]
  rw [e, List.filterMap_map]
  exact congrFun (List.filterMap_eq_map (f := f)) _
theorem all_opt {α : Type} {n : Nat} {l : List (Option α)} {f : Nat → Option α} (h1 : l.length = n) (h2 : ∀ i o, l[i]? = some o → o = f i) : l.filterMap id = (List.range n).filterMap f := by
  have e : l = (List.range n).map f := by
    refine List.ext_getElem? fun i => ?_
    by_cases hi : i < n
    · have hi2 : i < l.length := by omega
      rw [List.getElem?_eq_getElem hi2, h2 i _ (List.getElem?_eq_getElem hi2)]
      simp [hi]
    · rw [List.getElem?_eq_none (by omega), List.getElem?_eq_none (by simp; omega)]
  rw [e, List.filterMap_map]
  rfl
/-- no test, something of which P i -/
theorem all_of {α : Type} {n : Nat} {l : List (Option α)} {P : Nat → α → Prop} (h1 : l.length = n) (h2 : ∀ i o, l[i]? = some o → ∃ a, o = some a ∧ P i a) : (l.filterMap id).length = n ∧ ∀ i a, (l.filterMap id)[i]? = some a → P i a := by
  have key : ∀ (l : List (Option α)) (P : Nat → α → Prop), (∀ i o, l[i]? = some o → ∃ a, o = some a ∧ P i a) → (l.filterMap id).length = l.length ∧ ∀ i a, (l.filterMap id)[i]? = some a → P i a := by
    intro l
    induction l with
    | nil => intro P _; exact ⟨rfl, fun i a e => by simp at e⟩
    | cons o l ih =>
      intro P h
      obtain ⟨a, rfl, pa⟩ := h 0 o rfl
      obtain ⟨h3, h4⟩ := ih (fun i => P (i + 1)) fun i o e => h (i + 1) o e
      have z : (some a :: l).filterMap id = a :: l.filterMap id := rfl
      rw [z]
      refine ⟨congrArg Nat.succ h3, fun i b e => ?_⟩
      cases i with
      | zero =>
        have e2 : a = b := Option.some.inj e
        rw [← e2]; exact pa
      | succ i => exact h4 i b e
  obtain ⟨h3, h4⟩ := key l P h2
  exact ⟨h3.trans h1, h4⟩

theorem mapRange {α β : Type} (f : α → β) (d : α) (l : List α) {n : Nat} (hn : n = l.length) : (List.range n).map (fun i => f (l.getD i d)) = l.map f := by
  subst hn
  refine List.ext_getElem (by simp) fun j h1 h2 => ?_
  have hj : j < l.length := by simpa using h2
  rw [List.getElem_map, List.getElem_map, List.getElem_range, List.getD_eq_getElem?_getD, List.getElem?_eq_getElem hj]
  rfl
/-- a comprehension without a test, what comes at turn i is f i, nothing changes -/
theorem lc_map {α : Type} {R : Rl α} [Rep R] {W : It} {n : Nat} {G : Hp → Prop} {Y : Nat → Hp → V → Hp → Prop} (w : Walk W n G Y) (f : Nat → α) {g : TG} {te : TE} {vs : List Nat} {σ : L2.St} {H1 : Hp} {Q : Addr → Hp → Prop}
    {M : MS} (hM : MIn M H1) (hn : n ≤ 1000000) (hG : ∀ H', Fr M0 H1 H' → G H')
    (hb : ∀ i M' H', i < n → Tr M H1 M' H' → Fr M0 H1 H' → MIn M' H' → ∀ Ky : V → Hp → Prop, (∀ y H4, Fr M0 H' H4 → R M' H4 y (f i) → Ky y H4) →
      ∀ x H'', Y i H' x H'' → g x (wipe σ vs) H'' fun σ2 H2 => wipe σ2 vs = wipe σ vs ∧ te σ2 H2 Ky)
    (k : ∀ (D : Addr) (H' : Hp), H1 D = none → Fr M0 H1 H' → rL R M H' (.ref D) ((List.range n).map f) → Q D H') :
    ∀ D, H1 D = none → ∃ W' : Nat → Nat → Hp → Prop, (∃ m, W' 0 m (upd H1 D (.lst []))) ∧ ∀ i m H, W' i m H →
      (W.stop i H ∧ Q D H) ∨ (W.go i H ∧ ∃ Nx : Hp → Prop, (∀ H', Nx H' → ∃ m', m' < m ∧ W' (i + 1) m' H') ∧ ∀ x H', W.yld i H x H' → g x (wipe σ vs) H' fun σ2 H2 => wipe σ2 vs = wipe σ vs ∧ tYes σ2 H2 fun b H3 =>
        if b = true then te σ2 H3 fun y H4 => ∃ acc, H4 D = some (.lst acc) ∧ acc.length < sizeLine ∧ Nx (upd H4 D (.lst (acc ++ [y]))) else Nx H3) :=
  lc_gen w (Mf := M0) (fun _ h => h.elim) jok0 hn hM trivial (fun i o => o = some (f i)) (fun _ H' _ fr => hG H' fr) (fun i M' H' hi t fr mi _ _ Ky Kn ky _ x H'' hy =>
      hb i M' H' hi t fr mi Ky (fun y H4 f4 r4 => ky y H4 (f i) rfl f4 trivial r4) x H'' hy)
    (fun D l H' hD ll lP fr _ r => k D H' hD fr (by rw [all_some ll lP] at r; exact r))
/-- .. with a test: what comes at turn i is f i, or nothing -/
theorem lc_sift {α : Type} {R : Rl α} [Rep R] {W : It} {n : Nat} {G : Hp → Prop} {Y : Nat → Hp → V → Hp → Prop} (w : Walk W n G Y) (f : Nat → Option α) {g : TG} {tt : TT} {te : TE} {vs : List Nat} {σ : L2.St} {H1 : Hp} {Q : Addr → Hp → Prop}
    {M : MS} (hM : MIn M H1) (hn : n ≤ 1000000) (hG : ∀ H', Fr M0 H1 H' → G H')
    (hb : ∀ i M' H', i < n → Tr M H1 M' H' → Fr M0 H1 H' → MIn M' H' → ∀ (Ky : V → Hp → Prop) (Kn : Hp → Prop), (∀ y H4 a, f i = some a → Fr M0 H' H4 → R M' H4 y a → Ky y H4) → (∀ H3, f i = none → Fr M0 H' H3 → Kn H3) →
      ∀ x H'', Y i H' x H'' → g x (wipe σ vs) H'' fun σ2 H2 => wipe σ2 vs = wipe σ vs ∧ tt σ2 H2 fun b H3 => if b = true then te σ2 H3 Ky else Kn H3)
    (k : ∀ (D : Addr) (H' : Hp), H1 D = none → Fr M0 H1 H' → rL R M H' (.ref D) ((List.range n).filterMap f) → Q D H') :
    ∀ D, H1 D = none → ∃ W' : Nat → Nat → Hp → Prop, (∃ m, W' 0 m (upd H1 D (.lst []))) ∧ ∀ i m H, W' i m H →
      (W.stop i H ∧ Q D H) ∨ (W.go i H ∧ ∃ Nx : Hp → Prop, (∀ H', Nx H' → ∃ m', m' < m ∧ W' (i + 1) m' H') ∧ ∀ x H', W.yld i H x H' → g x (wipe σ vs) H' fun σ2 H2 => wipe σ2 vs = wipe σ vs ∧ tt σ2 H2 fun b H3 =>
        if b = true then te σ2 H3 fun y H4 => ∃ acc, H4 D = some (.lst acc) ∧ acc.length < sizeLine ∧ Nx (upd H4 D (.lst (acc ++ [y]))) else Nx H3) :=
  lc_gen w (Mf := M0) (fun _ h => h.elim) jok0 hn hM trivial (fun i o => o = f i) (fun _ H' _ fr => hG H' fr) (fun i M' H' hi t fr mi _ _ Ky Kn ky kn x H'' hy =>
      hb i M' H' hi t fr mi Ky Kn (fun y H4 a e f4 r4 => ky y H4 a e.symm f4 trivial r4) (fun H3 e f3 => kn H3 e.symm f3 trivial) x H'' hy)
    (fun D l H' hD ll lP fr _ r => k D H' hD fr (by rw [all_opt ll lP] at r; exact r))
/-! ### the draw -/
def spDraw : Sp := fun vs H Q _ => ∃ (w : Addr) (m : Int), vs = [.ref w, .int m] ∧ Well w H ∧ 0 < m ∧ m < 1073741824 ∧ ∀ r H', 0 ≤ r → r < m → Fr (only w) H H' → Well w H' → (∀ x, x ≠ w → H' x = H x) → Q (.int r) H'

/-! ### further rules -/
section
variable {X : Cx}
/-- xs + ys of lists, each to be read -/
def rCatL (K : PySem.W.Frag) : R2 := fun x y H Q => ∃ l b xs zs, x = .ref l ∧ y = .ref b ∧ SqL K H l xs ∧ SqL K H b zs ∧ xs.length + zs.length ≤ sizeLine ∧ ∀ p, H p = none → Q (.ref p) (upd H p (.lst (xs ++ zs)))
theorem op_catL : OpR X (binaryOp .Add) (rCatL X.K) := by
  intro pins s σ H x y v u Q I rx ry h
  obtain ⟨l, b, xs, zs, rfl, rfl, hH, hB, hz, q⟩ := h
  cases rx
  cases ry
  obtain ⟨its, r, ⟨⟨cls, dd, data, sl⟩, n, ho, hc, _, hd⟩, _⟩ := I.list hH
  obtain ⟨its2, r2, ⟨⟨cls2, dd2, data2, sl2⟩, n2, ho2, hc2, _, hd2⟩, _⟩ := I.list hB
  simp only at hc hd hc2 hd2
  subst hc hd hc2 hd2
  have h1 := r.length
  have h2 := r2.length
  have e : its.toArray ++ its2.toArray = (its ++ its2).toArray := by simp
  refine concat_meets ⟨_, ho, rfl⟩ ⟨_, ho2, rfl⟩ noFill_list_add seq_list_add PySem.F.slot_list_add PySem.F.entry_list_add (PySem.F.args_list_add_2 _ _) (list_addW l b its.toArray its2.toArray n n2 dd dd2 sl sl2 (by simp; omega)) ⟨ho, ho2, ?_⟩
  rw [e]
  exact ⟨.ref _, _, I.lnew (t' := s.toks) (r.append r2) (by rw [List.length_append]; omega), rfl, q _ I.fresh⟩
/-- sum of a tuple of ints; min, max: one of them -/
def rSumT (K : PySem.W.Frag) : List V → Hp → VK → Prop := fun vs H Q => ∃ (a : Addr) (ns : List Int), vs = [V.ref a] ∧ SqT K H a (ns.map V.int) ∧ Q (.int ns.sum) H
def rOneT (K : PySem.W.Frag) : List V → Hp → VK → Prop := fun vs H Q => ∃ (a : Addr) (ns : List Int), vs = [V.ref a] ∧ SqT K H a (ns.map V.int) ∧ ns ≠ [] ∧ ∀ m, m ∈ ns → Q (.int m) H
theorem cr_sumT (hc : X.calm = true) : CallR X (.builtin "sum") (rSumT X.K) := by
  intro pins s σ H vs us Q I r h
  obtain ⟨a, ns, rfl, hs, q⟩ := h
  obtain ⟨its, rv, hl, _⟩ := I.tuple hs
  rw [Vals.ref1 r]
  have hi := rv.ints
  obtain ⟨xs, e⟩ := hi.allInts.items
  have hn : numsOf (intItems xs).toList = ns := by rw [← e]; exact hi.numsOf
  rw [nums_intItems] at hn
  have hl2 : s.heap.IsTuple a its.toArray := hl
  rw [e] at hl2
  refine PySem.W.ktm_sumG (I.ok.hd hc) hl2 fun h' tk t' hk => ?_
  rw [PySem.preSum_eq, List.take_of_length_le (by simp), hn]
  exact ⟨.int _, H, I.kept hk, ⟨_, rfl⟩, q⟩
theorem dpInts {K : PySem.W.Frag} {H : Hp} : ∀ ns : List Int, DpAll K H (ns.map V.int) (ns.map PyData.int)
  | [] => .nil
  | n :: ns => .cons (.int n) (dpInts ns)
theorem alike_ints (ns : List Int) : PySem.W.AlikeAll (ns.map PyData.int) := by
  refine ⟨fun x hx y hy => ?_, fun x hx => ?_⟩
  · obtain ⟨i, _, rfl⟩ := List.mem_map.mp hx
    obtain ⟨j, _, rfl⟩ := List.mem_map.mp hy
    rfl
  · obtain ⟨i, _, rfl⟩ := List.mem_map.mp hx
    exact fun z => nomatch z
theorem depth_ints : ∀ ns : List Int, PyData.depthAll (ns.map PyData.int) = 0
  | [] => rfl
  | n :: ns => by
    show max 0 (PyData.depthAll (ns.map PyData.int)) = 0
    rw [depth_ints ns]; rfl
theorem cr_minT (hc : X.calm = true) (hu : X.A.units + 1 < cLine) : CallR X (.builtin "min") (rOneT X.K) := by
  intro pins s σ H vs us Q I r h
  obtain ⟨a, ns, rfl, hs, hne, q⟩ := h
  obtain ⟨its, rv, hl, _⟩ := I.tuple hs
  rw [Vals.ref1 r]
  obtain ⟨as, hr⟩ := Dp.readsAll I _ _ its (dpInts ns) rv
  cases ns with
  | nil => exact absurd rfl hne
  | cons n ns =>
    refine PySem.W.min_tuple_data (x := .int n) (xs := ns.map PyData.int) (as := as) (I.ok.hd hc) hl hr (alike_ints (n :: ns)) (by rw [show PyData.depthAll (.int n :: ns.map PyData.int) = 0 from depth_ints (n :: ns)]; omega) fun i v h' tk bs hv _ hk => ?_
    have hv2 : its[i]? = some v := by simpa using hv
    obtain ⟨hi, _⟩ := List.getElem?_eq_some_iff.mp hv2
    have hlen := rv.length
    have hx : ((n :: ns).map V.int)[i]? = some (V.int (n :: ns)[i]!) := by
      have : i < (n :: ns).length := by simpa using (by omega : i < ((n :: ns).map V.int).length)
      rw [List.getElem?_map, List.getElem?_eq_getElem this, getElem!_pos (n :: ns) i this]; rfl
    obtain ⟨u, e1, e2⟩ := rv.get hx
    rw [hv2] at e1
    cases e1
    refine ⟨.int _, H, I.kept hk, e2, q _ ?_⟩
    have : i < (n :: ns).length := by simpa using (by omega : i < ((n :: ns).map V.int).length)
    rw [getElem!_pos (n :: ns) i this]
    exact List.getElem_mem _
theorem cr_maxT (hc : X.calm = true) (hu : X.A.units + 1 < cLine) : CallR X (.builtin "max") (rOneT X.K) := by
  intro pins s σ H vs us Q I r h
  obtain ⟨a, ns, rfl, hs, hne, q⟩ := h
  obtain ⟨its, rv, hl, _⟩ := I.tuple hs
  rw [Vals.ref1 r]
  obtain ⟨as, hr⟩ := Dp.readsAll I _ _ its (dpInts ns) rv
  cases ns with
  | nil => exact absurd rfl hne
  | cons n ns =>
    refine PySem.W.max_tuple_data (x := .int n) (xs := ns.map PyData.int) (as := as) (I.ok.hd hc) hl hr (alike_ints (n :: ns)) (by rw [show PyData.depthAll (.int n :: ns.map PyData.int) = 0 from depth_ints (n :: ns)]; omega) fun i v h' tk bs hv _ hk => ?_
    have hv2 : its[i]? = some v := by simpa using hv
    obtain ⟨hi, _⟩ := List.getElem?_eq_some_iff.mp hv2
    have hlen := rv.length
    have hx : ((n :: ns).map V.int)[i]? = some (V.int (n :: ns)[i]!) := by
      have : i < (n :: ns).length := by simpa using (by omega : i < ((n :: ns).map V.int).length)
      rw [List.getElem?_map, List.getElem?_eq_getElem this, getElem!_pos (n :: ns) i this]; rfl
    obtain ⟨u, e1, e2⟩ := rv.get hx
    rw [hv2] at e1
    cases e1
    refine ⟨.int _, H, I.kept hk, e2, q _ ?_⟩
    have : i < (n :: ns).length := by simpa using (by omega : i < ((n :: ns).map V.int).length)
    rw [getElem!_pos (n :: ns) i this]
    exact List.getElem_mem _
end
end WD
namespace WD
open PySem PySem.Spec PyProof.Rows L2

/-! ### defs as callables -/
structure Cal (P : Program) (w : World) (K : PySem.W.Frag) (mg : Str → Option Value) (base : Heap) (CX : CXT) (k : Nat) (x : Str) (f : Addr) (sp : Sp) (dvs : List V) : Prop where
  ex : ∃ (fd : FuncData) (ps : List Str) (ds : List Value), FnOk P w K mg base CX k f fd ps sp ∧ Binds K fd ps ds ∧ Vals dvs ds
  kp : PySem.W.keepIn K (.ref f) = true
  g : mg x = some (.ref f)
structure Met (P : Program) (w : World) (K : PySem.W.Frag) (mg : Str → Option Value) (base : Heap) (CX : CXT) (k : Nat) (C : Addr) (m : Str) (f : Addr) (sp : Sp) (dvs : List V) : Prop where
  ex : ∃ (fd : FuncData) (ps : List Str) (ds : List Value), FnOk P w K mg base CX k f fd ps sp ∧ Binds K fd ps ds ∧ Vals dvs ds
  cl : Cls K C
  mt : Meth K C m f
structure Mak (P : Program) (w : World) (K : PySem.W.Frag) (mg : Str → Option Value) (base : Heap) (CX : CXT) (k : Nat) (x : Str) (C f : Addr) (sp : Sp) (dvs : List V) : Prop where
  ex : ∃ (fd : FuncData) (ps : List Str) (ds : List Value), FnOk P w K mg base CX k f fd ps sp ∧ Binds K fd ps ds ∧ Vals dvs ds
  made : Mk K C f
  g : mg x = some (.ref C)
section
variable {P : Program} {w : World} {K : PySem.W.Frag} {mg : Str → Option Value} {base : Heap} {x qual : Str} {params : Arguments} {body : List Stmt} {scope : Scope} {f C : Addr} {fd : FuncData} {N ps : List Str} {k : Nat} {sp : Sp}
theorem fn0_of (F : FunD K x qual params body scope [] [] f fd) (S : FnScope N ps scope) (len : ∀ vs H Q E, sp vs H Q E → vs.length = ps.length)
    (bind : ∀ (kV doc pm : Value) (an : Option Addr) (cdv ct : Value) (us : List Value), us.length = ps.length → bindArgs (PySem.W.fnOf x qual params body scope .none kV doc pm an cdv ct) ⟨us, []⟩ = pure (ps.zip us))
    (hbody : ∀ (cdv : Value) (A : Around) (outer : List Env) (s : Shared) (H : Hp) (vs : List V) (Q : VK) (E : XK), Room k (A.deeper (envOfC qual scope s.heap.objs.size f cdv)) → sp vs H Q E →
      ∃ t, PSs (cxOf CX0 P w K mg base N qual scope f cdv A outer s H E).nox body t ∧ t { nx := fun _ H' => Q .non H', rt := Q } (start N vs) H) :
    ∃ (fd : FuncData) (ps : List Str) (ds : List Value), FnOk P w K mg base CX0 (k + 1) f fd ps sp ∧ Binds K fd ps ds ∧ Vals [] ds :=
  ⟨fd, ps, [], F.ok S len fun cdv A outer s H vs Q E hr h => by
    obtain ⟨t, h1, h2⟩ := hbody cdv A outer s H vs Q E hr h
    exact ⟨t, h1.nox, h2⟩, F.bindsN bind, .nil⟩
theorem fnX_of (F : FunD K x qual params body scope [] [] f fd) (S : FnScope N ps scope) (len : ∀ vs H Q E, sp vs H Q E → vs.length = ps.length)
    (bind : ∀ (kV doc pm : Value) (an : Option Addr) (cdv ct : Value) (us : List Value), us.length = ps.length → bindArgs (PySem.W.fnOf x qual params body scope .none kV doc pm an cdv ct) ⟨us, []⟩ = pure (ps.zip us))
    (hbody : ∀ (cdv : Value) (A : Around) (outer : List Env) (s : Shared) (H : Hp) (vs : List V) (Q : VK) (E : XK), Room k (A.deeper (envOfC qual scope s.heap.objs.size f cdv)) → sp vs H Q E →
      ∃ t, PSs (cxOf (L2.CX P w) P w K mg base N qual scope f cdv A outer s H E) body t ∧ t { nx := fun _ H' => Q .non H', rt := Q } (start N vs) H) :
    ∃ (fd : FuncData) (ps : List Str) (ds : List Value), FnOk P w K mg base (L2.CX P w) (k + 1) f fd ps sp ∧ Binds K fd ps ds ∧ Vals [] ds :=
  ⟨fd, ps, [], F.ok S len hbody, F.bindsN bind, .nil⟩
end
section
variable {X : Cx} {k j : Nat} {x : Str} {f C : Addr} {sp : Sp} {dvs : List V} {p pos apos : Pos} {e o : Expr} {es : List Expr} {t : TA} {ta : TE} {m : Str}
theorem pe_cal (c : Cal X.prog X.w X.K X.mg X.base CX0 k x f sp dvs) (hr : Room k X.A) (hg : Gl X x) (ha : PA X (e :: es) t) (hdb : (x == ("__debug__" : Str)) = false := by decide)
    (he : starEach (e :: es) X.env = (false, eval e X.env) :: starEach es X.env := by rfl) (hpl : (backTo pos (starEach es X.env)).any (·.1) = false := by rfl) : PE X (.Call (.Name x p) (e :: es) [] pos) (tCall sp dvs E0 t) := by
  obtain ⟨fd, ps, ds, h1, h2, h3⟩ := c.ex
  exact pe_call h1 hr hg c.g c.kp h2 h3 pass0 ha hdb he hpl
theorem pe_cal0 (c : Cal X.prog X.w X.K X.mg X.base CX0 k x f sp dvs) (hr : Room k X.A) (hg : Gl X x) (hdb : (x == ("__debug__" : Str)) = false := by decide) : PE X (.Call (.Name x p) [] [] pos) (tCall sp dvs E0 tNil) := by
  obtain ⟨fd, ps, ds, h1, h2, h3⟩ := c.ex
  exact pe_call0 h1 hr hg c.g c.kp h2 h3 pass0 hdb
theorem pe_mak (c : Mak X.prog X.w X.K X.mg X.base CX0 k x C f sp dvs) (hr : Room (k + 1) X.A) (hg : Gl X x) (ha : PA X (e :: es) t) (hdb : (x == ("__debug__" : Str)) = false := by decide)
    (he : starEach (e :: es) X.env = (false, eval e X.env) :: starEach es X.env := by rfl) (hpl : (backTo pos (starEach es X.env)).any (·.1) = false := by rfl) : PE X (.Call (.Name x p) (e :: es) [] pos) (tMake C sp dvs E0 t) := by
  obtain ⟨fd, ps, ds, h1, h2, h3⟩ := c.ex
  exact pe_make c.made h1 hr hg c.g h2 h3 pass0 ha hdb he hpl
theorem pe_met {pl : Sem Bool} (c : Met X.prog X.w X.K X.mg X.base CX0 k C m f sp dvs) (hr : Room k X.A) (he : PE X o ta) (ha : PA X (e :: es) t)
    (hst : starEach (e :: es) X.env = (false, eval e X.env) :: starEach es X.env := by rfl) (hpl : (backTo pos (starEach es X.env)).any (·.1) = false := by rfl)
    (ht : eval (.Call (.Attribute o m apos) (e :: es) [] pos) X.env = (do
      let ov ← eval o X.env
      standAt apos.atName
      let (f, first) ← holding [ov] (getMethod ov m pl)
      callWith pos f first (backTo pos (starEach (e :: es) X.env)) (backToKw pos (keywordEach [] X.env))) := by rfl) : PE X (.Call (.Attribute o m apos) (e :: es) [] pos) (tMeth C m sp dvs E0 ta t) := by
  obtain ⟨fd, ps, ds, h1, h2, h3⟩ := c.ex
  exact pe_meth he c.cl c.mt h1 hr h2 h3 pass0 ha hst hpl ht
theorem pe_met0 {pl : Sem Bool} (c : Met X.prog X.w X.K X.mg X.base CX0 k C m f sp dvs) (hr : Room k X.A) (he : PE X o ta)
    (ht : eval (.Call (.Attribute o m apos) [] [] pos) X.env = (do
      let ov ← eval o X.env
      standAt apos.atName
      let (f, first) ← holding [ov] (getMethod ov m pl)
      callWith pos f first (backTo pos (starEach [] X.env)) (backToKw pos (keywordEach [] X.env))) := by rfl) : PE X (.Call (.Attribute o m apos) [] [] pos) (tMeth C m sp dvs E0 ta tNil) := by
  obtain ⟨fd, ps, ds, h1, h2, h3⟩ := c.ex
  exact pe_meth0 he c.cl c.mt h1 hr h2 h3 pass0 ht
theorem pe_gi {x : Str} {i : Int} {pos : Pos} (hg : Gl X x) (h : ∃ t, X.mg x = some (.int i t)) (hd : (x == ("__debug__" : Str)) = false := by decide) : PE X (.Name x pos) (tC (.int i)) := by
  obtain ⟨t, e⟩ := h
  exact pe_glob hg e ⟨t, rfl⟩ hd
theorem pe_gs {x z : Str} {pos : Pos} (hg : Gl X x) (h : ∃ t, X.mg x = some (.str z t)) (hd : (x == ("__debug__" : Str)) = false := by decide) : PE X (.Name x pos) (tC (.str z)) := by
  obtain ⟨t, e⟩ := h
  exact pe_glob hg e ⟨t, rfl⟩ hd
end
theorem iteD {c A B : Prop} {_ : Decidable c} (h1 : c → A) (h2 : ¬ c → B) : if decide c = true then A else B := by
  by_cases h : c
  · rw [decide_eq_true h]; exact iteT (h1 h)
  · rw [decide_eq_false h]; exact iteF (h2 h)
theorem iteN {c A B : Prop} {_ : Decidable c} (h1 : ¬ c → A) (h2 : c → B) : if (!decide c) = true then A else B := by
  by_cases h : c
  · rw [decide_eq_true h]; exact iteF (h2 h)
  · rw [decide_eq_false h]; exact iteT (h1 h)
theorem huD {k : Nat} {A : Around} (hr : Room k A) : A.units + 1 < cLine := hu_of hr
theorem hu65 {k : Nat} {A : Around} (hr : Room k A) : A.units + 65 < cLine := by have := hr.un; omega
theorem bt_len : bootBuiltins "len" = some (.builtin "len") := by decide +kernel
theorem bt_isinstance : bootBuiltins "isinstance" = some (.builtin "isinstance") := by decide +kernel
theorem bt_all : bootBuiltins "all" = some (.builtin "all") := by decide +kernel
theorem bt_any : bootBuiltins "any" = some (.builtin "any") := by decide +kernel
theorem bt_sum : bootBuiltins "sum" = some (.builtin "sum") := by decide +kernel
theorem bt_min : bootBuiltins "min" = some (.builtin "min") := by decide +kernel
theorem bt_max : bootBuiltins "max" = some (.builtin "max") := by decide +kernel
theorem bt_sorted : bootBuiltins "sorted" = some (.builtin "sorted") := by decide +kernel
theorem bt_repr : bootBuiltins "repr" = some (.builtin "repr") := by decide +kernel
theorem bt_int : bootBuiltins "int" = some (.type "int") := by decide +kernel
theorem bt_bool : bootBuiltins "bool" = some (.type "bool") := by decide +kernel
theorem bt_str : bootBuiltins "str" = some (.type "str") := by decide +kernel
theorem bt_tuple : bootBuiltins "tuple" = some (.type "tuple") := by decide +kernel
theorem bt_list : bootBuiltins "list" = some (.type "list") := by decide +kernel
theorem bt_dict : bootBuiltins "dict" = some (.type "dict") := by decide +kernel
theorem bt_set : bootBuiltins "set" = some (.type "set") := by decide +kernel
theorem bt_ValueError : bootBuiltins "ValueError" = some (.type "ValueError") := by decide +kernel
end WD
namespace WD
open PySem PySem.Spec PyProof.Rows L2
section
variable {X : Cx} {e : Expr} {te : TE} {p apos cpos pos : Pos}
/-- list(e.values()) -/
def tListVals (te : TE) : TE := fun σ H Q => te σ H fun x H1 => ∃ (d : Addr) (kvs : List (Key × V)), x = .ref d ∧ H1 d = some (.dK kvs) ∧ ∀ q, H1 q = none → Q (.ref q) (upd H1 q (.lst (kvs.map (·.2))))
theorem pe_listVals (hc : X.calm = true) (hg : Gl X "list") (hm : X.mg "list" = none) (he : PE X e te) (hbase : attributeBase e "values" X.env (eval e X.env) = eval e X.env := by rfl) (hline : (apos.endLine == cpos.line) = true := by rfl)
    (hs : starEach [.Call (.Attribute e "values" apos) [] [] cpos] X.env = (false, eval (.Call (.Attribute e "values" apos) [] [] cpos) X.env) :: starEach [] X.env := by rfl) :
    PE X (.Call (.Name "list" p) [.Call (.Attribute e "values" apos) [] [] cpos] [] pos) (tListVals te) := by
  refine ⟨fun pins s σ H Q I hq => ?_⟩
  refine wpAny_Call_Name_kw (ld_blt I hg hm bt_list ?_)
  refine PyProof.Rows.callWith_type1 ?_ hs rfl
  rw [hs]
  show wpAny _ _ (spliced ((false, eval (.Call (.Attribute e "values" apos) [] [] cpos) X.env) :: backTo pos (starEach [] X.env))) _ _ s
  refine Calls.spliced_cons ?_
  refine wpAny_Call_method (T := "dict") (id := "dict.values") hbase rfl hline F.plainAttrs_dict F.slot_dict_values F.type_dict_values (thn (he.run pins s σ H _ I hq) fun u s1 ⟨x, H1, I1, rx, d, kvs, ex, hd, q⟩ => ?_)
  subst ex
  obtain rfl : u = Value.ref d := rx
  obtain ⟨hz, hs0, vs, kv, hdo⟩ := I1.hok d _ hd
  obtain ⟨ep, hat⟩ := hdo.dictAt
  have lk : kvs.length = vs.length := Paired.length kv
  have I2 : Inv X pins σ H1 { s1 with heap := s1.heap.push { cls := .type "dict_values", data := .fields #[.ref d] } } := I1.kept (t' := s1.toks) fun b ob q => Heap.get?_push_of_some _ q
  refine ⟨hdo.typeIs, hdo.mapOf.noDict, ?_⟩
  show wpAny _ _ (callWith cpos (.builtin "dict.values") [.ref d] [] []) _ X.xe s1
  refine method_meetsIn F.slot_dict_values F.entry_dict_values rfl (PySem.evalArgs_none ⟨rfl, hdo.typeIs, F.args_dict_values_1 _, _, meets_dict_values (mixKind X.prog X.w) d hs0, ⟨vs, hdo⟩, ?_⟩)
  refine Calls.spliced_nil ?_
  refine PySem.W.kdl_call (PySem.W.kdl_values (knd := mixKind X.prog X.w) (kvs := vs) (ep := ep)) (I1.ok.hd hc) ⟨⟨_, Heap.get?_push_size _ rfl, rfl, rfl⟩, hat.push _⟩ (by omega) fun h' tk acc c hkeep hS hacc => ?_
  refine ⟨.ref _, _, I2.laid hkeep (Nat.le_refl _) (show ObjOk X.prog X.w _ _ _ (.lst (kvs.map (·.2))) from ⟨by rw [List.length_map]; exact hz, acc.toList, c, ?_, by rw [Array.toArray_toList]; exact hS⟩), rfl, q _ (I2.hok.fresh (Nat.le_refl _))⟩
  have el : acc.toList.length = acc.size := by simp
  refine vals_of_at (by rw [List.length_map, el, hacc.1, lk]) fun j x w h1 h2 => ?_
  obtain ⟨k, hky⟩ := hacc.2 j w (by rw [← Array.getElem?_toList]; exact h2)
  rw [List.getElem?_map] at h1
  obtain ⟨kx, e1, e2⟩ := Option.map_eq_some_iff.mp h1
  obtain ⟨y, g1, g2, g3⟩ := LiI.paired_get kv e1
  rw [hky] at g1
  cases g1
  rw [← e2]
  exact g3
end
end WD
namespace WD
open PySem PySem.Spec PyProof.Rows L2

/-! ### houses: data -/
def SMALL : Str := "abcdefghijklmnopqrstuvwxyz"
def nameOk (z : Str) : Bool := decide (2 ≤ z.length) && (decide (z.length ≤ 8) && z.cps.toList.all fun c => decide (c ∈ SMALL.cps.toList))
abbrev Deed := Str × Int × List Int
def inR (n x : Int) : Bool := decide (0 ≤ x) && decide (x < n)
def rowOk (ns : List Int) (wide size : Int) : Bool := decide ((ns.length : Int) = wide) && ns.all (inR size)
def deedOk (d : Deed) (n : Int) : Bool := nameOk d.1 && (decide (0 ≤ d.2.1) && (decide (d.2.1 ≤ 3) && rowOk d.2.2 (n ^ d.2.1.toNat) n))
abbrev rD : Rl Deed := rP3 rS rI (rT rI)
abbrev Hs := Int × List Deed
def kvsOf : List Deed → List V → List (Key × V)
  | d :: ds, v :: vs => (Sum.inr d.1, v) :: kvsOf ds vs
  | _, _ => []
def rH (C : Addr) : Rl Hs := fun M H v h => ∃ a dx d vs, v = .ref a ∧ ¬ M a ∧ ¬ M dx ∧ ¬ M d ∧ H a = some (.ins C dx [("size", .int h.1), ("by_name", .ref d)]) ∧ H dx = some (.own a) ∧ H d = some (.dK (kvsOf h.2 vs)) ∧ All2 (rD M H) vs h.2
instance {C : Addr} : Rep (rH C) := ⟨fun f ⟨a, dx, d, vs, e, n1, n2, n3, h1, h2, h3, g⟩ => ⟨a, dx, d, vs, e, n1, n2, n3, f.keep _ _ n1 h1, f.keep _ _ n2 h2, f.keep _ _ n3 h3, g.imp fun _ _ x => Rep.st f x⟩,
  fun s ⟨a, dx, d, vs, e, n1, n2, n3, h1, h2, h3, g⟩ => ⟨a, dx, d, vs, e, fun z => n1 (s a z), fun z => n2 (s _ z), fun z => n3 (s _ z), h1, h2, h3, g.imp fun _ _ x => Rep.wk s x⟩,
  fun hD ⟨a, dx, d, vs, e, n1, n2, n3, h1, h2, h3, g⟩ => ⟨a, dx, d, vs, e, ad_ne h1 n1 hD, ad_ne h2 n2 hD, ad_ne h3 n3 hD, h1, h2, h3, g.imp fun _ _ x => Rep.ad hD x⟩⟩
/-- whether a value is a whole number -/
inductive Whole (K : PySem.W.Frag) (H : Hp) : V → Bool → Prop
  | int (i : Int) : Whole K H (.int i) true
  | bl (b : Bool) : Whole K H (.bl b) false
  | oth {v : V} {t : String} (h : TyX K H v (.type t)) (e : kitB t "int" = some false) : Whole K H v false
/-- whether a value is a thing of n -/
inductive Thing (K : PySem.W.Frag) (H : Hp) (n : Int) : V → Bool → Prop
  | int (i : Int) : Thing K H n (.int i) (inR n i)
  | bl (b : Bool) : Thing K H n (.bl b) false
  | oth {v : V} {t : String} (h : TyX K H v (.type t)) (e : kitB t "int" = some false) : Thing K H n v false
/-- a right house -/
structure HsOk (h : Hs) : Prop where
  lo : 1 ≤ h.1
  hi : h.1 ≤ 9
  few : h.2.length ≤ 6
  ok : ∀ d ∈ h.2, deedOk d h.1 = true
  nd : (h.2.map (·.1)).Nodup
theorem kvs_vals : ∀ {ds : List Deed} {vs : List V}, vs.length = ds.length → (kvsOf ds vs).map (·.2) = vs
  | [], [], _ => rfl
  | _ :: ds, v :: vs, h => by
    show v :: (kvsOf ds vs).map (·.2) = v :: vs
    rw [kvs_vals (Nat.succ.inj h)]
  | [], _ :: _, h => by cases h
  | _ :: _, [], h => by cases h
theorem kvs_len : ∀ {ds : List Deed} {vs : List V}, vs.length = ds.length → (kvsOf ds vs).length = ds.length
  | [], [], _ => rfl
  | _ :: ds, v :: vs, h => congrArg Nat.succ (kvs_len (Nat.succ.inj h))
  | [], _ :: _, h => by cases h
  | _ :: _, [], h => by cases h
theorem kvs_snoc {d : Deed} {v : V} : ∀ {ds : List Deed} {vs : List V}, vs.length = ds.length → kvsOf (ds ++ [d]) (vs ++ [v]) = kvsOf ds vs ++ [(Sum.inr d.1, v)]
  | [], [], _ => rfl
  | e :: ds, u :: vs, h => by
    show (Sum.inr e.1, u) :: kvsOf (ds ++ [d]) (vs ++ [v]) = (Sum.inr e.1, u) :: (kvsOf ds vs ++ [(Sum.inr d.1, v)])
    rw [kvs_snoc (Nat.succ.inj h)]
  | [], _ :: _, h => by cases h
  | _ :: _, [], h => by cases h
theorem kvs_none {z : Str} : ∀ {ds : List Deed} {vs : List V}, z ∉ ds.map (·.1) → valV (kvsOf ds vs) (Sum.inr z) = none
  | [], _, _ => rfl
  | _ :: _, [], _ => rfl
  | d :: ds, v :: vs, h => by
    have h1 : ¬ ((Sum.inr d.1 : Key) = Sum.inr z) := fun e => h (List.mem_cons.mpr (.inl (Sum.inr.inj e).symm))
    show valV ((Sum.inr d.1, v) :: kvsOf ds vs) (Sum.inr z) = none
    rw [valV_neg h1]
    exact kvs_none fun m => h (List.mem_cons_of_mem _ m)
theorem kvs_some {z : Str} : ∀ {ds : List Deed} {vs : List V}, vs.length = ds.length → z ∈ ds.map (·.1) → ∃ (i : Nat) (d : Deed) (v : V), ds[i]? = some d ∧ vs[i]? = some v ∧ d.1 = z ∧ valV (kvsOf ds vs) (Sum.inr z) = some v
  | [], _, _, h => by simp at h
  | _ :: _, [], h, _ => by cases h
  | d :: ds, v :: vs, l, h => by
    by_cases e : d.1 = z
    · exact ⟨0, d, v, rfl, rfl, e, valV_pos (p := ((Sum.inr d.1 : Key), v)) (by rw [e])⟩
    · have h2 : z ∈ ds.map (·.1) := (List.mem_cons.mp h).elim (fun q => absurd q.symm e) id
      obtain ⟨i, d', v', h3, h4, h5, h6⟩ := kvs_some (Nat.succ.inj l) h2
      refine ⟨i + 1, d', v', h3, h4, h5, ?_⟩
      show valV ((Sum.inr d.1, v) :: kvsOf ds vs) (Sum.inr z) = some v'
      rw [valV_neg (fun q => e (Sum.inr.inj q))]
      exact h6
theorem put_none {kvs : List (Key × V)} {k : Key} {v : V} (h : valV kvs k = none) : putK kvs k v = kvs ++ [(k, v)] := by
  unfold putK
  rw [valV_any, h]
  rfl
/-- what a deed's size tells -/
theorem deedOk_name {d : Deed} {n : Int} (h : deedOk d n = true) : nameOk d.1 = true ∧ 0 ≤ d.2.1 ∧ d.2.1 ≤ 3 ∧ rowOk d.2.2 (n ^ d.2.1.toNat) n = true := by
  unfold deedOk at h
  simp only [Bool.and_eq_true, decide_eq_true_eq] at h
  exact ⟨h.1, h.2.1, h.2.2.1, h.2.2.2⟩
theorem nameOk_len {z : Str} (h : nameOk z = true) : z.length ≤ 8 := by
  unfold nameOk at h
  simp only [Bool.and_eq_true, decide_eq_true_eq] at h
  exact h.2.1
theorem rowOk_len {ns : List Int} {m n : Int} (h : rowOk ns m n = true) : (ns.length : Int) = m := by
  unfold rowOk at h
  simp only [Bool.and_eq_true, decide_eq_true_eq] at h
  exact h.1
theorem pow_le3 {n : Int} {k : Nat} (h1 : 1 ≤ n) (h9 : n ≤ 9) (hk : k ≤ 3) : n ^ k ≤ 729 := by
  have h : k = 0 ∨ k = 1 ∨ k = 2 ∨ k = 3 := by omega
  have hc : n = 1 ∨ n = 2 ∨ n = 3 ∨ n = 4 ∨ n = 5 ∨ n = 6 ∨ n = 7 ∨ n = 8 ∨ n = 9 := by omega
  rcases hc with e | e | e | e | e | e | e | e | e <;> subst e <;> (rcases h with e | e | e | e <;> subst e <;> decide)
theorem HsOk.deed {h : Hs} (k : HsOk h) {d : Deed} (m : d ∈ h.2) : d.1.length ≤ 8 ∧ d.2.2.length ≤ 729 ∧ 0 ≤ d.2.1 ∧ d.2.1 ≤ 3 := by
  obtain ⟨h1, h2, h3, h4⟩ := deedOk_name (k.ok d m)
  have e := rowOk_len h4
  have := pow_le3 (k := d.2.1.toNat) k.lo k.hi (by omega)
  exact ⟨nameOk_len h1, by omega, h2, h3⟩
/-- House(size, deeds), where it is one -/
def spHouse (C : Addr) : Sp := fun vs H Q _ => ∃ (M : MS) (x dx l : Addr) (n : Int) (ds : List Deed) (dvs : List V), vs = [.ref x, .int n, .ref l] ∧ H x = some (.ins C dx []) ∧ H dx = some (.own x) ∧ H l = some (.lst dvs) ∧ All2 (rD M H) dvs ds ∧ HsOk (n, ds) ∧ MIn M H ∧ ¬ M x ∧
  ∀ (H' : Hp) (d : Addr), Fr (only x) H H' → H d = none → H' x = some (.ins C dx [("size", .int n), ("by_name", .ref d)]) → H' d = some (.dK (kvsOf ds dvs)) → Q .non H'
theorem make_house {C : Addr} {M : MS} {H : Hp} {v : V} {n : Int} {ds : List Deed} {Q : Addr → Hp → Prop} {E : XK} (hM : MIn M H) (hl : rL rD M H v ds) (hk : HsOk (n, ds)) (k : ∀ (a : Addr) (H' : Hp), H a = none → Fr M0 H H' → rH C M H' (.ref a) (n, ds) → Q a H') :
    ∀ x dx, H x = none → H dx = none → dx ≠ x → spHouse C (.ref x :: ([.int n, v] ++ [])) (upd (upd H dx (.own x)) x (.ins C dx [])) (fun u H2 => u = .non ∧ Q x H2) E := by
  intro x dx nx ndx nex
  obtain ⟨l, dvs, rfl, nl, hl1, hl2⟩ := hl
  have f1 : Fr M0 H (upd (upd H dx (.own x)) x (.ins C dx [])) := (Fr.new ndx).mutNew nx
  have e1 : (upd (upd H dx (.own x)) x (.ins C dx [])) dx = some (.own x) := by rw [upd_ne nex, upd_same]
  refine ⟨M, x, dx, l, n, ds, dvs, rfl, upd_same, e1, f1.keep _ _ (fun z => z) hl1, hl2.imp fun _ _ z => Rep.st (f1.mono fun _ z => z.elim) z, hk, hM.to f1, hM.no nx, fun H' d f hd h1 h2 => ⟨rfl, ?_⟩⟩
  have nd : H d = none := f1.dom d hd
  have f2 : Fr M0 H H' := ⟨fun a o _ e => f.keep a o (fun z => by rw [show a = x from z, nx] at e; cases e) (f1.keep a o (fun z => z) e), fun a e => f1.dom a (f.dom a e)⟩
  refine k x H' nx f2 ⟨x, dx, d, dvs, rfl, hM.no nx, hM.no ndx, hM.no nd, h1, f.keep _ _ nex e1, h2, ?_⟩
  exact hl2.imp fun _ _ z => Rep.st (f2.mono fun _ z => z.elim) z
theorem nodup_of_map {α β : Type} {f : α → β} : ∀ {l : List α}, (l.map f).Nodup → l.Nodup
  | [], _ => List.nodup_nil
  | a :: l, h => by
    rw [List.map_cons, List.nodup_cons] at h
    exact List.nodup_cons.mpr ⟨fun m => h.1 (List.mem_map_of_mem m), nodup_of_map h.2⟩
def hdOf (d : Deed) : Str × Int := (d.1, d.2.1)
end WD
/-! rules with the written part named: within a comprehension's block the reading must not hang on the block -/
namespace WD
open PySem PySem.Spec PyProof.Rows L2
section
variable {X : Cx} (K : PySem.W.Frag)

theorem k_ix_list  (h : X.K = K := by rfl) : IxR X (rIxL K) := by
  subst h
  exact ix_list 
theorem k_ix_tup  (h : X.K = K := by rfl) : IxR X (rIxT K) := by
  subst h
  exact ix_tup 
theorem k_sl_list  (h : X.K = K := by rfl) : SlR X (rSlL K) := by
  subst h
  exact sl_list 
theorem k_sl_tupA  (h : X.K = K := by rfl) : SlR X (rSlA K) := by
  subst h
  exact sl_tupA 
theorem k_op_catA  (h : X.K = K := by rfl) : OpR X (binaryOp .Add) (rCatA K) := by
  subst h
  exact op_catA 
theorem k_op_catL  (h : X.K = K := by rfl) : OpR X (binaryOp .Add) (rCatL K) := by
  subst h
  exact op_catL 
theorem k_op_eqD (hu : X.A.units + 64 < cLine) (h : X.K = K := by rfl) : OpR X (compareOp .Eq) (rEqD K) := by
  subst h
  exact op_eqD hu
theorem k_op_neD (hu : X.A.units + 64 < cLine) (h : X.K = K := by rfl) : OpR X (compareOp .NotEq) (rNeD K) := by
  subst h
  exact op_neD hu
theorem k_op_inD (hu : X.A.units + 65 < cLine) (h : X.K = K := by rfl) : OpR X (compareOp .In) (rInD K) := by
  subst h
  exact op_inD hu
theorem k_op_notInD (hu : X.A.units + 65 < cLine) (h : X.K = K := by rfl) : OpR X (compareOp .NotIn) (rNotInD K) := by
  subst h
  exact op_notInD hu
theorem k_op_in_seq  (h : X.K = K := by rfl) : OpR X (compareOp .In) (rIn K false) := by
  subst h
  exact op_in_seq 
theorem k_op_notIn_seq  (h : X.K = K := by rfl) : OpR X (compareOp .NotIn) (rIn K true) := by
  subst h
  exact op_notIn_seq 
theorem k_op_ltT (hu : X.A.units < cLine) (h : X.K = K := by rfl) : OpR X (compareOp .Lt) (rLtT K) := by
  subst h
  exact op_ltT hu
theorem k_cr_all (hc : X.calm = true) (h : X.K = K := by rfl) : CallR X (.builtin "all") (rAll K) := by
  subst h
  exact cr_all hc
theorem k_cr_any (hc : X.calm = true) (h : X.K = K := by rfl) : CallR X (.builtin "any") (rAny K) := by
  subst h
  exact cr_any hc
theorem k_cr_sum (hc : X.calm = true) (h : X.K = K := by rfl) : CallR X (.builtin "sum") (rSum K) := by
  subst h
  exact cr_sum hc
theorem k_cr_min (hc : X.calm = true) (h : X.K = K := by rfl) : CallR X (.builtin "min") (rMin K) := by
  subst h
  exact cr_min hc
theorem k_cr_max (hc : X.calm = true) (h : X.K = K := by rfl) : CallR X (.builtin "max") (rMax K) := by
  subst h
  exact cr_max hc
theorem k_cr_sumT (hc : X.calm = true) (h : X.K = K := by rfl) : CallR X (.builtin "sum") (rSumT K) := by
  subst h
  exact cr_sumT hc
theorem k_cr_minT (hc : X.calm = true) (hu : X.A.units + 1 < cLine) (h : X.K = K := by rfl) : CallR X (.builtin "min") (rOneT K) := by
  subst h
  exact cr_minT hc hu
theorem k_cr_maxT (hc : X.calm = true) (hu : X.A.units + 1 < cLine) (h : X.K = K := by rfl) : CallR X (.builtin "max") (rOneT K) := by
  subst h
  exact cr_maxT hc hu
theorem k_call_isi  (h : X.K = K := by rfl) : CallR X (.builtin "isinstance") (rIsi K) := by
  subst h
  exact call_isi 
theorem k_call_isiT  (h : X.K = K := by rfl) : CallR X (.builtin "isinstance") (rIsiT K) := by
  subst h
  exact call_isiT 
theorem k_mt_index  (h : X.K = K := by rfl) : MtR X "list.index" (rIndex K) := by
  subst h
  exact mt_index 
theorem k_mt_indexD (hu : X.A.units + 65 < cLine) (h : X.K = K := by rfl) : MtR X "list.index" (rIndexD K) := by
  subst h
  exact mt_indexD hu
theorem k_call_len_seq  (h : X.K = K := by rfl) : CallR X (.builtin "len") (fun xs H Q => ∃ p ys, xs = [.ref p] ∧ (SqL K H p ys ∨ SqT K H p ys) ∧ Q (.int ys.length) H) := by
  subst h
  exact call_len_seq 
theorem k_call_list_of  (h : X.K = K := by rfl) : CallR X (.type "list") (fun xs H Q => ∃ p ys, xs = [.ref p] ∧ (SqL K H p ys ∨ SqT K H p ys) ∧ ∀ l, H l = none → Q (.ref l) (upd H l (.lst ys))) := by
  subst h
  exact call_list_of 
theorem k_call_dictP (hc : X.calm = true) (h : X.K = K := by rfl) : CallR X (.type "dict") (fun xs H Q => ∃ (a : Addr) (ps : List Addr) (kvs : List (Key × V)), xs = [.ref a] ∧ SqL K H a (ps.map V.ref) ∧ Paired (fun p kv => SqT K H p [kV kv.1, kv.2]) ps kvs ∧ ∀ p, H p = none → Q (.ref p) (upd H p (.dK (mergeK [] kvs)))) := by
  subst h
  exact call_dictP hc

variable {tg l e o : Expr} {es elts : List Expr} {tl te to ta : TE} {t : TA} {p pos apos cpos tpos : Pos} {kk n : Nat} {ts : TGs} {f : Str}
theorem k_pi_list (hl : PE X l tl) (h : X.K = K := by rfl) : PI X tg l (iList K tl) := by subst h; exact pi_list hl
theorem k_pi_tup (hl : PE X l tl) (h : X.K = K := by rfl) : PI X tg l (iTup K tl) := by subst h; exact pi_tup hl
theorem k_pi_enum (hg : Gl X "enumerate") (hm : X.mg "enumerate" = none) (ha : PA X [e] t) (hs : starEach [e] X.env = [(false, eval e X.env)] := by rfl) (h : X.K = K := by rfl) :
    PI X (.Tuple elts kk tpos) (.Call (.Name "enumerate" p) [e] [] pos) (iEnum K t) := by subst h; exact pi_enum hg hm ha hs
theorem k_pi_zipA {e2 : Expr} (hg : Gl X "zip") (hm : X.mg "zip" = none) (ha : PA X [e, e2] t)
    (hs : starEach [e, e2] X.env = (false, eval e X.env) :: starEach [e2] X.env := by rfl) (hpl : (backTo pos (starEach [e2] X.env)).any (·.1) = false := by rfl) (h : X.K = K := by rfl) :
    PI X (.Tuple elts kk tpos) (.Call (.Name "zip" p) [e, e2] [] pos) (RZ.iZipA K t) := by subst h; exact RZ.pi_zipA hg hm ha hs hpl
theorem k_pe_fld (he : PE X e ta) (hb : attributeBase e f X.env (eval e X.env) = eval e X.env := by rfl) (h : X.K = K := by rfl) : PE X (.Attribute e f pos) (tFld K ta f) := by subst h; exact pe_fld he hb
theorem k_ps_fld {value : Expr} {tv : TE} {pos' : Pos} (ha : PE X o ta) (hv : PE X value tv) (hs : swapsWith value (some (.Attribute o f pos')) pos.line X.env = pure false := by rfl) (h : X.K = K := by rfl) : PS X (.Assign [.Attribute o f pos'] value pos) (sFld K ta tv f) := by subst h; exact ps_fld ha hv hs
theorem k_pg_tup (hc : X.calm = true) (hp : PGs X es ts) (hn : (assignEach es X.env).length = n := by rfl) (hst : (assignEach es X.env).findIdx? (·.1) = none := by rfl) (h : X.K = K := by rfl) : PG X (.Tuple es kk pos) (gTup K n ts) := by subst h; exact pg_tup hc hp hn hst
theorem k_pe_tupleOf (hg : Gl X "tuple") (hm : X.mg "tuple" = none) (ha : PE X e ta) (na : starEach [e] X.env = (false, eval e X.env) :: starEach [] X.env := by rfl) (h : X.K = K := by rfl) :
    PE X (.Call (.Name "tuple" p) [e] [] pos) (tThen ta (kTup K)) := by subst h; exact pe_tupleOf hg hm ha na
theorem k_pe_bm0 {T : String} {name : Str} {id : String} {r : V → List V → Hp → VK → Prop} (pa : PlainAttrs T) (slot : Slot T name id) (hty : typeOf (.builtin id) = pure (.type "method_descriptor")) (hm : MtR X id r) (ho : PE X o to)
    (hbase : attributeBase o name X.env (eval o X.env) = eval o X.env := by rfl) (hline : (apos.endLine == cpos.line) = true := by rfl) (h : X.K = K := by rfl) : PE X (.Call (.Attribute o name apos) [] [] cpos) (tBM0 K T r to) := by subst h; exact pe_bm0 pa slot hty hm ho hbase hline
theorem k_pe_bm {T : String} {name : Str} {id : String} {r : V → List V → Hp → VK → Prop} (pa : PlainAttrs T) (slot : Slot T name id) (hty : typeOf (.builtin id) = pure (.type "method_descriptor")) (hm : MtR X id r) (ho : PE X o to) (ha : PA X (e :: es) t)
    (hbase : attributeBase o name X.env (eval o X.env) = eval o X.env := by rfl)
    (hfew : ((backTo cpos (starEach (e :: es) X.env)).all (fun x => !x.1) && (backToKw cpos (keywordEach [] X.env)).all (fun x => x.1.isSome)
      && decide ((e :: es).length + ([] : List Keyword).length + (if ([] : List Keyword).isEmpty then 0 else 1) < 30)) = true := by rfl)
    (hline : (apos.endLine == cpos.line) = true := by rfl) (hs : starEach (e :: es) X.env = (false, eval e X.env) :: starEach es X.env := by rfl) (hplain : (backTo cpos (starEach es X.env)).any (·.1) = false := by rfl) (h : X.K = K := by rfl) :
    PE X (.Call (.Attribute o name apos) (e :: es) [] cpos) (tBM K T r to t) := by subst h; exact pe_bm pa slot hty hm ho ha hbase hfew hline hs hplain
/-- sep.join(xs) -/
def rJoin (K : PySem.W.Frag) : V → List V → Hp → VK → Prop := fun x xs H Q => ∃ a p, ∃ ys : List Str, x = .str a ∧ xs = [.ref p] ∧ (SqL K H p (ys.map V.str) ∨ SqT K H p (ys.map V.str)) ∧ (ys.map (·.length)).sum + ys.length * a.length ≤ 16777216 ∧ Q (.str (Txt.join a ys)) H
theorem k_pe_join (ho : PE X o to) (he : PE X e te) (hs : starEach [e] X.env = [(false, eval e X.env)] := by rfl) (hbase : attributeBase o "join" X.env (eval o X.env) = eval o X.env := by rfl) (hline : (apos.endLine == pos.line) = true := by rfl) (h : X.K = K := by rfl) :
    PE X (.Call (.Attribute o "join" apos) [e] [] pos) (tM1 (rJoin K) to te) := by subst h; exact pe_join ho he hs hbase hline
end
end WD
namespace WD
open PySem PySem.Spec PyProof.Rows L2
theorem ext_tl {x y : Str} (h : TL.tl x = TL.tl y) : x = y := TL.ext_tl h
theorem joinL_nil : ∀ ys : List (List Nat), TL.joinL [] ys = ys.flatten
  | [] => rfl
  | [p] => by show p = p ++ []; rw [List.append_nil]
  | p :: q :: r => by
    show p ++ ([] ++ TL.joinL [] (q :: r)) = p ++ (q :: r).flatten
    rw [joinL_nil (q :: r)]; rfl
theorem flat_one (l : List Nat) : (l.map fun c => [c]).flatten = l := by
  induction l with
  | nil => rfl
  | cons a l ih =>
    show a :: (l.map fun c => [c]).flatten = a :: l
    rw [ih]
theorem join_chars (l : List Nat) : Txt.join (Str.ofString "") (l.map fun c => (⟨#[c]⟩ : Str)) = ⟨l.toArray⟩ := by
  have e := SX.join_S [] (l.map fun c => [c])
  rw [List.map_map, joinL_nil, flat_one] at e
  exact e
def lets : List Nat := TL.tl SMALL
theorem lets_len : lets.length = 26 := by decide +kernel
theorem lets_nd : lets.Nodup := by decide +kernel
theorem lets_ok : ∀ c ∈ lets, c < 0x110000 := by decide +kernel
theorem small_len : SMALL.length = 26 := by decide +kernel
def mkName (s : List Nat) (at_ : Nat) (c : Nat) : Str := ⟨(s.take at_ ++ ([c] ++ s.drop at_)).toArray⟩
theorem strOk_of {z : Str} (h : ∀ c ∈ TL.tl z, c ∈ lets) : PyData.strOk z = true := by
  unfold PyData.strOk
  rw [← Array.all_toList, List.all_eq_true]
  intro c hc
  exact decide_eq_true (lets_ok c (h c hc))
theorem nameOk_of {z : Str} (h1 : 2 ≤ z.length) (h2 : z.length ≤ 8) (h : ∀ c ∈ TL.tl z, c ∈ lets) : nameOk z = true := by
  unfold nameOk
  rw [decide_eq_true h1, decide_eq_true h2]
  show ((TL.tl z).all fun c => decide (c ∈ lets)) = true
  exact List.all_eq_true.mpr fun c hc => decide_eq_true (h c hc)
theorem nameOk_str {z : Str} (h : nameOk z = true) : PyData.strOk z = true := by
  unfold nameOk at h
  simp only [Bool.and_eq_true] at h
  refine strOk_of fun c hc => ?_
  exact of_decide_eq_true (List.all_eq_true.mp h.2.2 c hc)
theorem mk_tl (s : List Nat) (a c : Nat) : TL.tl (mkName s a c) = s.take a ++ ([c] ++ s.drop a) := rfl
theorem mk_len (s : List Nat) (a c : Nat) : (mkName s a c).length = s.length + 1 := by
  show (s.take a ++ ([c] ++ s.drop a)).toArray.size = s.length + 1
  simp; omega
theorem mk_ok {s : List Nat} {a c : Nat} (h1 : 1 ≤ s.length) (h2 : s.length ≤ 7) (hs : ∀ x ∈ s, x ∈ lets) (hc : c ∈ lets) : nameOk (mkName s a c) = true := by
  refine nameOk_of (by rw [mk_len]; omega) (by rw [mk_len]; omega) fun x hx => ?_
  rw [mk_tl] at hx
  rcases List.mem_append.mp hx with h | h
  · exact hs x (List.mem_of_mem_take h)
  · rcases List.mem_append.mp h with h | h
    · rw [List.mem_singleton.mp h]; exact hc
    · exact hs x (List.mem_of_mem_drop h)
theorem mk_inj {s : List Nat} {a c d : Nat} (ha : a ≤ s.length) (h : mkName s a c = mkName s a d) : c = d := by
  have e : TL.tl (mkName s a c) = TL.tl (mkName s a d) := by rw [h]
  rw [mk_tl, mk_tl] at e
  have e2 := List.append_cancel_left e
  exact (List.cons.inj e2).1
theorem cutS_take (l : List Nat) (n : Nat) (h : n ≤ l.length) : cutS ⟨l.toArray⟩ none (some (n : Int)) = ⟨(l.take n).toArray⟩ := by
  have hsl : (⟨l.toArray⟩ : Str).length = l.length := by simp [Str.length]
  refine TL.ext_tl ?_
  show (l.drop (HT.sIx _ 0 none)).take _ = l.take n
  rw [HT.sIx_none, hsl, HT.sIx_nat, Nat.min_eq_left h]
  rfl
theorem cutS_drop (l : List Nat) (n : Nat) (h : n ≤ l.length) : cutS ⟨l.toArray⟩ (some (n : Int)) none = ⟨(l.drop n).toArray⟩ := by
  have hsl : (⟨l.toArray⟩ : Str).length = l.length := by simp [Str.length]
  refine TL.ext_tl ?_
  show (l.drop (HT.sIx _ 0 (some (n : Int)))).take (HT.sIx _ _ none - _) = l.drop n
  rw [HT.sIx_none, hsl, HT.sIx_nat, Nat.min_eq_left h]
  exact List.take_of_length_le (by rw [List.length_drop]; exact Nat.le_refl _)
theorem S_len (l : List Nat) : (⟨l.toArray⟩ : Str).length = l.length := by simp [Str.length]
/-- the names: c i by the letters' numbers -/
def letAt (i : Int) : Nat := lets.getD i.toNat 0
theorem letAt_mem {i : Int} (h0 : 0 ≤ i) (h1 : i < 26) : letAt i ∈ lets := by
  unfold letAt
  have hl := lets_len
  have : i.toNat < lets.length := by omega
  rw [List.getD_eq_getElem?_getD, List.getElem?_eq_getElem this]
  exact List.getElem_mem _
theorem letAt_inj {i j : Int} (h0 : 0 ≤ i) (h1 : i < 26) (g0 : 0 ≤ j) (g1 : j < 26) (e : letAt i = letAt j) : i = j := by
  unfold letAt at e
  have hl := lets_len
  have hi : i.toNat < lets.length := by omega
  have hj : j.toNat < lets.length := by omega
  rw [List.getD_eq_getElem?_getD, List.getElem?_eq_getElem hi, List.getD_eq_getElem?_getD, List.getElem?_eq_getElem hj] at e
  have := (List.getElem_inj lets_nd).mp e
  omega
theorem at_small {i : Int} (h0 : 0 ≤ i) (h1 : i < 26) : atI (TL.tl SMALL) i = some (letAt i) := by
  have hl := lets_len
  have hi : i.toNat < lets.length := by omega
  have e : i = ((i.toNat : Nat) : Int) := by omega
  have : (TL.tl SMALL)[i.toNat]? = some (letAt i) := by
    unfold letAt
    rw [List.getD_eq_getElem?_getD, show lets = TL.tl SMALL from rfl]
    have hi2 : i.toNat < (TL.tl SMALL).length := hi
    rw [List.getElem?_eq_getElem hi2]; rfl
  rw [e]
  exact atI_nat this
def namesOf (s : List Nat) (a : Nat) (f : Int) (m : Nat) : List Str := (List.range m).map fun (k : Nat) => mkName s a (letAt ((f + 5 * (k : Int)) % 26))
theorem namesOf_nd {s : List Nat} {a : Nat} {f : Int} {m : Nat} (ha : a ≤ s.length) (hm : m ≤ 26) : (namesOf s a f m).Nodup := by
  unfold namesOf
  rw [List.nodup_iff_pairwise_ne, List.pairwise_map]
  refine List.Pairwise.imp_of_mem (R := fun i j => i ≠ j) (fun {i j} hi hj hne e => ?_) (List.nodup_iff_pairwise_ne.mp List.nodup_range)
  have hi := List.mem_range.mp hi
  have hj := List.mem_range.mp hj
  have e2 := letAt_inj (by omega) (by omega) (by omega) (by omega) (mk_inj ha e)
  omega
theorem namesOf_ok {s : List Nat} {a : Nat} {f : Int} {m : Nat} (h1 : 1 ≤ s.length) (h2 : s.length ≤ 7) (hs : ∀ x ∈ s, x ∈ lets) : ∀ z ∈ namesOf s a f m, nameOk z = true := fun z hz => by
  obtain ⟨k, _, rfl⟩ := List.mem_map.mp hz
  exact mk_ok h1 h2 hs (letAt_mem (by omega) (by omega))
theorem atI_ok {α : Type} {xs : List α} {i : Int} (h0 : 0 ≤ i) (h : i.toNat < xs.length) : atI xs i = some (xs[i.toNat]'h) := by
  have e : atI xs ((i.toNat : Nat) : Int) = some (xs[i.toNat]'h) := atI_nat (List.getElem?_eq_getElem h)
  rw [show ((i.toNat : Nat) : Int) = i by omega] at e
  exact e
theorem atI_int {l : List Int} {i : Int} (h0 : 0 ≤ i) (h : i.toNat < l.length) : atI (l.map V.int) i = some (.int (l[i.toNat]'h)) := by
  rw [atI_ok h0 (by rw [List.length_map]; exact h), List.getElem_map]
/-! ### tuples put together, all rows -/
theorem catT {α : Type} {R : Rl α} [Rep R] {K : PySem.W.Frag} {M : MS} {H : Hp} {x y : V} {l l2 : List α} {Q : VK} (hM : MIn M H) (h1 : rT R M H x l) (h2 : rT R M H y l2) (hz : l.length + l2.length ≤ sizeLine)
    (k : ∀ v H', Fr M0 H H' → rT R M H' v (l ++ l2) → Q v H') : rCatA K x y H Q := by
  obtain ⟨a, vs, rfl, na, ha, al⟩ := h1
  obtain ⟨b, ws, rfl, nb, hb, bl⟩ := h2
  have e1 := al.len
  have e2 := bl.len
  refine ⟨a, b, vs, ws, rfl, rfl, SqT.of ha, SqT.of hb, by omega, fun e => ?_, fun _ e => ?_, fun _ _ p hp => ?_⟩
  · subst e
    have : l = [] := List.length_eq_zero_iff.mp e1.symm
    subst this
    exact k _ _ (Fr.refl _) ⟨b, ws, rfl, nb, hb, bl⟩
  · subst e
    have : l2 = [] := List.length_eq_zero_iff.mp e2.symm
    subst this
    exact k _ _ (Fr.refl _) ⟨a, vs, rfl, na, ha, by rw [List.append_nil]; exact al⟩
  · refine k _ _ (Fr.new hp) ⟨p, vs ++ ws, rfl, hM.no hp, upd_same, ?_⟩
    exact (al.imp fun _ _ z => Rep.st (Fr.new hp) z).app (bl.imp fun _ _ z => Rep.st (Fr.new hp) z)
theorem tup1 {α : Type} {R : Rl α} [Rep R] {M : MS} {H : Hp} {p : Addr} {v : V} {a : α} (hM : MIn M H) (hp : H p = none) (h : R M H v a) : rT R M (upd H p (.tup [v])) (.ref p) [a] :=
  ⟨p, [v], rfl, hM.no hp, upd_same, All2.one (Rep.st (Fr.new hp) h)⟩
def nexts (s : Nat) (r : List Int) : List (List Int) := (List.range s).map fun (i : Nat) => r ++ [(i : Int)]
def allRows (s : Nat) : Nat → List (List Int)
  | 0 => [[]]
  | p + 1 => (allRows s p).flatMap (nexts s)
theorem flat_len {β γ : Type} {g : β → List γ} {m : Nat} (h : ∀ b, (g b).length = m) : ∀ l : List β, (l.flatMap g).length = l.length * m
  | [] => by simp
  | b :: l => by
    rw [List.flatMap_cons, List.length_append, h b, flat_len h l, List.length_cons, Nat.succ_mul]
    omega
theorem nexts_len (s : Nat) (r : List Int) : (nexts s r).length = s := by simp [nexts]
theorem allRows_len (s : Nat) : ∀ p, (allRows s p).length = s ^ p
  | 0 => rfl
  | p + 1 => by
    show ((allRows s p).flatMap (nexts s)).length = s ^ (p + 1)
    rw [flat_len (nexts_len s), allRows_len s p, Nat.pow_succ]
theorem allRows_row {s : Nat} : ∀ {p : Nat} {r : List Int}, r ∈ allRows s p → r.length = p ∧ ∀ x ∈ r, 0 ≤ x ∧ x < s
  | 0, r, h => by
    rw [List.mem_singleton.mp h]
    exact ⟨rfl, fun x hx => by cases hx⟩
  | p + 1, r, h => by
    obtain ⟨q, hq, hr⟩ := List.mem_flatMap.mp h
    obtain ⟨i, hi, rfl⟩ := List.mem_map.mp hr
    obtain ⟨h1, h2⟩ := allRows_row hq
    refine ⟨by rw [List.length_append, h1]; rfl, fun x hx => ?_⟩
    rcases List.mem_append.mp hx with z | z
    · exact h2 x z
    · rw [List.mem_singleton.mp z]
      have := List.mem_range.mp hi
      omega
theorem flat_snoc {β γ : Type} (g : β → List γ) (l : List β) (b : β) : (l ++ [b]).flatMap g = l.flatMap g ++ g b := by
  rw [List.flatMap_append]
  simp
/-! ### slices of lists -/
def cutL {α : Type} (xs : List α) (lo hi : Option Int) : List α := (xs.drop (HT.sIx xs.length 0 lo)).take (HT.sIx xs.length xs.length hi - HT.sIx xs.length 0 lo)
theorem All2.cut {α : Type} {R : V → α → Prop} {vs : List V} {l : List α} (h : All2 R vs l) (lo hi : Option Int) : All2 R (cutV vs lo hi) (cutL l lo hi) := by
  unfold cutV cutL
  rw [h.len]
  exact (h.drop _).take _
theorem cutL_take {α : Type} (l : List α) (n : Nat) : cutL l none (some (n : Int)) = l.take n := by
  unfold cutL
  rw [HT.sIx_none, HT.sIx_nat, List.drop_zero, Nat.sub_zero]
  by_cases h : n ≤ l.length
  · rw [Nat.min_eq_left h]
  · rw [Nat.min_eq_right (by omega), List.take_of_length_le (Nat.le_refl _), List.take_of_length_le (by omega)]
theorem cutL_drop {α : Type} (l : List α) (n : Nat) : cutL l (some (n : Int)) none = l.drop n := by
  unfold cutL
  rw [HT.sIx_none, HT.sIx_nat]
  by_cases h : n ≤ l.length
  · rw [Nat.min_eq_left h]
    exact List.take_of_length_le (by rw [List.length_drop]; exact Nat.le_refl _)
  · rw [Nat.min_eq_right (by omega), List.drop_of_length_le (Nat.le_refl _), List.drop_of_length_le (by omega)]
    simp
/-- xs[lo:hi] of a list; xs + ys -/
theorem sliceL {α : Type} {R : Rl α} [Rep R] {K : PySem.W.Frag} {M : MS} {H : Hp} {x : V} {l : List α} {lo hi : Option Int} {Q : VK} (hM : MIn M H) (h : rL R M H x l)
    (k : ∀ a H', H a = none → Fr M0 H H' → rL R M H' (.ref a) (cutL l lo hi) → Q (.ref a) H') : rSlL K x lo hi H Q := by
  obtain ⟨a, vs, rfl, na, ha, al⟩ := h
  exact ⟨a, vs, rfl, SqL.of ha, fun p hp => k p _ hp (Fr.new hp) ⟨p, _, rfl, hM.no hp, upd_same, (al.cut lo hi).imp fun _ _ z => Rep.st (Fr.new hp) z⟩⟩
theorem catL {α : Type} {R : Rl α} [Rep R] {K : PySem.W.Frag} {M : MS} {H : Hp} {x y : V} {l l2 : List α} {Q : VK} (hM : MIn M H) (h1 : rL R M H x l) (h2 : rL R M H y l2) (hz : l.length + l2.length ≤ sizeLine)
    (k : ∀ a H', H a = none → Fr M0 H H' → rL R M H' (.ref a) (l ++ l2) → Q (.ref a) H') : rCatL K x y H Q := by
  obtain ⟨a, vs, rfl, na, ha, al⟩ := h1
  obtain ⟨b, ws, rfl, nb, hb, bl⟩ := h2
  have e1 := al.len
  have e2 := bl.len
  exact ⟨a, b, vs, ws, rfl, rfl, SqL.of ha, SqL.of hb, by omega, fun p hp => k p _ hp (Fr.new hp) ⟨p, _, rfl, hM.no hp, upd_same, (al.imp fun _ _ z => Rep.st (Fr.new hp) z).app (bl.imp fun _ _ z => Rep.st (Fr.new hp) z)⟩⟩
/-- [v] -/
theorem lst1 {α : Type} {R : Rl α} [Rep R] {M : MS} {H : Hp} {p : Addr} {v : V} {a : α} (hM : MIn M H) (hp : H p = none) (h : R M H v a) : rL R M (upd H p (.lst [v])) (.ref p) [a] :=
  ⟨p, [v], rfl, hM.no hp, upd_same, All2.one (Rep.st (Fr.new hp) h)⟩
theorem pair1 {α β : Type} {R : Rl α} {S : Rl β} [Rep R] [Rep S] {M : MS} {H : Hp} {p : Addr} {v u : V} {a : α} {b : β} (hM : MIn M H) (hp : H p = none) (h : R M H v a) (g : S M H u b) : rP R S M (upd H p (.tup [v, u])) (.ref p) (a, b) :=
  ⟨p, v, u, rfl, hM.no hp, upd_same, Rep.st (Fr.new hp) h, Rep.st (Fr.new hp) g⟩
theorem trip1 {α β γ : Type} {R : Rl α} {S : Rl β} {T : Rl γ} [Rep R] [Rep S] [Rep T] {M : MS} {H : Hp} {p : Addr} {v u t : V} {a : α} {b : β} {c : γ} (hM : MIn M H) (hp : H p = none) (h : R M H v a) (g : S M H u b) (j : T M H t c) :
    rP3 R S T M (upd H p (.tup [v, u, t])) (.ref p) (a, b, c) := ⟨p, v, u, t, rfl, hM.no hp, upd_same, Rep.st (Fr.new hp) h, Rep.st (Fr.new hp) g, Rep.st (Fr.new hp) j⟩
/-! ### dict(pairs) -/
theorem putK_len {kvs : List (Key × V)} {k : Key} {v : V} : (putK kvs k v).length = if (valV kvs k).isSome then kvs.length else kvs.length + 1 := by
  unfold putK
  rw [valV_any]
  by_cases h : (valV kvs k).isSome = true
  · rw [if_pos h, if_pos h, List.length_map]
  · rw [if_neg h, if_neg h, List.length_append]; rfl
theorem merge_len : ∀ (more acc : List (Key × V)), (mergeK acc more).length ≤ acc.length + more.length ∧ ((mergeK acc more).length = acc.length + more.length → (more.map (·.1)).Nodup ∧ ∀ k ∈ more.map (·.1), valV acc k = none)
  | [], acc => ⟨Nat.le_refl _, fun _ => ⟨List.nodup_nil, fun k h => by cases h⟩⟩
  | m :: more, acc => by
    have e : mergeK acc (m :: more) = mergeK (putK acc m.1 m.2) more := rfl
    obtain ⟨h1, h2⟩ := merge_len more (putK acc m.1 m.2)
    have hl := putK_len (kvs := acc) (k := m.1) (v := m.2)
    rw [e]
    cases hs : valV acc m.1 with
    | some x =>
      rw [hs] at hl
      simp only [Option.isSome_some, if_true] at hl
      refine ⟨by rw [List.length_cons]; omega, fun z => ?_⟩
      rw [List.length_cons] at z
      omega
    | none =>
      rw [hs] at hl
      have hl2 : (putK acc m.1 m.2).length = acc.length + 1 := hl
      refine ⟨by rw [List.length_cons]; omega, fun z => ?_⟩
      rw [List.length_cons] at z
      obtain ⟨n1, n2⟩ := h2 (by omega)
      rw [put_none hs] at n2
      have key : ∀ k, valV (acc ++ [(m.1, m.2)]) k = none → valV acc k = none ∧ m.1 ≠ k := fun k hk => by
        have h3 := valV_not hk
        rw [List.map_append, List.mem_append] at h3
        constructor
        · cases q : valV acc k with
          | none => rfl
          | some v => exact absurd (.inl (valV_in q)) h3
        · exact fun q => h3 (.inr (by rw [q]; exact List.mem_singleton.mpr rfl))
      refine ⟨?_, fun k hk => ?_⟩
      · rw [List.map_cons, List.nodup_cons]
        exact ⟨fun hm => (key _ (n2 _ hm)).2 rfl, n1⟩
      · rw [List.map_cons] at hk
        rcases List.mem_cons.mp hk with q | q
        · rw [q]; exact hs
        · exact (key k (n2 k q)).1
/-- pairs of a name and a number, for dict(..) -/
theorem pairs_dict {K : PySem.W.Frag} {M : MS} {H : Hp} : ∀ {vs : List V} {l : List (Str × Int)}, All2 (rP rS rI M H) vs l → ∃ ps : List Addr, vs = ps.map V.ref ∧ Paired (fun p (kv : Key × V) => SqT K H p [kV kv.1, kv.2]) ps (l.map fun z => ((Sum.inr z.1 : Key), V.int z.2))
  | [], [], _ => ⟨[], rfl, .nil⟩
  | v :: vs, z :: l, h => by
    obtain ⟨ps, e, r⟩ := pairs_dict (K := K) h.2
    obtain ⟨a, v1, v2, rfl, _, ha, ⟨rfl, _⟩, rfl⟩ := h.1
    exact ⟨a :: ps, by rw [e]; rfl, .cons (SqT.of ha) r⟩
  | [], _ :: _, h => h.elim
  | _ :: _, [], h => h.elim
theorem nameOk_iff {z : Str} : nameOk z = true ↔ 2 ≤ z.length ∧ z.length ≤ 8 ∧ ∀ c ∈ TL.tl z, c ∈ lets := by
  unfold nameOk
  simp only [Bool.and_eq_true, decide_eq_true_eq, List.all_eq_true]
  exact Iff.rfl
theorem name7 {z : Str} (h : nameOk z = true) : ∃ s1 : Str, cutS z none (some 7) = s1 ∧ nameOk (s1 ++ "z") = true ∧ s1.length ≤ 7 := by
  obtain ⟨h1, h2, h3⟩ := nameOk_iff.mp h
  have e : cutS z none (some 7) = ⟨((TL.tl z).take 7).toArray⟩ := by
    refine TL.ext_tl ?_
    show ((TL.tl z).drop (HT.sIx _ 0 none)).take _ = (TL.tl z).take 7
    rw [HT.sIx_none, show (some (7 : Int)) = some ((7 : Nat) : Int) from rfl, HT.sIx_nat, List.drop_zero, Nat.sub_zero]
    by_cases hl : 7 ≤ z.length
    · rw [Nat.min_eq_left hl]
    · rw [Nat.min_eq_right (by omega), List.take_of_length_le (by rw [← TL.len_tl]; exact Nat.le_refl _), List.take_of_length_le (by rw [← TL.len_tl]; omega)]
  have hl : (⟨((TL.tl z).take 7).toArray⟩ : Str).length = min 7 z.length := by rw [S_len, List.length_take, ← TL.len_tl]
  refine ⟨_, e, nameOk_iff.mpr ?_, by rw [hl]; omega⟩
  have hl2 : (⟨((TL.tl z).take 7).toArray⟩ ++ ("z" : Str) : Str).length = min 7 z.length + 1 := by
    rw [TL.len_tl, TL.tl_append, List.length_append, ← TL.len_tl, hl]; rfl
  refine ⟨by rw [hl2]; omega, by rw [hl2]; omega, fun c hc => ?_⟩
  rw [TL.tl_append] at hc
  rcases List.mem_append.mp hc with q | q
  · exact h3 c (List.mem_of_mem_take q)
  · have : TL.tl ("z" : Str) = [122] := by decide +kernel
    rw [this] at q
    rw [List.mem_singleton.mp q]
    decide +kernel
end WD
local macro_rules | `(tactic| walk_at "sq") => `(tactic| first | assumption | exact L2.SqL.of (by assumption) | exact L2.SqT.of (by assumption) | exact .inl (L2.SqL.of (by assumption)) | exact .inr (L2.SqT.of (by assumption)) | exact .inl (by assumption) | exact .inr (by assumption) | exact L2.SqL.of L2.upd_same | exact L2.SqT.of L2.upd_same | exact .inl (L2.SqL.of L2.upd_same) | exact .inr (L2.SqT.of L2.upd_same))
local macro_rules | `(tactic| walk_at "cond") => `(tactic| ((try dsimp only); first | assumption | decide | omega | exact ⟨by omega, by omega⟩ | exact .inl ⟨by omega, by omega⟩ | exact .inr ⟨by omega, by omega⟩))
local macro_rules | `(tactic| walk_at "rd") => `(tactic| repeat (first | refine ⟨_, rfl, ?_⟩ | refine ⟨_, _, rfl, rfl, ?_⟩ | refine ⟨_, _, _, _, rfl, rfl, (by walk_at "sq"), (by first | rfl | assumption), ?_⟩ | refine ⟨_, _, rfl, (by walk_at "sq"), ?_⟩ | refine And.intro rfl ?_ | refine And.intro (by walk_at "cond") ?_))
namespace K04
open PySem PySem.Spec PyProof.Rows L2
def topS (i : Nat) : Stmt := PySem.Challenge.pw_wishdeeds_k04_houses_that_fit.main.body.getD i (.Pass ⟨0, 0, 0, 0⟩)
abbrev s__law_draw : Stmt := topS 21
theorem sc__law_draw : FnScope ["_law_well", "_law_many", "_law_found", "_law_number"] ["_law_well", "_law_many"] (defScope s__law_draw) := ⟨rfl, rfl, rfl, by decide +kernel, rfl, by decide +kernel, by decide +kernel⟩
abbrev s_is_whole : Stmt := topS 11
theorem sc_is_whole : FnScope ["thing"] ["thing"] (defScope s_is_whole) := ⟨rfl, rfl, rfl, by decide +kernel, rfl, by decide +kernel, by decide +kernel⟩
abbrev s_is_thing : Stmt := topS 12
theorem sc_is_thing : FnScope ["thing", "size"] ["thing", "size"] (defScope s_is_thing) := ⟨rfl, rfl, rfl, by decide +kernel, rfl, by decide +kernel, by decide +kernel⟩
abbrev s_is_name : Stmt := topS 13
theorem sc_is_name : FnScope ["word", "sign"] ["word"] (defScope s_is_name) := ⟨rfl, rfl, rfl, by decide +kernel, rfl, by decide +kernel, by decide +kernel⟩
abbrev s_is_row : Stmt := topS 14
theorem sc_is_row : FnScope ["row", "wide", "size", "one"] ["row", "wide", "size"] (defScope s_is_row) := ⟨rfl, rfl, rfl, by decide +kernel, rfl, by decide +kernel, by decide +kernel⟩
abbrev s_cells : Stmt := topS 15
theorem sc_cells : FnScope ["size", "places", "found", "k"] ["size", "places"] (defScope s_cells) := ⟨rfl, rfl, rfl, by decide +kernel, rfl, by decide +kernel, by decide +kernel⟩
abbrev s_is_deed : Stmt := topS 17
theorem sc_is_deed : FnScope ["deed", "size", "name", "places", "table"] ["deed", "size"] (defScope s_is_deed) := ⟨rfl, rfl, rfl, by decide +kernel, rfl, by decide +kernel, by decide +kernel⟩
abbrev s_House_init : Stmt := inClass (topS 18) 0
theorem sc_House_init : FnScope ["self", "size", "deeds", "found", "at", "deed"] ["self", "size", "deeds"] (defScope s_House_init) := ⟨rfl, rfl, rfl, by decide +kernel, rfl, by decide +kernel, by decide +kernel⟩
abbrev s_House_deeds : Stmt := inClass (topS 18) 2
theorem sc_House_deeds : FnScope ["self"] ["self"] (defScope s_House_deeds) := ⟨rfl, rfl, rfl, by decide +kernel, rfl, by decide +kernel, by decide +kernel⟩
abbrev s_fits : Stmt := topS 19
theorem sc_fits : FnScope ["one", "other", "deed"] ["one", "other"] (defScope s_fits) := ⟨rfl, rfl, rfl, by decide +kernel, rfl, by decide +kernel, by decide +kernel⟩
abbrev s__law_names : Stmt := topS 22
theorem sc__law_names : FnScope ["_law_well", "_law_many", "_law_letters", "_law_stem", "_law_at", "_law_first", "_law_k"] ["_law_well", "_law_many"] (defScope s__law_names) := ⟨rfl, rfl, rfl, by decide +kernel, rfl, by decide +kernel, by decide +kernel⟩
abbrev s__law_all : Stmt := topS 23
theorem sc__law_all : FnScope ["_law_size", "_law_places", "_law_found", "_law_k", "_law_longer", "_law_row", "_law_thing"] ["_law_size", "_law_places"] (defScope s__law_all) := ⟨rfl, rfl, rfl, by decide +kernel, rfl, by decide +kernel, by decide +kernel⟩
abbrev s__law_table : Stmt := topS 24
theorem sc__law_table : FnScope ["_law_well", "_law_size", "_law_places", "_law_way", "_law_number", "_law_found", "_law_things", "_law_told", "_law_cell"] ["_law_well", "_law_size", "_law_places"] (defScope s__law_table) := ⟨rfl, rfl, rfl, by decide +kernel, rfl, by decide +kernel, by decide +kernel⟩
abbrev s__law_deeds : Stmt := topS 25
theorem sc__law_deeds : FnScope ["_law_well", "_law_size", "_law_heads", "_law_name", "_law_places"] ["_law_well", "_law_size", "_law_heads"] (defScope s__law_deeds) := ⟨rfl, rfl, rfl, by decide +kernel, rfl, by decide +kernel, by decide +kernel⟩
abbrev s__law_other : Stmt := topS 26
theorem sc__law_other : FnScope ["_law_well", "_law_heads", "_law_way", "_law_at", "_law_name", "_law_places"] ["_law_well", "_law_heads"] (defScope s__law_other) := ⟨rfl, rfl, rfl, by decide +kernel, rfl, by decide +kernel, by decide +kernel⟩
abbrev s__law_right : Stmt := topS 27
theorem sc__law_right : FnScope ["_law_well", "_law_size", "_law_more", "_law_names_here", "_law_heads", "_law_its", "_law_one", "_law_other_here", "_law_due", "_law_name", "_law_places"] ["_law_well"] (defScope s__law_right) := ⟨rfl, rfl, rfl, by decide +kernel, rfl, by decide +kernel, by decide +kernel⟩
abbrev s_law : Stmt := topS 28
theorem sc_law : FnScope ["_law_script", "_law_k", "_law_cell"] ["_law_script"] (defScope s_law) := ⟨rfl, rfl, rfl, by decide +kernel, rfl, by decide +kernel, by decide +kernel⟩
def d__law_draw : He.DefD := ⟨("_law_draw", none), "_law_draw", "_law_draw", defArgs s__law_draw, defBody s__law_draw, defScope s__law_draw, [], []⟩
def d_is_whole : He.DefD := ⟨("is_whole", none), "is_whole", "is_whole", defArgs s_is_whole, defBody s_is_whole, defScope s_is_whole, [], []⟩
def d_is_thing : He.DefD := ⟨("is_thing", none), "is_thing", "is_thing", defArgs s_is_thing, defBody s_is_thing, defScope s_is_thing, [], []⟩
def d_is_name : He.DefD := ⟨("is_name", none), "is_name", "is_name", defArgs s_is_name, defBody s_is_name, defScope s_is_name, [], []⟩
def d_is_row : He.DefD := ⟨("is_row", none), "is_row", "is_row", defArgs s_is_row, defBody s_is_row, defScope s_is_row, [], []⟩
def d_cells : He.DefD := ⟨("cells", none), "cells", "cells", defArgs s_cells, defBody s_cells, defScope s_cells, [], []⟩
def d_is_deed : He.DefD := ⟨("is_deed", none), "is_deed", "is_deed", defArgs s_is_deed, defBody s_is_deed, defScope s_is_deed, [], []⟩
def d_House_init : He.DefD := ⟨("House", some "__init__"), "__init__", "House.__init__", defArgs s_House_init, defBody s_House_init, defScope s_House_init, [], []⟩
def d_House_deeds : He.DefD := ⟨("House", some "deeds"), "deeds", "House.deeds", defArgs s_House_deeds, defBody s_House_deeds, defScope s_House_deeds, [], []⟩
def d_fits : He.DefD := ⟨("fits", none), "fits", "fits", defArgs s_fits, defBody s_fits, defScope s_fits, [], []⟩
def d__law_names : He.DefD := ⟨("_law_names", none), "_law_names", "_law_names", defArgs s__law_names, defBody s__law_names, defScope s__law_names, [], []⟩
def d__law_all : He.DefD := ⟨("_law_all", none), "_law_all", "_law_all", defArgs s__law_all, defBody s__law_all, defScope s__law_all, [], []⟩
def d__law_table : He.DefD := ⟨("_law_table", none), "_law_table", "_law_table", defArgs s__law_table, defBody s__law_table, defScope s__law_table, [], []⟩
def d__law_deeds : He.DefD := ⟨("_law_deeds", none), "_law_deeds", "_law_deeds", defArgs s__law_deeds, defBody s__law_deeds, defScope s__law_deeds, [], []⟩
def d__law_other : He.DefD := ⟨("_law_other", none), "_law_other", "_law_other", defArgs s__law_other, defBody s__law_other, defScope s__law_other, [], []⟩
def d__law_right : He.DefD := ⟨("_law_right", none), "_law_right", "_law_right", defArgs s__law_right, defBody s__law_right, defScope s__law_right, [], []⟩
def d_law : He.DefD := ⟨("law", none), "law", "law", defArgs s_law, defBody s_law, defScope s_law, [], []⟩
def fn : List He.DefD := [d__law_draw, d_is_whole, d_is_thing, d_is_name, d_is_row, d_cells, d_is_deed, d_House_init, d_House_deeds, d_fits, d__law_names, d__law_all, d__law_table, d__law_deeds, d__law_other, d__law_right, d_law]
def fa : List He.Fa := [.int "MOST_DEEDS" 6, .int "MOST_PLACES" 3, .int "MOST_THINGS" 9, .str "SMALL" "abcdefghijklmnopqrstuvwxyz", .free "all", .free "bool", .free "dict", .free "enumerate", .free "int", .free "isinstance", .free "len", .free "list", .free "max", .free "min", .free "range", .free "str", .free "sum", .free "tuple", .glo "_law_draw", .glo "is_whole", .glo "is_thing", .glo "is_name", .glo "is_row", .glo "cells", .glo "is_deed", .glo "fits", .glo "_law_names", .glo "_law_all", .glo "_law_table", .glo "_law_deeds", .glo "_law_other", .glo "_law_right", .glo "law", .glo "House", .cls "House", .mkr "House", .noat "House" "size", .noat "House" "by_name", .meth "House" "deeds"]
structure Tx (K : PySem.W.Frag) (mg : Str → Option Value) : Prop where
  c_MOST_DEEDS : ∃ t, mg "MOST_DEEDS" = some (.int 6 t)
  c_MOST_PLACES : ∃ t, mg "MOST_PLACES" = some (.int 3 t)
  c_MOST_THINGS : ∃ t, mg "MOST_THINGS" = some (.int 9 t)
  c_SMALL : ∃ t, mg "SMALL" = some (.str "abcdefghijklmnopqrstuvwxyz" t)
  z_all : mg "all" = none
  z_bool : mg "bool" = none
  z_dict : mg "dict" = none
  z_enumerate : mg "enumerate" = none
  z_int : mg "int" = none
  z_isinstance : mg "isinstance" = none
  z_len : mg "len" = none
  z_list : mg "list" = none
  z_max : mg "max" = none
  z_min : mg "min" = none
  z_range : mg "range" = none
  z_str : mg "str" = none
  z_sum : mg "sum" = none
  z_tuple : mg "tuple" = none
  g__law_draw : mg "_law_draw" = some (.ref (He.ga K "_law_draw"))
  g_is_whole : mg "is_whole" = some (.ref (He.ga K "is_whole"))
  g_is_thing : mg "is_thing" = some (.ref (He.ga K "is_thing"))
  g_is_name : mg "is_name" = some (.ref (He.ga K "is_name"))
  g_is_row : mg "is_row" = some (.ref (He.ga K "is_row"))
  g_cells : mg "cells" = some (.ref (He.ga K "cells"))
  g_is_deed : mg "is_deed" = some (.ref (He.ga K "is_deed"))
  g_fits : mg "fits" = some (.ref (He.ga K "fits"))
  g__law_names : mg "_law_names" = some (.ref (He.ga K "_law_names"))
  g__law_all : mg "_law_all" = some (.ref (He.ga K "_law_all"))
  g__law_table : mg "_law_table" = some (.ref (He.ga K "_law_table"))
  g__law_deeds : mg "_law_deeds" = some (.ref (He.ga K "_law_deeds"))
  g__law_other : mg "_law_other" = some (.ref (He.ga K "_law_other"))
  g__law_right : mg "_law_right" = some (.ref (He.ga K "_law_right"))
  g_law : mg "law" = some (.ref (He.ga K "law"))
  g_House : mg "House" = some (.ref (He.ga K "House"))
  cl_House : Cls K (He.ga K "House")
  mk_House : Mk K (He.ga K "House") (He.ma K (He.ga K "House") "__init__")
  na_House_size : NoAttr K (He.ga K "House") "size"
  na_House_by_name : NoAttr K (He.ga K "House") "by_name"
  mt_House_deeds : Meth K (He.ga K "House") "deeds" (He.ma K (He.ga K "House") "deeds")
  F__law_draw : ∃ fd, FunD K "_law_draw" "_law_draw" (defArgs s__law_draw) (defBody s__law_draw) (defScope s__law_draw) [] [] (He.ga K "_law_draw") fd
  F_is_whole : ∃ fd, FunD K "is_whole" "is_whole" (defArgs s_is_whole) (defBody s_is_whole) (defScope s_is_whole) [] [] (He.ga K "is_whole") fd
  F_is_thing : ∃ fd, FunD K "is_thing" "is_thing" (defArgs s_is_thing) (defBody s_is_thing) (defScope s_is_thing) [] [] (He.ga K "is_thing") fd
  F_is_name : ∃ fd, FunD K "is_name" "is_name" (defArgs s_is_name) (defBody s_is_name) (defScope s_is_name) [] [] (He.ga K "is_name") fd
  F_is_row : ∃ fd, FunD K "is_row" "is_row" (defArgs s_is_row) (defBody s_is_row) (defScope s_is_row) [] [] (He.ga K "is_row") fd
  F_cells : ∃ fd, FunD K "cells" "cells" (defArgs s_cells) (defBody s_cells) (defScope s_cells) [] [] (He.ga K "cells") fd
  F_is_deed : ∃ fd, FunD K "is_deed" "is_deed" (defArgs s_is_deed) (defBody s_is_deed) (defScope s_is_deed) [] [] (He.ga K "is_deed") fd
  F_House_init : ∃ fd, FunD K "__init__" "House.__init__" (defArgs s_House_init) (defBody s_House_init) (defScope s_House_init) [] [] (He.ma K (He.ga K "House") "__init__") fd
  F_House_deeds : ∃ fd, FunD K "deeds" "House.deeds" (defArgs s_House_deeds) (defBody s_House_deeds) (defScope s_House_deeds) [] [] (He.ma K (He.ga K "House") "deeds") fd
  F_fits : ∃ fd, FunD K "fits" "fits" (defArgs s_fits) (defBody s_fits) (defScope s_fits) [] [] (He.ga K "fits") fd
  F__law_names : ∃ fd, FunD K "_law_names" "_law_names" (defArgs s__law_names) (defBody s__law_names) (defScope s__law_names) [] [] (He.ga K "_law_names") fd
  F__law_all : ∃ fd, FunD K "_law_all" "_law_all" (defArgs s__law_all) (defBody s__law_all) (defScope s__law_all) [] [] (He.ga K "_law_all") fd
  F__law_table : ∃ fd, FunD K "_law_table" "_law_table" (defArgs s__law_table) (defBody s__law_table) (defScope s__law_table) [] [] (He.ga K "_law_table") fd
  F__law_deeds : ∃ fd, FunD K "_law_deeds" "_law_deeds" (defArgs s__law_deeds) (defBody s__law_deeds) (defScope s__law_deeds) [] [] (He.ga K "_law_deeds") fd
  F__law_other : ∃ fd, FunD K "_law_other" "_law_other" (defArgs s__law_other) (defBody s__law_other) (defScope s__law_other) [] [] (He.ga K "_law_other") fd
  F__law_right : ∃ fd, FunD K "_law_right" "_law_right" (defArgs s__law_right) (defBody s__law_right) (defScope s__law_right) [] [] (He.ga K "_law_right") fd
  F_law : ∃ fd, FunD K "law" "law" (defArgs s_law) (defBody s_law) (defScope s_law) [] [] (He.ga K "law") fd
theorem mkTx {K : PySem.W.Frag} {h : Heap} {mg : Str → Option Value} (X : K.In h) (G : h.Ns mainGlobals mg) (c : He.SaysD fa fn K) : Tx K mg :=
  { c_MOST_DEEDS := He.int_ok X G (c.fact 0 (f := .int "MOST_DEEDS" 6) rfl),
    c_MOST_PLACES := He.int_ok X G (c.fact 1 (f := .int "MOST_PLACES" 3) rfl),
    c_MOST_THINGS := He.int_ok X G (c.fact 2 (f := .int "MOST_THINGS" 9) rfl),
    c_SMALL := He.str_ok X G (c.fact 3 (f := .str "SMALL" "abcdefghijklmnopqrstuvwxyz") rfl),
    z_all := He.free_ok X G (c.fact 4 (f := .free "all") rfl),
    z_bool := He.free_ok X G (c.fact 5 (f := .free "bool") rfl),
    z_dict := He.free_ok X G (c.fact 6 (f := .free "dict") rfl),
    z_enumerate := He.free_ok X G (c.fact 7 (f := .free "enumerate") rfl),
    z_int := He.free_ok X G (c.fact 8 (f := .free "int") rfl),
    z_isinstance := He.free_ok X G (c.fact 9 (f := .free "isinstance") rfl),
    z_len := He.free_ok X G (c.fact 10 (f := .free "len") rfl),
    z_list := He.free_ok X G (c.fact 11 (f := .free "list") rfl),
    z_max := He.free_ok X G (c.fact 12 (f := .free "max") rfl),
    z_min := He.free_ok X G (c.fact 13 (f := .free "min") rfl),
    z_range := He.free_ok X G (c.fact 14 (f := .free "range") rfl),
    z_str := He.free_ok X G (c.fact 15 (f := .free "str") rfl),
    z_sum := He.free_ok X G (c.fact 16 (f := .free "sum") rfl),
    z_tuple := He.free_ok X G (c.fact 17 (f := .free "tuple") rfl),
    g__law_draw := He.glo_ok X G (c.fact 18 (f := .glo "_law_draw") rfl),
    g_is_whole := He.glo_ok X G (c.fact 19 (f := .glo "is_whole") rfl),
    g_is_thing := He.glo_ok X G (c.fact 20 (f := .glo "is_thing") rfl),
    g_is_name := He.glo_ok X G (c.fact 21 (f := .glo "is_name") rfl),
    g_is_row := He.glo_ok X G (c.fact 22 (f := .glo "is_row") rfl),
    g_cells := He.glo_ok X G (c.fact 23 (f := .glo "cells") rfl),
    g_is_deed := He.glo_ok X G (c.fact 24 (f := .glo "is_deed") rfl),
    g_fits := He.glo_ok X G (c.fact 25 (f := .glo "fits") rfl),
    g__law_names := He.glo_ok X G (c.fact 26 (f := .glo "_law_names") rfl),
    g__law_all := He.glo_ok X G (c.fact 27 (f := .glo "_law_all") rfl),
    g__law_table := He.glo_ok X G (c.fact 28 (f := .glo "_law_table") rfl),
    g__law_deeds := He.glo_ok X G (c.fact 29 (f := .glo "_law_deeds") rfl),
    g__law_other := He.glo_ok X G (c.fact 30 (f := .glo "_law_other") rfl),
    g__law_right := He.glo_ok X G (c.fact 31 (f := .glo "_law_right") rfl),
    g_law := He.glo_ok X G (c.fact 32 (f := .glo "law") rfl),
    g_House := He.glo_ok X G (c.fact 33 (f := .glo "House") rfl),
    cl_House := He.cls_ok (c.fact 34 (f := .cls "House") rfl),
    mk_House := He.mkr_ok (c.fact 35 (f := .mkr "House") rfl),
    na_House_size := He.noat_ok (c.fact 36 (f := .noat "House" "size") rfl),
    na_House_by_name := He.noat_ok (c.fact 37 (f := .noat "House" "by_name") rfl),
    mt_House_deeds := He.meth_ok (c.fact 38 (f := .meth "House" "deeds") rfl),
    F__law_draw := c.def_ 0 (d := d__law_draw) rfl,
    F_is_whole := c.def_ 1 (d := d_is_whole) rfl,
    F_is_thing := c.def_ 2 (d := d_is_thing) rfl,
    F_is_name := c.def_ 3 (d := d_is_name) rfl,
    F_is_row := c.def_ 4 (d := d_is_row) rfl,
    F_cells := c.def_ 5 (d := d_cells) rfl,
    F_is_deed := c.def_ 6 (d := d_is_deed) rfl,
    F_House_init := c.def_ 7 (d := d_House_init) rfl,
    F_House_deeds := c.def_ 8 (d := d_House_deeds) rfl,
    F_fits := c.def_ 9 (d := d_fits) rfl,
    F__law_names := c.def_ 10 (d := d__law_names) rfl,
    F__law_all := c.def_ 11 (d := d__law_all) rfl,
    F__law_table := c.def_ 12 (d := d__law_table) rfl,
    F__law_deeds := c.def_ 13 (d := d__law_deeds) rfl,
    F__law_other := c.def_ 14 (d := d__law_other) rfl,
    F__law_right := c.def_ 15 (d := d__law_right) rfl,
    F_law := c.def_ 16 (d := d_law) rfl }
def sp__law_draw (_ : PySem.W.Frag) : Sp := WD.spDraw
section
variable {P : Program} {w : World} {K : PySem.W.Frag} {mg : Str → Option Value} {base : Heap}
theorem ok__law_draw (T : Tx K mg) : WD.Cal P w K mg base (CX0) 1 "_law_draw" (He.ga K "_law_draw") (sp__law_draw K) [] := by
  obtain ⟨fd, F⟩ := T.F__law_draw
  refine ⟨WD.fn0_of F sc__law_draw (fun vs H Q E h => ?_) (fun _ _ _ _ _ _ us hl => match us, hl with | [_, _], _ => rfl) (fun cdv A outer s H vs Q E hr h => ?_), F.kp, T.g__law_draw⟩
  · obtain ⟨w, m, rfl, hw, m0, m1, k⟩ := h
    rfl
  · obtain ⟨w, m, rfl, hw, m0, m1, k⟩ := h
    refine ⟨_, (pss_cons (ps_if (pt_cmpR op_gt (pe_ix (WD.k_ix_list K) (pv 0) pe_int (fun _ _ => rfl)) pe_int (nomark _))
        (pss_cons (ps_set (i := 2) sc__law_draw.nd rfl (.inl rfl) (pe_op op_mod (pe_ix (WD.k_ix_list K) (pv 0) pe_int (fun _ _ => rfl)) (pv 1)))
      (pss_cons (ps_asg (pe_op op_fdiv (pe_ix (WD.k_ix_list K) (pv 0) pe_int (fun _ _ => rfl)) (pv 1)) (pg_sub (pv 0) pe_int set_list))
      (pss_one (ps_ret (pv 2)))))
        pss_nil)
      (pss_cons (ps_asg (pe_op op_add (pe_ix (WD.k_ix_list K) (pv 0) pe_int (fun _ _ => rfl)) pe_int) (pg_sub (pv 0) pe_int set_list))
      (pss_cons (ps_set (i := 3) sc__law_draw.nd rfl (.inl rfl) (pe_op op_mod (pe_op op_mul (pe_op op_add (pe_op op_add (pe_ix (WD.k_ix_list K) (pv 0) pe_int (fun _ _ => rfl)) (pe_op op_mul pe_int (pe_ix (WD.k_ix_list K) (pv 0) pe_int (fun _ _ => rfl)))) pe_int) pe_int) pe_int))
      (pss_cons (ps_set (i := 3) sc__law_draw.nd rfl (.inl rfl) (pe_op op_mod (pe_op op_mul (pv 3) (pe_op op_add (pe_op op_fdiv (pv 3) pe_int) pe_int)) pe_int))
      (pss_one (ps_ret (pe_op op_mod (pe_op op_mod (pe_op op_mul (pv 3) (pe_op op_add (pe_op op_fdiv (pv 3) pe_int) pe_int)) pe_int) (pv 1)))))))), ?_⟩
    obtain ⟨a, b, c, hW⟩ := hw
    have e0 : atI [V.int a, V.int b, V.int c] 0 = some (.int a) := rfl
    refine ⟨_, rfl, w, _, 0, .int a, rfl, rfl, SqL.of hW, e0, _, _, rfl, rfl, _, rfl, ite2 (fun h => ?_) (fun h => ?_)⟩
    · refine ⟨_, rfl, w, _, 0, .int a, rfl, rfl, SqL.of hW, e0, _, rfl, a, m, rfl, rfl, m0, ?_⟩
      refine ⟨_, rfl, w, _, 0, .int a, rfl, rfl, SqL.of hW, e0, _, rfl, a, m, rfl, rfl, ⟨m0, m1⟩, _, rfl, w, _, 0, 0, rfl, rfl, hW, rfl, ?_⟩
      exact ⟨_, rfl, k _ _ (Int.emod_nonneg _ (by omega)) (Int.emod_lt_of_pos _ m0) (WD.Fr.mut rfl) ⟨_, _, _, upd_same⟩ (fun x hx => upd_ne hx)⟩
    · refine ⟨_, rfl, w, _, 2, .int c, rfl, rfl, SqL.of hW, rfl, _, _, rfl, rfl, _, rfl, w, _, 2, 2, rfl, rfl, hW, rfl, ?_⟩
      have hW2 : upd H w (.lst ([V.int a, V.int b, V.int c].set 2 (.int (c + 1)))) w = some (.lst [V.int a, V.int b, V.int (c + 1)]) := upd_same
      refine ⟨_, rfl, w, _, 1, .int b, rfl, rfl, SqL.of hW2, rfl, _, rfl, w, _, 2, .int (c + 1), rfl, rfl, SqL.of hW2, rfl, _, _, rfl, rfl, .inl ⟨by decide, by decide⟩, _, _, rfl, rfl, _, _, rfl, rfl, _, _, rfl, rfl, .inr ⟨by decide, by decide⟩, _, _, rfl, rfl, (show (0 : Int) < 2147483647 by decide), ?_⟩
      have l1 := Int.emod_lt_of_pos ((b + 104729 * (c + 1) + 1) * 48271) (show (0 : Int) < 2147483647 by decide)
      have l2 := Int.emod_nonneg ((b + 104729 * (c + 1) + 1) * 48271) (show (2147483647 : Int) ≠ 0 by decide)
      generalize (b + 104729 * (c + 1) + 1) * 48271 % 2147483647 = n1 at l1 l2
      refine ⟨_, rfl, _, rfl, _, _, rfl, rfl, ⟨by decide, by decide⟩, _, _, rfl, rfl, _, _, rfl, rfl, .inl ⟨by omega, by omega⟩, _, _, rfl, rfl, (show (0 : Int) < 2147483647 by decide), ?_⟩
      have l3 := Int.emod_lt_of_pos (n1 * (n1 / 1009 + 69621)) (show (0 : Int) < 2147483647 by decide)
      have l4 := Int.emod_nonneg (n1 * (n1 / 1009 + 69621)) (show (2147483647 : Int) ≠ 0 by decide)
      generalize n1 * (n1 / 1009 + 69621) % 2147483647 = n2 at l3 l4
      refine ⟨_, rfl, _, rfl, _, _, rfl, rfl, ⟨by decide, by decide⟩, _, _, rfl, rfl, _, _, rfl, rfl, .inl ⟨by omega, by omega⟩, _, _, rfl, rfl, (show (0 : Int) < 2147483399 by decide), _, rfl, _, _, rfl, rfl, m0, ?_⟩
      exact k _ _ (Int.emod_nonneg _ (by omega)) (Int.emod_lt_of_pos _ m0) (WD.Fr.mut rfl) ⟨_, _, _, upd_same⟩ (fun x hx => upd_ne hx)
end
def sp_is_whole (K : PySem.W.Frag) : Sp := fun vs H Q _ => ∃ v b, vs = [v] ∧ WD.Whole K H v b ∧ Q (.bl b) H
section
variable {P : Program} {w : World} {K : PySem.W.Frag} {mg : Str → Option Value} {base : Heap}
theorem ok_is_whole (T : Tx K mg) : WD.Cal P w K mg base (CX0) 1 "is_whole" (He.ga K "is_whole") (sp_is_whole K) [] := by
  obtain ⟨fd, F⟩ := T.F_is_whole
  refine ⟨WD.fn0_of F sc_is_whole (fun vs H Q E h => ?_) (fun _ _ _ _ _ _ us hl => match us, hl with | [_], _ => rfl) (fun cdv A outer s H vs Q E hr h => ?_), F.kp, T.g_is_whole⟩
  · obtain ⟨v, b, rfl, hw, k⟩ := h
    rfl
  · obtain ⟨v, b, rfl, hw, k⟩ := h
    refine ⟨_, (pss_one (ps_ret (pe_and (pe_callB (WD.k_call_isi K) (by rfl) T.z_isinstance WD.bt_isinstance (pa_cons (pv 0) (pa_cons (pe_bltn (v := .ty "int") (by rfl) T.z_int WD.bt_int rfl) pa_nil))) (pe_one (pe_not (pe_callB (WD.k_call_isi K) (by rfl) T.z_isinstance WD.bt_isinstance (pa_cons (pv 0) (pa_cons (pe_bltn (v := .ty "bool") (by rfl) T.z_bool WD.bt_bool rfl) pa_nil)))))))), ?_⟩
    cases hw with
    | int i =>
      refine ⟨_, rfl, _, _, _, _, true, rfl, .ty "int", .base (.int i), kit_ty (by decide +kernel), true, rfl, iteT ?_⟩
      exact ⟨_, rfl, _, _, _, _, false, rfl, .ty "bool", .base (.int i), kit_ty (by decide +kernel), false, rfl, k⟩
    | bl b =>
      refine ⟨_, rfl, _, _, _, _, true, rfl, .ty "int", .base (.bl b), kit_ty (by decide +kernel), true, rfl, iteT ?_⟩
      exact ⟨_, rfl, _, _, _, _, true, rfl, .ty "bool", .base (.bl b), kit_ty (by decide +kernel), true, rfl, k⟩
    | oth h e =>
      exact ⟨_, rfl, _, _, _, _, false, rfl, .ty "int", h, kit_ty e, false, rfl, iteF k⟩
end
def sp_is_thing (K : PySem.W.Frag) : Sp := fun vs H Q _ => ∃ v n b, vs = [v, .int n] ∧ WD.Thing K H n v b ∧ Q (.bl b) H
section
variable {P : Program} {w : World} {K : PySem.W.Frag} {mg : Str → Option Value} {base : Heap}
theorem ok_is_thing (T : Tx K mg) : WD.Cal P w K mg base (CX0) 2 "is_thing" (He.ga K "is_thing") (sp_is_thing K) [] := by
  obtain ⟨fd, F⟩ := T.F_is_thing
  refine ⟨WD.fn0_of F sc_is_thing (fun vs H Q E h => ?_) (fun _ _ _ _ _ _ us hl => match us, hl with | [_, _], _ => rfl) (fun cdv A outer s H vs Q E hr h => ?_), F.kp, T.g_is_thing⟩
  · obtain ⟨v, n, b, rfl, hw, k⟩ := h
    rfl
  · obtain ⟨v, n, b, rfl, hw, k⟩ := h
    refine ⟨_, (pss_one (ps_ret (pe_and (WD.pe_cal (ok_is_whole T) (hr.mono (by decide)) (by rfl) (pa_cons (pv 0) pa_nil)) (pe_one (pe_chain op_le op_lt pe_int (pv 0) (pv 1)))))), ?_⟩
    cases hw with
    | int i =>
      refine ⟨_, rfl, _, true, rfl, .int i, true, rfl, iteT ?_⟩
      refine ⟨_, rfl, _, _, rfl, rfl, _, rfl, WD.iteD (fun h => ?_) (fun h => ?_)⟩
      · refine ⟨_, rfl, _, _, rfl, rfl, ?_⟩
        have e : WD.inR n i = decide (i < n) := by unfold WD.inR; rw [decide_eq_true h]; rfl
        rw [e] at k
        exact k
      · have e : WD.inR n i = false := by unfold WD.inR; rw [decide_eq_false h]; rfl
        rw [e] at k
        exact k
    | bl b => exact ⟨_, rfl, _, false, rfl, .bl b, false, rfl, iteF k⟩
    | oth h e => exact ⟨_, rfl, _, false, rfl, .oth h e, false, rfl, iteF k⟩
end
def sp_is_name (K : PySem.W.Frag) : Sp := fun vs H Q _ => ∃ z, vs = [.str z] ∧ z.length ≤ 1000 ∧ ∀ H', WD.Fr WD.M0 H H' → Q (.bl (WD.nameOk z)) H'
section
variable {P : Program} {w : World} {K : PySem.W.Frag} {mg : Str → Option Value} {base : Heap}
theorem ok_is_name (T : Tx K mg) : WD.Cal P w K mg base (CX0) 1 "is_name" (He.ga K "is_name") (sp_is_name K) [] := by
  obtain ⟨fd, F⟩ := T.F_is_name
  refine ⟨WD.fn0_of F sc_is_name (fun vs H Q E h => ?_) (fun _ _ _ _ _ _ us hl => match us, hl with | [_], _ => rfl) (fun cdv A outer s H vs Q E hr h => ?_), F.kp, T.g_is_name⟩
  · obtain ⟨z, rfl, hz, k⟩ := h
    rfl
  · obtain ⟨z, rfl, hz, k⟩ := h
    refine ⟨_, (pss_one (ps_ret (pe_and (pe_callB (WD.k_call_isi K) (by rfl) T.z_isinstance WD.bt_isinstance (pa_cons (pv 0) (pa_cons (pe_bltn (v := .ty "str") (by rfl) T.z_str WD.bt_str rfl) pa_nil))) (pe_and (pe_chain op_le op_le pe_int (pe_callB call_len_str (by rfl) T.z_len PySem.boot_len (pa_cons (pv 0) pa_nil)) pe_int) (pe_one (pe_callB (WD.k_cr_all K rfl) (by rfl) T.z_all WD.bt_all (pa_cons (pe_lc (own := [("sign", 1)]) rfl sc_is_name.nd (pi_str (pv 0)) (blkOk_by (N := ["word", "sign"]) (sc := defScope s_is_name) (by decide +kernel)) (fun _ _ _ _ _ => (pg_name (i := 1) sc_is_name.nd rfl (.inl rfl))) (fun _ _ _ _ _ => pts_nil) (fun _ _ _ _ _ => (pe_cmpR op_inS (pv 1) (WD.pe_gs (by rfl) T.c_SMALL) (by rfl)))) pa_nil))))))), ?_⟩
    have hzl : z.length ≤ sizeLine := by have := sizeLine_eq; omega
    refine ⟨_, rfl, _, _, _, _, true, rfl, .ty "str", .base (.str z), kit_ty (by decide +kernel), true, rfl, iteT ?_⟩
    refine ⟨_, rfl, z, rfl, hzl, _, _, rfl, rfl, _, rfl, WD.iteD (fun h2 => ?_) (fun h2 => ?_)⟩
    · refine ⟨_, _, rfl, rfl, _, rfl, WD.iteD (fun h8 => ?_) (fun h8 => ?_)⟩
      · refine ⟨_, rfl, z, rfl, ?_⟩
        refine WD.lc_map (R := WD.rB) (M := WD.M0) (walk_str (z := z)) (fun i => decide (z.cps.toList.getD i 0 ∈ WD.SMALL.cps.toList)) WD.MIn.zero (by have : z.cps.size = z.length := rfl; omega) (fun _ _ => trivial) (fun i M' H' hi t fr mi Ky ky x H'' hy => ?_) (fun D H' hD fr hl => ?_)
        · obtain ⟨rfl, c, hc, rfl⟩ := hy
          refine ⟨rfl, _, rfl, c, _, rfl, rfl, ?_⟩
          refine ky _ _ (WD.Fr.refl _) ?_
          have e : z.cps.toList.getD i 0 = c := by
            rw [List.getD_eq_getElem?_getD, Array.getElem?_toList, hc]; rfl
          rw [e]
          rfl
        · obtain ⟨a, vs, e1, _, e2, e3⟩ := hl
          cases e1
          have e4 := e3.eq_map (f := V.bl) fun _ _ q => q
          rw [e4] at e2
          refine ⟨D, _, rfl, SqL.of e2, ?_⟩
          have e5 : ((List.range z.cps.size).map fun i => decide (z.cps.toList.getD i 0 ∈ WD.SMALL.cps.toList)).all id = WD.nameOk z := by
            rw [WD.mapRange (fun c => decide (c ∈ WD.SMALL.cps.toList)) 0 z.cps.toList (by simp), List.all_map]
            unfold WD.nameOk
            rw [decide_eq_true (show 2 ≤ z.length by omega), decide_eq_true (show z.length ≤ 8 by omega)]
            rfl
          rw [e5]
          exact k _ fr
      · have e : WD.nameOk z = false := by unfold WD.nameOk; rw [decide_eq_false (show ¬ z.length ≤ 8 by omega)]; simp
        rw [← e]; exact k _ (WD.Fr.refl _)
    · have e : WD.nameOk z = false := by unfold WD.nameOk; rw [decide_eq_false (show ¬ 2 ≤ z.length by omega)]; simp
      exact ⟨false, rfl, iteF (by rw [← e]; exact k _ (WD.Fr.refl _))⟩
end
def sp_is_row (K : PySem.W.Frag) : Sp := fun vs H Q _ => ∃ a ns m n, vs = [.ref a, .int m, .int n] ∧ H a = some (.tup (ns.map V.int)) ∧ ns.length ≤ 1000000 ∧ ∀ H', WD.Fr WD.M0 H H' → Q (.bl (WD.rowOk ns m n)) H'
section
variable {P : Program} {w : World} {K : PySem.W.Frag} {mg : Str → Option Value} {base : Heap}
theorem ok_is_row (T : Tx K mg) : WD.Cal P w K mg base (CX0) 3 "is_row" (He.ga K "is_row") (sp_is_row K) [] := by
  obtain ⟨fd, F⟩ := T.F_is_row
  refine ⟨WD.fn0_of F sc_is_row (fun vs H Q E h => ?_) (fun _ _ _ _ _ _ us hl => match us, hl with | [_, _, _], _ => rfl) (fun cdv A outer s H vs Q E hr h => ?_), F.kp, T.g_is_row⟩
  · obtain ⟨a, ns, m, n, rfl, ha, hz, k⟩ := h
    rfl
  · obtain ⟨a, ns, m, n, rfl, ha, hz, k⟩ := h
    refine ⟨_, (pss_one (ps_ret (pe_and (pe_callB (WD.k_call_isi K) (by rfl) T.z_isinstance WD.bt_isinstance (pa_cons (pv 0) (pa_cons (pe_bltn (v := .ty "tuple") (by rfl) T.z_tuple WD.bt_tuple rfl) pa_nil))) (pe_and (pe_cmpR op_eq (pe_callB (WD.k_call_len_seq K) (by rfl) T.z_len PySem.boot_len (pa_cons (pv 0) pa_nil)) (pv 1) (nomark _)) (pe_one (pe_callB (WD.k_cr_all K rfl) (by rfl) T.z_all WD.bt_all (pa_cons (pe_lc (own := [("one", 3)]) rfl sc_is_row.nd (WD.k_pi_tup K (pv 0)) (blkOk_by (N := ["row", "wide", "size", "one"]) (sc := defScope s_is_row) (by decide +kernel)) (fun _ _ _ _ _ => (pg_name (i := 3) sc_is_row.nd rfl (.inl rfl))) (fun _ _ _ _ _ => pts_nil) (fun _ _ _ _ _ => (WD.pe_cal (ok_is_thing T) (hr.mono (by decide)) (by rfl) (pa_cons (pv 3) (pa_cons (pv 2) pa_nil))))) pa_nil))))))), ?_⟩
    refine ⟨_, rfl, _, _, _, _, true, rfl, .ty "tuple", .base (.tup ha), kit_ty (by decide +kernel), true, rfl, iteT ?_⟩
    refine ⟨_, rfl, a, _, rfl, .inr (SqT.of ha), _, rfl, rfl, _, rfl, ?_⟩
    refine WD.iteD (fun he => ?_) (fun he => ?_)
    · have he2 : (ns.length : Int) = m := by
        have := V.int.inj he
        simpa using this
      refine ⟨_, rfl, a, rfl, ⟨_, SqT.of ha⟩, ?_⟩
      refine WD.lc_map (R := WD.rB) (M := WD.M0) (walk_tup (xs := ns.map V.int)) (fun i => WD.inR n (ns.getD i 0)) WD.MIn.zero (by simpa using hz) (fun _ f => SqT.of (f.keep _ _ (fun z => z) ha)) (fun i M' H' hi t fr mi Ky ky x H'' hy => ?_) (fun D H' hD fr hl => ?_)
      · obtain ⟨rfl, hx⟩ := hy
        rw [List.getElem?_map] at hx
        obtain ⟨y, e1, rfl⟩ := Option.map_eq_some_iff.mp hx
        refine ⟨rfl, _, rfl, _, rfl, _, _, _, rfl, .int y, ?_⟩
        refine ky _ _ (WD.Fr.refl _) ?_
        have e : ns.getD i 0 = y := by rw [List.getD_eq_getElem?_getD, e1]; rfl
        rw [e]
        rfl
      · obtain ⟨b, vs, e1, _, e2, e3⟩ := hl
        cases e1
        have e4 := e3.eq_map (f := V.bl) fun _ _ q => q
        rw [e4] at e2
        refine ⟨D, _, rfl, SqL.of e2, ?_⟩
        have e5 : ((List.range (ns.map V.int).length).map fun i => WD.inR n (ns.getD i 0)).all id = WD.rowOk ns m n := by
          rw [WD.mapRange (WD.inR n) 0 ns (by simp), List.all_map]
          unfold WD.rowOk
          rw [decide_eq_true he2]
          rfl
        rw [e5]
        exact k _ fr
    · have e : WD.rowOk ns m n = false := by
        unfold WD.rowOk
        rw [decide_eq_false (fun z => he (by rw [List.length_map, z]))]
        rfl
      rw [← e]
      exact k _ (WD.Fr.refl _)
end
def sp_cells (_ : PySem.W.Frag) : Sp := fun vs H Q _ => ∃ s p : Int, vs = [.int s, .int p] ∧ 0 ≤ s ∧ s < 2 ^ 64 ∧ 0 ≤ p ∧ p < 2 ^ 62 ∧ Q (.int (s ^ p.toNat)) H
section
variable {P : Program} {w : World} {K : PySem.W.Frag} {mg : Str → Option Value} {base : Heap}
theorem ok_cells (T : Tx K mg) : WD.Cal P w K mg base (CX0) 1 "cells" (He.ga K "cells") (sp_cells K) [] := by
  obtain ⟨fd, F⟩ := T.F_cells
  refine ⟨WD.fn0_of F sc_cells (fun vs H Q E h => ?_) (fun _ _ _ _ _ _ us hl => match us, hl with | [_, _], _ => rfl) (fun cdv A outer s H vs Q E hr h => ?_), F.kp, T.g_cells⟩
  · obtain ⟨s1, p1, rfl, hs0, hs1, hp0, hp1, k⟩ := h
    rfl
  · obtain ⟨s1, p1, rfl, hs0, hs1, hp0, hp1, k⟩ := h
    refine ⟨_, (pss_cons (ps_set (i := 2) sc_cells.nd rfl (.inl rfl) pe_int)
      (pss_cons (ps_for PassesOwn.never rfl (pi_range1 (by rfl) T.z_range (pa_cons (pv 1) pa_nil)) (pg_name (i := 3) sc_cells.nd rfl (.inl rfl))
        (pss_one (ps_set (i := 2) sc_cells.nd rfl (.inl rfl) (pe_op op_mul (pv 2) (pv 0)))))
      (pss_one (ps_ret (pv 2))))), ?_⟩
    refine ⟨_, rfl, p1, rfl, by omega, by omega, ?_⟩
    refine for_it walk_range (fun i σ H' => H' = H ∧ ∃ x, σ = [some (.int s1), some (.int p1), some (.int (s1 ^ i)), x]) ⟨rfl, none, by rw [Int.pow_zero]; rfl⟩ (fun _ _ _ _ _ => trivial) (fun i x σ H1 H2 hi p hy => ?_) (fun σ H1 p => ?_)
    · obtain ⟨rfl, x0, rfl⟩ := p
      obtain ⟨rfl, rfl⟩ := hy
      refine ⟨_, rfl, _, rfl, _, _, rfl, rfl, .inr ⟨by omega, by omega⟩, rfl, some (.int (0 + (i : Nat))), ?_⟩
      rw [Int.pow_succ]
      rfl
    · obtain ⟨rfl, x0, rfl⟩ := p
      exact ⟨_, rfl, k⟩
end
def sp_is_deed (K : PySem.W.Frag) : Sp := fun vs H Q _ => ∃ (M : WD.MS) (v : V) (d : WD.Deed) (n : Int), vs = [v, .int n] ∧ WD.rD M H v d ∧ 0 ≤ n ∧ n < 1000 ∧ d.1.length ≤ 1000 ∧ d.2.2.length ≤ 1000000 ∧ ∀ H', WD.Fr WD.M0 H H' → Q (.bl (WD.deedOk d n)) H'
section
variable {P : Program} {w : World} {K : PySem.W.Frag} {mg : Str → Option Value} {base : Heap}
theorem ok_is_deed (T : Tx K mg) : WD.Cal P w K mg base (CX0) 4 "is_deed" (He.ga K "is_deed") (sp_is_deed K) [] := by
  obtain ⟨fd, F⟩ := T.F_is_deed
  refine ⟨WD.fn0_of F sc_is_deed (fun vs H Q E h => ?_) (fun _ _ _ _ _ _ us hl => match us, hl with | [_, _], _ => rfl) (fun cdv A outer s H vs Q E hr h => ?_), F.kp, T.g_is_deed⟩
  · obtain ⟨M, v, d, n, rfl, hd, n0, n1, z1, z2, k⟩ := h
    rfl
  · obtain ⟨M, v, d, n, rfl, hd, n0, n1, z1, z2, k⟩ := h
    refine ⟨_, (pss_cons (ps_if (PW.pt (pw_or (pt_not (pt_val (pe_callB (WD.k_call_isi K) (by rfl) T.z_isinstance WD.bt_isinstance (pa_cons (pv 0) (pa_cons (pe_bltn (v := .ty "tuple") (by rfl) T.z_tuple WD.bt_tuple rfl) pa_nil))))) (pw_or (pt_cmpR op_ne (pe_callB (WD.k_call_len_seq K) (by rfl) T.z_len PySem.boot_len (pa_cons (pv 0) pa_nil)) pe_int (nomark _)) (pw_or1 (pt_not (pt_val (WD.pe_cal (ok_is_name T) (hr.mono (by decide)) (by rfl) (pa_cons (pe_ix (WD.k_ix_tup K) (pv 0) pe_int (fun _ _ => rfl)) pa_nil))))))))
        (pss_one (ps_ret pe_bl))
        pss_nil)
      (pss_cons (ps_asg (pv 0) (WD.k_pg_tup K (n := 3) rfl (pgs_cons (pg_name (i := 2) sc_is_deed.nd rfl (.inl rfl)) (pgs_cons (pg_name (i := 3) sc_is_deed.nd rfl (.inl rfl)) (pgs_cons (pg_name (i := 4) sc_is_deed.nd rfl (.inl rfl)) pgs_nil)))))
      (pss_cons (ps_if (PW.pt (pw_or (pt_not (pt_val (WD.pe_cal (ok_is_whole T) (hr.mono (by decide)) (by rfl) (pa_cons (pv 3) pa_nil)))) (pw_or1 (pt_not (pt_chain op_le op_le pe_int (pv 3) (WD.pe_gi (by rfl) T.c_MOST_PLACES))))))
        (pss_one (ps_ret pe_bl))
        pss_nil)
      (pss_one (ps_ret (WD.pe_cal (ok_is_row T) (hr.mono (by decide)) (by rfl) (pa_cons (pv 4) (pa_cons (WD.pe_cal (ok_cells T) (hr.mono (by decide)) (by rfl) (pa_cons (pv 1) (pa_cons (pv 3) pa_nil))) (pa_cons (pv 1) pa_nil))))))))), ?_⟩
    obtain ⟨a, v1, v2, v3, rfl, _, ha, ⟨rfl, hs⟩, rfl, ht⟩ := hd
    obtain ⟨c, rfl, _, hc⟩ := WD.tupI ht
    obtain ⟨z, p, ns⟩ := d
    dsimp only at ha hs ht hc z1 z2 k ⊢
    refine ⟨_, rfl, _, _, _, _, true, rfl, .ty "tuple", .base (.tup ha), kit_ty (by decide +kernel), true, rfl, iteF ?_⟩
    refine ⟨_, rfl, a, _, rfl, .inr (SqT.of ha), rfl, _, rfl, WD.iteN (fun h => absurd rfl h) (fun _ => ?_)⟩
    refine ⟨_, rfl, a, _, 0, .str z, rfl, rfl, SqT.of ha, rfl, z, rfl, z1, fun H1 f1 => ⟨_, rfl, ?_⟩⟩
    have ha1 := f1.keep _ _ (fun q => q) ha
    have hc1 := f1.keep _ _ (fun q => q) hc
    cases hn : WD.nameOk z with
    | false =>
      have e : WD.deedOk (z, p, ns) n = false := by unfold WD.deedOk; rw [hn]; rfl
      refine iteT ?_
      show Q (.bl false) H1
      rw [← e]
      exact k _ f1
    | true =>
      refine iteF ?_
      refine ⟨_, rfl, a, _, rfl, SqT.of ha1, rfl, _, _, rfl, _, _, rfl, _, _, rfl, rfl, ?_⟩
      refine ⟨_, rfl, _, true, rfl, .int p, _, rfl, iteF ?_⟩
      refine ⟨_, rfl, _, _, rfl, rfl, _, rfl, ?_⟩
      refine WD.iteD (fun h0 => ?_) (fun h0 => ?_)
      · refine ⟨_, _, rfl, rfl, _, rfl, ?_⟩
        refine WD.iteN (fun h3 => ?_) (fun h3 => ?_)
        · have e : WD.deedOk (z, p, ns) n = false := by unfold WD.deedOk; rw [decide_eq_false h3]; simp
          show Q (.bl false) H1
          rw [← e]
          exact k _ f1
        · refine ⟨_, rfl, _, rfl, _, rfl, n, p, rfl, n0, by omega, h0, by omega, _, rfl, c, ns, _, n, rfl, hc1, z2, fun H2 f2 => ?_⟩
          have e : WD.deedOk (z, p, ns) n = WD.rowOk ns (n ^ p.toNat) n := by unfold WD.deedOk; rw [hn, decide_eq_true h0, decide_eq_true h3]; rfl
          rw [← e]
          exact k _ (f1.trans f2)
      · refine ⟨false, rfl, ?_⟩
        have e : WD.deedOk (z, p, ns) n = false := by unfold WD.deedOk; rw [decide_eq_false h0]; simp
        refine iteT ?_
        show Q (.bl false) H1
        rw [← e]
        exact k _ f1
end
abbrev sp_House_init (K : PySem.W.Frag) : Sp := WD.spHouse (He.ga K "House")
section
variable {P : Program} {w : World} {K : PySem.W.Frag} {mg : Str → Option Value} {base : Heap}
theorem mk_House (T : Tx K mg) : WD.Mak P w K mg base (CX0) 5 "House" (He.ga K "House") (He.ma K (He.ga K "House") "__init__") (sp_House_init K) [] := by
  obtain ⟨fd, F⟩ := T.F_House_init
  refine ⟨WD.fn0_of F sc_House_init (fun vs H Q E h => ?_) (fun _ _ _ _ _ _ us hl => match us, hl with | [_, _, _], _ => rfl) (fun cdv A outer s H vs Q E hr h => ?_), T.mk_House, T.g_House⟩
  · obtain ⟨M, x, dx, l, n, ds, dvs, rfl, hx, hdx, hl, hds, hk, hM, nMx, k⟩ := h
    rfl
  · obtain ⟨M, x, dx, l, n, ds, dvs, rfl, hx, hdx, hl, hds, hk, hM, nMx, k⟩ := h
    refine ⟨_, (pss_cons (ps_if (PW.pt (pw_or (pt_not (pt_val (WD.pe_cal (ok_is_whole T) (hr.mono (by decide)) (by rfl) (pa_cons (pv 1) pa_nil)))) (pw_or1 (pt_not (pt_chain op_le op_le pe_int (pv 1) (WD.pe_gi (by rfl) T.c_MOST_THINGS))))))
        (pss_one ps_never)
        pss_nil)
      (pss_cons (ps_if (PW.pt (pw_or (pt_not (pt_val (pe_callB (WD.k_call_isi K) (by rfl) T.z_isinstance WD.bt_isinstance (pa_cons (pv 2) (pa_cons (pe_bltn (v := .ty "list") (by rfl) T.z_list WD.bt_list rfl) pa_nil))))) (pw_or1 (pt_cmpR op_gt (pe_callB (WD.k_call_len_seq K) (by rfl) T.z_len PySem.boot_len (pa_cons (pv 2) pa_nil)) (WD.pe_gi (by rfl) T.c_MOST_DEEDS) (nomark _)))))
        (pss_one ps_never)
        pss_nil)
      (pss_cons (ps_set (i := 3) sc_House_init.nd rfl (.inl rfl) pe_dnewK)
      (pss_cons (ps_for PassesOwn.never rfl (WD.k_pi_enum K (by rfl) T.z_enumerate (pa_cons (pv 2) pa_nil)) (WD.k_pg_tup K (n := 2) rfl (pgs_cons (pg_name (i := 4) sc_House_init.nd rfl (.inl rfl)) (pgs_cons (pg_name (i := 5) sc_House_init.nd rfl (.inl rfl)) pgs_nil)))
        (pss_cons (ps_if (PW.pt (pw_or (pt_not (pt_val (WD.pe_cal (ok_is_deed T) (hr.mono (by decide)) (by rfl) (pa_cons (pv 5) (pa_cons (pv 1) pa_nil))))) (pw_or1 (pt_cmp (pc_din (WD.huD hr) (pe_ix (WD.k_ix_tup K) (pv 5) pe_int (fun _ _ => rfl)) (pv 3))))))
        (pss_one ps_never)
        pss_nil)
      (pss_one (ps_dput (WD.huD hr) (pv 3) (pe_ix (WD.k_ix_tup K) (pv 5) pe_int (fun _ _ => rfl)) (pv 5) rfl))))
      (pss_cons (WD.k_ps_fld K (pv 0) (pv 1))
      (pss_one (WD.k_ps_fld K (pv 0) (pv 3)))))))), ?_⟩
    have lo := hk.lo
    have hi := hk.hi
    have few := hk.few
    have len := hds.len
    dsimp only at lo hi few
    refine ⟨_, rfl, _, true, rfl, .int n, _, rfl, iteF ?_⟩
    refine ⟨_, rfl, _, _, rfl, rfl, _, rfl, WD.iteD (fun h1 => ?_) (fun h1 => absurd lo h1)⟩
    refine ⟨_, _, rfl, rfl, _, rfl, WD.iteN (fun h9 => absurd hi h9) (fun h9 => ?_)⟩
    refine ⟨_, rfl, _, _, _, _, true, rfl, .ty "list", .base (.lst hl), kit_ty (by decide +kernel), true, rfl, iteF ?_⟩
    refine ⟨_, rfl, l, _, rfl, .inl (SqL.of hl), _, _, rfl, rfl, _, rfl, WD.iteD (fun h6 => absurd h6 (by omega)) (fun _ => ?_)⟩
    intro fd0 nfd
    have f0 : WD.Fr WD.M0 H (upd H fd0 (.dK [])) := WD.Fr.new nfd
    have hl0 := f0.keep _ _ (fun q => q) hl
    have tr : WD.Tr M H (WD.plus M fd0) (upd H fd0 (.dK [])) := fun {_ _ _ _ _} q => WD.Rep.st (WD.Fr.new nfd) (WD.Rep.ad nfd q)
    refine ⟨_, rfl, l, _, rfl, SqL.of hl0, ?_⟩
    have nl : l ≠ fd0 := ne_of_none hl nfd
    have nx : x ≠ fd0 := ne_of_none hx nfd
    refine for_it (walk_enum (xs := dvs)) (fun i σ H' => ∃ y z, σ = [some (.ref x), some (.int n), some (.ref l), some (.ref fd0), y, z] ∧ WD.Fr (WD.only fd0) (upd H fd0 (.dK [])) H' ∧ H' fd0 = some (.dK (WD.kvsOf (ds.take i) (dvs.take i))))
      ⟨none, none, rfl, WD.Fr.refl _, by rw [upd_same]; rfl⟩ (fun i σ H' _ ⟨y, z, _, f, _⟩ => SqL.of (f.keep _ _ nl hl0)) (fun i v σ H1 H2 hi2 p hy => ?_) (fun σ H1 p => ?_)
    · obtain ⟨y, z, rfl, f, hf⟩ := p
      obtain ⟨t, v1, v2, rfl, nt, rfl, e1, e2⟩ := hy
      cases e1
      have ft : WD.Fr WD.M0 H1 (upd H1 t (.tup [.int (i : Nat), v2])) := WD.Fr.new nt
      refine ⟨t, _, rfl, SqT.of upd_same, rfl, _, _, rfl, _, _, rfl, rfl, ?_⟩
      obtain ⟨d, ed, rd0⟩ := hds.get e2
      have hmem : d ∈ ds := List.mem_of_getElem? ed
      obtain ⟨b1, b2, b3, b4⟩ := hk.deed hmem
      have rd1 : WD.rD (WD.plus M fd0) (upd H1 t (.tup [.int (i : Nat), v2])) v2 d := WD.Rep.st ((f.trans (ft.mono fun _ q => q.elim)).mono fun _ q => .inr q) (tr rd0)
      refine ⟨_, rfl, _, rfl, _, v2, d, n, rfl, rd1, by omega, by omega, by omega, by omega, fun H3 f3 => ⟨_, rfl, ?_⟩⟩
      rw [hk.ok d hmem]
      refine iteF ?_
      have rd3 : WD.rD (WD.plus M fd0) H3 v2 d := WD.Rep.st (f3.mono fun _ q => q.elim) rd1
      obtain ⟨a, u1, u2, u3, rfl, na, ha, ⟨rfl, hs⟩, rfl, ht⟩ := rd3
      have hf3 : H3 fd0 = some (.dK (WD.kvsOf (ds.take i) (dvs.take i))) := f3.keep _ _ (fun q => q) (ft.keep _ _ (fun q => q) hf)
      have hno : d.1 ∉ (ds.take i).map (·.1) := fun hm => by
        obtain ⟨d2, m2, e2⟩ := List.mem_map.mp hm
        obtain ⟨j, hj, e3⟩ := List.mem_iff_getElem.mp m2
        have hj2 : j < i := by
          have := List.length_take_le i ds
          omega
        have hj3 : (ds.map (·.1))[j]? = some d.1 := by
          rw [List.getElem?_map]
          have : ds[j]? = some d2 := by
            rw [← e3, List.getElem_take]
            exact List.getElem?_eq_getElem _
          rw [this, ← e2]; rfl
        have hi3 : (ds.map (·.1))[i]? = some d.1 := by rw [List.getElem?_map, ed]; rfl
        have := nd_ix hk.nd hj3 hi3
        omega
      have hv : valV (WD.kvsOf (ds.take i) (dvs.take i)) (Sum.inr d.1) = none := WD.kvs_none hno
      refine ⟨_, rfl, a, _, 0, .str d.1, rfl, rfl, SqT.of ha, rfl, _, rfl, fd0, _, rfl, DGet.k (k := Sum.inr d.1) hf3, _, rfl, ?_⟩
      rw [hv]
      refine iteF ?_
      have hlt : (dvs.take i).length = (ds.take i).length := by rw [List.length_take, List.length_take, len]
      refine ⟨_, rfl, _, rfl, _, rfl, a, _, 0, .str d.1, rfl, rfl, SqT.of ha, rfl, fd0, _, rfl, DPut.k (k := Sum.inr d.1) hf3 (small1000 (by rw [WD.kvs_len hlt, List.length_take]; omega)), ?_⟩
      refine ⟨_, _, rfl, ?_, ?_⟩
      · exact (f.trans ((ft.trans f3).mono fun _ q => q.elim)).trans (WD.Fr.mut rfl)
      · rw [upd_same, WD.put_none hv, ← WD.kvs_snoc hlt]
        have e5 : ds.take (i + 1) = ds.take i ++ [d] := by rw [List.take_add_one, ed]; rfl
        have e6 : dvs.take (i + 1) = dvs.take i ++ [.ref a] := by rw [List.take_add_one, show dvs[i]? = some (.ref a) from e2]; rfl
        rw [e5, e6]
    · obtain ⟨y, z, rfl, f, hf⟩ := p
      rw [List.take_of_length_le (by omega), List.take_of_length_le (Nat.le_refl _)] at hf
      have hx1 : H1 x = some (.ins (He.ga K "House") dx []) := f.keep _ _ nx (f0.keep _ _ (fun q => q) hx)
      refine ⟨_, rfl, _, rfl, x, _, dx, _, rfl, hx1, T.cl_House, T.na_House_size, (by show 0 < 1000; decide), ?_⟩
      refine ⟨_, rfl, _, rfl, x, _, dx, _, rfl, upd_same, T.cl_House, T.na_House_by_name, (by show 1 < 1000; decide), ?_⟩
      rw [upd_upd]
      refine k _ fd0 ⟨fun b o nb e => ?_, fun b e => ?_⟩ nfd upd_same (by rw [upd_ne nx.symm]; exact hf)
      · rw [upd_ne nb]
        exact f.keep _ _ (ne_of_none e nfd) (f0.keep _ _ (fun q => q) e)
      · exact f0.dom b (f.dom b (WD.upd_none e).2)
end
def sp_House_deeds (K : PySem.W.Frag) : Sp := fun vs H Q _ => ∃ (M : WD.MS) (v : V) (h : WD.Hs), vs = [v] ∧ WD.rH (He.ga K "House") M H v h ∧ WD.MIn M H ∧ ∀ (a : Addr) (H' : Hp), H a = none → WD.Fr WD.M0 H H' → WD.rL WD.rD M H' (.ref a) h.2 → Q (.ref a) H'
section
variable {P : Program} {w : World} {K : PySem.W.Frag} {mg : Str → Option Value} {base : Heap}
theorem mt_House_deeds (T : Tx K mg) : WD.Met P w K mg base (CX0) 1 (He.ga K "House") "deeds" (He.ma K (He.ga K "House") "deeds") (sp_House_deeds K) [] := by
  obtain ⟨fd, F⟩ := T.F_House_deeds
  refine ⟨WD.fn0_of F sc_House_deeds (fun vs H Q E h => ?_) (fun _ _ _ _ _ _ us hl => match us, hl with | [_], _ => rfl) (fun cdv A outer s H vs Q E hr h => ?_), T.cl_House, T.mt_House_deeds⟩
  · obtain ⟨M, v, h, rfl, hh, hM, k⟩ := h
    rfl
  · obtain ⟨M, v, h, rfl, hh, hM, k⟩ := h
    refine ⟨_, (pss_one (ps_ret (WD.pe_listVals rfl (by rfl) T.z_list (WD.k_pe_fld K (pv 0))))), ?_⟩
    obtain ⟨a, dx, d, dvs, rfl, n1, n2, n3, h1, h2, h3, g⟩ := hh
    refine ⟨_, rfl, a, _, dx, _, .ref d, rfl, h1, T.cl_House, T.na_House_by_name, rfl, d, _, rfl, h3, fun q nq => ?_⟩
    refine k q _ nq (WD.Fr.new nq) ⟨q, dvs, rfl, hM.no nq, ?_, g.imp fun _ _ z => WD.Rep.st (WD.Fr.new nq) z⟩
    rw [upd_same, WD.kvs_vals g.len]
end
def sp_fits (K : PySem.W.Frag) : Sp := fun vs H Q _ => ∃ (M : WD.MS) (v w : V) (h g : WD.Hs), vs = [v, w] ∧ WD.rH (He.ga K "House") M H v h ∧ WD.rH (He.ga K "House") M H w g ∧ WD.MIn M H ∧ h.2.length ≤ 1000 ∧ g.2.length ≤ 1000 ∧
  ∀ H', WD.Fr WD.M0 H H' → Q (.bl (decide (h.2.map WD.hdOf = g.2.map WD.hdOf))) H'
section
variable {P : Program} {w : World} {K : PySem.W.Frag} {mg : Str → Option Value} {base : Heap}
theorem ok_fits (T : Tx K mg) : WD.Cal P w K mg base (CX0) 2 "fits" (He.ga K "fits") (sp_fits K) [] := by
  obtain ⟨fd, F⟩ := T.F_fits
  refine ⟨WD.fn0_of F sc_fits (fun vs H Q E h => ?_) (fun _ _ _ _ _ _ us hl => match us, hl with | [_, _], _ => rfl) (fun cdv A outer s H vs Q E hr h => ?_), F.kp, T.g_fits⟩
  · obtain ⟨M, v, u, h, g, rfl, hh, hg, hM, l1, l2, k⟩ := h
    rfl
  · obtain ⟨M, v, u, h, g, rfl, hh, hg, hM, l1, l2, k⟩ := h
    refine ⟨_, (pss_one (ps_ret (pe_cmpR (WD.k_op_eqD K hr.units) (pe_lc (own := [("deed", 2)]) rfl sc_fits.nd (WD.k_pi_list K (WD.pe_met0 (mt_House_deeds T) (hr.mono (by decide)) (pv 0))) (blkOk_by (N := ["one", "other", "deed"]) (sc := defScope s_fits) (by decide +kernel)) (fun _ _ _ _ _ => (pg_name (i := 2) sc_fits.nd rfl (.inl rfl))) (fun _ _ _ _ _ => pts_nil) (fun _ _ _ _ _ => (pe_slice (WD.k_sl_tupA K) (pv 2) po_none (po_some pe_int)))) (pe_lc (own := [("deed", 2)]) rfl sc_fits.nd (WD.k_pi_list K (WD.pe_met0 (mt_House_deeds T) (hr.mono (by decide)) (pv 1))) (blkOk_by (N := ["one", "other", "deed"]) (sc := defScope s_fits) (by decide +kernel)) (fun _ _ _ _ _ => (pg_name (i := 2) sc_fits.nd rfl (.inl rfl))) (fun _ _ _ _ _ => pts_nil) (fun _ _ _ _ _ => (pe_slice (WD.k_sl_tupA K) (pv 2) po_none (po_some pe_int)))) (nomark _)))), ?_⟩
    have half : ∀ {h : WD.Hs} {H : Hp} {v : V} {M : WD.MS} (Qk : VK) (l1 : h.2.length ≤ 1000) (hh : WD.rH (He.ga K "House") M H v h) (hM : WD.MIn M H), (∀ a H', WD.Fr WD.M0 H H' → WD.rL (WD.rP WD.rS WD.rI) M H' (.ref a) (h.2.map WD.hdOf) → Qk (.ref a) H') →
        ∀ (j : Nat) (σ : L2.St), σ[j]? = some (some v) → j ≠ 2 → σ.length = 3 → tLc (iList K (tMeth (He.ga K "House") "deeds" (sp_House_deeds K) [] E0 (tVar j) tNil)) (gName 2) tYes (tSl (rSlA K) (tVar 2) tNoPart (tPart (tC (.int 2)))) [2] σ H Qk := by
      intro h H v M Qk l1 hh hM k j σ hj nj hl
      obtain ⟨a, dx, d, dvs, rfl, n1, n2, n3, h1, h2, h3, g⟩ := id hh
      refine ⟨_, hj, a, dx, _, rfl, h1, rfl, M, _, h, rfl, hh, hM, fun b H1 nb f1 hb => ?_⟩
      obtain ⟨b', bvs, e1, nb2, hb2, al⟩ := hb
      cases e1
      refine ⟨b, rfl, ⟨_, SqL.of hb2⟩, ?_⟩
      have e8 : (WD.hdOf <$> h.2) = h.2.map WD.hdOf := rfl
      have hw : ∀ x, wipe ((wipe σ [2]).set 2 x) [2] = wipe σ [2] := fun x => by
        show ((σ.set 2 none).set 2 x).set 2 none = σ.set 2 none
        rw [List.set_set, List.set_set]
      refine WD.lc_map (R := WD.rP WD.rS WD.rI) (walk_list (xs := bvs)) (fun i => WD.hdOf (h.2.getD i default)) (hM.to f1) (by rw [al.len]; omega) (fun H' f => SqL.of (f.keep _ _ (fun q => q) hb2)) (fun i M' H' hi t fr mi Ky ky x H'' hy => ?_) (fun D H' hD fr hl => ?_)
      · obtain ⟨rfl, hx⟩ := hy
        obtain ⟨dd, ed, rd0⟩ := al.get hx
        obtain ⟨c, v1, v2, v3, rfl, nc, hc, q1, q2, q3⟩ := t rd0
        refine ⟨hw _, _, ?_, 2, rfl, c, _, rfl, SqT.of hc, fun z => absurd z.2 (by show ¬ HT.sIx 3 3 (some 2) = 3; decide), fun _ p np => ?_⟩
        · show ((σ.set 2 none).set 2 (some (.ref c)))[2]? = some (some (.ref c))
          rw [List.getElem?_set_self (by rw [List.length_set]; omega)]
        · refine ky _ _ (WD.Fr.new np) ⟨p, v1, v2, rfl, mi.no np, ?_, ?_, ?_⟩
          · rw [upd_same]; rfl
          · have e : h.2.getD i default = dd := by rw [List.getD_eq_getElem?_getD, ed]; rfl
            rw [e]
            exact WD.Rep.st (WD.Fr.new np) q1
          · have e : h.2.getD i default = dd := by rw [List.getD_eq_getElem?_getD, ed]; rfl
            rw [e]
            exact WD.Rep.st (WD.Fr.new np) q2
      · rw [WD.mapRange WD.hdOf default h.2 al.len] at hl
        exact k D H' (f1.trans fr) hl
    dsimp only [tRet, tOp]
    refine half _ l1 hh hM (fun a H1 f1 r1 => ?_) 0 [some v, some u, none] rfl (by decide) rfl
    refine half _ l2 (WD.Rep.st (f1.mono fun _ q => q.elim) hg) (hM.to f1) (fun b H2 f2 r2 => ?_) 1 [some v, some u, none] rfl (by decide) rfl
    exact WD.eqD_of (WD.encL (WD.encP WD.encS WD.encI)) (WD.Rep.st (f2.mono fun _ q => q.elim) r1) r2 (k _ (f1.trans f2))
end
def sp__law_names (_ : PySem.W.Frag) : Sp := fun vs H Q _ => ∃ (M : WD.MS) (w : Addr) (m : Int), vs = [.ref w, .int m] ∧ M w ∧ WD.MIn M H ∧ WD.Well w H ∧ 0 ≤ m ∧ m ≤ 26 ∧
  ∀ (v : V) (H' : Hp) (l : List Str), WD.Fr (WD.only w) H H' → WD.Well w H' → WD.rL WD.rS M H' v l → (l.length : Int) = m → (∀ z ∈ l, WD.nameOk z = true) → l.Nodup → Q v H'
section
variable {P : Program} {w : World} {K : PySem.W.Frag} {mg : Str → Option Value} {base : Heap}
theorem ok__law_names (T : Tx K mg) : WD.Cal P w K mg base (CX0) 2 "_law_names" (He.ga K "_law_names") (sp__law_names K) [] := by
  obtain ⟨fd, F⟩ := T.F__law_names
  refine ⟨WD.fn0_of F sc__law_names (fun vs H Q E h => ?_) (fun _ _ _ _ _ _ us hl => match us, hl with | [_, _], _ => rfl) (fun cdv A outer s H vs Q E hr h => ?_), F.kp, T.g__law_names⟩
  · obtain ⟨M, w, m, rfl, hw, hM, hW, m0, m1, k⟩ := h
    rfl
  · obtain ⟨M, w, m, rfl, hw, hM, hW, m0, m1, k⟩ := h
    refine ⟨_, (pss_cons (ps_set (i := 2) sc__law_names.nd rfl (.inr rfl) pe_str)
      (pss_cons (ps_set (i := 3) sc__law_names.nd rfl (.inr rfl) (WD.k_pe_join K pe_str (pe_lc (own := [("_law_k", 6)]) rfl sc__law_names.nd (pi_range1 (by rfl) T.z_range (pa_cons (pe_op op_add pe_int (WD.pe_cal (ok__law_draw T) (hr.mono (by decide)) (by rfl) (pa_cons (pv 0) (pa_cons pe_int pa_nil)))) pa_nil)) (blkOk_by (N := ["_law_well", "_law_many", "_law_letters", "_law_stem", "_law_at", "_law_first", "_law_k"]) (sc := defScope s__law_names) (by decide +kernel)) (fun _ _ _ _ _ => (pg_name (i := 6) sc__law_names.nd rfl (.inl rfl))) (fun _ _ _ _ _ => pts_nil) (fun _ _ _ _ _ => (pe_ix ix_str (pv 2) (WD.pe_cal (ok__law_draw T) (hr.mono (by decide)) (by rfl) (pa_cons (pv 0) (pa_cons pe_int pa_nil))) (fun _ _ => rfl))))))
      (pss_cons (ps_set (i := 4) sc__law_names.nd rfl (.inr rfl) (WD.pe_cal (ok__law_draw T) (hr.mono (by decide)) (by rfl) (pa_cons (pv 0) (pa_cons (pe_op op_add (pe_callB call_len_str (by rfl) T.z_len PySem.boot_len (pa_cons (pv 3) pa_nil)) pe_int) pa_nil))))
      (pss_cons (ps_set (i := 5) sc__law_names.nd rfl (.inr rfl) (WD.pe_cal (ok__law_draw T) (hr.mono (by decide)) (by rfl) (pa_cons (pv 0) (pa_cons pe_int pa_nil))))
      (pss_one (ps_ret (pe_lc (own := [("_law_k", 6)]) rfl sc__law_names.nd (pi_range1 (by rfl) T.z_range (pa_cons (pv 1) pa_nil)) (blkOk_by (N := ["_law_well", "_law_many", "_law_letters", "_law_stem", "_law_at", "_law_first", "_law_k"]) (sc := defScope s__law_names) (by decide +kernel)) (fun _ _ _ _ _ => (pg_name (i := 6) sc__law_names.nd rfl (.inl rfl))) (fun _ _ _ _ _ => pts_nil) (fun _ _ _ _ _ => (pe_op op_add_str (pe_op op_add_str (pe_slice sl_str (pv 3) po_none (po_some (pv 4))) (pe_ix ix_str (pv 2) (pe_op op_mod (pe_op op_add (pv 5) (pe_op op_mul pe_int (pv 6))) pe_int) (fun _ _ => rfl))) (pe_slice sl_str (pv 3) (po_some (pv 4)) po_none)))))))))), ?_⟩
    have sub : ∀ x, WD.only w x → M x := fun x e => by rw [show x = w from e]; exact hw
    refine ⟨⟨_, rfl⟩, ?_⟩
    refine ⟨_, rfl, w, 7, rfl, hW, by decide, by decide, fun r1 H1 r10 r11 f1 hW1 _ => ?_⟩
    refine ⟨_, _, rfl, rfl, _, rfl, by omega, by omega, ?_⟩
    have hM1 : WD.MIn M H1 := hM.to f1
    refine WD.lc_gen (R := WD.rS) (walk_range) (M := M) (Mf := WD.only w) (J := WD.Well w) sub (WD.jokW rfl) (by omega) hM1 hW1 (fun i o => ∃ c, o = some (⟨#[c]⟩ : Str) ∧ c ∈ WD.lets) (fun _ _ _ _ => trivial) (fun i M' H' hi t fr mi sb hWi Ky Kn ky kn x H'' hy => ?_) (fun D l H2 hD ll lP f2 hW2 hl => ?_)
    · obtain ⟨rfl, rfl⟩ := hy
      refine ⟨rfl, _, rfl, _, rfl, w, 26, rfl, hWi, by decide, by decide, fun r H3 r0 r1 f3 hW3 _ => ?_⟩
      refine ⟨_, r, WD.letAt r, rfl, rfl, (by have := WD.small_len; have := sizeLine_eq; show WD.SMALL.length ≤ sizeLine; omega), WD.at_small r0 r1, ?_⟩
      refine ky _ _ _ ⟨_, rfl, WD.letAt_mem r0 r1⟩ f3 hW3 ⟨rfl, WD.strOk_of fun c hc => ?_⟩
      rw [List.mem_singleton.mp hc]
      exact WD.letAt_mem r0 r1
    · obtain ⟨hlen, hP⟩ := WD.all_of (P := fun _ z => ∃ c, z = (⟨#[c]⟩ : Str) ∧ c ∈ WD.lets) ll (fun i o e => by
        obtain ⟨c, e1, e2⟩ := lP i o e
        exact ⟨_, e1, c, rfl, e2⟩)
      obtain ⟨a, vs, e1, _, hv, al⟩ := hl
      cases e1
      generalize l.filterMap id = ys at hlen hP al
      obtain ⟨cs, hcs, hcl⟩ : ∃ cs : List Nat, ys = cs.map (fun c => (⟨#[c]⟩ : Str)) ∧ ∀ c ∈ cs, c ∈ WD.lets := by
        clear hlen al ll lP
        induction ys with
        | nil => exact ⟨[], rfl, fun c h => by cases h⟩
        | cons y ys ih =>
          obtain ⟨c, e1, e2⟩ := hP 0 y rfl
          obtain ⟨cs, e3, e4⟩ := ih fun i a e => hP (i + 1) a e
          exact ⟨c :: cs, by rw [e1, e3]; rfl, fun d hd => (List.mem_cons.mp hd).elim (fun z => by rw [z]; exact e2) (e4 d)⟩
      have hcn : cs.length = (1 + r1).toNat := by rw [hcs, List.length_map] at hlen; exact hlen
      have ev := al.eq_map (f := V.str) fun _ _ q => q.1
      rw [ev, hcs] at hv
      refine ⟨_, D, _, rfl, rfl, .inl (SqL.of hv), ?_, ?_⟩
      · rw [List.map_map, List.length_map]
        have : (cs.map ((fun x => Str.length x) ∘ fun c => (⟨#[c]⟩ : Str))).sum = cs.length := by
          clear hcs hcn hv hcl ev
          induction cs with
          | nil => rfl
          | cons a cs ih =>
            rw [List.map_cons, List.sum_cons, ih, List.length_cons]
            show 1 + cs.length = cs.length + 1
            omega
        rw [this]
        show cs.length + cs.length * 0 ≤ 16777216
        omega
      rw [WD.join_chars]
      have hsl : (⟨cs.toArray⟩ : Str).length = cs.length := by simp [Str.length]
      have hSz := sizeLine_eq
      refine ⟨_, rfl, _, rfl, _, rfl, (by rw [hsl]; omega), _, _, rfl, rfl, w, _, rfl, hW2, (by rw [hsl]; omega), (by rw [hsl]; omega), fun at1 H3 a0 a1 f3 hW3 _ => ?_⟩
      rw [hsl] at a1
      obtain ⟨an, rfl⟩ : ∃ n : Nat, at1 = (n : Int) := ⟨at1.toNat, by omega⟩
      refine ⟨_, rfl, w, 26, rfl, hW3, by decide, by decide, fun fi H4 g0 g1 f4 hW4 _ => ?_⟩
      have F4 := ((f1.trans f2).trans f3).trans f4
      refine ⟨_, rfl, m, rfl, by omega, by omega, ?_⟩
      refine WD.lc_map (R := WD.rS) walk_range (fun i => WD.mkName cs an (WD.letAt ((fi + 5 * (i : Int)) % 26))) (hM.to F4) (by omega) (fun _ _ => trivial) (fun i M' H' hi t fr mi Ky ky x H'' hy => ?_) (fun D2 H5 hD2 f5 hl5 => ?_)
      · obtain ⟨rfl, rfl⟩ := hy
        have h26 : (0 : Int) < 26 := by decide
        have hx0 := Int.emod_nonneg (fi + 5 * (i : Int)) (show (26 : Int) ≠ 0 by decide)
        have hx1 := Int.emod_lt_of_pos (fi + 5 * (i : Int)) h26
        refine ⟨rfl, _, rfl, _, rfl, _, rfl, _, rfl, (by rw [hsl]; omega), ?_⟩
        refine ⟨_, rfl, _, rfl, _, rfl, _, _, rfl, rfl, .inl ⟨by decide, by decide⟩, _, _, rfl, rfl, _, _, rfl, rfl, h26, ?_⟩
        rw [Int.zero_add]
        refine ⟨_, _, _, rfl, rfl, (by have := WD.small_len; show WD.SMALL.length ≤ sizeLine; omega), WD.at_small hx0 hx1, ?_⟩
        rw [WD.cutS_take cs an (by omega)]
        have l1 : (⟨(cs.take an).toArray⟩ : Str).length ≤ cs.length := by rw [WD.S_len, List.length_take]; omega
        have l2 : (⟨(cs.drop an).toArray⟩ : Str).length ≤ cs.length := by rw [WD.S_len, List.length_drop]; omega
        refine ⟨_, _, rfl, rfl, (by show _ + 1 ≤ _; omega), ?_⟩
        refine ⟨_, rfl, _, rfl, _, rfl, _, rfl, (by rw [hsl]; omega), ?_⟩
        rw [WD.cutS_drop cs an (by omega)]
        refine ⟨_, _, rfl, rfl, (by rw [TL.len_tl, TL.tl_append, List.length_append, ← TL.len_tl]; show _ + 1 + _ ≤ _; omega), ?_⟩
        have e : (⟨(cs.take an).toArray⟩ : Str) ++ ⟨#[WD.letAt ((fi + 5 * (i : Int)) % 26)]⟩ ++ ⟨(cs.drop an).toArray⟩ = WD.mkName cs an (WD.letAt ((fi + 5 * (i : Int)) % 26)) := by
          refine TL.ext_tl ?_
          rw [TL.tl_append, TL.tl_append, WD.mk_tl, List.append_assoc]
        rw [e]
        exact ky _ _ (WD.Fr.refl _) ⟨rfl, WD.nameOk_str (WD.mk_ok (by omega) (by omega) hcl (WD.letAt_mem hx0 hx1))⟩
      · refine k _ _ _ (F4.trans (f5.mono fun _ q => q.elim)) (hW4.fr (fun q => q) f5) hl5 (by rw [List.length_map, List.length_range]; omega) ?_ ?_
        · exact WD.namesOf_ok (by omega) (by omega) hcl
        · exact WD.namesOf_nd (by omega) (by omega)
end
def sp__law_all (_ : PySem.W.Frag) : Sp := fun vs H Q _ => ∃ (M : WD.MS) (s p : Nat), vs = [.int s, .int p] ∧ WD.MIn M H ∧ s < 1000 ∧ p < 1000 ∧ (∀ i, i ≤ p → s ^ i ≤ 100000) ∧
  ∀ (v : V) (H' : Hp), WD.Fr WD.M0 H H' → WD.rL (WD.rT WD.rI) M H' v (WD.allRows s p) → Q v H'
section
variable {P : Program} {w : World} {K : PySem.W.Frag} {mg : Str → Option Value} {base : Heap}
theorem ok__law_all (T : Tx K mg) : WD.Cal P w K mg base (CX0) 1 "_law_all" (He.ga K "_law_all") (sp__law_all K) [] := by
  obtain ⟨fd, F⟩ := T.F__law_all
  refine ⟨WD.fn0_of F sc__law_all (fun vs H Q E h => ?_) (fun _ _ _ _ _ _ us hl => match us, hl with | [_, _], _ => rfl) (fun cdv A outer s H vs Q E hr h => ?_), F.kp, T.g__law_all⟩
  · obtain ⟨M, n, p, rfl, hM, n1, p1, hsz, k⟩ := h
    rfl
  · obtain ⟨M, n, p, rfl, hM, n1, p1, hsz, k⟩ := h
    refine ⟨_, (pss_cons (ps_set (i := 2) sc__law_all.nd rfl (.inl rfl) (pe_lst (pa_cons (pe_tup pa_nil) pa_nil)))
      (pss_cons (ps_for PassesOwn.never rfl (pi_range1 (by rfl) T.z_range (pa_cons (pv 1) pa_nil)) (pg_name (i := 3) sc__law_all.nd rfl (.inl rfl))
        (pss_cons (ps_set (i := 4) sc__law_all.nd rfl (.inl rfl) (pe_lst pa_nil))
      (pss_cons (ps_for PassesOwn.never rfl (WD.k_pi_list K (pv 2)) (pg_name (i := 5) sc__law_all.nd rfl (.inr rfl))
        (pss_one (ps_expr (WD.k_pe_bm K PySem.F.plainAttrs_list PySem.F.slot_list_extend PySem.F.type_list_extend mt_extend (pv 4) (pa_cons (pe_lc (own := [("_law_thing", 6)]) rfl sc__law_all.nd (pi_range1 (by rfl) T.z_range (pa_cons (pv 0) pa_nil)) (blkOk_by (N := ["_law_size", "_law_places", "_law_found", "_law_k", "_law_longer", "_law_row", "_law_thing"]) (sc := defScope s__law_all) (by decide +kernel)) (fun _ _ _ _ _ => (pg_name (i := 6) sc__law_all.nd rfl (.inl rfl))) (fun _ _ _ _ _ => pts_nil) (fun _ _ _ _ _ => (pe_op (WD.k_op_catA K) (pv 5) (pe_tup (pa_cons (pv 6) pa_nil))))) pa_nil)))))
      (pss_one (ps_set (i := 2) sc__law_all.nd rfl (.inl rfl) (pv 4))))))
      (pss_one (ps_ret (pv 2))))), ?_⟩
    have hSz := sizeLine_eq
    refine ⟨by decide, fun t nt => ⟨by show 1 ≤ sizeLine; decide, fun q nq => ?_⟩⟩
    have f0 : WD.Fr WD.M0 H (upd H t (.tup [])) := WD.Fr.new nt
    have f1 : WD.Fr WD.M0 (upd H t (.tup [])) (upd (upd H t (.tup [])) q (.lst [.ref t])) := WD.Fr.new nq
    have F1 := f0.trans f1
    refine ⟨_, rfl, _, rfl, by omega, by omega, ?_⟩
    refine for_it walk_range (fun i σ H' => ∃ v x3 x4 x5, σ = [some (.int n), some (.int p), some v, x3, x4, x5, none] ∧ WD.Fr WD.M0 H H' ∧ WD.rL (WD.rT WD.rI) M H' v (WD.allRows n i)) ?_ (fun _ _ _ _ _ => trivial) (fun i x σ H1 H2 hi pp hy => ?_) (fun σ H1 pp => ?_)
    · refine ⟨_, _, _, _, rfl, F1, q, _, rfl, hM.no (f0.dom _ nq), upd_same, WD.All2.one ⟨t, [], rfl, hM.no nt, ?_, trivial⟩⟩
      rw [upd_ne (fun z => by rw [z, upd_same] at nq; cases nq), upd_same]
    · obtain ⟨v, x3, x4, x5, rfl, f, hv⟩ := pp
      obtain ⟨rfl, rfl⟩ := hy
      obtain ⟨a, rvs, rfl, na, ha, al⟩ := hv
      refine ⟨Nat.zero_le _, fun q2 nq2 => ?_⟩
      have g0 : WD.Fr WD.M0 H2 (upd H2 q2 (.lst [])) := WD.Fr.new nq2
      have hM2 := hM.to f
      have tr : WD.Tr M H2 (WD.plus M q2) (upd H2 q2 (.lst [])) := fun {_ _ _ _ _} z => WD.Rep.st (WD.Fr.new nq2) (WD.Rep.ad nq2 z)
      have naq : a ≠ q2 := ne_of_none ha nq2
      have ha1 := g0.keep _ _ (fun z => z) ha
      refine ⟨_, rfl, a, rfl, ⟨_, SqL.of ha1⟩, ?_⟩
      have hlen := al.len
      have hrl := WD.allRows_len n i
      have hbd : n ^ i ≤ 100000 := hsz i (by omega)
      have hbd2 : n ^ (i + 1) ≤ 100000 := hsz (i + 1) (by omega)
      refine for_it (walk_list (xs := rvs)) (fun j σ H' => ∃ x5 lv, σ = [some (.int n), some (.int p), some (.ref a), some (.int (0 + (i : Nat))), some (.ref q2), x5, none] ∧ WD.Fr (WD.only q2) (upd H2 q2 (.lst [])) H' ∧ H' q2 = some (.lst lv) ∧ WD.All2 (WD.rT WD.rI (WD.plus M q2) H') lv (((WD.allRows n i).take j).flatMap (WD.nexts n))) ?_ (fun j σ H' _ ⟨x5, lv, _, g, _⟩ => SqL.of (g.keep _ _ naq ha1)) (fun j y σ H3 H4 hj pp hy => ?_) (fun σ H3 pp => ?_)
      · exact ⟨_, [], rfl, WD.Fr.refl _, upd_same, trivial⟩
      · obtain ⟨x5', lv, rfl, g, hq, bl⟩ := pp
        obtain ⟨rfl, hy⟩ := hy
        obtain ⟨r, er, rr⟩ := al.get hy
        have rr4 : WD.rT WD.rI (WD.plus M q2) H4 y r := WD.Rep.st (g.mono fun _ z => .inr z) (tr rr)
        have hM4 : WD.MIn (WD.plus M q2) H4 := ((hM2.to g0).to g).plus hq
        have hrm : r ∈ WD.allRows n i := List.mem_of_getElem? er
        have hrlen := (WD.allRows_row hrm).1
        refine ⟨_, rfl, .inl ⟨rfl, _, SqL.of hq⟩, ?_⟩
        refine ⟨_, rfl, _, rfl, by omega, by omega, ?_⟩
        refine WD.lc_map (R := WD.rT WD.rI) walk_range (fun (z : Nat) => r ++ [(z : Int)]) hM4 (by omega) (fun _ _ => trivial) (fun z M' H' hz t fr mi Ky ky x H'' hy2 => ?_) (fun D H5 hD f5 hl5 => ?_)
        · obtain ⟨rfl, rfl⟩ := hy2
          refine ⟨rfl, _, rfl, _, rfl, by show 1 ≤ sizeLine; decide, fun t2 nt2 => ?_⟩
          have f6 : WD.Fr WD.M0 H'' (upd H'' t2 (.tup [.int (0 + (z : Nat))])) := WD.Fr.new nt2
          refine WD.catT (R := WD.rI) (mi.to f6) (WD.Rep.st (f6.mono fun _ q => q.elim) (t rr4)) (WD.tup1 mi nt2 rfl) (by rw [hrlen]; show i + 1 ≤ sizeLine; omega) fun v H7 f7 r7 => ?_
          rw [Int.zero_add] at r7
          exact ky _ _ (f6.trans f7) r7
        · obtain ⟨D', dv, e1, nD, hDv, dl⟩ := hl5
          cases e1
          have hq5 := f5.keep _ _ (fun z => z) hq
          have hdl := dl.len
          have hbl := bl.len
          have hfl : (((WD.allRows n i).take j).flatMap (WD.nexts n)).length ≤ n ^ i * n := by
            rw [WD.flat_len (WD.nexts_len n), List.length_take, hrl]
            exact Nat.mul_le_mul_right _ (by omega)
          have hnn : n ^ i * n = n ^ (i + 1) := (Nat.pow_succ n i).symm
          have hn9 : (WD.nexts n r).length = n := WD.nexts_len n r
          have hdl2 : dv.length = n := hdl.trans hn9
          refine ⟨q2, D, lv, dv, rfl, rfl, hq5, hDv, by omega, ?_⟩
          refine ⟨_, lv ++ dv, rfl, (g.trans (f5.mono fun _ z => z.elim)).trans (WD.Fr.mut rfl), upd_same, ?_⟩
          have e5 : (WD.allRows n i).take (j + 1) = (WD.allRows n i).take j ++ [r] := by rw [List.take_add_one, er]; rfl
          rw [e5, WD.flat_snoc]
          refine WD.All2.app (bl.imp fun _ _ z => ?_) (dl.imp fun _ _ z => ?_)
          · exact WD.Rep.st (WD.Fr.mut (.inr rfl)) (WD.Rep.st (f5.mono fun _ z => z.elim) z)
          · exact WD.Rep.st (WD.Fr.mut (.inr rfl)) z
      · obtain ⟨x5', lv, rfl, g, hq, bl⟩ := pp
        refine ⟨_, rfl, ?_⟩
        refine ⟨_, _, _, _, rfl, f.trans ⟨fun b o _ e => g.keep _ _ (ne_of_none e nq2) (g0.keep _ _ (fun z => z) e), fun b e => g0.dom _ (g.dom _ e)⟩, q2, lv, rfl, hM2.no nq2, hq, ?_⟩
        rw [hlen, List.take_length] at bl
        exact bl.imp fun _ _ z => WD.Rep.wk (fun _ q => .inl q) z
    · obtain ⟨v, x3, x4, x5, rfl, f, hv⟩ := pp
      exact ⟨_, rfl, k _ _ f hv⟩
end
def sp__law_table (_ : PySem.W.Frag) : Sp := fun vs H Q _ => ∃ (M : WD.MS) (w : Addr) (s p : Nat), vs = [.ref w, .int s, .int p] ∧ M w ∧ WD.MIn M H ∧ WD.Well w H ∧ 1 ≤ s ∧ s ≤ 9 ∧ p ≤ 3 ∧
  ∀ (v : V) (H' : Hp) (t : List Int), WD.Fr (WD.only w) H H' → WD.Well w H' → WD.rT WD.rI M H' v t → WD.rowOk t ((s : Int) ^ p) s = true → Q v H'
section
variable {P : Program} {w : World} {K : PySem.W.Frag} {mg : Str → Option Value} {base : Heap}
theorem ok__law_table (T : Tx K mg) : WD.Cal P w K mg base (CX0) 2 "_law_table" (He.ga K "_law_table") (sp__law_table K) [] := by
  obtain ⟨fd, F⟩ := T.F__law_table
  refine ⟨WD.fn0_of F sc__law_table (fun vs H Q E h => ?_) (fun _ _ _ _ _ _ us hl => match us, hl with | [_, _, _], _ => rfl) (fun cdv A outer s H vs Q E hr h => ?_), F.kp, T.g__law_table⟩
  · obtain ⟨M, w, n, p, rfl, hw, hM, hW, n0, n1, p1, k⟩ := h
    rfl
  · obtain ⟨M, w, n, p, rfl, hw, hM, hW, n0, n1, p1, k⟩ := h
    refine ⟨_, (pss_cons (ps_set (i := 3) sc__law_table.nd rfl (.inl rfl) (WD.pe_cal (ok__law_draw T) (hr.mono (by decide)) (by rfl) (pa_cons (pv 0) (pa_cons pe_int pa_nil))))
      (pss_cons (ps_set (i := 4) sc__law_table.nd rfl (.inl rfl) (WD.pe_cal (ok__law_draw T) (hr.mono (by decide)) (by rfl) (pa_cons (pv 0) (pa_cons (pv 1) pa_nil))))
      (pss_cons (ps_set (i := 5) sc__law_table.nd rfl (.inl rfl) (pe_lst pa_nil))
      (pss_cons (ps_for PassesOwn.never rfl (WD.k_pi_list K (WD.pe_cal (ok__law_all T) (hr.mono (by decide)) (by rfl) (pa_cons (pv 1) (pa_cons (pv 2) pa_nil)))) (pg_name (i := 6) sc__law_table.nd rfl (.inl rfl))
        (pss_cons (ps_set (i := 7) sc__law_table.nd rfl (.inl rfl) (pe_lst (pa_cons (pv 4) (pa_cons (pe_op op_mod (pe_op op_add (pe_callB (WD.k_cr_sumT K rfl) (by rfl) T.z_sum WD.bt_sum (pa_cons (pv 6) pa_nil)) (pv 4)) (pv 1)) (pa_cons (pe_callB (WD.k_cr_minT K rfl (hu_of hr)) (by rfl) T.z_min WD.bt_min (pa_cons (pe_op (WD.k_op_catA K) (pv 6) (pe_tup (pa_cons (pv 4) pa_nil))) pa_nil)) (pa_cons (pe_callB (WD.k_cr_maxT K rfl (hu_of hr)) (by rfl) T.z_max WD.bt_max (pa_cons (pe_op (WD.k_op_catA K) (pv 6) (pe_tup (pa_cons (pv 4) pa_nil))) pa_nil)) pa_nil))))))
      (Evl.pss_cut (ps_if (pt_cmpR op_gt (pv 2) pe_int (nomark _))
        (pss_one (ps_set (i := 7) sc__law_table.nd rfl (.inl rfl) (pe_op (WD.k_op_catL K) (pe_slice (WD.k_sl_list K) (pv 7) po_none (po_some pe_int)) (pe_lst (pa_cons (pe_callB (WD.k_cr_minT K rfl (hu_of hr)) (by rfl) T.z_min WD.bt_min (pa_cons (pv 6) pa_nil)) (pa_cons (pe_callB (WD.k_cr_maxT K rfl (hu_of hr)) (by rfl) T.z_max WD.bt_max (pa_cons (pv 6) pa_nil)) (pa_cons (pe_ix (WD.k_ix_tup K) (pv 6) (pe_op op_mod (pv 4) (pv 2)) (fun _ _ => rfl)) pa_nil)))))))
        pss_nil)
      (pss_cons (ps_set (i := 8) sc__law_table.nd rfl (.inl rfl) (WD.pe_cal (ok__law_draw T) (hr.mono (by decide)) (by rfl) (pa_cons (pv 0) (pa_cons (pv 1) pa_nil))))
      (pss_one (ps_expr (WD.k_pe_bm K PySem.F.plainAttrs_list PySem.F.slot_list_append PySem.F.type_list_append mt_append (pv 5) (pa_cons (pe_ix (WD.k_ix_list K) (pe_op (WD.k_op_catL K) (pv 7) (pe_op op_rep (pe_lst (pa_cons (pv 8) pa_nil)) pe_int)) (pv 3) (fun _ _ => rfl)) pa_nil))))))))
      (pss_one (ps_ret (WD.k_pe_tupleOf K (by rfl) T.z_tuple (pv 5)))))))), ?_⟩
    have hSz := sizeLine_eq
    refine ⟨_, rfl, w, 8, rfl, hW, by decide, by decide, fun way H1 w0 w1 f1 hW1 _ => ?_⟩
    refine ⟨_, rfl, _, rfl, w, _, rfl, hW1, by omega, by omega, fun num H2 u0 u1 f2 hW2 _ => ?_⟩
    have F2 := f1.trans f2
    have hM2 := hM.to F2
    refine ⟨Nat.zero_le _, fun q nq => ?_⟩
    have fq : WD.Fr WD.M0 H2 (upd H2 q (.lst [])) := WD.Fr.new nq
    have hWq : WD.Well w (upd H2 q (.lst [])) := hW2.upd nq
    have hpow : ∀ i, i ≤ p → n ^ i ≤ 100000 := fun i hi => by
      have h1 : n ^ i ≤ 9 ^ i := Nat.pow_le_pow_left n1 i
      have h2 : 9 ^ i ≤ 9 ^ 3 := Nat.pow_le_pow_right (by decide) (by omega)
      omega
    have nwq : w ≠ q := fun z => hW2.ne (by rw [z]; exact nq)
    refine ⟨_, rfl, _, rfl, WD.plus M q, n, p, rfl, (hM2.to fq).plus upd_same, by omega, by omega, hpow, fun v H3 f3 hv => ?_⟩
    obtain ⟨a, rvs, rfl, na, ha, al⟩ := hv
    have hW3 : WD.Well w H3 := hWq.fr (fun z => z) f3
    have hq3 : H3 q = some (.lst []) := f3.keep _ _ (fun z => z) upd_same
    refine ⟨a, rfl, ⟨_, SqL.of ha⟩, ?_⟩
    have hlen := al.len
    have hrl := WD.allRows_len n p
    have hM3 : WD.MIn (WD.plus M q) H3 := ((hM2.to fq).to f3).plus hq3
    have nwa : a ≠ w := fun z => na (.inl (by rw [z]; exact hw))
    have naq : a ≠ q := fun z => na (.inr z)
    refine for_it (walk_list (xs := rvs)) (fun i σ H' => ∃ x6 x7 x8, ∃ cs : List Int, σ = [some (.ref w), some (.int n), some (.int p), some (.int way), some (.int num), some (.ref q), x6, x7, x8] ∧ WD.Fr (fun x => x = w ∨ x = q) H3 H' ∧ WD.Well w H' ∧ H' q = some (.lst (cs.map V.int)) ∧ cs.length = i ∧ ∀ c ∈ cs, 0 ≤ c ∧ c < n)
      ⟨none, none, none, [], rfl, WD.Fr.refl _, hW3, hq3, rfl, fun c h => by cases h⟩ (fun i σ H' _ ⟨_, _, _, _, _, g, _⟩ => SqL.of (g.keep _ _ (fun z => z.elim nwa naq) ha)) (fun i y σ H4 H5 hi pp hy => ?_) (fun σ H4 pp => ?_)
    · obtain ⟨x6, x7, x8, cs, rfl, g, hW4, hq4, hcl, hcr⟩ := pp
      obtain ⟨rfl, hy⟩ := hy
      obtain ⟨r, er, rr⟩ := al.get hy
      have hsub : ∀ x, (x = w ∨ x = q) → WD.plus M q x := fun x z => z.elim (fun e => .inl (by rw [e]; exact hw)) .inr
      have rr4 : WD.rT WD.rI (WD.plus M q) H5 y r := WD.Rep.st (g.mono hsub) rr
      have hM4 : WD.MIn (WD.plus M q) H5 := hM3.to g
      obtain ⟨hrlen, hrin⟩ := WD.allRows_row (List.mem_of_getElem? er)
      obtain ⟨b, rfl, nb, hb⟩ := WD.tupI rr4
      -- told
      have hn0 : (0 : Int) < n := by omega
      have hs0 := Int.emod_nonneg (r.sum + num) (show (n : Int) ≠ 0 by omega)
      have hs1 := Int.emod_lt_of_pos (r.sum + num) hn0
      refine ⟨_, rfl, _, rfl, b, r, rfl, SqT.of hb, _, rfl, _, _, rfl, rfl, _, rfl, _, _, rfl, rfl, hn0, ?_⟩
      refine ⟨_, rfl, _, rfl, by show 1 ≤ sizeLine; decide, fun t1 nt1 => ?_⟩
      have g1 : WD.Fr WD.M0 H5 (upd H5 t1 (.tup [.int num])) := WD.Fr.new nt1
      refine WD.catT (R := WD.rI) (hM4.to g1) (WD.Rep.st (g1.mono fun _ q => q.elim) rr4) (WD.tup1 hM4 nt1 rfl) (by rw [hrlen]; show p + 1 ≤ sizeLine; omega) fun v6 H6 g6 r6 => ?_
      obtain ⟨c6, rfl, _, h6⟩ := WD.tupI r6
      refine ⟨c6, _, rfl, SqT.of h6, by simp, fun m1 hm1 => ?_⟩
      refine ⟨_, rfl, _, rfl, by show 1 ≤ sizeLine; decide, fun t2 nt2 => ?_⟩
      have G6 := g1.trans g6
      have g7 : WD.Fr WD.M0 H6 (upd H6 t2 (.tup [.int num])) := WD.Fr.new nt2
      refine WD.catT (R := WD.rI) ((hM4.to G6).to g7) (WD.Rep.st ((G6.trans g7).mono fun _ q => q.elim) rr4) (WD.tup1 (hM4.to G6) nt2 rfl) (by rw [hrlen]; show p + 1 ≤ sizeLine; omega) fun v8 H8 g8 r8 => ?_
      obtain ⟨c8, rfl, _, h8⟩ := WD.tupI r8
      refine ⟨c8, _, rfl, SqT.of h8, by simp, fun m2 hm2 => ?_⟩
      refine ⟨by show 4 ≤ sizeLine; decide, fun l1 nl1 => ?_⟩
      have G8 := (G6.trans g7).trans g8
      have g9 : WD.Fr WD.M0 H8 (upd H8 l1 (.lst [.int num, .int ((r.sum + num) % n), .int m1, .int m2])) := WD.Fr.new nl1
      have G9 := G8.trans g9
      have in6 : ∀ m ∈ r ++ [num], 0 ≤ m ∧ m < n := fun m hm => (List.mem_append.mp hm).elim (hrin m) fun z => by
        rw [List.mem_singleton.mp z]; exact ⟨u0, u1⟩
      -- the if
      refine ⟨fun σ' H' => ∃ (l : Addr) (ts : List Int), σ' = [some (.ref w), some (.int n), some (.int p), some (.int way), some (.int num), some (.ref q), some (.ref b), some (.ref l), x8] ∧ WD.Fr WD.M0 H5 H' ∧ H' l = some (.lst (ts.map V.int)) ∧ 4 ≤ ts.length ∧ ts.length ≤ 5 ∧ ∀ t ∈ ts, 0 ≤ t ∧ t < n, ?_, ?_⟩
      · refine ⟨_, rfl, _, _, rfl, rfl, _, rfl, WD.iteD (fun hp => ?_) (fun hp => ?_)⟩
        · have hb9 := G9.keep _ _ (fun z => z) hb
          have hl9 : (upd H8 l1 (.lst [.int num, .int ((r.sum + num) % n), .int m1, .int m2])) l1 = some (.lst [.int num, .int ((r.sum + num) % n), .int m1, .int m2]) := upd_same
          have hrne : r ≠ [] := fun z => by rw [z] at hrlen; simp at hrlen; omega
          refine ⟨_, rfl, 2, rfl, l1, _, rfl, SqL.of hl9, fun l2 nl2 => ?_⟩
          have g10 : WD.Fr WD.M0 (upd H8 l1 (.lst [.int num, .int ((r.sum + num) % n), .int m1, .int m2])) (upd (upd H8 l1 (.lst [.int num, .int ((r.sum + num) % n), .int m1, .int m2])) l2 (.lst (cutV [.int num, .int ((r.sum + num) % n), .int m1, .int m2] none (some 2)))) := WD.Fr.new nl2
          have hb10 := g10.keep _ _ (fun z => z) hb9
          refine ⟨_, rfl, b, r, rfl, SqT.of hb10, hrne, fun m3 hm3 => ?_⟩
          refine ⟨_, rfl, b, r, rfl, SqT.of hb10, hrne, fun m4 hm4 => ?_⟩
          have hpp : (0 : Int) < p := by omega
          have ho0 := Int.emod_nonneg num (show (p : Int) ≠ 0 by omega)
          have ho1 := Int.emod_lt_of_pos num hpp
          have hix : (num % (p : Int)).toNat < r.length := by omega
          refine ⟨_, rfl, _, rfl, _, rfl, _, _, rfl, rfl, hpp, b, _, num % (p : Int), .int (r[(num % (p : Int)).toNat]'hix), rfl, rfl, SqT.of hb10, ?_, ?_⟩
          · exact WD.atI_int ho0 hix
          refine ⟨by show 3 ≤ sizeLine; decide, fun l3 nl3 => ?_⟩
          have g11 : WD.Fr WD.M0 _ (upd (upd (upd H8 l1 (.lst [.int num, .int ((r.sum + num) % n), .int m1, .int m2])) l2 (.lst (cutV [.int num, .int ((r.sum + num) % n), .int m1, .int m2] none (some 2)))) l3 (.lst [.int m3, .int m4, .int (r[(num % (p : Int)).toNat]'hix)])) := WD.Fr.new nl3
          refine ⟨l2, l3, _, _, rfl, rfl, SqL.of (g11.keep _ _ (fun z => z) upd_same), SqL.of upd_same, by show 2 + 3 ≤ sizeLine; decide, fun l4 nl4 => ?_⟩
          have g12 : WD.Fr WD.M0 _ (upd (upd (upd (upd H8 l1 (.lst [.int num, .int ((r.sum + num) % n), .int m1, .int m2])) l2 (.lst (cutV [.int num, .int ((r.sum + num) % n), .int m1, .int m2] none (some 2)))) l3 (.lst [.int m3, .int m4, .int (r[(num % (p : Int)).toNat]'hix)])) l4 (.lst (cutV [.int num, .int ((r.sum + num) % n), .int m1, .int m2] none (some 2) ++ [.int m3, .int m4, .int (r[(num % (p : Int)).toNat]'hix)]))) := WD.Fr.new nl4
          refine ⟨l4, [num, (r.sum + num) % n, m3, m4, r[(num % (p : Int)).toNat]'hix], rfl, ((G9.trans g10).trans g11).trans g12, upd_same, by simp, by simp, ?_⟩
          intro t ht
          simp only [List.mem_cons, List.not_mem_nil, or_false] at ht
          rcases ht with e | e | e | e | e
          · rw [e]; exact ⟨u0, u1⟩
          · rw [e]; exact ⟨hs0, hs1⟩
          · rw [e]; exact hrin _ hm3
          · rw [e]; exact hrin _ hm4
          · rw [e]; exact hrin _ (List.getElem_mem _)
        · refine ⟨l1, [num, (r.sum + num) % n, m1, m2], rfl, G9, upd_same, by simp, by simp, ?_⟩
          intro t ht
          simp only [List.mem_cons, List.not_mem_nil, or_false] at ht
          rcases ht with e | e | e | e
          · rw [e]; exact ⟨u0, u1⟩
          · rw [e]; exact ⟨hs0, hs1⟩
          · rw [e]; exact in6 _ hm1
          · rw [e]; exact in6 _ hm2
      · rintro σ' H' ⟨l, ts, rfl, gA, hl, lt4, lt5, hts⟩
        have hWA : WD.Well w H' := hW4.fr (fun z => z) gA
        refine ⟨_, rfl, _, rfl, w, _, rfl, hWA, hn0, by omega, fun cell HB c0 c1 fB hWB same => ?_⟩
        have nlw : l ≠ w := fun z => by
          obtain ⟨_, _, _, e⟩ := hWA
          rw [← z, hl] at e
          have := congrArg List.length (HO.lst.inj (Option.some.inj e))
          simp at this; omega
        have hlB := fB.keep _ _ nlw hl
        refine ⟨_, rfl, .inl ⟨rfl, _, SqL.of (fB.keep _ _ nwq.symm (gA.keep _ _ (fun z => z) hq4))⟩, ?_⟩
        refine ⟨_, rfl, _, rfl, by show 1 ≤ sizeLine; decide, fun l5 nl5 => ?_⟩
        have gC : WD.Fr WD.M0 HB (upd HB l5 (.lst [.int cell])) := WD.Fr.new nl5
        refine ⟨l5, 8, _, rfl, rfl, upd_same, by decide, by decide, by show 1 * 8 ≤ sizeLine; decide, fun l6 nl6 => ?_⟩
        have gD : WD.Fr WD.M0 _ (upd (upd HB l5 (.lst [.int cell])) l6 (.lst (List.replicate (Int.toNat 8) [V.int cell]).flatten)) := WD.Fr.new nl6
        have gCD := gC.trans gD
        refine ⟨l, l6, _, _, rfl, rfl, SqL.of (gCD.keep _ _ (fun z => z) hlB), SqL.of upd_same, ?_, fun l7 nl7 => ?_⟩
        · show (ts.map V.int).length + 8 ≤ sizeLine
          rw [List.length_map]; omega
        have gE : WD.Fr WD.M0 _ (upd (upd (upd HB l5 (.lst [.int cell])) l6 (.lst (List.replicate (Int.toNat 8) [V.int cell]).flatten)) l7 (.lst (ts.map V.int ++ (List.replicate (Int.toNat 8) [V.int cell]).flatten))) := WD.Fr.new nl7
        have eR : ts.map V.int ++ (List.replicate (Int.toNat 8) [V.int cell]).flatten = (ts ++ List.replicate 8 cell).map V.int := by
          rw [List.map_append]; rfl
        have hwl : way.toNat < (ts ++ List.replicate 8 cell).length := by rw [List.length_append, List.length_replicate]; omega
        refine ⟨_, rfl, l7, _, way, .int ((ts ++ List.replicate 8 cell)[way.toNat]'hwl), rfl, rfl, SqL.of upd_same, ?_, ?_⟩
        · rw [eR]; exact WD.atI_int w0 hwl
        have hpp2 := hpow p (Nat.le_refl _)
        have hqE := gE.keep _ _ (fun z => z) (gCD.keep _ _ (fun z => z) (fB.keep _ _ nwq.symm (gA.keep _ _ (fun z => z) hq4)))
        refine ⟨q, _, _, rfl, rfl, hqE, (by rw [List.length_map, hcl]; omega), ?_⟩
        refine ⟨_, _, _, cs ++ [(ts ++ List.replicate 8 cell)[way.toNat]'hwl], rfl, ?_, ?_, ?_, by rw [List.length_append, hcl]; rfl, ?_⟩
        · exact (((g.trans (gA.mono fun _ z => z.elim)).trans (fB.mono fun _ z => .inl z)).trans ((gCD.trans gE).mono fun _ z => z.elim)).trans (WD.Fr.mut (.inr rfl))
        · have := hWB.fr (M := WD.M0) (fun z => z) (gCD.trans gE)
          obtain ⟨x1, x2, x3, e⟩ := this
          exact ⟨x1, x2, x3, by rw [upd_ne nwq]; exact e⟩
        · rw [upd_same, List.map_append]; rfl
        · intro c hc
          rcases List.mem_append.mp hc with z | z
          · exact hcr c z
          · rw [List.mem_singleton.mp z]
            have hm := List.getElem_mem hwl
            rcases List.mem_append.mp hm with z | z
            · exact hts _ z
            · rw [(List.mem_replicate.mp z).2]; exact ⟨c0, c1⟩
    · obtain ⟨x6, x7, x8, cs, rfl, g, hW4, hq4, hcl, hcr⟩ := pp
      refine ⟨_, rfl, .inl ⟨q, _, rfl, SqL.of hq4, fun t nt => ?_⟩⟩
      have gt : WD.Fr WD.M0 H4 (upd H4 t (.tup (cs.map V.int))) := WD.Fr.new nt
      refine k _ _ cs ?_ (hW4.fr (M := WD.M0) (fun z => z) gt) (WD.mkTupI (((hM2.to fq).to f3).to g |>.no nt) upd_same) ?_
      · refine ⟨fun b o nb e => ?_, fun b e => F2.dom _ (fq.dom _ (f3.dom _ (g.dom _ (gt.dom _ e))))⟩
        have e2 := F2.keep _ _ nb e
        exact gt.keep _ _ (fun z => z) (g.keep _ _ (fun z => z.elim nb (ne_of_none e2 nq)) (f3.keep _ _ (fun z => z) (fq.keep _ _ (fun z => z) e2)))
      · unfold WD.rowOk
        rw [hcl, hlen, hrl]
        rw [decide_eq_true (by rw [Int.natCast_pow])]
        refine List.all_eq_true.mpr fun c hc => ?_
        unfold WD.inR
        rw [decide_eq_true (hcr c hc).1, decide_eq_true (hcr c hc).2]
        rfl
end
def headOk (m : Int) (z : Str × Int) : Prop := WD.nameOk z.1 = true ∧ 0 ≤ z.2 ∧ z.2 ≤ m
def sp__law_deeds (_ : PySem.W.Frag) : Sp := fun vs H Q _ => ∃ (M : WD.MS) (w : Addr) (s : Nat) (v : V) (hs : List (Str × Int)), vs = [.ref w, .int s, v] ∧ M w ∧ WD.MIn M H ∧ WD.Well w H ∧ 1 ≤ s ∧ s ≤ 9 ∧ WD.rL (WD.rP WD.rS WD.rI) M H v hs ∧ hs.length ≤ 6 ∧ (∀ z ∈ hs, headOk 3 z) ∧
  ∀ (v : V) (H' : Hp) (ds : List WD.Deed), WD.Fr (WD.only w) H H' → WD.Well w H' → WD.rL WD.rD M H' v ds → ds.map WD.hdOf = hs → (∀ d ∈ ds, WD.deedOk d s = true) → Q v H'
section
variable {P : Program} {w : World} {K : PySem.W.Frag} {mg : Str → Option Value} {base : Heap}
theorem ok__law_deeds (T : Tx K mg) : WD.Cal P w K mg base (CX0) 3 "_law_deeds" (He.ga K "_law_deeds") (sp__law_deeds K) [] := by
  obtain ⟨fd, F⟩ := T.F__law_deeds
  refine ⟨WD.fn0_of F sc__law_deeds (fun vs H Q E h => ?_) (fun _ _ _ _ _ _ us hl => match us, hl with | [_, _, _], _ => rfl) (fun cdv A outer s H vs Q E hr h => ?_), F.kp, T.g__law_deeds⟩
  · obtain ⟨M, w, n, v, hs, rfl, hw, hM, hW, n0, n1, hv, hl6, hok, k⟩ := h
    rfl
  · obtain ⟨M, w, n, v, hs, rfl, hw, hM, hW, n0, n1, hv, hl6, hok, k⟩ := h
    refine ⟨_, (pss_one (ps_ret (pe_lc (own := [("_law_name", 3), ("_law_places", 4)]) rfl sc__law_deeds.nd (WD.k_pi_list K (pv 2)) (blkOk_by (N := ["_law_well", "_law_size", "_law_heads", "_law_name", "_law_places"]) (sc := defScope s__law_deeds) (by decide +kernel)) (fun _ _ _ _ _ => (WD.k_pg_tup K (n := 2) rfl (pgs_cons (pg_name (i := 3) sc__law_deeds.nd rfl (.inl rfl)) (pgs_cons (pg_name (i := 4) sc__law_deeds.nd rfl (.inl rfl)) pgs_nil)))) (fun _ _ _ _ _ => pts_nil) (fun _ _ _ _ _ => (pe_tup (pa_cons (pv 3) (pa_cons (pv 4) (pa_cons (WD.pe_cal (ok__law_table T) (hr.mono (by decide)) (by rfl) (pa_cons (pv 0) (pa_cons (pv 1) (pa_cons (pv 4) pa_nil)))) pa_nil)))))))), ?_⟩
    obtain ⟨a, vs, rfl, na, ha, al⟩ := hv
    have hlen := al.len
    have sub : ∀ x, WD.only w x → M x := fun x e => by rw [show x = w from e]; exact hw
    refine ⟨_, rfl, a, rfl, ⟨_, SqL.of ha⟩, ?_⟩
    have naw : a ≠ w := fun z => na (by rw [z]; exact hw)
    refine WD.lc_gen (R := WD.rD) (walk_list (xs := vs)) (M := M) (Mf := WD.only w) (J := WD.Well w) sub (WD.jokW rfl) (by omega) hM hW (fun i o => ∃ d, o = some d ∧ hs[i]? = some (WD.hdOf d) ∧ WD.deedOk d n = true) (fun _ H' _ f => SqL.of (f.keep _ _ naw ha)) (fun i M' H' hi t fr mi sb hWi Ky Kn ky kn x H'' hy => ?_) (fun D l H2 hD ll lP f2 hW2 hl => ?_)
    · obtain ⟨rfl, hx⟩ := hy
      obtain ⟨z, ez, rz⟩ := al.get hx
      obtain ⟨b, v1, v2, rfl, nb, hb, ⟨rfl, hs1⟩, rfl⟩ := t rz
      obtain ⟨z1, z2⟩ := z
      obtain ⟨ok1, ok2, ok3⟩ := hok _ (List.mem_of_getElem? ez)
      dsimp only at ok1 ok2 ok3 hs1 hb
      obtain ⟨p, rfl⟩ : ∃ p : Nat, z2 = (p : Int) := ⟨z2.toNat, by omega⟩
      refine ⟨b, _, rfl, SqT.of hb, rfl, _, _, rfl, _, _, rfl, rfl, rfl, ?_⟩
      refine ⟨_, rfl, _, rfl, _, rfl, _, rfl, _, rfl, M', w, n, p, rfl, sb w hw, mi, hWi, n0, n1, by omega, fun v3 H3 tb f3 hW3 ht ho => ?_⟩
      refine ⟨by show 3 ≤ sizeLine; decide, fun q nq => ?_⟩
      refine ky _ _ (z1, (p : Int), tb) ⟨_, rfl, ez, ?_⟩ (f3.trans (WD.Fr.new nq)) (hW3.upd nq) (WD.trip1 (R := WD.rS) (S := WD.rI) (T := WD.rT WD.rI) (mi.to f3) nq ⟨rfl, hs1⟩ rfl ht)
      unfold WD.deedOk
      rw [ok1, decide_eq_true (show (0 : Int) ≤ (p : Int) by omega), decide_eq_true (show (p : Int) ≤ 3 by omega)]
      exact ho
    · obtain ⟨hl1, hP⟩ := WD.all_of (P := fun i d => hs[i]? = some (WD.hdOf d) ∧ WD.deedOk d n = true) ll lP
      refine k _ _ _ f2 hW2 hl ?_ ?_
      · refine List.ext_getElem? fun i => ?_
        rw [List.getElem?_map]
        by_cases hi : i < (l.filterMap id).length
        · rw [List.getElem?_eq_getElem hi]
          exact (hP i _ (List.getElem?_eq_getElem hi)).1.symm
        · rw [List.getElem?_eq_none (by omega), List.getElem?_eq_none (by omega)]; rfl
      · intro d hd
        obtain ⟨i, hi, e⟩ := List.mem_iff_getElem.mp hd
        exact (hP i d (by rw [← e]; exact List.getElem?_eq_getElem hi)).2
end
def sp__law_other (_ : PySem.W.Frag) : Sp := fun vs H Q _ => ∃ (M : WD.MS) (w : Addr) (v : V) (hs : List (Str × Int)), vs = [.ref w, v] ∧ M w ∧ WD.MIn M H ∧ WD.Well w H ∧ WD.rL (WD.rP WD.rS WD.rI) M H v hs ∧ hs.length ≤ 6 ∧ (∀ z ∈ hs, headOk 2 z) ∧
  ∀ (v : V) (H' : Hp) (is : List (Str × Int)), WD.Fr (WD.only w) H H' → WD.Well w H' → WD.rL (WD.rP WD.rS WD.rI) M H' v is → is.length ≤ 6 → (∀ z ∈ is, headOk 2 z) → Q v H'
section
variable {P : Program} {w : World} {K : PySem.W.Frag} {mg : Str → Option Value} {base : Heap}
theorem ok__law_other (T : Tx K mg) : WD.Cal P w K mg base (CX0) 2 "_law_other" (He.ga K "_law_other") (sp__law_other K) [] := by
  obtain ⟨fd, F⟩ := T.F__law_other
  refine ⟨WD.fn0_of F sc__law_other (fun vs H Q E h => ?_) (fun _ _ _ _ _ _ us hl => match us, hl with | [_, _], _ => rfl) (fun cdv A outer s H vs Q E hr h => ?_), F.kp, T.g__law_other⟩
  · obtain ⟨M, w, v, hs, rfl, hw, hM, hW, hv, hl6, hok, k⟩ := h
    rfl
  · obtain ⟨M, w, v, hs, rfl, hw, hM, hW, hv, hl6, hok, k⟩ := h
    refine ⟨_, (pss_cons (ps_set (i := 2) sc__law_other.nd rfl (.inl rfl) (WD.pe_cal (ok__law_draw T) (hr.mono (by decide)) (by rfl) (pa_cons (pv 0) (pa_cons pe_int pa_nil))))
      (pss_cons (ps_set (i := 3) sc__law_other.nd rfl (.inl rfl) (WD.pe_cal (ok__law_draw T) (hr.mono (by decide)) (by rfl) (pa_cons (pv 0) (pa_cons (pe_op op_add (pe_callB (WD.k_call_len_seq K) (by rfl) T.z_len PySem.boot_len (pa_cons (pv 1) pa_nil)) pe_int) pa_nil))))
      (pss_cons (ps_if (PW.pt (pw_or (pt_cmpR op_lt (pv 2) pe_int (nomark _)) (pw_or1 (pt_cmpR (WD.k_op_eqD K hr.units) (pv 1) (pe_lst pa_nil) (nomark _)))))
        (pss_one (ps_ret (pe_callTy (WD.k_call_list_of K) (by rfl) T.z_list WD.bt_list (pa_cons (pv 1) pa_nil))))
        pss_nil)
      (Evl.pss_cut (ps_if (PW.pt (pw_and (pt_cmpR op_eq (pv 2) pe_int (nomark _)) (pw_and1 (pt_cmpR op_lt (pe_callB (WD.k_call_len_seq K) (by rfl) T.z_len PySem.boot_len (pa_cons (pv 1) pa_nil)) pe_int (nomark _)))))
        (pss_one (ps_ret (pe_op (WD.k_op_catL K) (pe_op (WD.k_op_catL K) (pe_slice (WD.k_sl_list K) (pv 1) po_none (po_some (pv 3))) (pe_lst (pa_cons (pe_tup (pa_cons pe_str (pa_cons (WD.pe_cal (ok__law_draw T) (hr.mono (by decide)) (by rfl) (pa_cons (pv 0) (pa_cons pe_int pa_nil))) pa_nil))) pa_nil))) (pe_slice (WD.k_sl_list K) (pv 1) (po_some (pv 3)) po_none))))
        pss_nil)
      (pss_cons (ps_set (i := 3) sc__law_other.nd rfl (.inl rfl) (pe_op op_mod (pv 3) (pe_callB (WD.k_call_len_seq K) (by rfl) T.z_len PySem.boot_len (pa_cons (pv 1) pa_nil))))
      (pss_cons (ps_asg (pe_ix (WD.k_ix_list K) (pv 1) (pv 3) (fun _ _ => rfl)) (WD.k_pg_tup K (n := 2) rfl (pgs_cons (pg_name (i := 4) sc__law_other.nd rfl (.inl rfl)) (pgs_cons (pg_name (i := 5) sc__law_other.nd rfl (.inl rfl)) pgs_nil))))
      (pss_cons (ps_if (pt_cmpR op_eq (pv 2) pe_int (nomark _))
        (pss_one (ps_ret (pe_op (WD.k_op_catL K) (pe_slice (WD.k_sl_list K) (pv 1) po_none (po_some (pv 3))) (pe_slice (WD.k_sl_list K) (pv 1) (po_some (pe_op op_add (pv 3) pe_int)) po_none))))
        pss_nil)
      (pss_cons (ps_if (pt_cmpR op_eq (pv 2) pe_int (nomark _))
        (pss_one (ps_ret (pe_op (WD.k_op_catL K) (pe_slice (WD.k_sl_list K) (pv 1) (po_some (pv 3)) po_none) (pe_slice (WD.k_sl_list K) (pv 1) po_none (po_some (pv 3))))))
        pss_nil)
      (pss_cons (ps_if (pt_cmpR op_eq (pv 2) pe_int (nomark _))
        (pss_one (ps_ret (pe_op (WD.k_op_catL K) (pe_op (WD.k_op_catL K) (pe_slice (WD.k_sl_list K) (pv 1) po_none (po_some (pv 3))) (pe_lst (pa_cons (pe_tup (pa_cons (pe_op op_add_str (pe_slice sl_str (pv 4) po_none (po_some pe_int)) pe_str) (pa_cons (pv 5) pa_nil))) pa_nil))) (pe_slice (WD.k_sl_list K) (pv 1) (po_some (pe_op op_add (pv 3) pe_int)) po_none))))
        pss_nil)
      (pss_one (ps_ret (pe_op (WD.k_op_catL K) (pe_op (WD.k_op_catL K) (pe_slice (WD.k_sl_list K) (pv 1) po_none (po_some (pv 3))) (pe_lst (pa_cons (pe_tup (pa_cons (pv 4) (pa_cons (pe_op op_mod (pe_op op_add (pv 5) pe_int) pe_int) pa_nil))) pa_nil))) (pe_slice (WD.k_sl_list K) (pv 1) (po_some (pe_op op_add (pv 3) pe_int)) po_none))))))))))))), ?_⟩
    have hSz := sizeLine_eq
    refine ⟨_, rfl, w, 8, rfl, hW, by decide, by decide, fun way H1 w0 w1 f1 hW1 same1 => ?_⟩
    have fM : ∀ {H H' : Hp}, WD.Fr (WD.only w) H H' → WD.Fr M H H' := fun f => f.mono fun x e => by rw [show x = w from e]; exact hw
    have f0M : ∀ {H H' : Hp}, WD.Fr WD.M0 H H' → WD.Fr M H H' := fun f => f.mono fun x e => e.elim
    have f0w : ∀ {H H' : Hp}, WD.Fr WD.M0 H H' → WD.Fr (WD.only w) H H' := fun f => f.mono fun x e => e.elim
    have hv1 := WD.Rep.st (fM f1) hv
    obtain ⟨a, vs, ev, na, ha, al⟩ := hv1
    subst ev
    have hlen := al.len
    refine ⟨_, rfl, _, rfl, a, _, rfl, .inl (SqL.of ha), _, _, rfl, rfl, w, _, rfl, hW1, by omega, by omega, fun at1 H2 a0 a1 f2 hW2 same2 => ?_⟩
    have F2 := f1.trans f2
    have hM2 := hM.to F2
    have hv2 : WD.rL (WD.rP WD.rS WD.rI) M H2 (.ref a) hs := WD.Rep.st (fM f2) ⟨a, vs, rfl, na, ha, al⟩
    obtain ⟨a', vs2, ev, na2, ha2, al2⟩ := id hv2
    cases ev
    have hlen2 := al2.len
    obtain ⟨an, rfl⟩ : ∃ n : Nat, at1 = (n : Int) := ⟨at1.toNat, by omega⟩
    have copy : ∀ (D : Ends) (σ : L2.St) (Hx : Hp), D.rt = Q → σ[1]? = some (some (.ref a)) → WD.Fr WD.M0 H2 Hx → tRet (tCB (fun xs H Q => ∃ p ys, xs = [.ref p] ∧ (SqL K H p ys ∨ SqT K H p ys) ∧ ∀ l, H l = none → Q (.ref l) (upd H l (.lst ys))) (tCons (tVar 1) tNil)) D σ Hx := fun D σ Hx eD es fx => by
      refine ⟨_, es, a, vs2, rfl, .inl (SqL.of (fx.keep _ _ (fun z => z) ha2)), fun l nl => ?_⟩
      rw [eD]
      have fl : WD.Fr WD.M0 Hx (upd Hx l (.lst vs2)) := WD.Fr.new nl
      have fz := fx.trans fl
      exact k _ _ hs (F2.trans (f0w fz)) (hW2.fr (M := WD.M0) (fun z => z) fz) ⟨l, vs2, rfl, (hM2.to fx).no nl, upd_same, al2.imp fun _ _ z => WD.Rep.st (f0M fz) z⟩ hl6 hok
    refine ⟨_, rfl, _, _, rfl, rfl, _, rfl, WD.iteD (fun h3 => ?_) (fun h3 => ?_)⟩
    · exact copy _ _ _ rfl rfl (WD.Fr.refl _)
    refine ⟨_, rfl, Nat.zero_le _, fun e0 ne0 => ?_⟩
    have fe : WD.Fr WD.M0 H2 (upd H2 e0 (.lst [])) := WD.Fr.new ne0
    refine WD.eqD_of (WD.encL (WD.encP WD.encS WD.encI)) (WD.Rep.st (f0M fe) hv2) (⟨e0, [], rfl, hM2.no ne0, upd_same, trivial⟩ : WD.rL (WD.rP WD.rS WD.rI) M _ (.ref e0) []) ?_
    refine ⟨_, rfl, WD.iteD (fun hnil => ?_) (fun hnil => ?_)⟩
    · exact copy _ _ _ rfl rfl fe
    have hpos : 0 < hs.length := List.length_pos_iff.mpr hnil
    have hM3 := hM2.to fe
    have hW3 : WD.Well w (upd H2 e0 (.lst [])) := hW2.upd ne0
    have F3 := F2.trans (f0w fe)
    have hv3 : WD.rL (WD.rP WD.rS WD.rI) M (upd H2 e0 (.lst [])) (.ref a) hs := WD.Rep.st (f0M fe) hv2
    generalize upd H2 e0 (.lst []) = H3 at hM3 hW3 F3 hv3
    clear copy
    obtain ⟨a', vs3, ev, na3, ha3, al3⟩ := id hv3
    cases ev
    have hlen3 := al3.len
    -- the two halves with something between: behind xs[:i] and the thing
    have glue : ∀ (σ : L2.St) (i j : Nat) (b : Addr) (v6 : V) (zs : Str × Int) (H5 H6 : Hp) (tj : TE) (Qk : VK), WD.Fr WD.M0 H3 H5 → WD.rL (WD.rP WD.rS WD.rI) M H5 (.ref b) (WD.cutL hs none (some (i : Int))) → WD.Fr (WD.only w) H5 H6 → WD.Well w H6 → WD.rP WD.rS WD.rI M H6 v6 zs → headOk 2 zs →
        σ[1]? = some (some (.ref a)) → (∀ (H5 : Hp) (Q' : VK), Q' (.int j) H5 → tj σ H5 Q') → i ≤ j → j ≤ i + 1 → i ≤ hs.length → (j = i → hs.length ≤ 5) → j ≤ hs.length → Qk = Q →
        tLst (tCons (fun _ H Q' => Q' v6 H) tNil) σ H6 fun y H2 => WD.rCatL K (.ref b) y H2 fun x H1 => tSl (rSlL K) (tVar 1) (tPart tj) tNoPart σ H1 fun y H2 => WD.rCatL K x y H2 Qk := by
      intro σ i j b v6 zs H5 H6 tj Qk f5 hb f6 hW6 hr6 hz e1 hj ij1 ij2 il ij3 jl eQ
      subst eQ
      refine ⟨by show 1 ≤ sizeLine; decide, fun l7 nl7 => ?_⟩
      have g7 : WD.Fr WD.M0 H6 (upd H6 l7 (.lst [v6])) := WD.Fr.new nl7
      have hM6 := (hM3.to f5).to f6
      have t6 := (fM f6).trans (f0M g7)
      rw [WD.cutL_take] at hb
      refine WD.catL (hM6.to g7) (WD.Rep.st t6 hb) (WD.lst1 hM6 nl7 hr6) (by rw [List.length_take]; show _ + 1 ≤ _; omega) fun b8 H8 nb8 f8 hb8 => ?_
      refine ⟨_, e1, hj H8 _ ⟨_, rfl, ?_⟩⟩
      have hM8 := (hM6.to g7).to f8
      have hv8 := WD.Rep.st ((f0M f5).trans (t6.trans (f0M f8))) hv3
      dsimp only [tNoPart]
      refine WD.sliceL hM8 hv8 fun b9 H9 nb9 f9 hb9 => ?_
      rw [WD.cutL_drop] at hb9
      refine WD.catL (hM8.to f9) (WD.Rep.st (f0M f9) hb8) hb9 (by rw [List.length_append, List.length_take, List.length_drop]; show _ + 1 + _ ≤ _; omega) fun b10 H10 nb10 f10 hb10 => ?_
      have fz : WD.Fr (WD.only w) H3 H10 := (f0w f5).trans (f6.trans (f0w ((g7.trans f8).trans (f9.trans f10))))
      refine k _ _ _ (F3.trans fz) (hW6.fr (M := WD.M0) (fun z => z) ((g7.trans f8).trans (f9.trans f10))) hb10 ?_ ?_
      · rw [List.length_append, List.length_append, List.length_take, List.length_drop]
        show _ + 1 + _ ≤ 6
        by_cases e : j = i
        · have := ij3 e; omega
        · omega
      · intro z hzz
        rcases List.mem_append.mp hzz with q | q
        · rcases List.mem_append.mp q with q | q
          · exact hok z (List.mem_of_mem_take q)
          · rw [List.mem_singleton.mp q]; exact hz
        · exact hok z (List.mem_of_mem_drop q)
    have hat : an ≤ hs.length := by omega
    refine ⟨fun σ' H' => σ' = [some (.ref w), some (.ref a), some (.int way), some (.int an), none, none] ∧ H' = H3, ?_, ?_⟩
    · refine ⟨_, rfl, rfl, _, rfl, WD.iteD (fun h4 => ?_) (fun h4 => iteF ⟨rfl, rfl⟩)⟩
      refine ⟨_, rfl, a, _, rfl, .inl (SqL.of ha3), _, _, rfl, rfl, _, rfl, WD.iteD (fun h5 => ?_) (fun h5 => ⟨rfl, rfl⟩)⟩
      refine ⟨_, rfl, _, rfl, _, rfl, ?_⟩
      refine WD.sliceL hM3 hv3 fun b H5 nb f5 hb => ?_
      have hW5 := hW3.fr (M := WD.M0) (fun z => z) f5
      refine ⟨_, rfl, w, 3, rfl, hW5, by decide, by decide, fun r H6 r0 r1 f6 hW6 _ => ⟨by show 2 ≤ sizeLine; decide, fun p6 np6 => ?_⟩⟩
      have g6 : WD.Fr WD.M0 H6 (upd H6 p6 (.tup [.str "spare", .int r])) := WD.Fr.new np6
      have hr6 : WD.rP WD.rS WD.rI M (upd H6 p6 (.tup [.str "spare", .int r])) (.ref p6) ("spare", r) := WD.pair1 (R := WD.rS) (S := WD.rI) ((hM3.to f5).to f6) np6 ⟨rfl, by decide +kernel⟩ rfl
      have hz : headOk 2 (("spare" : Str), r) := ⟨(show WD.nameOk "spare" = true by decide +kernel), r0, by show r ≤ 2; omega⟩
      refine glue _ an an b (.ref p6) (("spare" : Str), r) H5 _ (tVar 3) _ f5 hb (f6.trans (f0w g6)) (hW6.upd np6) hr6 hz rfl (fun _ _ q => ⟨_, rfl, q⟩) (Nat.le_refl _) (Nat.le_succ _) hat (fun _ => by omega) hat rfl
    · rintro σ' H' ⟨rfl, rfl⟩
      have hlp : (0 : Int) < ((vs3.length : Nat) : Int) := by omega
      refine ⟨_, rfl, _, rfl, a, _, rfl, .inl (SqL.of ha3), _, _, rfl, rfl, hlp, ?_⟩
      obtain ⟨j, ej, jl⟩ : ∃ j : Nat, (an : Int) % (vs3.length : Int) = (j : Int) ∧ j < hs.length := by
        have h1 := Int.emod_nonneg (an : Int) (show (vs3.length : Int) ≠ 0 by omega)
        have h2 := Int.emod_lt_of_pos (an : Int) hlp
        exact ⟨((an : Int) % (vs3.length : Int)).toNat, by omega, by omega⟩
      show gName 3 (V.int ((an : Int) % (vs3.length : Int))) _ _ _
      rw [ej]
      obtain ⟨z, ez⟩ : ∃ z, hs[j]? = some z := ⟨_, List.getElem?_eq_getElem jl⟩
      obtain ⟨v7, e7, r7⟩ := al3.at_ ez
      obtain ⟨c, v1, v2, rfl, nc, hc, ⟨rfl, hs1⟩, rfl⟩ := id r7
      have hzok := hok z (List.mem_of_getElem? ez)
      obtain ⟨z1, z2⟩ := z
      dsimp only at hs1 hc
      obtain ⟨ok1, ok2, ok3⟩ := hzok
      dsimp only at ok1 ok2 ok3
      refine ⟨_, rfl, _, rfl, a, _, j, _, rfl, rfl, SqL.of ha3, atI_nat e7, c, _, rfl, SqT.of hc, rfl, _, _, rfl, _, _, rfl, rfl, ?_⟩
      have two : ∀ (σ : L2.St) (b : Addr) (lo lo2 hi hi2 : Option Int) (H5 : Hp) (tl th : TO) (Qk : VK), WD.Fr WD.M0 H' H5 → WD.rL (WD.rP WD.rS WD.rI) M H5 (.ref b) (WD.cutL hs lo hi) → σ[1]? = some (some (.ref a)) →
          (∀ (Hx : Hp) (R : Option Int → Option Int → Hp → Prop), R lo2 hi2 Hx → tl σ Hx fun l H2 => th σ H2 fun u H3 => R l u H3) → (WD.cutL hs lo hi).length + (WD.cutL hs lo2 hi2).length ≤ 6 → Qk = Q →
          tSl (rSlL K) (tVar 1) tl th σ H5 fun y H2 => WD.rCatL K (.ref b) y H2 Qk := by
        intro σ b lo lo2 hi hi2 H5 tl th Qk f5 hb e1 hp hln eQ
        subst eQ
        refine ⟨_, e1, hp H5 _ ?_⟩
        refine WD.sliceL (hM3.to f5) (WD.Rep.st (f0M f5) hv3) fun b9 H9 nb9 f9 hb9 => ?_
        refine WD.catL ((hM3.to f5).to f9) (WD.Rep.st (f0M f9) hb) hb9 (by omega) fun b10 H10 nb10 f10 hb10 => ?_
        have fz := (f5.trans f9).trans f10
        refine k _ _ _ (F3.trans (f0w fz)) (hW3.fr (M := WD.M0) (fun z => z) fz) hb10 (by rw [List.length_append]; omega) ?_
        intro z hzz
        have sub : ∀ (lo hi : Option Int) (z), z ∈ WD.cutL hs lo hi → z ∈ hs := fun lo hi z q => List.mem_of_mem_drop (List.mem_of_mem_take q)
        exact hok z ((List.mem_append.mp hzz).elim (sub _ _ z) (sub _ _ z))
      refine ⟨_, rfl, rfl, _, rfl, WD.iteD (fun h4 => ?_) (fun h4 => ?_)⟩
      · refine ⟨_, rfl, _, rfl, _, rfl, ?_⟩
        refine WD.sliceL hM3 hv3 fun b H5 nb f5 hb => ?_
        refine two _ b none (some ((j + 1 : Nat) : Int)) (some (j : Int)) none H5 _ _ _ f5 hb rfl (fun Hx R q => ⟨_, rfl, _, _, rfl, rfl, _, rfl, q⟩) ?_ rfl
        rw [WD.cutL_take, WD.cutL_drop, List.length_take, List.length_drop]; omega
      refine ⟨_, rfl, rfl, _, rfl, WD.iteD (fun h5 => ?_) (fun h5 => ?_)⟩
      · refine ⟨_, rfl, _, rfl, _, rfl, ?_⟩
        dsimp only [tNoPart]
        refine WD.sliceL hM3 hv3 fun b H5 nb f5 hb => ?_
        refine two _ b (some (j : Int)) none none (some (j : Int)) H5 _ _ _ f5 hb rfl (fun Hx R q => ⟨_, rfl, _, rfl, q⟩) ?_ rfl
        rw [WD.cutL_take, WD.cutL_drop, List.length_take, List.length_drop]; omega
      refine ⟨_, rfl, rfl, _, rfl, WD.iteD (fun h6 => ?_) (fun h6 => ?_)⟩
      · refine ⟨_, rfl, _, rfl, _, rfl, ?_⟩
        refine WD.sliceL hM3 hv3 fun b H5 nb f5 hb => ?_
        have hz8 := WD.nameOk_len ok1
        obtain ⟨s1, hc7, hz7⟩ : ∃ s1 : Str, cutS z1 none (some 7) = s1 ∧ WD.nameOk (s1 ++ "z") = true ∧ s1.length ≤ 7 := WD.name7 ok1
        refine ⟨_, rfl, _, rfl, _, rfl, by omega, _, _, rfl, rfl, (by rw [hc7]; show s1.length + 1 ≤ _; omega), _, rfl, by show 2 ≤ sizeLine; decide, fun p6 np6 => ?_⟩
        rw [hc7]
        have g6 : WD.Fr WD.M0 H5 (upd H5 p6 (.tup [.str (s1 ++ "z"), .int z2])) := WD.Fr.new np6
        have hr6 : WD.rP WD.rS WD.rI M (upd H5 p6 (.tup [.str (s1 ++ "z"), .int z2])) (.ref p6) (s1 ++ "z", z2) := WD.pair1 (R := WD.rS) (S := WD.rI) (hM3.to f5) np6 ⟨rfl, WD.nameOk_str hz7.1⟩ rfl
        exact glue _ j (j + 1) b (.ref p6) (s1 ++ "z", z2) H5 _ (tOp (rI0 fun i j => .int (i + j)) (tVar 3) (tC (.int 1))) _ f5 hb (f0w g6) ((hW3.fr (M := WD.M0) (fun z => z) f5).upd np6) hr6 ⟨hz7.1, ok2, ok3⟩ rfl (fun _ _ q => ⟨_, rfl, _, _, rfl, rfl, q⟩) (by omega) (by omega) (by omega) (fun e => by omega) (by omega) rfl
      · refine ⟨_, rfl, _, rfl, _, rfl, ?_⟩
        refine WD.sliceL hM3 hv3 fun b H5 nb f5 hb => ?_
        have h30 : (0 : Int) < 3 := by decide
        refine ⟨_, rfl, _, rfl, _, _, rfl, rfl, _, _, rfl, rfl, h30, by show 2 ≤ sizeLine; decide, fun p6 np6 => ?_⟩
        have g6 : WD.Fr WD.M0 H5 (upd H5 p6 (.tup [.str z1, .int ((z2 + 1) % 3)])) := WD.Fr.new np6
        have hr6 : WD.rP WD.rS WD.rI M (upd H5 p6 (.tup [.str z1, .int ((z2 + 1) % 3)])) (.ref p6) (z1, (z2 + 1) % 3) := WD.pair1 (R := WD.rS) (S := WD.rI) (hM3.to f5) np6 ⟨rfl, hs1⟩ rfl
        exact glue _ j (j + 1) b (.ref p6) (z1, (z2 + 1) % 3) H5 _ (tOp (rI0 fun i j => .int (i + j)) (tVar 3) (tC (.int 1))) _ f5 hb (f0w g6) ((hW3.fr (M := WD.M0) (fun z => z) f5).upd np6) hr6 ⟨ok1, by show 0 ≤ (z2 + 1) % 3; omega, by show (z2 + 1) % 3 ≤ 2; omega⟩ rfl (fun _ _ q => ⟨_, rfl, _, _, rfl, rfl, q⟩) (by omega) (by omega) (by omega) (fun e => by omega) (by omega) rfl
end
def sp__law_right (_ : PySem.W.Frag) : Sp := fun vs H Q _ => ∃ (w : Addr), vs = [.ref w] ∧ WD.Well w H ∧ ∀ H', WD.Fr (WD.only w) H H' → Q (.bl true) H'
section
variable {P : Program} {w : World} {K : PySem.W.Frag} {mg : Str → Option Value} {base : Heap}
theorem ok__law_right (T : Tx K mg) : WD.Cal P w K mg base (CX0) 7 "_law_right" (He.ga K "_law_right") (sp__law_right K) [] := by
  obtain ⟨fd, F⟩ := T.F__law_right
  refine ⟨WD.fn0_of F sc__law_right (fun vs H Q E h => ?_) (fun _ _ _ _ _ _ us hl => match us, hl with | [_], _ => rfl) (fun cdv A outer s H vs Q E hr h => ?_), F.kp, T.g__law_right⟩
  · obtain ⟨w, rfl, hW, k⟩ := h
    rfl
  · obtain ⟨w, rfl, hW, k⟩ := h
    refine ⟨_, (pss_cons (ps_set (i := 1) sc__law_right.nd rfl (.inl rfl) (pe_op op_add pe_int (WD.pe_cal (ok__law_draw T) (hr.mono (by decide)) (by rfl) (pa_cons (pv 0) (pa_cons pe_int pa_nil)))))
      (pss_cons (ps_set (i := 2) sc__law_right.nd rfl (.inl rfl) (pe_ix (WD.k_ix_list K) (pe_lst (pa_cons (pv 1) (pa_cons (pe_op op_add pe_int (WD.pe_cal (ok__law_draw T) (hr.mono (by decide)) (by rfl) (pa_cons (pv 0) (pa_cons pe_int pa_nil)))) pa_nil))) (WD.pe_cal (ok__law_draw T) (hr.mono (by decide)) (by rfl) (pa_cons (pv 0) (pa_cons pe_int pa_nil))) (fun _ _ => rfl)))
      (pss_cons (ps_set (i := 3) sc__law_right.nd rfl (.inl rfl) (WD.pe_cal (ok__law_names T) (hr.mono (by decide)) (by rfl) (pa_cons (pv 0) (pa_cons (WD.pe_cal (ok__law_draw T) (hr.mono (by decide)) (by rfl) (pa_cons (pv 0) (pa_cons pe_int pa_nil))) pa_nil))))
      (pss_cons (ps_setLc (i := 4) (own := [("_law_name", 9)]) rfl sc__law_right.nd rfl rfl (sw_true rfl rfl rfl (by decide +kernel)) (WD.k_pi_list K (pv 3)) (blkOk_by (N := ["_law_well", "_law_size", "_law_more", "_law_names_here", "_law_heads", "_law_its", "_law_one", "_law_other_here", "_law_due", "_law_name", "_law_places"]) (sc := defScope s__law_right) (by decide +kernel)) (fun _ _ _ _ _ => (pg_name (i := 9) sc__law_right.nd rfl (.inl rfl))) (fun _ _ _ _ _ => pts_nil) (fun _ _ _ _ _ => (pe_tup (pa_cons (pv 9) (pa_cons (WD.pe_cal (ok__law_draw T) (hr.mono (by decide)) (by rfl) (pa_cons (pv 0) (pa_cons pe_int pa_nil))) pa_nil)))))
      (pss_cons (ps_set (i := 5) sc__law_right.nd rfl (.inl rfl) (WD.pe_cal (ok__law_other T) (hr.mono (by decide)) (by rfl) (pa_cons (pv 0) (pa_cons (pv 4) pa_nil))))
      (Evl.pss_cut (ps_if (pt_cmpR op_ne (pe_callB (WD.k_call_len_seq K) (by rfl) T.z_len PySem.boot_len (pa_cons (pe_lc (own := [("_law_name", 9), ("_law_places", 10)]) rfl sc__law_right.nd (WD.k_pi_list K (pv 5)) (blkOk_by (N := ["_law_well", "_law_size", "_law_more", "_law_names_here", "_law_heads", "_law_its", "_law_one", "_law_other_here", "_law_due", "_law_name", "_law_places"]) (sc := defScope s__law_right) (by decide +kernel)) (fun _ _ _ _ _ => (WD.k_pg_tup K (n := 2) rfl (pgs_cons (pg_name (i := 9) sc__law_right.nd rfl (.inl rfl)) (pgs_cons (pg_name (i := 10) sc__law_right.nd rfl (.inl rfl)) pgs_nil)))) (fun _ _ _ _ _ => pts_nil) (fun _ _ _ _ _ => (pv 9))) pa_nil)) (pe_callB call_lenD (by rfl) T.z_len PySem.boot_len (pa_cons (pe_callTy (WD.k_call_dictP K rfl) (by rfl) T.z_dict WD.bt_dict (pa_cons (pv 5) pa_nil)) pa_nil)) (nomark _))
        (pss_one (ps_set (i := 5) sc__law_right.nd rfl (.inl rfl) (pv 4)))
        pss_nil)
      (pss_cons (ps_set (i := 6) sc__law_right.nd rfl (.inl rfl) (WD.pe_mak (mk_House T) (hr.mono (by decide)) (by rfl) (pa_cons (pv 1) (pa_cons (WD.pe_cal (ok__law_deeds T) (hr.mono (by decide)) (by rfl) (pa_cons (pv 0) (pa_cons (pv 1) (pa_cons (pv 4) pa_nil)))) pa_nil))))
      (pss_cons (ps_set (i := 7) sc__law_right.nd rfl (.inl rfl) (WD.pe_mak (mk_House T) (hr.mono (by decide)) (by rfl) (pa_cons (pv 2) (pa_cons (WD.pe_cal (ok__law_deeds T) (hr.mono (by decide)) (by rfl) (pa_cons (pv 0) (pa_cons (pv 2) (pa_cons (pv 5) pa_nil)))) pa_nil))))
      (pss_cons (ps_set (i := 8) sc__law_right.nd rfl (.inl rfl) (pe_cmpR (WD.k_op_eqD K hr.units) (pv 4) (pv 5) (nomark _)))
      (pss_cons (ps_if (PW.pt (pw_or (pt_cmpR op_ne (WD.pe_cal (ok_fits T) (hr.mono (by decide)) (by rfl) (pa_cons (pv 6) (pa_cons (pv 7) pa_nil))) (pv 8) (nomark _)) (pw_or (pt_cmpR op_ne (WD.pe_cal (ok_fits T) (hr.mono (by decide)) (by rfl) (pa_cons (pv 7) (pa_cons (pv 6) pa_nil))) (pv 8) (nomark _)) (pw_or1 (pt_not (pt_val (pe_callB (WD.k_call_isi K) (by rfl) T.z_isinstance WD.bt_isinstance (pa_cons (WD.pe_cal (ok_fits T) (hr.mono (by decide)) (by rfl) (pa_cons (pv 6) (pa_cons (pv 7) pa_nil))) (pa_cons (pe_bltn (v := .ty "bool") (by rfl) T.z_bool WD.bt_bool rfl) pa_nil)))))))))
        (pss_one (ps_ret pe_bl))
        pss_nil)
      (pss_one (ps_ret (pe_and (pe_cmpR op_is_bl (WD.pe_cal (ok_fits T) (hr.mono (by decide)) (by rfl) (pa_cons (pv 6) (pa_cons (pv 6) pa_nil))) pe_bl (nomark _)) (pe_one (pe_cmpR op_is_bl (WD.pe_cal (ok_fits T) (hr.mono (by decide)) (by rfl) (pa_cons (pv 7) (pa_cons (pv 7) pa_nil))) pe_bl (nomark _)))))))))))))))), ?_⟩
    have hSz := sizeLine_eq
    have f0w : ∀ {H H' : Hp}, WD.Fr WD.M0 H H' → WD.Fr (WD.only w) H H' := fun f => f.mono fun x e => e.elim
    refine ⟨_, rfl, w, 9, rfl, hW, by decide, by decide, fun r1 H1 r10 r11 f1 hW1 _ => ⟨_, _, rfl, rfl, ?_⟩⟩
    refine ⟨_, rfl, _, rfl, w, 9, rfl, hW1, by decide, by decide, fun r2 H2 r20 r21 f2 hW2 _ => ⟨_, _, rfl, rfl, by show 2 ≤ sizeLine; decide, fun l1 nl1 => ?_⟩⟩
    have g2 : WD.Fr WD.M0 H2 (upd H2 l1 (.lst [.int (1 + r1), .int (1 + r2)])) := WD.Fr.new nl1
    refine ⟨_, rfl, w, 2, rfl, hW2.upd nl1, by decide, by decide, fun r3 H3 r30 r31 f3 hW3 _ => ?_⟩
    have nl1w : l1 ≠ w := fun z => hW2.ne (by rw [← z]; exact nl1)
    have hl3 : H3 l1 = some (.lst ([1 + r1, 1 + r2].map V.int)) := f3.keep _ _ nl1w upd_same
    have F3 := (f1.trans f2).trans ((f0w g2).trans f3)
    obtain ⟨n, hn, n0, n1⟩ : ∃ n : Nat, 1 + r1 = (n : Int) ∧ 1 ≤ n ∧ n ≤ 9 := ⟨(1 + r1).toNat, by omega, by omega, by omega⟩
    have hix : r3.toNat < [1 + r1, 1 + r2].length := by show r3.toNat < 2; omega
    obtain ⟨m, hm, m0, m1⟩ : ∃ m : Nat, [1 + r1, 1 + r2][r3.toNat]'hix = (m : Int) ∧ 1 ≤ m ∧ m ≤ 9 := by
      have hh : r3.toNat = 0 ∨ r3.toNat = 1 := by omega
      rcases hh with e | e
      · exact ⟨n, by simp only [e]; exact hn, n0, n1⟩
      · exact ⟨(1 + r2).toNat, by simp only [e]; show 1 + r2 = _; omega, by omega, by omega⟩
    refine ⟨l1, _, r3, .int m, rfl, rfl, SqL.of hl3, by rw [WD.atI_int r30 hix, hm], ?_⟩
    refine ⟨_, rfl, _, rfl, w, 7, rfl, hW3, by decide, by decide, fun r4 H4 r40 r41 f4 hW4 _ => ?_⟩
    refine ⟨WD.only w, w, r4, rfl, rfl, hW4.in_, hW4, r40, by omega, fun v5 H5 nms f5 hW5 hv5 hl5 hn5 hnd5 => ?_⟩
    obtain ⟨a5, vs5, rfl, na5, ha5, al5⟩ := hv5
    have hlen5 := al5.len
    refine ⟨_, rfl, a5, rfl, ⟨_, SqL.of ha5⟩, ?_⟩
    refine WD.lc_gen (R := WD.rP WD.rS WD.rI) (walk_list (xs := vs5)) (M := WD.only w) (Mf := WD.only w) (J := WD.Well w) (fun _ z => z) (WD.jokW rfl) (by omega) hW5.in_ hW5 (fun i o => ∃ z, o = some z ∧ nms[i]? = some z.1 ∧ 0 ≤ z.2 ∧ z.2 < 3) (fun _ H' _ f => SqL.of (f.keep _ _ na5 ha5)) (fun i M' H' hi t fr mi sb hWi Ky Kn ky kn x H'' hy => ?_) (fun D l H6 hD ll lP f6 hW6 hl6 => ?_)
    · obtain ⟨rfl, hx⟩ := hy
      obtain ⟨z, ez, rfl, hz⟩ := al5.get hx
      refine ⟨rfl, _, rfl, _, rfl, w, 3, rfl, hWi, by decide, by decide, fun r H7 r0 r1 f7 hW7 _ => ⟨by show 2 ≤ sizeLine; decide, fun p np => ?_⟩⟩
      exact ky _ _ (z, r) ⟨_, rfl, ez, r0, r1⟩ (f7.trans (WD.Fr.new np)) (hW7.upd np) (WD.pair1 (R := WD.rS) (S := WD.rI) (mi.to f7) np ⟨rfl, hz⟩ rfl)
    obtain ⟨hhl, hhP⟩ := WD.all_of (P := fun i z => nms[i]? = some z.1 ∧ 0 ≤ z.2 ∧ z.2 < 3) ll lP
    generalize l.filterMap id = heads at hl6 hhl hhP
    have hhn : heads.map (·.1) = nms := by
      refine List.ext_getElem? fun i => ?_
      rw [List.getElem?_map]
      by_cases hi : i < heads.length
      · rw [List.getElem?_eq_getElem hi]
        exact (hhP i _ (List.getElem?_eq_getElem hi)).1.symm
      · rw [List.getElem?_eq_none (by omega), List.getElem?_eq_none (by omega)]; rfl
    have hhok : ∀ z ∈ heads, headOk 2 z := fun z hz => by
      obtain ⟨i, hi, e⟩ := List.mem_iff_getElem.mp hz
      obtain ⟨q1, q2, q3⟩ := hhP i z (by rw [← e]; exact List.getElem?_eq_getElem hi)
      exact ⟨hn5 _ (List.mem_of_getElem? q1), q2, by omega⟩
    have hh6 : heads.length ≤ 6 := by omega
    refine ⟨_, rfl, _, rfl, WD.only w, w, _, heads, rfl, rfl, hW6.in_, hW6, hl6, hh6, hhok, fun v7 H7 is f7 hW7 hv7 hi6 hiok => ?_⟩
    have hl7 : WD.rL (WD.rP WD.rS WD.rI) (WD.only w) H7 (.ref D) heads := WD.Rep.st f7 hl6
    have F7 := F3.trans (f4.trans (f5.trans (f6.trans f7)))
    refine ⟨fun σ' H' => ∃ v is, σ' = [some (.ref w), some (.int (1 + r1)), some (.int m), some (.ref a5), some (.ref D), some v, none, none, none, none, none] ∧ WD.Fr (WD.only w) H7 H' ∧ WD.Well w H' ∧ WD.rL (WD.rP WD.rS WD.rI) (WD.only w) H' v is ∧ is.length ≤ 6 ∧ (∀ z ∈ is, headOk 2 z) ∧ (is.map (·.1)).Nodup, ?_, ?_⟩
    · obtain ⟨a7, vs7, rfl, na7, ha7, al7⟩ := id hv7
      have hlen7 := al7.len
      refine ⟨_, rfl, a7, rfl, ⟨_, SqL.of ha7⟩, ?_⟩
      refine WD.lc_map (R := WD.rS) (walk_list (xs := vs7)) (fun i => (is.getD i default).1) hW7.in_ (by omega) (fun H' f => SqL.of (f.keep _ _ (fun z => z) ha7)) (fun i M' H' hi t fr mi Ky ky x H'' hy => ?_) (fun D8 H8 hD8 f8 hl8 => ?_)
      · obtain ⟨rfl, hx⟩ := hy
        obtain ⟨z, ez, rz⟩ := al7.get hx
        obtain ⟨b, v1, v2, rfl, nb, hb, ⟨rfl, hs1⟩, rfl⟩ := t rz
        refine ⟨b, _, rfl, SqT.of hb, rfl, _, _, rfl, _, _, rfl, rfl, rfl, _, rfl, ky _ _ (WD.Fr.refl _) ?_⟩
        have e : is.getD i default = z := by rw [List.getD_eq_getElem?_getD, ez]; rfl
        rw [e]
        exact ⟨rfl, hs1⟩
      obtain ⟨D8', vs8, e8, nD8, hD8', al8⟩ := hl8
      cases e8
      have hlen8 := al8.len
      rw [List.length_map, List.length_range] at hlen8
      refine ⟨D8, _, rfl, .inl (SqL.of hD8'), ?_⟩
      have ha8 := f8.keep _ _ (fun z => z) ha7
      have al78 : WD.All2 (WD.rP WD.rS WD.rI (WD.only w) H8) vs7 is := al7.imp fun _ _ z => WD.Rep.st (f0w f8) z
      obtain ⟨ps, eps, hps⟩ := WD.pairs_dict (K := K) al78
      refine ⟨_, rfl, a7, ps, _, rfl, SqL.of (by rw [eps] at ha8; exact ha8), hps, fun d nd => ?_⟩
      have fd8 : WD.Fr WD.M0 H8 (upd H8 d (.dK (mergeK [] (is.map fun z => ((Sum.inr z.1 : Key), V.int z.2))))) := WD.Fr.new nd
      have f88 := f8.trans fd8
      refine ⟨d, _, rfl, upd_same, rfl, _, rfl, WD.iteN (fun hne => ?_) (fun heq => ?_)⟩
      · refine ⟨_, rfl, ?_⟩
        refine ⟨_, heads, rfl, f0w f88, hW7.fr (M := WD.M0) (fun z => z) f88, WD.Rep.st (f0w f88) hl7, hh6, hhok, ?_⟩
        rw [hhn]; exact hnd5
      · have heq2 : (vs8.length : Int) = ((mergeK [] (is.map fun z => ((Sum.inr z.1 : Key), V.int z.2))).length : Int) := V.int.inj heq
        refine ⟨_, is, rfl, f0w f88, hW7.fr (M := WD.M0) (fun z => z) f88, WD.Rep.st (f0w f88) hv7, hi6, hiok, ?_⟩
        have hmg := (WD.merge_len (is.map fun z => ((Sum.inr z.1 : Key), V.int z.2)) []).2 (by
          rw [List.length_map]
          show _ = 0 + is.length
          omega)
        have hmap : (is.map fun z => ((Sum.inr z.1 : Key), V.int z.2)).map (·.1) = (is.map (·.1)).map (Sum.inr : Str → Key) := by rw [List.map_map, List.map_map]; rfl
        rw [hmap] at hmg
        exact WD.nodup_of_map hmg.1
    · rintro σ' H8 ⟨v8, is8, rfl, f8, hW8, hv8, hi8, hiok8, hnd8⟩
      have hl8 : WD.rL (WD.rP WD.rS WD.rI) (WD.only w) H8 (.ref D) heads := WD.Rep.st f8 hl7
      have up3 : ∀ {z : Str × Int}, headOk 2 z → headOk 3 z := fun h => ⟨h.1, h.2.1, by have := h.2.2; omega⟩
      rw [hn]
      refine ⟨_, rfl, _, rfl, _, rfl, _, rfl, WD.only w, w, n, _, heads, rfl, rfl, hW8.in_, hW8, n0, n1, hl8, hh6, fun z hz => up3 (hhok z hz), fun v9 H9 ds9 f9 hW9 hv9 hd9 hok9 => ?_⟩
      have hk9 : WD.HsOk ((n : Int), ds9) := ⟨by show (1 : Int) ≤ n; omega, by show (n : Int) ≤ 9; omega, by
          have := congrArg List.length hd9
          rw [List.length_map] at this
          show ds9.length ≤ 6
          omega, hok9, by
          have e : ds9.map (·.1) = heads.map (·.1) := by rw [← hd9, List.map_map]; rfl
          show (ds9.map (·.1)).Nodup
          rw [e, hhn]; exact hnd5⟩
      refine WD.make_house hW9.in_ hv9 hk9 fun a10 H10 na10 f10 hr10 => ?_
      have hW10 := hW9.fr (M := WD.M0) (fun z => z) f10
      have hv10 : WD.rL (WD.rP WD.rS WD.rI) (WD.only w) H10 v8 is8 := WD.Rep.st (f9.trans (f0w f10)) hv8
      refine ⟨_, rfl, _, rfl, _, rfl, _, rfl, WD.only w, w, m, _, is8, rfl, rfl, hW10.in_, hW10, m0, m1, hv10, hi8, fun z hz => up3 (hiok8 z hz), fun v11 H11 ds11 f11 hW11 hv11 hd11 hok11 => ?_⟩
      have hk11 : WD.HsOk ((m : Int), ds11) := ⟨by show (1 : Int) ≤ m; omega, by show (m : Int) ≤ 9; omega, by
          have := congrArg List.length hd11
          rw [List.length_map] at this
          show ds11.length ≤ 6
          omega, hok11, by
          have e : ds11.map (·.1) = is8.map (·.1) := by rw [← hd11, List.map_map]; rfl
          show (ds11.map (·.1)).Nodup
          rw [e]; exact hnd8⟩
      refine WD.make_house hW11.in_ hv11 hk11 fun a12 H12 na12 f12 hr12 => ?_
      have F12 := f9.trans ((f0w f10).trans (f11.trans (f0w f12)))
      have hh12 : WD.rL (WD.rP WD.rS WD.rI) (WD.only w) H12 (.ref D) heads := WD.Rep.st F12 hl8
      have hi12 : WD.rL (WD.rP WD.rS WD.rI) (WD.only w) H12 v8 is8 := WD.Rep.st F12 hv8
      have hW12 := hW11.fr (M := WD.M0) (fun z => z) f12
      have hr10' : WD.rH (He.ga K "House") (WD.only w) H12 (.ref a10) ((n : Int), ds9) := WD.Rep.st (f11.trans (f0w f12)) hr10
      refine ⟨_, rfl, _, rfl, ?_⟩
      refine WD.eqD_of (WD.encL (WD.encP WD.encS WD.encI)) hh12 hi12 ?_
      have FA := F7.trans (f8.trans F12)
      have l9 : ds9.length ≤ 1000 := by have := hk9.few; dsimp only at this; omega
      have l11 : ds11.length ≤ 1000 := by have := hk11.few; dsimp only at this; omega
      have ef : ∀ (H : Hp), decide (ds9.map WD.hdOf = ds11.map WD.hdOf) = decide (heads = is8) := fun _ => by rw [hd9, hd11]
      have eg : decide (ds11.map WD.hdOf = ds9.map WD.hdOf) = decide (heads = is8) := by
        rw [hd9, hd11]
        exact decide_eq_decide.mpr ⟨Eq.symm, Eq.symm⟩
      have st : ∀ {H H' : Hp} {v : V} {h : WD.Hs}, WD.Fr WD.M0 H H' → WD.rH (He.ga K "House") (WD.only w) H v h → WD.rH (He.ga K "House") (WD.only w) H' v h := fun f r => WD.Rep.st (f0w f) r
      refine ⟨_, rfl, _, rfl, WD.only w, _, _, _, _, rfl, hr10', hr12, hW12.in_, l9, l11, fun H13 f13 => ⟨_, rfl, rfl, _, rfl, ?_⟩⟩
      dsimp only
      rw [ef H13]
      refine WD.iteN (fun z => absurd rfl z) (fun _ => ?_)
      have hM13 := hW12.in_.to f13
      refine ⟨_, rfl, _, rfl, WD.only w, _, _, _, _, rfl, st f13 hr12, st f13 hr10', hM13, l11, l9, fun H14 f14 => ⟨_, rfl, rfl, _, rfl, ?_⟩⟩
      dsimp only
      rw [eg]
      refine WD.iteN (fun z => absurd rfl z) (fun _ => ?_)
      have f34 := f13.trans f14
      refine ⟨_, rfl, _, rfl, WD.only w, _, _, _, _, rfl, st f34 hr10', st f34 hr12, hM13.to f14, l9, l11, fun H15 f15 => ?_⟩
      refine ⟨_, _, _, _, true, rfl, .ty "bool", .base (.bl _), kit_ty (by decide +kernel), true, rfl, iteF ?_⟩
      have f35 := f34.trans f15
      refine ⟨_, rfl, _, rfl, WD.only w, _, _, _, _, rfl, st f35 hr10', st f35 hr10', (hM13.to f14).to f15, l9, l9, fun H16 f16 => ⟨_, _, rfl, rfl, _, rfl, ?_⟩⟩
      rw [decide_eq_true (rfl : ds9.map WD.hdOf = ds9.map WD.hdOf)]
      refine iteT ?_
      have f36 := f35.trans f16
      refine ⟨_, rfl, _, rfl, WD.only w, _, _, _, _, rfl, st f36 hr12, st f36 hr12, ((hM13.to f14).to f15).to f16, l11, l11, fun H17 f17 => ⟨_, _, rfl, rfl, ?_⟩⟩
      rw [decide_eq_true (rfl : ds11.map WD.hdOf = ds11.map WD.hdOf)]
      exact k _ (FA.trans (f0w (f36.trans f17)))
end
def sp_law (K : PySem.W.Frag) : Sp := fun vs H Q _ => ∃ (a : Addr) (ns : List Int), vs = [.ref a] ∧ SqL K H a (ns.map V.int) ∧ ns.length ≤ 63 ∧ ∀ H', Q (.bl true) H'
theorem law_ask {K : PySem.W.Frag} {H : Hp} {a : Addr} {ns : List Int} (hl : ns.length ≤ 63) (hS : SqL K H a (ns.map V.int)) : sp_law K [.ref a] H (fun v _ => v = .bl true) (fun _ _ _ => False) := ⟨a, ns, rfl, hS, hl, fun _ => rfl⟩
section
variable {P : Program} {w : World} {K : PySem.W.Frag} {mg : Str → Option Value} {base : Heap}
theorem law_fn {fd : FuncData} (T : Tx K mg) (F : FunD K "law" "law" (defArgs s_law) (defBody s_law) (defScope s_law) [] [] (He.ga K "law") fd) : FnOk P w K mg base CX0 8 (He.ga K "law") fd ["_law_script"] (sp_law K) := by
  refine F.ok sc_law (fun vs H Q E h => ?_) (fun cdv A outer s H vs Q E hr h => ?_)
  · obtain ⟨a, ns, rfl, hS, hl, k⟩ := h
    rfl
  · obtain ⟨a, ns, rfl, hS, hl, k⟩ := h
    refine ⟨_, PSs.nox (pss_cons (ps_for PassesOwn.never rfl (WD.k_pi_enum K (by rfl) T.z_enumerate (pa_cons (pe_slice (WD.k_sl_list K) (pe_op (WD.k_op_catL K) (pv 0) (pe_lst (pa_cons pe_int pa_nil))) po_none (po_some pe_int)) pa_nil)) (WD.k_pg_tup K (n := 2) rfl (pgs_cons (pg_name (i := 1) sc_law.nd rfl (.inl rfl)) (pgs_cons (pg_name (i := 2) sc_law.nd rfl (.inl rfl)) pgs_nil)))
        (pss_one (ps_if (pt_not (pt_val (WD.pe_cal (ok__law_right T) (hr.mono (by decide)) (by rfl) (pa_cons (pe_lst (pa_cons (pe_op op_mul (pv 2) (pe_callTy call_int1 (by rfl) T.z_int WD.bt_int (pa_cons (pe_cmpR op_ge (pv 2) (pe_op op_pow pe_int pe_int) (nomark _)) pa_nil))) (pa_cons (pe_op op_add (pe_op op_mod (pv 2) pe_int) (pe_op op_mul pe_int (pv 1))) (pa_cons pe_int pa_nil)))) pa_nil))))
        (pss_one (ps_ret pe_bl))
        pss_nil)))
      (pss_one (ps_ret (pe_cmpR op_is_bl (WD.pe_cal (ok_fits T) (hr.mono (by decide)) (by rfl) (pa_cons (WD.pe_mak (mk_House T) (hr.mono (by decide)) (by rfl) (pa_cons pe_int (pa_cons (pe_lst pa_nil) pa_nil))) (pa_cons (WD.pe_mak (mk_House T) (hr.mono (by decide)) (by rfl) (pa_cons pe_int (pa_cons (pe_lst pa_nil) pa_nil))) pa_nil))) pe_bl (nomark _))))), ?_⟩
    have hSz := sizeLine_eq
    refine ⟨_, rfl, by show 1 ≤ sizeLine; decide, fun l1 nl1 => ?_⟩
    have f1 : WD.Fr WD.M0 H (upd H l1 (.lst [.int 0])) := WD.Fr.new nl1
    have hS1 : SqL K (upd H l1 (.lst [.int 0])) a (ns.map V.int) := Same.seq (fun b o e => f1.keep b o (fun z => z) e) hS
    refine ⟨a, l1, _, _, rfl, rfl, hS1, SqL.of upd_same, by rw [List.length_map]; show _ + 1 ≤ _; omega, fun l2 nl2 => ?_⟩
    refine ⟨8, rfl, l2, _, rfl, SqL.of upd_same, fun l3 nl3 => ?_⟩
    obtain ⟨cs, hcs⟩ : ∃ cs : List Int, cutV (ns.map V.int ++ [.int 0]) none (some 8) = cs.map V.int := by
      refine ⟨WD.cutL (ns ++ [0]) none (some 8), ?_⟩
      have e : ns.map V.int ++ [.int 0] = (ns ++ [0]).map V.int := by rw [List.map_append]; rfl
      rw [e]
      exact ((WD.All2.of_map (R := fun v i => v = V.int i) (fun _ => rfl) (ns ++ [0])).cut none (some 8)).eq_map fun _ _ z => z
    rw [hcs]
    generalize upd (upd H l1 (.lst [.int 0])) l2 (.lst (ns.map V.int ++ [.int 0])) = Hx at nl3
    refine ⟨l3, _, rfl, SqL.of upd_same, ?_⟩
    refine for_it (walk_enum (xs := cs.map V.int)) (fun i σ H' => ∃ y z, σ = [some (.ref a), y, z] ∧ H' l3 = some (.lst (cs.map V.int))) ⟨none, none, rfl, upd_same⟩ (fun i σ H' _ ⟨y, z, _, h⟩ => SqL.of h) (fun i v σ H1 H2 hi pp hy => ?_) (fun σ H1 pp => ?_)
    · obtain ⟨y, z, rfl, h3⟩ := pp
      obtain ⟨t, v1, v2, rfl, nt, rfl, e1, e2⟩ := hy
      cases e1
      have e2' : (cs.map V.int)[i]? = some v2 := e2
      rw [List.getElem?_map] at e2'
      obtain ⟨c, ec, rfl⟩ := Option.map_eq_some_iff.mp e2'
      refine ⟨t, _, rfl, SqT.of upd_same, rfl, _, _, rfl, _, _, rfl, rfl, ?_⟩
      have hcond : (0 : Int) < 2147483647 := by decide
      refine ⟨_, rfl, _, rfl, _, _, rfl, rfl, ⟨by decide, by decide, by decide⟩, _, _, rfl, rfl, .inr ⟨_, rfl, ?_⟩⟩
      refine ⟨_, _, rfl, rfl, .inr (by split <;> exact ⟨by decide, by decide⟩), ?_⟩
      refine ⟨_, rfl, _, _, rfl, rfl, hcond, _, rfl, _, _, rfl, rfl, .inl ⟨by decide, by decide⟩, _, _, rfl, rfl, by show 3 ≤ sizeLine; decide, fun l4 nl4 => ?_⟩
      refine ⟨l4, rfl, ⟨_, _, _, upd_same⟩, fun H4 f4 => ⟨true, rfl, iteF ?_⟩⟩
      refine ⟨_, _, rfl, f4.keep _ _ (fun z => ?_) ?_⟩
      · rw [← z] at nl4
        rw [upd_ne (ne_of_none h3 nt), h3] at nl4
        cases nl4
      · have h3t : (upd H1 t (.tup [.int (i : Nat), .int c])) l3 = some (.lst (cs.map V.int)) := by rw [upd_ne (ne_of_none h3 nt)]; exact h3
        rw [upd_ne (ne_of_none h3t nl4)]
        exact h3t
    · obtain ⟨y, z, rfl, h3⟩ := pp
      have hk1 : ∀ n : Int, 1 ≤ n → n ≤ 9 → WD.HsOk (n, []) := fun n h1 h2 => ⟨h1, h2, by show 0 ≤ 6; omega, (fun d h => by cases h), List.nodup_nil⟩
      refine ⟨by decide, fun e1 ne1 => ?_⟩
      refine WD.make_house (M := WD.M0) (ds := []) WD.MIn.zero ⟨e1, [], rfl, fun z => z, upd_same, trivial⟩ (hk1 1 (by decide) (by decide)) fun a5 H5 na5 f5 hr5 => ?_
      refine ⟨by decide, fun e2 ne2 => ?_⟩
      refine WD.make_house (M := WD.M0) (ds := []) WD.MIn.zero ⟨e2, [], rfl, fun z => z, upd_same, trivial⟩ (hk1 9 (by decide) (by decide)) fun a6 H6 na6 f6 hr6 => ?_
      have hr5' : WD.rH (He.ga K "House") WD.M0 H6 (.ref a5) (1, []) := WD.Rep.st ((WD.Fr.new ne2).trans f6) hr5
      refine ⟨WD.M0, _, _, _, _, rfl, hr5', hr6, WD.MIn.zero, Nat.zero_le _, Nat.zero_le _, fun H7 f7 => ⟨_, _, rfl, rfl, ?_⟩⟩
      exact k _
end
end K04
/-! ### the head and the end -/
namespace K04
open PySem PySem.Spec PyProof.Rows L2
abbrev R : PySem.W.OpenRow := PySem.W.OpenLaw.row PySem.Challenge.rw_wishdeeds_k04_houses_that_fit
abbrev hk : PySem.W.Hook := He.hookD 5 fa fn
def ob (s : PySem.W.SharedT) : He.AlD := He.obsDG 5 fa fn (HandSHeadRun.getT s)
theorem ob_eq (s : PySem.W.SharedT) : ob s = hk.obs s.abs := He.obsDG_eq (HandSHeadRun.getT_eq s)
def loose : List PySem.Str := (["_wall", "WishError", "NoHouse", "NoName", "NoRow", "MOST_THINGS", "MOST_DEEDS", "MOST_PLACES", "SMALL", "is_whole", "is_thing", "is_name", "is_row", "cells", "spot_of", "is_deed", "House", "fits", "_law_draw", "_law_names", "_law_all", "_law_table", "_law_deeds", "_law_other", "_law_right"] : List PySem.Str)
theorem run (w : World) : HandSHeadRun.RunEq R (PySem.W.view R.prog [28]) hk ob 6000 loose w := by
  intro os
  kernel_rfl
theorem facts {P : Program} {w : World} {K : PySem.W.Frag} {h : Heap} {mg : Str → Option Value} {f : Addr} (X : K.In h) (G : h.Ns mainGlobals mg) (hfa : mg ("law" : Str) = some (.ref f)) (c : He.SaysD fa fn K) :
    ∃ fd : FuncData, (∀ (s : Shared) (v : Value), BindsTo s fd ⟨[v], []⟩ [("_law_script", v)]) ∧ ∀ base : Heap, K.In base → base.Ns mainGlobals mg → FnOk P w K mg base CX0 8 f fd ["_law_script"] (sp_law K) := by
  have T := mkTx X G c
  obtain ⟨fd, F⟩ := T.F_law
  have e := hfa.symm.trans T.g_law
  cases e
  have b := FunD.bindsA (ps := ["_law_script"]) F fun _ _ _ _ _ _ us hl => match us, hl with | [_], _ => rfl
  exact ⟨fd, fun s v => b s [v] rfl, fun base _ _ => law_fn T F⟩
end K04
open PySem PySem.W PySem.Calls PyProof.Rows
set_option maxHeartbeats 0 in
theorem PySem.Challenge.cw_wishdeeds_k04_houses_that_fit_holds : PySem.Challenge.rw_wishdeeds_k04_houses_that_fit.Holds := by
  w_on; o_law
  refine HandSHeadRun.head_any (r := OpenLaw.row PySem.Challenge.rw_wishdeeds_k04_houses_that_fit) (q := view (OpenLaw.row PySem.Challenge.rw_wishdeeds_k04_houses_that_fit).prog [28]) (H := K04.hk) (ob := K04.ob) (M := 6000) (loose := K04.loose) (d := HandSHeadRun.topDef (OpenLaw.row PySem.Challenge.rw_wishdeeds_k04_houses_that_fit).prog 28) (kwd := []) K04.ob_eq
    (by kernel_rfl) (fun s => by kernel_rfl) K04.run (by kernel_rfl) (by kernel_rfl) (by kernel_rfl) (by rfl) (by first | assumption | decide +kernel) (by decide +kernel) ⟨rfl, rfl, rfl, rfl, rfl, by decide +kernel⟩ ?hw ?hc
  case hw => w_witness2
  case hc =>
    refine L2.walk_ofE (l := PySem.Challenge.rw_wishdeeds_k04_houses_that_fit) (n := 63) (k := 8) (x := "_law_script") (CX := L2.CX0) rfl (by decide) (by kernel_rfl) ⟨rfl, by decide, by decide⟩ ?F (fun _ _ _ _ z => z)
    intro w mg fa h Y G hmg0
    obtain ⟨K, KX, c⟩ := Y
    have hmg : mg ("law" : PySem.Str) = some (.ref fa) := by
      have e : (HandSHeadRun.topDef (OpenLaw.row PySem.Challenge.rw_wishdeeds_k04_houses_that_fit).prog 28).name = ("law" : PySem.Str) := by kernel_rfl
      rw [← e]
      exact hmg0
    obtain ⟨fd, hb, hF⟩ := K04.facts (P := (PySem.Challenge.rw_wishdeeds_k04_houses_that_fit).prog) (w := w) KX G hmg c
    exact ⟨K, fd, K04.sp_law K, KX, hb, fun H a ns hl _ hS => K04.law_ask hl hS, hF⟩
