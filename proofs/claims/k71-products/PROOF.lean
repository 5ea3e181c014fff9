import PyProof.Rows.All
import Wide.All
import OpenK.AllK
import Wide.FinOn
import KE.KStateDown
import KE.KTupSum
import KE.DataMinMax
import HandS.ForMost
import HandS.IsInst
import HandS.Walk
import HandS.Conv
import HandS.Zip
import HandS.TupLe
import HandS.TupAny
import HandS.Evl
import HandS.Deep
import HandS.Defaults
import HandS.HeadHook1
import HandS.HeadHook2
import HandS.Head0
import HandS.Head1
import HandS.Head2
import HandS.HeadEnd
import HandS.WordsExc
import HandS.Steps
import KE.KDictList
import HandS.ListItems
import HandS.Codes
import KE.KExcIs
import HandS.ExcInit
import HandS.ExcIs
import HandS.ExcField
import HandS.TryMany
import KE.DataFind
import HandS.Style
import KE.GoesMore
import KE.GoesZip
import HandS.TupMul
import KE.KDictPairs
import HandS.Dict
import HandS.EndTab
import HandS.HeadWalk
import HandS.Lambda
import HandS.SortInts
import HandS.SortRule
import HandS.WordsDict
import HandS.TupLen
import HandS.More
import HandS.OwnEq
import HandS.DictEq
import HandS.CallSlots
import HandS.MakeKw
import PySem.Challenge.RW_wishdeeds_k71_products
set_option Elab.async false
set_option linter.all false
set_option maxRecDepth 100000
set_option maxHeartbeats 4000000
namespace WD
open PySem PySem.Spec PyProof.Rows L2

/-! ### frames -/
abbrev MS := Addr → Prop
structure Fr (M : MS) (H H' : Hp) : Prop where
  keep : ∀ a o, ¬ M a → H a = some o → H' a = some o
  dom : ∀ a, H' a = none → H a = none
abbrev M0 : MS := fun _ => False
abbrev plus (M : MS) (D : Addr) : MS := fun x => M x ∨ x = D
theorem Fr.refl {M : MS} (H : Hp) : Fr M H H := ⟨fun _ _ _ h => h, fun _ h => h⟩
theorem Fr.trans {M : MS} {H H1 H2 : Hp} (a : Fr M H H1) (b : Fr M H1 H2) : Fr M H H2 :=
  ⟨fun x o n h => b.keep x o n (a.keep x o n h), fun x h => a.dom x (b.dom x h)⟩
theorem Fr.mono {M M' : MS} {H H' : Hp} (a : Fr M H H') (s : ∀ x, M x → M' x) : Fr M' H H' :=
  ⟨fun x o n h => a.keep x o (fun z => n (s x z)) h, a.dom⟩
theorem upd_none {H : Hp} {p a : Addr} {o : HO} (h : upd H p o a = none) : a ≠ p ∧ H a = none := by
  by_cases e : a = p
  · subst e; rw [upd_same] at h; cases h
  · rw [upd_ne e] at h; exact ⟨e, h⟩
theorem Fr.new {M : MS} {H : Hp} {p : Addr} {o : HO} (h : H p = none) : Fr M H (upd H p o) :=
  ⟨fun a u _ e => by rw [upd_ne (ne_of_none e h)]; exact e, fun a e => (upd_none e).2⟩
theorem Fr.mutNew {M : MS} {H H' : Hp} {p : Addr} {o : HO} (f : Fr M H H') (h : H p = none) : Fr M H (upd H' p o) :=
  ⟨fun a u n e => by rw [upd_ne (ne_of_none e h)]; exact f.keep a u n e, fun a e => f.dom a (upd_none e).2⟩
theorem Fr.mut {M : MS} {H : Hp} {p : Addr} {o : HO} (h : M p) : Fr M H (upd H p o) :=
  ⟨fun a u n e => by rw [upd_ne (fun z : a = p => n (by rw [z]; exact h))]; exact e, fun a e => (upd_none e).2⟩
def MIn (M : MS) (H : Hp) : Prop := ∀ a, M a → H a ≠ none
theorem MIn.to {M M' : MS} {H H' : Hp} (m : MIn M H) (f : Fr M' H H') : MIn M H' := fun a h z => m a h (f.dom a z)
theorem MIn.no {M : MS} {H : Hp} {p : Addr} (m : MIn M H) (h : H p = none) : ¬ M p := fun z => m p z h
theorem MIn.plus {M : MS} {H : Hp} {D : Addr} {o : HO} (m : MIn M H) (h : H D = some o) : MIn (plus M D) H := fun a z => z.elim (m a) (fun q => by rw [q, h]; exact fun e => nomatch e)
theorem MIn.zero {H : Hp} : MIn M0 H := fun _ h => h.elim

/-! ### relations: a value in a heap and the datum that it is -/
abbrev Rl (α : Type) := MS → Hp → V → α → Prop
class Rep {α : Type} (R : Rl α) : Prop where
  st : ∀ {M : MS} {H H' : Hp} {v : V} {a : α}, Fr M H H' → R M H v a → R M H' v a
  wk : ∀ {M M' : MS} {H : Hp} {v : V} {a : α}, (∀ x, M x → M' x) → R M' H v a → R M H v a
  ad : ∀ {M : MS} {H : Hp} {v : V} {a : α} {D : Addr}, H D = none → R M H v a → R (plus M D) H v a
/-- what was known there is known here -/
def Tr (M : MS) (H : Hp) (M' : MS) (H' : Hp) : Prop := ∀ {α : Type} {R : Rl α} [Rep R] {v : V} {a : α}, R M H v a → R M' H' v a
theorem Fr.tr {M : MS} {H H' : Hp} (f : Fr M H H') : Tr M H M H' := fun h => Rep.st f h
theorem Tr.refl {M : MS} {H : Hp} : Tr M H M H := fun h => h
theorem Tr.trans {M M1 M2 : MS} {H H1 H2 : Hp} (a : Tr M H M1 H1) (b : Tr M1 H1 M2 H2) : Tr M H M2 H2 := fun h => b (a h)
theorem Tr.ad {M : MS} {H : Hp} {D : Addr} (h : H D = none) : Tr M H (plus M D) H := fun x => Rep.ad h x
theorem Tr.wk {M M' : MS} {H : Hp} (s : ∀ x, M x → M' x) : Tr M' H M H := fun x => Rep.wk s x
def All2 {α : Type} (R : V → α → Prop) : List V → List α → Prop
  | [], [] => True
  | v :: vs, a :: as => R v a ∧ All2 R vs as
  | _, _ => False
section
variable {α β : Type} {R : V → α → Prop}
theorem All2.len : ∀ {vs : List V} {as : List α}, All2 R vs as → vs.length = as.length
  | [], [], _ => rfl
  | _ :: _, _ :: _, h => congrArg Nat.succ h.2.len
  | [], _ :: _, h => h.elim
  | _ :: _, [], h => h.elim
theorem All2.imp {R' : V → α → Prop} (f : ∀ v a, R v a → R' v a) : ∀ {vs : List V} {as : List α}, All2 R vs as → All2 R' vs as
  | [], [], _ => trivial
  | _ :: _, _ :: _, h => ⟨f _ _ h.1, h.2.imp f⟩
  | [], _ :: _, h => h.elim
  | _ :: _, [], h => h.elim
theorem All2.one {v : V} {a : α} (h : R v a) : All2 R [v] [a] := ⟨h, trivial⟩
theorem All2.get : ∀ {vs : List V} {as : List α} {i : Nat} {v : V}, All2 R vs as → vs[i]? = some v → ∃ a, as[i]? = some a ∧ R v a
  | [], [], _, _, _, e => by simp at e
  | x :: _, a :: _, 0, v, h, e => ⟨a, rfl, by
      have z : x = v := Option.some.inj e
      rw [← z]; exact h.1⟩
  | _ :: _, _ :: _, i + 1, v, h, e => All2.get (i := i) h.2 e
  | [], _ :: _, _, _, h, _ => h.elim
  | _ :: _, [], _, _, h, _ => h.elim
theorem All2.at_ : ∀ {vs : List V} {as : List α} {i : Nat} {a : α}, All2 R vs as → as[i]? = some a → ∃ v, vs[i]? = some v ∧ R v a
  | [], [], _, _, _, e => by simp at e
  | v :: _, x :: _, 0, a, h, e => ⟨v, rfl, by
      have z : x = a := Option.some.inj e
      rw [← z]; exact h.1⟩
  | _ :: _, _ :: _, i + 1, v, h, e => All2.at_ (i := i) h.2 e
  | [], _ :: _, _, _, h, _ => h.elim
  | _ :: _, [], _, _, h, _ => h.elim
theorem All2.take : ∀ {vs : List V} {as : List α} (n : Nat), All2 R vs as → All2 R (vs.take n) (as.take n)
  | [], [], n, _ => by cases n <;> exact trivial
  | _ :: _, _ :: _, 0, _ => trivial
  | _ :: _, _ :: _, n + 1, h => ⟨h.1, h.2.take n⟩
  | [], _ :: _, _, h => h.elim
  | _ :: _, [], _, h => h.elim
theorem All2.drop : ∀ {vs : List V} {as : List α} (n : Nat), All2 R vs as → All2 R (vs.drop n) (as.drop n)
  | [], [], n, _ => by cases n <;> exact trivial
  | _ :: _, _ :: _, 0, h => h
  | _ :: _, _ :: _, n + 1, h => h.2.drop n
  | [], _ :: _, _, h => h.elim
  | _ :: _, [], _, h => h.elim
theorem All2.eq_map {f : α → V} (h : ∀ v a, R v a → v = f a) : ∀ {vs : List V} {as : List α}, All2 R vs as → vs = as.map f
  | [], [], _ => rfl
  | _ :: _, _ :: _, g => by rw [List.map_cons, ← h _ _ g.1, ← g.2.eq_map h]
  | [], _ :: _, g => g.elim
  | _ :: _, [], g => g.elim
end

def rI : Rl Int := fun _ _ v i => v = .int i
def rB : Rl Bool := fun _ _ v b => v = .bl b
def rS : Rl Str := fun _ _ v x => v = .str x ∧ PyData.strOk x = true
def rN : Rl Unit := fun _ _ v _ => v = .non
instance : Rep rI := ⟨fun _ h => h, fun _ h => h, fun _ h => h⟩
instance : Rep rB := ⟨fun _ h => h, fun _ h => h, fun _ h => h⟩
instance : Rep rS := ⟨fun _ h => h, fun _ h => h, fun _ h => h⟩
instance : Rep rN := ⟨fun _ h => h, fun _ h => h, fun _ h => h⟩
section
variable {α β γ : Type}
def rL (R : Rl α) : Rl (List α) := fun M H v l => ∃ a vs, v = .ref a ∧ ¬ M a ∧ H a = some (.lst vs) ∧ All2 (R M H) vs l
def rT (R : Rl α) : Rl (List α) := fun M H v l => ∃ a vs, v = .ref a ∧ ¬ M a ∧ H a = some (.tup vs) ∧ All2 (R M H) vs l
def rP (R : Rl α) (S : Rl β) : Rl (α × β) := fun M H v p => ∃ a v1 v2, v = .ref a ∧ ¬ M a ∧ H a = some (.tup [v1, v2]) ∧ R M H v1 p.1 ∧ S M H v2 p.2
def rP3 (R : Rl α) (S : Rl β) (T : Rl γ) : Rl (α × β × γ) := fun M H v p => ∃ a v1 v2 v3, v = .ref a ∧ ¬ M a ∧ H a = some (.tup [v1, v2, v3]) ∧ R M H v1 p.1 ∧ S M H v2 p.2.1 ∧ T M H v3 p.2.2
theorem ad_ne {M : MS} {H : Hp} {a D : Addr} {o : HO} (h : H a = some o) (n : ¬ M a) (hD : H D = none) : ¬ plus M D a := fun z => z.elim n (fun e => by rw [e, hD] at h; cases h)
instance {R : Rl α} [Rep R] : Rep (rL R) := ⟨fun f ⟨a, vs, e, n, h, g⟩ => ⟨a, vs, e, n, f.keep a _ n h, g.imp fun _ _ x => Rep.st f x⟩,
  fun s ⟨a, vs, e, n, h, g⟩ => ⟨a, vs, e, fun z => n (s a z), h, g.imp fun _ _ x => Rep.wk s x⟩, fun hD ⟨a, vs, e, n, h, g⟩ => ⟨a, vs, e, ad_ne h n hD, h, g.imp fun _ _ x => Rep.ad hD x⟩⟩
instance {R : Rl α} [Rep R] : Rep (rT R) := ⟨fun f ⟨a, vs, e, n, h, g⟩ => ⟨a, vs, e, n, f.keep a _ n h, g.imp fun _ _ x => Rep.st f x⟩,
  fun s ⟨a, vs, e, n, h, g⟩ => ⟨a, vs, e, fun z => n (s a z), h, g.imp fun _ _ x => Rep.wk s x⟩, fun hD ⟨a, vs, e, n, h, g⟩ => ⟨a, vs, e, ad_ne h n hD, h, g.imp fun _ _ x => Rep.ad hD x⟩⟩
instance {R : Rl α} {S : Rl β} [Rep R] [Rep S] : Rep (rP R S) := ⟨fun f ⟨a, v1, v2, e, n, h, g1, g2⟩ => ⟨a, v1, v2, e, n, f.keep a _ n h, Rep.st f g1, Rep.st f g2⟩,
  fun s ⟨a, v1, v2, e, n, h, g1, g2⟩ => ⟨a, v1, v2, e, fun z => n (s a z), h, Rep.wk s g1, Rep.wk s g2⟩, fun hD ⟨a, v1, v2, e, n, h, g1, g2⟩ => ⟨a, v1, v2, e, ad_ne h n hD, h, Rep.ad hD g1, Rep.ad hD g2⟩⟩
instance {R : Rl α} {S : Rl β} {T : Rl γ} [Rep R] [Rep S] [Rep T] : Rep (rP3 R S T) := ⟨fun f ⟨a, v1, v2, v3, e, n, h, g1, g2, g3⟩ => ⟨a, v1, v2, v3, e, n, f.keep a _ n h, Rep.st f g1, Rep.st f g2, Rep.st f g3⟩,
  fun s ⟨a, v1, v2, v3, e, n, h, g1, g2, g3⟩ => ⟨a, v1, v2, v3, e, fun z => n (s a z), h, Rep.wk s g1, Rep.wk s g2, Rep.wk s g3⟩, fun hD ⟨a, v1, v2, v3, e, n, h, g1, g2, g3⟩ => ⟨a, v1, v2, v3, e, ad_ne h n hD, h, Rep.ad hD g1, Rep.ad hD g2, Rep.ad hD g3⟩⟩
theorem ints_of {M : MS} {H : Hp} {vs : List V} {l : List Int} (h : All2 (rI M H) vs l) : vs = l.map V.int := h.eq_map fun _ _ e => e
/-- a tuple of ints | a list of ints, written out -/
theorem tupI {M : MS} {H : Hp} {v : V} {l : List Int} (h : rT rI M H v l) : ∃ a, v = .ref a ∧ ¬ M a ∧ H a = some (.tup (l.map V.int)) := by
  obtain ⟨a, vs, e, n, h, g⟩ := h
  rw [ints_of g] at h
  exact ⟨a, e, n, h⟩
theorem lstI {M : MS} {H : Hp} {v : V} {l : List Int} (h : rL rI M H v l) : ∃ a, v = .ref a ∧ ¬ M a ∧ H a = some (.lst (l.map V.int)) := by
  obtain ⟨a, vs, e, n, h, g⟩ := h
  rw [ints_of g] at h
  exact ⟨a, e, n, h⟩
end

/-! ### == of data -/
structure EncOk {α : Type} [DecidableEq α] (R : Rl α) (enc : α → PyData) (n : Nat) : Prop where
  dp : ∀ {K : PySem.W.Frag} {M : MS} {H : Hp} {v : V} {a : α}, R M H v a → Dp K H v (enc a) ∧ (enc a).canLay0 = true
  dep : ∀ a, (enc a).depth ≤ n
  eq : ∀ a b, PyData.eqv (enc a) (enc b) = decide (a = b)
section
variable {α β γ : Type} [DecidableEq α] [DecidableEq β] [DecidableEq γ] {R : Rl α} {S : Rl β} {T : Rl γ} {e1 : α → PyData} {e2 : β → PyData} {e3 : γ → PyData} {n : Nat}
theorem EncOk.up {m : Nat} (E : EncOk R e1 n) (h : n ≤ m) : EncOk R e1 m := ⟨E.dp, fun a => Nat.le_trans (E.dep a) h, E.eq⟩
end
end WD
namespace WD
open PySem PySem.Spec PyProof.Rows L2

/-! ### what holds of the changing objects -/
/-- the well: a list of three ints -/
def Well (w : Addr) (H : Hp) : Prop := ∃ a b c : Int, H w = some (.lst [.int a, .int b, .int c])
abbrev only (w : Addr) : MS := fun x => x = w
theorem Well.ne {w : Addr} {H : Hp} (h : Well w H) : H w ≠ none := fun z => by
  obtain ⟨a, b, c, e⟩ := h
  rw [z] at e; cases e
theorem Well.upd {w p : Addr} {H : Hp} {o : HO} (h : Well w H) (n : H p = none) : Well w (upd H p o) := by
  obtain ⟨a, b, c, e⟩ := h
  exact ⟨a, b, c, by rw [upd_ne (ne_of_none e n)]; exact e⟩
theorem Well.fr {M : MS} {w : Addr} {H H' : Hp} (h : Well w H) (n : ¬ M w) (f : Fr M H H') : Well w H' := by
  obtain ⟨a, b, c, e⟩ := h
  exact ⟨a, b, c, f.keep _ _ n e⟩

/-! ### comprehensions -/
theorem mapRange {α β : Type} (f : α → β) (d : α) (l : List α) {n : Nat} (hn : n = l.length) : (List.range n).map (fun i => f (l.getD i d)) = l.map f := by
  subst hn
  refine List.ext_getElem (by simp) fun j h1 h2 => ?_
  have hj : j < l.length := by simpa using h2
  rw [List.getElem_map, List.getElem_map, List.getElem_range, List.getD_eq_getElem?_getD, List.getElem?_eq_getElem hj]
  rfl
/-! ### the draw -/
/-! ### further rules -/
section
variable {X : Cx}
/-- xs + ys of lists, each to be read -/
def rCatL (K : PySem.W.Frag) : R2 := fun x y H Q => ∃ l b xs zs, x = .ref l ∧ y = .ref b ∧ SqL K H l xs ∧ SqL K H b zs ∧ xs.length + zs.length ≤ sizeLine ∧ ∀ p, H p = none → Q (.ref p) (upd H p (.lst (xs ++ zs)))
theorem op_catL : OpR X (binaryOp .Add) (rCatL X.K) := by
  intro pins s σ H x y v u Q I rx ry h
  obtain ⟨l, b, xs, zs, rfl, rfl, hH, hB, hz, q⟩ := h
  cases rx
  cases ry
  obtain ⟨its, r, ⟨⟨cls, dd, data, sl⟩, n, ho, hc, _, hd⟩, _⟩ := I.list hH
  obtain ⟨its2, r2, ⟨⟨cls2, dd2, data2, sl2⟩, n2, ho2, hc2, _, hd2⟩, _⟩ := I.list hB
  simp only at hc hd hc2 hd2
  subst hc hd hc2 hd2
  have h1 := r.length
  have h2 := r2.length
  have e : its.toArray ++ its2.toArray = (its ++ its2).toArray := by simp
  refine concat_meets ⟨_, ho, rfl⟩ ⟨_, ho2, rfl⟩ noFill_list_add seq_list_add PySem.F.slot_list_add PySem.F.entry_list_add (PySem.F.args_list_add_2 _ _) (list_addW l b its.toArray its2.toArray n n2 dd dd2 sl sl2 (by simp; omega)) ⟨ho, ho2, ?_⟩
  rw [e]
  exact ⟨.ref _, _, I.lnew (t' := s.toks) (r.append r2) (by rw [List.length_append]; omega), rfl, q _ I.fresh⟩
/-- sum of a tuple of ints; min, max: one of them -/
def rSumT (K : PySem.W.Frag) : List V → Hp → VK → Prop := fun vs H Q => ∃ (a : Addr) (ns : List Int), vs = [V.ref a] ∧ SqT K H a (ns.map V.int) ∧ Q (.int ns.sum) H
theorem cr_sumT (hc : X.calm = true) : CallR X (.builtin "sum") (rSumT X.K) := by
  intro pins s σ H vs us Q I r h
  obtain ⟨a, ns, rfl, hs, q⟩ := h
  obtain ⟨its, rv, hl, _⟩ := I.tuple hs
  rw [Vals.ref1 r]
  have hi := rv.ints
  obtain ⟨xs, e⟩ := hi.allInts.items
  have hn : numsOf (intItems xs).toList = ns := by rw [← e]; exact hi.numsOf
  rw [nums_intItems] at hn
  have hl2 : s.heap.IsTuple a its.toArray := hl
  rw [e] at hl2
  refine PySem.W.ktm_sumG (I.ok.hd hc) hl2 fun h' tk t' hk => ?_
  rw [PySem.preSum_eq, List.take_of_length_le (by simp), hn]
  exact ⟨.int _, H, I.kept hk, ⟨_, rfl⟩, q⟩
theorem dpInts {K : PySem.W.Frag} {H : Hp} : ∀ ns : List Int, DpAll K H (ns.map V.int) (ns.map PyData.int)
  | [] => .nil
  | n :: ns => .cons (.int n) (dpInts ns)
theorem alike_ints (ns : List Int) : PySem.W.AlikeAll (ns.map PyData.int) := by
  refine ⟨fun x hx y hy => ?_, fun x hx => ?_⟩
  · obtain ⟨i, _, rfl⟩ := List.mem_map.mp hx
    obtain ⟨j, _, rfl⟩ := List.mem_map.mp hy
    rfl
  · obtain ⟨i, _, rfl⟩ := List.mem_map.mp hx
    exact fun z => nomatch z
theorem depth_ints : ∀ ns : List Int, PyData.depthAll (ns.map PyData.int) = 0
  | [] => rfl
  | n :: ns => by
    show max 0 (PyData.depthAll (ns.map PyData.int)) = 0
    rw [depth_ints ns]; rfl
end
end WD
namespace WD
open PySem PySem.Spec PyProof.Rows L2

/-! ### defs as callables -/
structure Cal (P : Program) (w : World) (K : PySem.W.Frag) (mg : Str → Option Value) (base : Heap) (CX : CXT) (k : Nat) (x : Str) (f : Addr) (sp : Sp) (dvs : List V) : Prop where
  ex : ∃ (fd : FuncData) (ps : List Str) (ds : List Value), FnOk P w K mg base CX k f fd ps sp ∧ Binds K fd ps ds ∧ Vals dvs ds
  kp : PySem.W.keepIn K (.ref f) = true
  g : mg x = some (.ref f)
structure Met (P : Program) (w : World) (K : PySem.W.Frag) (mg : Str → Option Value) (base : Heap) (CX : CXT) (k : Nat) (C : Addr) (m : Str) (f : Addr) (sp : Sp) (dvs : List V) : Prop where
  ex : ∃ (fd : FuncData) (ps : List Str) (ds : List Value), FnOk P w K mg base CX k f fd ps sp ∧ Binds K fd ps ds ∧ Vals dvs ds
  cl : Cls K C
  mt : Meth K C m f
structure Mak (P : Program) (w : World) (K : PySem.W.Frag) (mg : Str → Option Value) (base : Heap) (CX : CXT) (k : Nat) (x : Str) (C f : Addr) (sp : Sp) (dvs : List V) : Prop where
  ex : ∃ (fd : FuncData) (ps : List Str) (ds : List Value), FnOk P w K mg base CX k f fd ps sp ∧ Binds K fd ps ds ∧ Vals dvs ds
  made : Mk K C f
  g : mg x = some (.ref C)
section
variable {P : Program} {w : World} {K : PySem.W.Frag} {mg : Str → Option Value} {base : Heap} {x qual : Str} {params : Arguments} {body : List Stmt} {scope : Scope} {f C : Addr} {fd : FuncData} {N ps : List Str} {k : Nat} {sp : Sp}
theorem fn0_of (F : FunD K x qual params body scope [] [] f fd) (S : FnScope N ps scope) (len : ∀ vs H Q E, sp vs H Q E → vs.length = ps.length)
    (bind : ∀ (kV doc pm : Value) (an : Option Addr) (cdv ct : Value) (us : List Value), us.length = ps.length → bindArgs (PySem.W.fnOf x qual params body scope .none kV doc pm an cdv ct) ⟨us, []⟩ = pure (ps.zip us))
    (hbody : ∀ (cdv : Value) (A : Around) (outer : List Env) (s : Shared) (H : Hp) (vs : List V) (Q : VK) (E : XK), Room k (A.deeper (envOfC qual scope s.heap.objs.size f cdv)) → sp vs H Q E →
      ∃ t, PSs (cxOf CX0 P w K mg base N qual scope f cdv A outer s H E).nox body t ∧ t { nx := fun _ H' => Q .non H', rt := Q } (start N vs) H) :
    ∃ (fd : FuncData) (ps : List Str) (ds : List Value), FnOk P w K mg base CX0 (k + 1) f fd ps sp ∧ Binds K fd ps ds ∧ Vals [] ds :=
  ⟨fd, ps, [], F.ok S len fun cdv A outer s H vs Q E hr h => by
    obtain ⟨t, h1, h2⟩ := hbody cdv A outer s H vs Q E hr h
    exact ⟨t, h1.nox, h2⟩, F.bindsN bind, .nil⟩
theorem fnX_of (F : FunD K x qual params body scope [] [] f fd) (S : FnScope N ps scope) (len : ∀ vs H Q E, sp vs H Q E → vs.length = ps.length)
    (bind : ∀ (kV doc pm : Value) (an : Option Addr) (cdv ct : Value) (us : List Value), us.length = ps.length → bindArgs (PySem.W.fnOf x qual params body scope .none kV doc pm an cdv ct) ⟨us, []⟩ = pure (ps.zip us))
    (hbody : ∀ (cdv : Value) (A : Around) (outer : List Env) (s : Shared) (H : Hp) (vs : List V) (Q : VK) (E : XK), Room k (A.deeper (envOfC qual scope s.heap.objs.size f cdv)) → sp vs H Q E →
      ∃ t, PSs (cxOf (L2.CX P w) P w K mg base N qual scope f cdv A outer s H E) body t ∧ t { nx := fun _ H' => Q .non H', rt := Q } (start N vs) H) :
    ∃ (fd : FuncData) (ps : List Str) (ds : List Value), FnOk P w K mg base (L2.CX P w) (k + 1) f fd ps sp ∧ Binds K fd ps ds ∧ Vals [] ds :=
  ⟨fd, ps, [], F.ok S len hbody, F.bindsN bind, .nil⟩
end
section
variable {X : Cx} {k j : Nat} {x : Str} {f C : Addr} {sp : Sp} {dvs : List V} {p pos apos : Pos} {e o : Expr} {es : List Expr} {t : TA} {ta : TE} {m : Str}
theorem pe_gi {x : Str} {i : Int} {pos : Pos} (hg : Gl X x) (h : ∃ t, X.mg x = some (.int i t)) (hd : (x == ("__debug__" : Str)) = false := by decide) : PE X (.Name x pos) (tC (.int i)) := by
  obtain ⟨t, e⟩ := h
  exact pe_glob hg e ⟨t, rfl⟩ hd
theorem pe_gs {x z : Str} {pos : Pos} (hg : Gl X x) (h : ∃ t, X.mg x = some (.str z t)) (hd : (x == ("__debug__" : Str)) = false := by decide) : PE X (.Name x pos) (tC (.str z)) := by
  obtain ⟨t, e⟩ := h
  exact pe_glob hg e ⟨t, rfl⟩ hd
end
theorem huD {k : Nat} {A : Around} (hr : Room k A) : A.units + 1 < cLine := hu_of hr
theorem hu65 {k : Nat} {A : Around} (hr : Room k A) : A.units + 65 < cLine := by have := hr.un; omega
theorem bt_len : bootBuiltins "len" = some (.builtin "len") := by decide +kernel
theorem bt_isinstance : bootBuiltins "isinstance" = some (.builtin "isinstance") := by decide +kernel
theorem bt_all : bootBuiltins "all" = some (.builtin "all") := by decide +kernel
theorem bt_sum : bootBuiltins "sum" = some (.builtin "sum") := by decide +kernel
theorem bt_min : bootBuiltins "min" = some (.builtin "min") := by decide +kernel
theorem bt_max : bootBuiltins "max" = some (.builtin "max") := by decide +kernel
theorem bt_int : bootBuiltins "int" = some (.type "int") := by decide +kernel
theorem bt_bool : bootBuiltins "bool" = some (.type "bool") := by decide +kernel
theorem bt_str : bootBuiltins "str" = some (.type "str") := by decide +kernel
theorem bt_tuple : bootBuiltins "tuple" = some (.type "tuple") := by decide +kernel
theorem bt_list : bootBuiltins "list" = some (.type "list") := by decide +kernel
theorem bt_dict : bootBuiltins "dict" = some (.type "dict") := by decide +kernel
theorem bt_ValueError : bootBuiltins "ValueError" = some (.type "ValueError") := by decide +kernel
end WD
namespace WD
open PySem PySem.Spec PyProof.Rows L2
section
variable {X : Cx} {e : Expr} {te : TE} {p apos cpos pos : Pos}
/-- list(e.values()) -/
def tListVals (te : TE) : TE := fun σ H Q => te σ H fun x H1 => ∃ (d : Addr) (kvs : List (Key × V)), x = .ref d ∧ H1 d = some (.dK kvs) ∧ ∀ q, H1 q = none → Q (.ref q) (upd H1 q (.lst (kvs.map (·.2))))
theorem pe_listVals (hc : X.calm = true) (hg : Gl X "list") (hm : X.mg "list" = none) (he : PE X e te) (hbase : attributeBase e "values" X.env (eval e X.env) = eval e X.env := by rfl) (hline : (apos.endLine == cpos.line) = true := by rfl)
    (hs : starEach [.Call (.Attribute e "values" apos) [] [] cpos] X.env = (false, eval (.Call (.Attribute e "values" apos) [] [] cpos) X.env) :: starEach [] X.env := by rfl) :
    PE X (.Call (.Name "list" p) [.Call (.Attribute e "values" apos) [] [] cpos] [] pos) (tListVals te) := by
  refine ⟨fun pins s σ H Q I hq => ?_⟩
  refine wpAny_Call_Name_kw (ld_blt I hg hm bt_list ?_)
  refine PyProof.Rows.callWith_type1 ?_ hs rfl
  rw [hs]
  show wpAny _ _ (spliced ((false, eval (.Call (.Attribute e "values" apos) [] [] cpos) X.env) :: backTo pos (starEach [] X.env))) _ _ s
  refine Calls.spliced_cons ?_
  refine wpAny_Call_method (T := "dict") (id := "dict.values") hbase rfl hline F.plainAttrs_dict F.slot_dict_values F.type_dict_values (thn (he.run pins s σ H _ I hq) fun u s1 ⟨x, H1, I1, rx, d, kvs, ex, hd, q⟩ => ?_)
  subst ex
  obtain rfl : u = Value.ref d := rx
  obtain ⟨hz, hs0, vs, kv, hdo⟩ := I1.hok d _ hd
  obtain ⟨ep, hat⟩ := hdo.dictAt
  have lk : kvs.length = vs.length := Paired.length kv
  have I2 : Inv X pins σ H1 { s1 with heap := s1.heap.push { cls := .type "dict_values", data := .fields #[.ref d] } } := I1.kept (t' := s1.toks) fun b ob q => Heap.get?_push_of_some _ q
  refine ⟨hdo.typeIs, hdo.mapOf.noDict, ?_⟩
  show wpAny _ _ (callWith cpos (.builtin "dict.values") [.ref d] [] []) _ X.xe s1
  refine method_meetsIn F.slot_dict_values F.entry_dict_values rfl (PySem.evalArgs_none ⟨rfl, hdo.typeIs, F.args_dict_values_1 _, _, meets_dict_values (mixKind X.prog X.w) d hs0, ⟨vs, hdo⟩, ?_⟩)
  refine Calls.spliced_nil ?_
  refine PySem.W.kdl_call (PySem.W.kdl_values (knd := mixKind X.prog X.w) (kvs := vs) (ep := ep)) (I1.ok.hd hc) ⟨⟨_, Heap.get?_push_size _ rfl, rfl, rfl⟩, hat.push _⟩ (by omega) fun h' tk acc c hkeep hS hacc => ?_
  refine ⟨.ref _, _, I2.laid hkeep (Nat.le_refl _) (show ObjOk X.prog X.w _ _ _ (.lst (kvs.map (·.2))) from ⟨by rw [List.length_map]; exact hz, acc.toList, c, ?_, by rw [Array.toArray_toList]; exact hS⟩), rfl, q _ (I2.hok.fresh (Nat.le_refl _))⟩
  have el : acc.toList.length = acc.size := by simp
  refine vals_of_at (by rw [List.length_map, el, hacc.1, lk]) fun j x w h1 h2 => ?_
  obtain ⟨k, hky⟩ := hacc.2 j w (by rw [← Array.getElem?_toList]; exact h2)
  rw [List.getElem?_map] at h1
  obtain ⟨kx, e1, e2⟩ := Option.map_eq_some_iff.mp h1
  obtain ⟨y, g1, g2, g3⟩ := LiI.paired_get kv e1
  rw [hky] at g1
  cases g1
  rw [← e2]
  exact g3
end
end WD
namespace WD
open PySem PySem.Spec PyProof.Rows L2

/-! ### houses: data -/
def SMALL : Str := "abcdefghijklmnopqrstuvwxyz"
def nameOk (z : Str) : Bool := decide (2 ≤ z.length) && (decide (z.length ≤ 8) && z.cps.toList.all fun c => decide (c ∈ SMALL.cps.toList))
abbrev Deed := Str × Int × List Int
def inR (n x : Int) : Bool := decide (0 ≤ x) && decide (x < n)
def rowOk (ns : List Int) (wide size : Int) : Bool := decide ((ns.length : Int) = wide) && ns.all (inR size)
def deedOk (d : Deed) (n : Int) : Bool := nameOk d.1 && (decide (0 ≤ d.2.1) && (decide (d.2.1 ≤ 3) && rowOk d.2.2 (n ^ d.2.1.toNat) n))
abbrev rD : Rl Deed := rP3 rS rI (rT rI)
abbrev Hs := Int × List Deed
def kvsOf : List Deed → List V → List (Key × V)
  | d :: ds, v :: vs => (Sum.inr d.1, v) :: kvsOf ds vs
  | _, _ => []
def rH (C : Addr) : Rl Hs := fun M H v h => ∃ a dx d vs, v = .ref a ∧ ¬ M a ∧ ¬ M dx ∧ ¬ M d ∧ H a = some (.ins C dx [("size", .int h.1), ("by_name", .ref d)]) ∧ H dx = some (.own a) ∧ H d = some (.dK (kvsOf h.2 vs)) ∧ All2 (rD M H) vs h.2
instance {C : Addr} : Rep (rH C) := ⟨fun f ⟨a, dx, d, vs, e, n1, n2, n3, h1, h2, h3, g⟩ => ⟨a, dx, d, vs, e, n1, n2, n3, f.keep _ _ n1 h1, f.keep _ _ n2 h2, f.keep _ _ n3 h3, g.imp fun _ _ x => Rep.st f x⟩,
  fun s ⟨a, dx, d, vs, e, n1, n2, n3, h1, h2, h3, g⟩ => ⟨a, dx, d, vs, e, fun z => n1 (s a z), fun z => n2 (s _ z), fun z => n3 (s _ z), h1, h2, h3, g.imp fun _ _ x => Rep.wk s x⟩,
  fun hD ⟨a, dx, d, vs, e, n1, n2, n3, h1, h2, h3, g⟩ => ⟨a, dx, d, vs, e, ad_ne h1 n1 hD, ad_ne h2 n2 hD, ad_ne h3 n3 hD, h1, h2, h3, g.imp fun _ _ x => Rep.ad hD x⟩⟩
/-- a right house -/
structure HsOk (h : Hs) : Prop where
  lo : 1 ≤ h.1
  hi : h.1 ≤ 9
  few : h.2.length ≤ 6
  ok : ∀ d ∈ h.2, deedOk d h.1 = true
  nd : (h.2.map (·.1)).Nodup
/-- what a deed's size tells -/
theorem deedOk_name {d : Deed} {n : Int} (h : deedOk d n = true) : nameOk d.1 = true ∧ 0 ≤ d.2.1 ∧ d.2.1 ≤ 3 ∧ rowOk d.2.2 (n ^ d.2.1.toNat) n = true := by
  unfold deedOk at h
  simp only [Bool.and_eq_true, decide_eq_true_eq] at h
  exact ⟨h.1, h.2.1, h.2.2.1, h.2.2.2⟩
theorem nameOk_len {z : Str} (h : nameOk z = true) : z.length ≤ 8 := by
  unfold nameOk at h
  simp only [Bool.and_eq_true, decide_eq_true_eq] at h
  exact h.2.1
theorem rowOk_len {ns : List Int} {m n : Int} (h : rowOk ns m n = true) : (ns.length : Int) = m := by
  unfold rowOk at h
  simp only [Bool.and_eq_true, decide_eq_true_eq] at h
  exact h.1
theorem pow_le3 {n : Int} {k : Nat} (h1 : 1 ≤ n) (h9 : n ≤ 9) (hk : k ≤ 3) : n ^ k ≤ 729 := by
  have h : k = 0 ∨ k = 1 ∨ k = 2 ∨ k = 3 := by omega
  have hc : n = 1 ∨ n = 2 ∨ n = 3 ∨ n = 4 ∨ n = 5 ∨ n = 6 ∨ n = 7 ∨ n = 8 ∨ n = 9 := by omega
  rcases hc with e | e | e | e | e | e | e | e | e <;> subst e <;> (rcases h with e | e | e | e <;> subst e <;> decide)
theorem HsOk.deed {h : Hs} (k : HsOk h) {d : Deed} (m : d ∈ h.2) : d.1.length ≤ 8 ∧ d.2.2.length ≤ 729 ∧ 0 ≤ d.2.1 ∧ d.2.1 ≤ 3 := by
  obtain ⟨h1, h2, h3, h4⟩ := deedOk_name (k.ok d m)
  have e := rowOk_len h4
  have := pow_le3 (k := d.2.1.toNat) k.lo k.hi (by omega)
  exact ⟨nameOk_len h1, by omega, h2, h3⟩
end WD
/-! rules with the written part named: within a comprehension's block the reading must not hang on the block -/
namespace WD
open PySem PySem.Spec PyProof.Rows L2
section
variable {X : Cx} (K : PySem.W.Frag)

theorem k_mt_indexD (hu : X.A.units + 65 < cLine) (h : X.K = K := by rfl) : MtR X "list.index" (rIndexD K) := by
  subst h
  exact mt_indexD hu
variable {tg l e o : Expr} {es elts : List Expr} {tl te to ta : TE} {t : TA} {p pos apos cpos tpos : Pos} {kk n : Nat} {ts : TGs} {f : Str}
theorem k_pi_zipA {e2 : Expr} (hg : Gl X "zip") (hm : X.mg "zip" = none) (ha : PA X [e, e2] t)
    (hs : starEach [e, e2] X.env = (false, eval e X.env) :: starEach [e2] X.env := by rfl) (hpl : (backTo pos (starEach [e2] X.env)).any (·.1) = false := by rfl) (h : X.K = K := by rfl) :
    PI X (.Tuple elts kk tpos) (.Call (.Name "zip" p) [e, e2] [] pos) (RZ.iZipA K t) := by subst h; exact RZ.pi_zipA hg hm ha hs hpl
theorem k_pe_fld (he : PE X e ta) (hb : attributeBase e f X.env (eval e X.env) = eval e X.env := by rfl) (h : X.K = K := by rfl) : PE X (.Attribute e f pos) (tFld K ta f) := by subst h; exact pe_fld he hb
theorem k_ps_fld {value : Expr} {tv : TE} {pos' : Pos} (ha : PE X o ta) (hv : PE X value tv) (hs : swapsWith value (some (.Attribute o f pos')) pos.line X.env = pure false := by rfl) (h : X.K = K := by rfl) : PS X (.Assign [.Attribute o f pos'] value pos) (sFld K ta tv f) := by subst h; exact ps_fld ha hv hs
theorem k_pg_tup (hc : X.calm = true) (hp : PGs X es ts) (hn : (assignEach es X.env).length = n := by rfl) (hst : (assignEach es X.env).findIdx? (·.1) = none := by rfl) (h : X.K = K := by rfl) : PG X (.Tuple es kk pos) (gTup K n ts) := by subst h; exact pg_tup hc hp hn hst
theorem k_pe_bm0 {T : String} {name : Str} {id : String} {r : V → List V → Hp → VK → Prop} (pa : PlainAttrs T) (slot : Slot T name id) (hty : typeOf (.builtin id) = pure (.type "method_descriptor")) (hm : MtR X id r) (ho : PE X o to)
    (hbase : attributeBase o name X.env (eval o X.env) = eval o X.env := by rfl) (hline : (apos.endLine == cpos.line) = true := by rfl) (h : X.K = K := by rfl) : PE X (.Call (.Attribute o name apos) [] [] cpos) (tBM0 K T r to) := by subst h; exact pe_bm0 pa slot hty hm ho hbase hline
theorem k_pe_bm {T : String} {name : Str} {id : String} {r : V → List V → Hp → VK → Prop} (pa : PlainAttrs T) (slot : Slot T name id) (hty : typeOf (.builtin id) = pure (.type "method_descriptor")) (hm : MtR X id r) (ho : PE X o to) (ha : PA X (e :: es) t)
    (hbase : attributeBase o name X.env (eval o X.env) = eval o X.env := by rfl)
    (hfew : ((backTo cpos (starEach (e :: es) X.env)).all (fun x => !x.1) && (backToKw cpos (keywordEach [] X.env)).all (fun x => x.1.isSome)
      && decide ((e :: es).length + ([] : List Keyword).length + (if ([] : List Keyword).isEmpty then 0 else 1) < 30)) = true := by rfl)
    (hline : (apos.endLine == cpos.line) = true := by rfl) (hs : starEach (e :: es) X.env = (false, eval e X.env) :: starEach es X.env := by rfl) (hplain : (backTo cpos (starEach es X.env)).any (·.1) = false := by rfl) (h : X.K = K := by rfl) :
    PE X (.Call (.Attribute o name apos) (e :: es) [] cpos) (tBM K T r to t) := by subst h; exact pe_bm pa slot hty hm ho ha hbase hfew hline hs hplain
/-- sep.join(xs) -/
def rJoin (K : PySem.W.Frag) : V → List V → Hp → VK → Prop := fun x xs H Q => ∃ a p, ∃ ys : List Str, x = .str a ∧ xs = [.ref p] ∧ (SqL K H p (ys.map V.str) ∨ SqT K H p (ys.map V.str)) ∧ (ys.map (·.length)).sum + ys.length * a.length ≤ 16777216 ∧ Q (.str (Txt.join a ys)) H
theorem k_pe_join (ho : PE X o to) (he : PE X e te) (hs : starEach [e] X.env = [(false, eval e X.env)] := by rfl) (hbase : attributeBase o "join" X.env (eval o X.env) = eval o X.env := by rfl) (hline : (apos.endLine == pos.line) = true := by rfl) (h : X.K = K := by rfl) :
    PE X (.Call (.Attribute o "join" apos) [e] [] pos) (tM1 (rJoin K) to te) := by subst h; exact pe_join ho he hs hbase hline
end
end WD
namespace WD
open PySem PySem.Spec PyProof.Rows L2
theorem joinL_nil : ∀ ys : List (List Nat), TL.joinL [] ys = ys.flatten
  | [] => rfl
  | [p] => by show p = p ++ []; rw [List.append_nil]
  | p :: q :: r => by
    show p ++ ([] ++ TL.joinL [] (q :: r)) = p ++ (q :: r).flatten
    rw [joinL_nil (q :: r)]; rfl
theorem atI_ok {α : Type} {xs : List α} {i : Int} (h0 : 0 ≤ i) (h : i.toNat < xs.length) : atI xs i = some (xs[i.toNat]'h) := by
  have e : atI xs ((i.toNat : Nat) : Int) = some (xs[i.toNat]'h) := atI_nat (List.getElem?_eq_getElem h)
  rw [show ((i.toNat : Nat) : Int) = i by omega] at e
  exact e
/-! ### tuples put together, all rows -/
/-! ### slices of lists -/
def cutL {α : Type} (xs : List α) (lo hi : Option Int) : List α := (xs.drop (HT.sIx xs.length 0 lo)).take (HT.sIx xs.length xs.length hi - HT.sIx xs.length 0 lo)
theorem All2.cut {α : Type} {R : V → α → Prop} {vs : List V} {l : List α} (h : All2 R vs l) (lo hi : Option Int) : All2 R (cutV vs lo hi) (cutL l lo hi) := by
  unfold cutV cutL
  rw [h.len]
  exact (h.drop _).take _
/-! ### dict(pairs) -/
end WD
/-! own exceptions: made, raised, caught, asked -/
namespace WD
open PySem PySem.Spec PyProof.Rows L2

/-! ### what the written part says of an exception class, by a Bool -/
def oexObjB (C : Addr) : Option Obj → Bool
  | some ⟨.type t, _, .cls cd, sl⟩ => decide (t = "type") && ((match cd.mro with
    | .ref C' :: bm => decide (C' = C) && PySem.HandSPX.refsVE bm
    | _ => false) && ((match sl.toList with
    | [_, _, _, _, some (.builtin n), _] => decide (n = "ValueError.__new__")
    | _ => false) && (cd.hasDict && !cd.hasDel)))
  | _ => false
theorem oexObjB_ok {K : PySem.W.Frag} {C : Addr} (h : oexObjB C (K.lookup C) = true) : ∃ nm q N bs bm sn sub ab col dd k0 k1 k2 k3 k5, K.lookup C = some (excClassObj nm q C N bs bm true sn sub ab col dd k0 k1 k2 k3 k5 "ValueError.__new__") ∧ PySem.HandSPX.refsVE bm = true := by
  generalize K.lookup C = o at h ⊢
  unfold oexObjB at h
  split at h
  · rename_i t dd cd sl
    simp only [Bool.and_eq_true, decide_eq_true_eq, Bool.not_eq_true'] at h
    obtain ⟨h1, h2, h3, h4, h5⟩ := h
    obtain ⟨nm, bs, mro, ns, qn, hd, sn, sb, ab, col, del⟩ := cd
    dsimp only at h2 h4 h5
    subst h1 h4 h5
    split at h2
    · rename_i C' bm
      obtain ⟨e1, e2⟩ := Bool.and_eq_true_iff.mp h2
      have e1 := of_decide_eq_true e1
      subst e1
      split at h3
      · rename_i k0 k1 k2 k3 n k5 e3
        have e4 := of_decide_eq_true h3
        subst e4
        have e5 : sl = #[k0, k1, k2, k3, some (.builtin "ValueError.__new__"), k5] := by
          rw [← Array.toArray_toList (xs := sl), e3]
        subst e5
        exact ⟨_, _, _, _, bm, _, _, _, _, _, _, _, _, _, _, rfl, e2⟩
      · cases h3
    · cases h2
  · cases h
/-- how a value's class answers isinstance: what is asked of the class -/
structure ExD (K : PySem.W.Frag) (C : Addr) : Prop where
  cl : (PySem.W.clsIn K C).isSome = true
  ga : PySem.W.findIn K (.ref C) "__getattribute__" = some (some (.builtin "BaseException.__getattribute__"))
  gg : PySem.W.findIn K (.ref C) "__getattr__" = some none
  sb : PySem.W.subIn K (.ref C) (.type "BaseException") = some true
  cc : PySem.W.findIn K (.ref C) "__class__" = some (some (.builtin "object.__class__"))
  sp : PySem.W.specialIn K (.builtin "object.__class__") "__get__" = some (some (.builtin "getset_descriptor.__get__"))
  tk : PySem.W.takesIn K (.builtin "object.__class__") = some true
  mr : PySem.W.mroIn K C (.type "object") = some true
  hd : PySem.W.hasDictIn K C = true
/-- facts of my own -/
inductive Fx where
  | oex (x : Str)
  | exd (x : Str)
  | ini (x : Str)
  | par (x : Str)
  | noa (x f : Str)
  | kit (x y : Str) (b : Bool)
  | kiv (x : Str) (t : String) (b : Bool)
  | isc (x : Str)
def Fx.ok (K : PySem.W.Frag) : Fx → Bool
  | .oex x => oexObjB (He.ga K x) (K.lookup (He.ga K x)) && (He.eqO (PySem.W.findIn K (.ref (He.ga K x)) "__setattr__") (some (some (.builtin "object.__setattr__"))) && (decide (PySem.W.subIn K (.ref (He.ga K x)) (.type "BaseException") = some true) &&
      (decide (PySem.W.typeIn K (.ref (He.ga K x)) = some (.type "type")) && PySem.W.keepIn K (.ref (He.ga K x)))))
  | .exd x => (PySem.W.clsIn K (He.ga K x)).isSome && (He.eqO (PySem.W.findIn K (.ref (He.ga K x)) "__getattribute__") (some (some (.builtin "BaseException.__getattribute__"))) && (He.eqO (PySem.W.findIn K (.ref (He.ga K x)) "__getattr__") (some none) &&
      (decide (PySem.W.subIn K (.ref (He.ga K x)) (.type "BaseException") = some true) && (He.eqO (PySem.W.findIn K (.ref (He.ga K x)) "__class__") (some (some (.builtin "object.__class__"))) &&
      (He.eqO (PySem.W.specialIn K (.builtin "object.__class__") "__get__") (some (some (.builtin "getset_descriptor.__get__"))) && (decide (PySem.W.takesIn K (.builtin "object.__class__") = some true) &&
      (decide (PySem.W.mroIn K (He.ga K x) (.type "object") = some true) && PySem.W.hasDictIn K (He.ga K x))))))))
  | .ini x => He.eqO (PySem.W.findIn K (.ref (He.ga K x)) "__init__") (some (some (.ref (He.ma K (He.ga K x) "__init__")))) && decide (PySem.W.typeIn K (.ref (He.ma K (He.ga K x) "__init__")) = some (.type "function"))
  | .par x => PySem.W.readsIn K (He.ga K x) (.type "type") && (He.eqO (PySem.W.specialIn K (.ref (He.ga K x)) "__getattribute__") (some (some (.builtin "type.__getattribute__"))) &&
      (match PySem.W.findCls K (.ref (He.ga K x)) (.type "type") "__init__" with
        | some (.val (.builtin n)) => decide (n = "ValueError.__init__")
        | _ => false))
  | .noa x f => He.eqO (PySem.W.findIn K (.ref (He.ga K x)) f) (some none)
  | .kit x y b => decide (PySem.W.kitOne K (.ref (He.ga K x)) (.ref (He.ga K y)) = some b)
  | .kiv x t b => decide (PySem.W.kitOne K (.ref (He.ga K x)) (.type t) = some b)
  | .isc x => He.eqO (PySem.W.findIn K (.ref (He.ga K x)) "__class__") (some (some (.builtin "object.__class__"))) && (He.eqO (PySem.W.specialIn K (.builtin "object.__class__") "__get__") (some (some (.builtin "getset_descriptor.__get__"))) &&
      (decide (PySem.W.takesIn K (.builtin "object.__class__") = some true) && (decide (PySem.W.mroIn K (He.ga K x) (.type "object") = some true) && decide (PySem.W.kitOne K (.ref (He.ga K x)) (.ref (He.ga K x)) = some true))))
section
variable {K : PySem.W.Frag} {x y f : Str} {t : String} {b : Bool}
theorem oex_ok (c : (Fx.oex x).ok K = true) : OexC K (He.ga K x) := by
  obtain ⟨c1, c⟩ := He.ba c
  obtain ⟨c2, c⟩ := He.ba c
  obtain ⟨c3, c⟩ := He.ba c
  obtain ⟨c4, c5⟩ := He.ba c
  exact ⟨oexObjB_ok c1, He.eqO_ok c2, of_decide_eq_true c3, of_decide_eq_true c4, c5⟩
theorem isc_ok (cl : Cls K (He.ga K x)) (c : (Fx.isc x).ok K = true) : C8.InsC K (He.ga K x) := by
  obtain ⟨c1, c⟩ := He.ba c
  obtain ⟨c2, c⟩ := He.ba c
  obtain ⟨c3, c⟩ := He.ba c
  obtain ⟨c4, c5⟩ := He.ba c
  exact ⟨cl, He.eqO_ok c1, He.eqO_ok c2, of_decide_eq_true c3, of_decide_eq_true c4, of_decide_eq_true c5⟩
theorem exd_ok' (c : (Fx.exd x).ok K = true) : ExD K (He.ga K x) := by
  obtain ⟨c1, c⟩ := He.ba c
  obtain ⟨c2, c⟩ := He.ba c
  obtain ⟨c3, c⟩ := He.ba c
  obtain ⟨c4, c⟩ := He.ba c
  obtain ⟨c5, c⟩ := He.ba c
  obtain ⟨c6, c⟩ := He.ba c
  obtain ⟨c7, c⟩ := He.ba c
  obtain ⟨c8, c9⟩ := He.ba c
  exact ⟨c1, He.eqO_ok c2, He.eqO_ok c3, of_decide_eq_true c4, He.eqO_ok c5, He.eqO_ok c6, of_decide_eq_true c7, of_decide_eq_true c8, c9⟩
theorem ini_ok (c : (Fx.ini x).ok K = true) : PySem.W.findIn K (.ref (He.ga K x)) "__init__" = some (some (.ref (He.ma K (He.ga K x) "__init__"))) ∧ PySem.W.typeIn K (.ref (He.ma K (He.ga K x) "__init__")) = some (.type "function") := by
  obtain ⟨c1, c2⟩ := He.ba c
  exact ⟨He.eqO_ok c1, of_decide_eq_true c2⟩
/-- an exception class whose __init__ is called by its name -/
structure Par (K : PySem.W.Frag) (C : Addr) : Prop where
  rd : PySem.W.readsIn K C (.type "type") = true
  ga : PySem.W.specialIn K (.ref C) "__getattribute__" = some (some (.builtin "type.__getattribute__"))
  at_ : PySem.W.findCls K (.ref C) (.type "type") "__init__" = some (.val (.builtin "ValueError.__init__"))
theorem par_ok (c : (Fx.par x).ok K = true) : Par K (He.ga K x) := by
  obtain ⟨c1, c⟩ := He.ba c
  obtain ⟨c2, c3⟩ := He.ba c
  refine ⟨c1, He.eqO_ok c2, ?_⟩
  split at c3
  · rename_i n e
    rw [e, of_decide_eq_true c3]
  · cases c3
theorem noa_ok (c : (Fx.noa x f).ok K = true) : PySem.W.findIn K (.ref (He.ga K x)) f = some none := He.eqO_ok c
theorem kit_ok (c : (Fx.kit x y b).ok K = true) : PySem.W.kitOne K (.ref (He.ga K x)) (.ref (He.ga K y)) = some b := of_decide_eq_true c
theorem kiv_ok (c : (Fx.kiv x t b).ok K = true) : PySem.W.kitOne K (.ref (He.ga K x)) (.type t) = some b := of_decide_eq_true c
end
/-! ### the Hook, with these facts -/
def asE (g : Addr → Option Obj) : Nat → List Addr
  | 0 => [mainGlobals, cStatics]
  | n + 1 => He.growD g (asE g n)
def obsE (fa : List He.Fa) (fn : List He.DefD) (fx : List Fx) (K : PySem.W.Frag) : He.AlD := ((He.obsD fa fn K).1 && fx.all fun f => f.ok K, (He.obsD fa fn K).2)
def SaysE (fa : List He.Fa) (fn : List He.DefD) (fx : List Fx) (K : PySem.W.Frag) : Prop := obsE fa fn fx K = He.valD fn
def obsEG (n : Nat) (fa : List He.Fa) (fn : List He.DefD) (fx : List Fx) (g : Addr → Option Obj) : He.AlD := obsE fa fn fx (He.frG g (asE g n))
def hookE (n : Nat) (fa : List He.Fa) (fn : List He.DefD) (fx : List Fx) : PySem.W.Hook where
  α := He.AlD
  obs := fun s => obsEG n fa fn fx s.heap.get?
  val := fun _ => He.valD fn
  says := fun _ h => ∃ K : PySem.W.Frag, K.In h ∧ SaysE fa fn fx K
  of := fun _ _ e => ⟨_, He.frG_in, e⟩
  keeps := fun _ _ _ ⟨K, hK, c⟩ k => ⟨K, PySem.W.Frag.In.keeps hK k, c⟩
theorem obsEG_eq {n : Nat} {fa : List He.Fa} {fn : List He.DefD} {fx : List Fx} {g : Addr → Option Obj} {s : Shared} (h : ∀ a, g a = s.heap.get? a) : obsEG n fa fn fx g = (hookE n fa fn fx).obs s := by
  rw [show g = s.heap.get? from funext h]; rfl
theorem SaysE.says {fa : List He.Fa} {fn : List He.DefD} {fx : List Fx} {K : PySem.W.Frag} (c : SaysE fa fn fx K) : He.SaysD fa fn K := by
  have h1 : ((He.obsD fa fn K).1 && fx.all fun f => f.ok K) = true := congrArg (fun z : He.AlD => z.1) c
  have h2 : (He.obsD fa fn K).2 = fn.map He.DefD.val := congrArg (fun z : He.AlD => z.2) c
  exact Prod.ext (He.ba h1).1 h2
theorem SaysE.own {fa : List He.Fa} {fn : List He.DefD} {fx : List Fx} {K : PySem.W.Frag} (c : SaysE fa fn fx K) (i : Nat) {f : Fx} (h : fx[i]? = some f := by rfl) : f.ok K = true := by
  have h1 : ((He.obsD fa fn K).1 && fx.all fun f => f.ok K) = true := congrArg (fun z : He.AlD => z.1) c
  exact List.all_eq_true.mp (He.ba h1).2 f (List.mem_of_getElem? h)

/-! ### C.__init__(self, ..), C an own exception class -/
section
variable {X : Cx} {e : Expr} {es : List Expr} {ta : TA} {p1 p2 pos : Pos} {x : Str} {C : Addr}
theorem pe_oinit {pl : Sem Bool} (hg : Gl X x) (hm : X.mg x = some (.ref C)) (T : Par X.K C) (ha : PA X (e :: es) ta) (hdb : (x == ("__debug__" : Str)) = false := by decide)
    (hc : eval (.Call (.Attribute (.Name x p1) "__init__" p2) (e :: es) [] pos) X.env = (do
      let ov ← eval (.Name x p1) X.env
      standAt p2.atName
      let (f, first) ← holding [ov] (getMethod ov "__init__" pl)
      callWith pos f first (backTo pos (starEach (e :: es) X.env)) (backToKw pos (keywordEach [] X.env))) := by rfl)
    (he : starEach (e :: es) X.env = (false, eval e X.env) :: starEach es X.env := by rfl) (hpl : (backTo pos (starEach es X.env)).any (·.1) = false := by rfl) :
    PE X (.Call (.Attribute (.Name x p1) "__init__" p2) (e :: es) [] pos) (tVeI X.K ta) := by
  refine ⟨fun pins s σ H Q I h => ?_⟩
  refine PySem.W.methodCall_KW (ld_glob I hg hm ?_ hdb) hc
  refine PySem.W.method_cls I.kIn T.ga (PySem.W.cls_value I.kIn T.rd T.at_ (by decide +kernel) ?_)
  refine PyProof.Rows.callWith_method1 (thn (ha.run pos pins _ σ H _ (I.tok _) h) fun us s1 ⟨vs, H1, I1, r1, a, C1, ws, ev, hl, T1, ea, q⟩ => ?_) he hpl
  subst ev
  cases r1 with
  | @cons _ u0 _ ur ra rw' =>
    obtain rfl : u0 = Value.ref a := ra
    have hlen : ur.length ≤ sizeLine := by
      have e1 := Paired.length rw'
      have e2 := sizeLine_eq
      omega
    exact oinit_ok T1 I1 ea hlen fun s' J => ⟨.non, H1, J, rfl, q⟩
end
/-! ### C(v), C an own exception class with one field, to be raised -/
def spExc (C : Addr) (f : Str) : Sp := fun vs H Q _ => ∃ (a : Addr) (v : V), vs = [.ref a, v] ∧ H a = some (exo a C none) ∧ ∀ dx, H dx = none → dx ≠ a → Q .non (upd (upd H dx (exd dx [(f, v)])) a (exo a C (some dx)))
structure Xmk (P : Program) (w : World) (K : PySem.W.Frag) (mg : Str → Option Value) (base : Heap) (k : Nat) (x : Str) (C fI : Addr) (f : Str) : Prop where
  ex : ∃ (fd : FuncData) (ps : List Str) (ds : List Value), FnOk P w K mg base CX0 k fI fd ps (spExc C f) ∧ Binds K fd ps ds ∧ Vals [] ds
  oe : OexC K C
  ini : PySem.W.findIn K (.ref C) "__init__" = some (some (.ref fI)) ∧ PySem.W.typeIn K (.ref fI) = some (.type "function")
  g : mg x = some (.ref C)
def tExc (C : Addr) (f : Str) (ta : TA) : L2.St → Hp → XK → Prop := fun σ H Q => ta σ H fun vs H1 => ∃ v, vs = [v] ∧ ∀ d, H1 d = none → Q (.ref C) (some d) (upd H1 d (.xd [(f, v)]))
section
variable {X : Cx} {k : Nat} {x : Str} {C fI : Addr} {f : Str} {e : Expr} {es : List Expr} {ta : TA} {te : TE} {p pos : Pos}
/-- a reading made monotone -/
def clo (ta : TA) : TA := fun σ H Q => ∃ R : List V → Hp → Prop, ta σ H R ∧ ∀ vs H1, R vs H1 → Q vs H1
theorem pa_clo (h : PA X es ta) : PA X es (clo ta) := by
  refine ⟨fun pos pins s σ H Q I hh => ?_⟩
  obtain ⟨R, h1, h2⟩ := hh
  exact thn (h.run pos pins s σ H R I h1) fun us s1 ⟨vs, H1, I1, r, q⟩ => ⟨vs, H1, I1, r, h2 vs H1 q⟩
theorem pmk_x (c : Xmk X.prog X.w X.K X.mg X.base k x C fI f) (hr : Room (k + 1) X.A) (hg : Gl X x) (ha : PA X (e :: es) ta) (hdb : (x == ("__debug__" : Str)) = false := by decide)
    (he : starEach (e :: es) X.env = (false, eval e X.env) :: starEach es X.env := by rfl) (hpl : (backTo pos (starEach es X.env)).any (·.1) = false := by rfl) : PMk X (.Call (.Name x p) (e :: es) [] pos) (tExc C f ta) := by
  obtain ⟨fd, ps, ds, h1, h2, h3⟩ := c.ex
  have P := pmk_oex (pos := pos) (p := p) c.oe c.ini.1 c.ini.2 h1 hr h2 h3 pass0 hg c.g (pa_clo ha) hdb he hpl
  intro pins s σ H Q I h
  refine P pins s σ H Q I ⟨_, h, fun vs H1 q => ?_⟩
  obtain ⟨v, rfl, q⟩ := q
  refine ⟨by show 1 ≤ 1000; decide, fun a na => ⟨a, v, rfl, upd_same, fun dx nd ne => ⟨rfl, dx, [(f, v)], upd_same, ?_, ?_, ?_⟩⟩⟩
  · rw [upd_ne ne, upd_same]
  · rw [upd_ne ne] at nd
    exact nd
  · have nd' : H1 dx = none := by rw [upd_ne ne] at nd; exact nd
    have e2 : upd (del (upd (upd (upd H1 a (exo a C none)) dx (exd dx [(f, v)])) a (exo a C (some dx))) a) dx (.xd [(f, v)]) = upd H1 dx (.xd [(f, v)]) := by
      funext b
      by_cases hb : b = dx
      · rw [hb, upd_same, upd_same]
      · rw [upd_ne hb, upd_ne hb]
        by_cases ha : b = a
        · rw [ha, del_same, na]
        · rw [del_ne ha, upd_ne ha, upd_ne hb, upd_ne ha]
    rw [e2]
    exact q dx nd'
end
/-! ### calls that may raise -/
section
variable {X : Cx} {CX : CXT} {k : Nat} {f C : Addr} {fd : FuncData} {ps : List Str} {sp : Sp} {E : L2.St → XK} {x m : Str} {p pos apos : Pos} {e o : Expr} {es : List Expr} {ta : TE} {t : TA} {W : WX} {ds : List Value}
theorem binds0 {K : PySem.W.Frag} (h : Binds K fd ps ds) (hd : Vals [] ds) : Binds K fd ps [] := by
  cases hd
  exact h
/-- f(e, ..) -/
theorem pe_calX (c : Cal X.prog X.w X.K X.mg X.base (L2.CX X.prog X.w) k x f sp []) (tk : Takes X W) (hr : Room k X.A) (hg : Gl X x) (ha : PA X (e :: es) t) (hdb : (x == ("__debug__" : Str)) = false := by decide)
    (he : starEach (e :: es) X.env = (false, eval e X.env) :: starEach es X.env := by rfl) (hpl : (backTo pos (starEach es X.env)).any (·.1) = false := by rfl) : PE X (.Call (.Name x p) (e :: es) [] pos) (tCallS sp (WE W) t) := by
  obtain ⟨fd, ps, ds, h1, h2, h3⟩ := c.ex
  exact pe_callS h1 hr hg c.g c.kp (binds0 h2 h3) (fun σ => passAt tk σ) ha hdb he hpl
def tMethS (C : Addr) (m : Str) (sp : Sp) (E : L2.St → XK) (te : TE) (t : TA) : TE := fun σ H Q => te σ H fun x H1 => ∃ (a dx : Addr) (fs : List (Str × V)), x = .ref a ∧ H1 a = some (.ins C dx fs) ∧ fs.lookup m = none ∧ t σ H1 fun vs H2 => sp (.ref a :: vs) H2 Q (E σ)
end
/-! ### in an except suite -/
/-- e.f, the class told by the reading -/
def tXfA (K : PySem.W.Frag) (a : Addr) (cls : Value) (d : Option Addr) (f : Str) (te : TE) : TE := fun σ H Q => te σ H fun x H1 => ∃ C : Addr, x = .ref a ∧ cls = .ref C ∧ ExD K C ∧ PySem.W.findIn K (.ref C) f = some none ∧ ∃ (dd : Addr) (fs : List (Str × V)) (v : V), d = some dd ∧ H1 dd = some (.xd fs) ∧ fs.lookup f = some v ∧ Q v H1
/-- isinstance(e, c) -/
def rIsX (K : PySem.W.Frag) (a : Addr) (cls : Value) (d : Option Addr) : List V → Hp → VK → Prop := fun xs H Q => ∃ (D : Addr) (c : V) (cv : Value) (b : Bool), cls = .ref D ∧ ExD K D ∧ (∀ dd, d = some dd → ∃ fs, H dd = some (.xd fs)) ∧ xs = [.ref a, c] ∧ (∀ u, RelV c u → u = cv) ∧ PySem.W.kitOne K (.ref D) cv = some b ∧ Q (.bl b) H
section
variable {X : Cx} {a : Addr} {oe : Obj} {cls : Value} {d : Option Addr} {pn : List (Addr × Obj)} {e : Expr} {te : TE} {pos : Pos} {n : Str}
theorem pe_xfA (hz : Zc cls d oe) (hf : ∃ vs, oe.data = .fields vs) (he : PE (X.suite a ((a, oe) :: pn)) e te) (hb : attributeBase e n X.env (eval e X.env) = eval e X.env := by rfl) : PE (X.suite a ((a, oe) :: pn)) (.Attribute e n pos) (tXfA X.K a cls d n te) := by
  refine ⟨fun pins s σ H Q I h => ?_⟩
  refine attr_of hb (thn (he.run pins s σ H _ I h) fun u s1 hh => ?_)
  obtain ⟨x, H1, I1, rx, C, ex, ec, T, hno, dd, fs, v, ed, ea, l, q⟩ := hh
  subst ex ec ed
  cases (show u = Value.ref a from rx)
  obtain ⟨ha, _⟩ := I1.pin (a, oe) (List.mem_append_left _ List.mem_cons_self)
  obtain ⟨vs, hd⟩ := hf
  obtain ⟨mA, hns, hr⟩ := (show ObjOk X.prog X.w H1 s1.heap dd (.xd fs) from I1.hok dd _ ea)
  obtain ⟨od, ho, hl⟩ := lookIn_ns hns
  obtain ⟨u, hu, ru⟩ := RelO.some_of (v := v) (o := mA n) (by rw [← l]; exact hr n)
  have J : PySem.W.InstAt s1.heap a oe C (some od) := ⟨ha, hz.1, by unfold PySem.W.notCls; rw [hd], by rw [hz.2]; exact ho⟩
  exact HandSPX.exc_get I1.kIn J T.ga T.gg T.sb (PySem.W.findObj_own T.hd hno rfl (by rw [hl, hu])) (handed_of ru) ⟨v, H1, I1.tok _, ru, q⟩
theorem call_isX (hz : Zc cls d oe) (hf : ∃ vs, oe.data = .fields vs) : CallR (X.suite a ((a, oe) :: pn)) (.builtin "isinstance") (rIsX X.K a cls d) := by
  intro pins s σ H xs us Q I r h
  obtain ⟨D, c, cv, b, ec, C, hd, rfl, hcv, e, q⟩ := h
  subst ec
  cases r with
  | cons rx rr =>
    cases rr with
    | cons rt rr =>
      cases rr
      cases rx
      cases hcv _ rt
      obtain ⟨hget, _⟩ := I.pin (a, oe) (List.mem_append.mpr (.inl List.mem_cons_self))
      obtain ⟨vs, hv⟩ := hf
      have J : ∃ od, PySem.W.InstAt s.heap a oe D od := by
        cases d with
        | none => exact ⟨none, hget, hz.1, by unfold PySem.W.notCls; rw [hv], by rw [hz.2]; exact trivial⟩
        | some dd =>
          obtain ⟨fs, hfs⟩ := hd dd rfl
          obtain ⟨mA, ⟨o, _, _, ho, _⟩, _⟩ := (show ObjOk X.prog X.w H s.heap dd (.xd fs) from I.hok dd _ hfs)
          exact ⟨some o, hget, hz.1, by unfold PySem.W.notCls; rw [hv], by rw [hz.2]; exact ho⟩
      obtain ⟨od, J⟩ := J
      exact PySem.W.kia_one (PySem.W.kitx_exc C.cl C.ga C.gg C.sb C.cc C.sp C.tk C.mr) I.kIn J e (fun z => nomatch z) fun tk => ⟨.bl b, H, I.kept (t' := tk) fun _ _ z => z, rfl, q⟩
end
/-! ### try with clauses `except x as n` -/
abbrev Su := Addr → Value → Option Addr → TS
def wClauses (K : PySem.W.Frag) (Wout : WX) (D : Ends) : List (Value × Nat × Su) → WX
  | [] => Wout
  | (c, i, ts) :: r => fun cls d σ H => ∃ b, PySem.W.exmOne K cls c = some b ∧
      (b = true → ∀ a, H a = none → ts a cls d { nx := fun σ' H' => D.nx (σ'.set i none) H', rt := D.rt, bk := fun σ' H' => D.bk (σ'.set i none) H', ct := fun σ' H' => D.ct (σ'.set i none) H' } (σ.set i (some (.ref a))) H) ∧ (b = false → wClauses K Wout D r cls d σ H)
inductive Clauses (X : Cx) : List ExceptHandler → List (Value × Nat × Su) → Prop
  | nil : Clauses X [] []
  | cons {x n : Str} {c : Value} {i : Nat} {ts : Su} {st : Stmt} {suite : List Stmt} {np hp : Pos} {hds : List ExceptHandler} {l : List (Value × Nat × Su)} (names : Names X x c) (slot : X.N[i]? = some n) (loc : X.env.kindOf n = some .local)
      (body : ∀ (a : Addr) (oe : Obj) (cls : Value) (d : Option Addr) (pn : List (Addr × Obj)), Zc cls d oe → (∃ vs, oe.data = .fields vs) → PSs (X.suite a ((a, oe) :: pn)) (st :: suite) (ts a cls d)) (more : Clauses X hds l) :
      Clauses X (.ExceptHandler (some (.Name x np)) (some n) (st :: suite) hp :: hds) ((c, i, ts) :: l)
  | cons0 {x : Str} {c : Value} {i : Nat} {ts : Su} {st : Stmt} {suite : List Stmt} {np hp : Pos} {hds : List ExceptHandler} {l : List (Value × Nat × Su)} (names : Names X x c) (out : X.N.length ≤ i)
      (body : ∀ (a : Addr) (oe : Obj) (cls : Value) (d : Option Addr) (pn : List (Addr × Obj)), Zc cls d oe → (∃ vs, oe.data = .fields vs) → PSs (X.suite a ((a, oe) :: pn)) (st :: suite) (ts a cls d)) (more : Clauses X hds l) :
      Clauses X (.ExceptHandler (some (.Name x np)) none (st :: suite) hp :: hds) ((c, i, ts) :: l)
section
variable {X : Cx} {body : List Stmt} {hd0 : ExceptHandler} {hds : List ExceptHandler} {l : List (Value × Nat × Su)} {pos : Pos} {tb : WX → TS} {Wout : WX}
theorem ps_try_clauses (hs : X.stack = X.env :: X.outer) (hf : X.env.frame = some X.env.locals) (hN : X.N.Nodup) (tk : Takes X Wout)
    (bd : ∀ (W : WX) (pn : List (Addr × Obj)) (xe : Value → Shared → Prop), Takes (X.tr pn xe) W → PSs (X.tr pn xe) body (tb W)) (cl : Clauses X (hd0 :: hds) l) : PS X (.Try body (hd0 :: hds) [] [] pos) (fun D σ H => tb (wClauses X.K Wout D l) D σ H) := by
  refine ⟨fun pins s σ H D I h => ?_⟩
  have ok := I.ok; have frm : X.A.frames = some (X.env :: X.outer) := ok.frames.trans (congrArg some hs)
  refine wpAny_Try_except (wpAny_mono ((bd (wClauses X.K Wout D l) (X.pn ++ pins) (fun e s₁ => wpAny (model X.prog X.w) X.A (noteFrame e X.env) (fun _ s₂ => wpAny (model X.prog X.w) X.A (setFlight e none) (fun _ s₃ => wpAny (model X.prog X.w) X.A (handleBy e X.env (hd0 :: hds)) (SP X pins D) X.xe s₃) X.xe s₂) X.xe s₁) (fun u s' xx => ?_)).run [] s σ H D (I.toTry _) h) (fun f s1 hsp => ?_) (fun e s1 he => he))
  · obtain ⟨a, B, sI, pins', σ', H', cls, d, rfl, J', nb, up, sky, na, os, ag, wish⟩ := xx
    have J : Inv X pins σ' H' sI := J'.ofTry ok; rw [hs] at sky
    show wpAny (model X.prog X.w) X.A (noteFrame (.ref a) X.env) _ _ _
    refine Sky.land Zc.steady frm hf sky fun h3 fl up3 => ?_
    have J3 : Inv X pins σ' H' { s' with heap := h3 } := J.landed nb fl.1 (up.trans up3) os ag; obtain ⟨oe3, vs3, he3, hz3, hd3⟩ := fl.there
    have outs : a ∉ frs (X.env :: X.outer) := fun hm => by
      obtain ⟨_, o', e', hnf⟩ := fl.2.2.1.mem hm; rw [he3] at e'; cases e'; exact hnf _ hd3
    have nL : a ≠ X.env.locals := fun z => outs (List.mem_filterMap.mpr ⟨X.env, List.mem_cons_self, hf.trans (congrArg some z.symm)⟩)
    have nF : a ∉ X.fs := fun hm => by
      obtain ⟨e, he, q⟩ := List.mem_filterMap.mp hm; exact outs (List.mem_filterMap.mpr ⟨e, List.mem_cons_of_mem _ he, q⟩)
    have S3 := J3.suite he3 hd3 na nL nF
    have walk : ∀ {hds' : List ExceptHandler} {l' : List (Value × Nat × Su)}, Clauses X hds' l' → wClauses X.K Wout D l' cls d σ' H' → wpAny (model X.prog X.w) X.A (handleBy (.ref a) X.env hds') (SP X pins D) X.xe { s' with heap := h3 } := by
      intro hds' l' hk
      induction hk with
      | nil =>
        intro wish; refine wpAny_handleBy_nil ?_
        obtain ⟨k1, k2, k3, oe, vs, T, oT, ts', he, hz, hd, h1, hr⟩ := id fl; unfold PySem.passOn
        refine wpAny_bind (wpAny_field he hd h1 ?_); rw [if_neg (show ¬ ((Value.ref T == Value.none) = true) from fun z => by simp at z)]
        have fin : wpAny (model X.prog X.w) X.A (setFlight (.ref a) X.env.frame) (fun _ s4 => wpAny (model X.prog X.w) X.A (throw (.ref a) : Sem Flow) (SP X pins D) X.xe s4) X.xe { s' with heap := h3 } := by
          rw [hf]; refine HandSPX.setFlight_upZ fl fun h4 hh4 up4 => wpAny_throw (tk _ _ ⟨a, B, sI, pins, σ', H', cls, d, rfl, J, nb, (up.trans up3).trans up4, .inr (.inr ?_), na, os, ag, wish⟩); rw [hs]; exact hh4
        first | exact wpAny_bind (wpAny_pure (wpAny_bind fin)) | exact wpAny_bind fin
      | @cons x n c i ts st suite np hp hds2 l2 names slot loc body more ih =>
        intro wish; obtain ⟨b, hb1, hyes, hno⟩ := wish
        refine wpAny_handleBy_cons (codeAny_handlers_test ?_) (by intro q; cases q)
        have LT : PySem.W.Looks (model X.prog X.w) h3 (typeOf (.ref a)) cls := fun A Q E s k q => wpAny_typeOf_ref (k _ _ he3) (by rw [hz3.1]; exact q)
        have LM := PySem.W.exm_one (M := model X.prog X.w) (J3.kIn) LT hb1
        have test : ∀ {Q : Value → Shared → Prop} {E : Value → Shared → Prop}, Q c { s' with heap := h3 } → wpAny (model X.prog X.w) (X.A.mark (some (.ref a))) (eval (.Name x np) X.env) Q E { s' with heap := h3 } := fun {Q E} q => by
          obtain ⟨hg, hdbg, hm | ⟨hm, hv, hnn⟩⟩ := names
          · exact ld_glob (X := X.suite a ((a, oe3) :: (X.pn ++ pins))) S3 hg hm q hdbg
          · exact ld_blt (X := X.suite a ((a, oe3) :: (X.pn ++ pins))) S3 hg hm hv q hnn hdbg
        refine test (LM.here ?_)
        cases b with
        | true =>
          refine codeAny_handlers_suite_as (HandSPX.lands_againZ fl fun h4 fl4 up4 => ?_)
          have J4 : Inv X pins σ' H' { s' with heap := h4 } := J.landed nb fl4.1 ((up.trans up3).trans up4) os ag; obtain ⟨oe4, vs4, he4, hz4, hd4⟩ := fl4.there
          refine store_ok (X := X.suite a ((a, oe4) :: (X.pn ++ pins))) (v := .ref a) (J4.suite he4 hd4 na nL nF) hN slot (.inl loc) rfl (fun s5 S5 => ?_) (.inr loc)
          refine wpAny_mono ((body a oe4 cls d (X.pn ++ pins) hz4 ⟨_, hd4⟩).run [] s5 _ H' _ S5 (hyes rfl a na)) (fun f s6 hsp => ?_) (fun _ _ z => False.elim z)
          have goes : ∀ {σ6 : L2.St} {H6 : Hp} {Q : Shared → Prop}, Inv (X.suite a ((a, oe4) :: (X.pn ++ pins))) [] σ6 H6 s6 → (∀ s7, Inv X pins (σ6.set i none) H6 s7 → Q s7) → wpAny (model X.prog X.w) X.A (do bindName X.env n .none; unbindBehindTheSuite X.env n hp) (fun _ s7 => Q s7) X.xe s6 := fun {σ6 H6 Q} S6 hq => gone_ok (S6.unsuite ok) hN slot loc hq
          cases f with
          | next => obtain ⟨σ6, H6, S6, q6⟩ := hsp; exact goes S6 fun s7 J7 => ⟨_, _, J7, q6⟩
          | brk => obtain ⟨σ6, H6, S6, q6⟩ := hsp; exact goes S6 fun s7 J7 => ⟨_, _, J7, q6⟩
          | cont => obtain ⟨σ6, H6, S6, q6⟩ := hsp; exact goes S6 fun s7 J7 => ⟨_, _, J7, q6⟩
          | ret u => obtain ⟨v6, σ6, H6, S6, r6, q6⟩ := hsp; exact goes S6 fun s7 J7 => ⟨_, _, _, J7, r6, q6⟩
        | false =>
          show wpAny _ X.A (handleBy (.ref a) X.env hds2) _ _ _
          exact ih (hno rfl)
      | @cons0 x c i ts st suite np hp hds2 l2 names out body more ih =>
        intro wish; obtain ⟨b, hb1, hyes, hno⟩ := wish
        refine wpAny_handleBy_cons (codeAny_handlers_test ?_) (by intro q; cases q)
        have LT : PySem.W.Looks (model X.prog X.w) h3 (typeOf (.ref a)) cls := fun A Q E s k q => wpAny_typeOf_ref (k _ _ he3) (by rw [hz3.1]; exact q)
        have LM := PySem.W.exm_one (M := model X.prog X.w) (J3.kIn) LT hb1
        have test : ∀ {Q : Value → Shared → Prop} {E : Value → Shared → Prop}, Q c { s' with heap := h3 } → wpAny (model X.prog X.w) (X.A.mark (some (.ref a))) (eval (.Name x np) X.env) Q E { s' with heap := h3 } := fun {Q E} q => by
          obtain ⟨hg, hdbg, hm | ⟨hm, hv, hnn⟩⟩ := names
          · exact ld_glob (X := X.suite a ((a, oe3) :: (X.pn ++ pins))) S3 hg hm q hdbg
          · exact ld_blt (X := X.suite a ((a, oe3) :: (X.pn ++ pins))) S3 hg hm hv q hnn hdbg
        refine test (LM.here ?_)
        cases b with
        | true =>
          refine codeAny_handlers_suite (HandSPX.lands_againZ fl fun h4 fl4 up4 => ?_)
          have J4 : Inv X pins σ' H' { s' with heap := h4 } := J.landed nb fl4.1 ((up.trans up3).trans up4) os ag; obtain ⟨oe4, vs4, he4, hz4, hd4⟩ := fl4.there
          have S4 := J4.suite he4 hd4 na nL nF
          have idle : ∀ {v : Option V}, σ'.set i v = σ' := List.set_eq_of_length_le (by rw [J4.len]; exact out)
          have run := hyes rfl a na
          rw [idle] at run
          refine wpAny_mono ((body a oe4 cls d (X.pn ++ pins) hz4 ⟨_, hd4⟩).run [] _ _ H' _ S4 run) (fun f s6 hsp => ?_) (fun _ _ z => False.elim z)
          have still : ∀ {σ6 : L2.St} {H6 : Hp}, Inv X pins σ6 H6 s6 → σ6.set i none = σ6 := fun {σ6 H6} I6 => List.set_eq_of_length_le (by rw [I6.len]; exact out)
          cases f with
          | next => obtain ⟨σ6, H6, S6, q6⟩ := hsp; have I6 := S6.unsuite ok; exact ⟨_, _, I6, by have q : D.nx (σ6.set i none) H6 := q6; rw [still I6] at q; exact q⟩
          | brk => obtain ⟨σ6, H6, S6, q6⟩ := hsp; have I6 := S6.unsuite ok; exact ⟨_, _, I6, by have q : D.bk (σ6.set i none) H6 := q6; rw [still I6] at q; exact q⟩
          | cont => obtain ⟨σ6, H6, S6, q6⟩ := hsp; have I6 := S6.unsuite ok; exact ⟨_, _, I6, by have q : D.ct (σ6.set i none) H6 := q6; rw [still I6] at q; exact q⟩
          | ret u => obtain ⟨v6, σ6, H6, S6, r6, q6⟩ := hsp; exact ⟨_, _, _, S6.unsuite ok, r6, q6⟩
        | false =>
          show wpAny _ X.A (handleBy (.ref a) X.env hds2) _ _ _
          exact ih (hno rfl)
    exact walk cl wish
  · cases f with
    | next => obtain ⟨σ', H', J', q⟩ := hsp; exact wpAny_execs_nil ⟨σ', H', J'.ofTry ok, q⟩
    | brk => obtain ⟨σ', H', J', q⟩ := hsp; exact ⟨σ', H', J'.ofTry ok, q⟩
    | cont => obtain ⟨σ', H', J', q⟩ := hsp; exact ⟨σ', H', J'.ofTry ok, q⟩
    | ret u => obtain ⟨v, σ', H', J', r, q⟩ := hsp; exact ⟨v, σ', H', J'.ofTry ok, r, q⟩
end
end WD
namespace WD
open PySem PySem.Spec PyProof.Rows L2
/-! ### any data -/
mutual
def rJ (M : MS) (H : Hp) : V → PyData → Prop
  | v, .none => v = .non
  | v, .bool b => v = .bl b
  | v, .int i => v = .int i
  | v, .str x => v = .str x ∧ PyData.strOk x = true
  | v, .list l => ∃ a vs, v = .ref a ∧ ¬ M a ∧ H a = some (.lst vs) ∧ rJs M H vs l
  | v, .tuple l => ∃ a vs, v = .ref a ∧ ¬ M a ∧ H a = some (.tup vs) ∧ rJs M H vs l
  | _, .dict _ => False
def rJs (M : MS) (H : Hp) : List V → List PyData → Prop
  | [], [] => True
  | v :: vs, d :: ds => rJ M H v d ∧ rJs M H vs ds
  | _, _ => False
end
abbrev rX : Rl PyData := rJ
mutual
theorem rJ_st {M M' : MS} {H H' : Hp} (na : ∀ a, ¬ M a → H a ≠ none → ¬ M' a) (f : ∀ a o, ¬ M a → H a = some o → H' a = some o) : ∀ (d : PyData) (v : V), rJ M H v d → rJ M' H' v d
  | .none, v, h => by unfold rJ at h ⊢; exact h
  | .bool b, v, h => by unfold rJ at h ⊢; exact h
  | .int i, v, h => by unfold rJ at h ⊢; exact h
  | .str x, v, h => by unfold rJ at h ⊢; exact h
  | .list l, v, h => by
    unfold rJ at h ⊢
    obtain ⟨a, vs, h1, h2, h3, h4⟩ := h
    exact ⟨a, vs, h1, na a h2 (by rw [h3]; exact fun z => nomatch z), f a _ h2 h3, rJs_st na f l vs h4⟩
  | .tuple l, v, h => by
    unfold rJ at h ⊢
    obtain ⟨a, vs, h1, h2, h3, h4⟩ := h
    exact ⟨a, vs, h1, na a h2 (by rw [h3]; exact fun z => nomatch z), f a _ h2 h3, rJs_st na f l vs h4⟩
  | .dict _, v, h => by unfold rJ at h; exact h.elim
theorem rJs_st {M M' : MS} {H H' : Hp} (na : ∀ a, ¬ M a → H a ≠ none → ¬ M' a) (f : ∀ a o, ¬ M a → H a = some o → H' a = some o) : ∀ (ds : List PyData) (vs : List V), rJs M H vs ds → rJs M' H' vs ds
  | [], [], _ => by unfold rJs; trivial
  | d :: ds, v :: vs, h => by
    unfold rJs at h ⊢
    exact ⟨rJ_st na f d v h.1, rJs_st na f ds vs h.2⟩
  | [], _ :: _, h => by unfold rJs at h; exact h.elim
  | _ :: _, [], h => by unfold rJs at h; exact h.elim
end
instance : Rep rX := ⟨fun f h => rJ_st (fun _ n _ => n) f.keep _ _ h, fun s h => rJ_st (fun a n _ z => n (s a z)) (fun _ _ _ e => e) _ _ h,
  fun hD h => rJ_st (fun a n ne z => z.elim n (fun e => ne (by rw [e]; exact hD))) (fun _ _ _ e => e) _ _ h⟩
/-! ints as data -/
/-! ### things, rows of any data -/
end WD
/-! enumerate of a tuple -/
namespace WD
open PySem PySem.Spec PyProof.Rows L2
open AutoSeq1 (wpAny_loadPart')
section
variable {prog : Program} {w : World} {A : Around} {E : Value → Shared → Prop}
/-- a turn of an enumerate whose inner iterator gives x and then stands as P says -/
theorem enum_turn {s : Shared} {e it : Addr} {i : Nat} {x old : Value} {P : Heap → Prop} {Q : Value → Shared → Prop} (he : IsEnum s.heap e it i old) (hne : e ≠ it)
    (next : ∀ {Q' : Value → Shared → Prop}, (∀ h', P h' → Heap.SameBut it s.heap h' → Q' x { s with heap := h' }) → wpAny (model prog w) A (Builtin.SmallTypes.nextOf (.ref it)) Q' E s)
    (st : ∀ {h h'}, P h → Heap.ExtBut e h h' → P h')
    (hQ : ∀ h', IsEnumOut h' e it ((i : Int) + 1) x s.heap.objs.size → P h' → h'.get? s.heap.objs.size = some { cls := .type "tuple", data := .seq #[.int i s.toks, x] } →
      (∀ b o, b ≠ e → b ≠ it → s.heap.get? b = some o → h'.get? b = some o) → Q (.ref s.heap.objs.size) { s with heap := h', toks := s.toks + 1 }) :
    wpAny (model prog w) A (Builtin.«enumerate.__next__» ⟨[.ref e], []⟩) (fun fin s' => ∃ v, fin = .done (.ret v) ∧ Q v s') E s := by
  obtain ⟨hp, g, d, tk, os⟩ := s
  dsimp only at he next hQ
  have lt : e < hp.objs.size := Heap.lt_size he
  show wpAny _ _ (field (.ref e) 2 >>= _) _ _ ⟨hp, g, d, tk, os⟩
  refine wpAny_bind (wpAny_field he rfl (x := .ref it) rfl (wpAny_bind (next fun h1 p1 s1 => ?_)))
  have e1 : IsEnum h1 e it i old := (s1.2 e hne).trans he
  show wpAny _ _ (field (.ref e) 3 >>= _) _ _ _
  refine wpAny_bind (wpAny_field e1 rfl (x := rawInt i) rfl ?_)
  show wpAny _ _ (field (.ref e) 4 >>= _) _ _ _
  refine wpAny_bind (wpAny_field e1 rfl (x := .none) rfl ?_)
  show wpAny _ _ (mkInt i >>= _) _ _ _
  refine wpAny_bind (wpAny_mkInt ?_)
  show wpAny _ _ (setField (.ref e) 3 (rawInt ((i : Int) + 1)) >>= _) _ _ _
  refine wpAny_bind (wpAny_setField_rec e1 (by simp) fun h2 e2 s2 => ?_)
  have e2' : IsEnum h2 e it ((i : Int) + 1) old := e2
  show wpAny _ _ (setField (.ref e) 4 .none >>= _) _ _ _
  refine wpAny_bind (wpAny_setField_rec e2' (by simp) fun h3 e3 s3 => ?_)
  have e3' : IsEnum h3 e it ((i : Int) + 1) old := e3
  have p3 : P h3 := st (st p1 (Heap.SameBut.extBut s2)) (Heap.SameBut.extBut s3)
  have sz : h3.objs.size = hp.objs.size := s3.1.trans (s2.1.trans s1.1)
  have k3 : ∀ b o, b ≠ e → b ≠ it → hp.get? b = some o → h3.get? b = some o := fun b o n1 n2 q => (s3.2 b n1).trans ((s2.2 b n1).trans ((s1.2 b n2).trans q))
  show wpAny _ _ (newTuple [.int i tk, x] >>= _) _ _ _
  refine wpAny_bind (wpAny_newTuple ?_)
  have e4 : IsEnum (h3.push { cls := .type "tuple", data := .seq #[.int i tk, x] }) e it ((i : Int) + 1) old := Heap.get?_push_of_some _ e3'
  have t4 : (h3.push { cls := .type "tuple", data := .seq #[.int i tk, x] }).get? hp.objs.size = some { cls := .type "tuple", data := .seq #[.int i tk, x] } := sz ▸ Heap.get?_push_size _ rfl
  have p4 : P (h3.push { cls := .type "tuple", data := .seq #[.int i tk, x] }) := st p3 fun b o _ q => Heap.get?_push_of_some _ q
  have k4 : ∀ b o, b ≠ e → b ≠ it → hp.get? b = some o → (h3.push { cls := .type "tuple", data := .seq #[.int i tk, x] }).get? b = some o := fun b o n1 n2 q => Heap.get?_push_of_some _ (k3 b o n1 n2 q)
  generalize h3.push { cls := .type "tuple", data := .seq #[.int i tk, x] } = h4 at e4 t4 p4 k4
  show wpAny _ _ (Builtin.SmallTypes.ownedTupleIsFree (.ref e) >>= _) _ _ ⟨h4, g, d, tk + 1, os⟩
  rw [sz]
  refine wpAny_bind ?_
  unfold Builtin.SmallTypes.ownedTupleIsFree
  refine wpAny_bind (wpAny_field e4 rfl (x := .none) rfl (wpAny_pure ?_))
  simp only [if_true]
  refine wpAny_bind (wpAny_rule (wpAny_bind (wpAny_field e4 rfl (x := old) rfl (wpAny_bind (wpAny_setField_rec e4 (by simp) fun h5 e5 s5 => ?_)))))
  have e5' : IsEnum h5 e it ((i : Int) + 1) x := e5
  show wpAny _ _ (Builtin.SmallTypes.ownedTupleHandOut (.ref e) (.ref hp.objs.size) >>= _) _ _ _
  refine wpAny_bind ?_
  unfold Builtin.SmallTypes.ownedTupleHandOut
  refine wpAny_bind (wpAny_setField_rec e5' (by simp) fun h6 e6 s6 => ?_)
  have e6' : IsEnumOut h6 e it ((i : Int) + 1) x hp.objs.size := e6
  refine wpAny_setField_rec e6' (by simp) fun h7 e7 s7 => ?_
  refine wpAny_bind (wpAny_letGo (wpAny_pure ⟨_, rfl, hQ h7 e7 ?_ ?_ ?_⟩))
  · exact st (st (st p4 (Heap.SameBut.extBut s5)) (Heap.SameBut.extBut s6)) (Heap.SameBut.extBut s7)
  · exact (s7.2 _ (Nat.ne_of_gt lt)).trans ((s6.2 _ (Nat.ne_of_gt lt)).trans ((s5.2 _ (Nat.ne_of_gt lt)).trans t4))
  · exact fun b o n1 n2 q => (s7.2 b n1).trans ((s6.2 b n1).trans ((s5.2 b n1).trans (k4 b o n1 n2 q)))
theorem enumT_item {s : Shared} {e it l : Addr} {i : Nat} {items : Array Value} {x old : Value} {Q : Option Value → Shared → Prop} (he : IsEnum s.heap e it i old) (hit : s.heap.IsTupleIter it l i) (hl : s.heap.IsTuple l items) (hx : items[i]? = some x) (hne : e ≠ it)
    (hQ : ∀ h', IsEnumOut h' e it ((i : Int) + 1) x s.heap.objs.size → h'.IsTupleIter it l (i + 1) → h'.get? s.heap.objs.size = some { cls := .type "tuple", data := .seq #[.int i s.toks, x] } →
      (∀ b o, b ≠ e → b ≠ it → s.heap.get? b = some o → h'.get? b = some o) → Q (some (.ref s.heap.objs.size)) { s with heap := h', toks := s.toks + 1 }) : wpAny (model prog w) A (pyNext (.ref e)) Q E s := by
  have hT : s.TypeIs (.ref e) "enumerate" := ⟨_, he, rfl⟩
  unfold pyNext
  refine wpAny_bind (wpAny_attempt (wpAny_callSpecial?_slot (name := Str.ofString "__next__") hT F.slot_enumerate_next (wpAny_call_entry F.slot_enumerate_next hT F.entry_enumerate_next (enum_turn (x := x) (P := fun h => h.IsTupleIter it l (i + 1)) he hne ?_ ?_ ?_) (F.args_enumerate_next_1 _))))
  · exact fun q => RZ.nextOf_tuple_item hit hl hx q
  · exact fun {h h'} p k => p.extBut k (Ne.symm hne)
  · exact fun h' a b c k => wpAny_pure (hQ h' a b c k)
theorem enumT_end {s : Shared} {e it l : Addr} {i : Nat} {items : Array Value} {old : Value} {Q : Option Value → Shared → Prop} (hh : A.handled = none) (he : IsEnum s.heap e it i old) (hit : s.heap.IsTupleIter it l i) (hl : s.heap.IsTuple l items) (hx : items[i]? = none)
    (hQ : ∀ h', Heap.ExtBut it s.heap h' → Q none { s with heap := h' }) : wpAny (model prog w) A (pyNext (.ref e)) Q E s := by
  have hT : s.TypeIs (.ref e) "enumerate" := ⟨_, he, rfl⟩
  unfold pyNext
  refine wpAny_bind (wpAny_attempt (wpAny_callSpecial?_slot (name := Str.ofString "__next__") hT F.slot_enumerate_next (wpAny_call_entry F.slot_enumerate_next hT F.entry_enumerate_next ?_ (F.args_enumerate_next_1 _))))
  show wpAny _ _ (field (.ref e) 2 >>= _) _ _ _
  refine wpAny_bind (wpAny_field he rfl (x := .ref it) rfl (wpAny_bind (RZ.nextOf_tuple_end hh hit hl hx fun h' x he' hx' => ?_)))
  obtain ⟨o, ho, hc⟩ := hx'
  exact wpAny_bind (wpAny_isInstance (T := "StopIteration") (b := true) ⟨o, ho, hc⟩ isSubtype_stop (wpAny_pure (hQ _ he')))
theorem enumT_new (l : Addr) (items : Array Value) (n : Nat) (dct : Option Addr) (sl : Array (Option Value)) :
    Meets (Builtin.«enumerate.__new__» ⟨[.type "enumerate", .ref l], []⟩) (fun _ R s => s.heap.get? l = some { cls := .type "tuple", dict := dct, data := .seq items n, slots := sl } ∧
      R (.ok (.ret (.ref (s.heap.push { cls := .type "tuple_iterator", data := .fields #[.ref l, .int 0 0] }).objs.size)))
        { s with heap := (s.heap.push { cls := .type "tuple_iterator", data := .fields #[.ref l, .int 0 0] }).push { cls := .type "enumerate", data := .fields #[.none, .bool false, .ref s.heap.objs.size, rawInt 0, .none, .none] } }) :=
  .of_wp fun prog w A R s h => by
    obtain ⟨hp, g, d, tk, os⟩ := s
    obtain ⟨hl, h⟩ := h
    have hsub := sub_enumerate
    have hL : Heap.IsTuple (Shared.heap ⟨hp, g, d, tk, os⟩) l items := ⟨_, hl, rfl, n, rfl⟩
    wp_walk using wpAny_loadPart' hl
    refine wpAny_stack_any fun st => wpAny_pure ?_
    split
    · rename_i c _ _ _ _ _
      cases (c == Value.type "enumerate") <;> (wp_walk using wpAny_loadPart' hl, wpAny_pyIter_tuple hL; exact ⟨_, rfl, h⟩)
    · wp_walk using wpAny_loadPart' hl, wpAny_pyIter_tuple hL
      exact ⟨_, rfl, h⟩
theorem call_enumT {s : Shared} {l : Addr} {items : Array Value} {Q : Value → Shared → Prop} (hL : s.heap.IsTuple l items)
    (h : ∀ h', IsEnum h' (s.heap.objs.size + 1) s.heap.objs.size 0 .none → h'.IsTupleIter s.heap.objs.size l 0 → (∀ b o, s.heap.get? b = some o → h'.get? b = some o) → Q (.ref (s.heap.objs.size + 1)) { s with heap := h' }) :
    wpAny (model prog w) A (call (.type "enumerate") [.ref l]) Q E s := by
  obtain ⟨⟨c, dct, dt, sl⟩, hl, hc, n, hd⟩ := hL
  simp only at hc hd
  subst hc hd
  refine callType_new F.called_enumerate (by decide) (F.typeCall_enumerate_1 _) (F.newCall_enumerate_1 _) (fun obj => F.args_object_init_2 obj _) F.entry_enumerate_new (enumT_new l items n dct sl) ⟨hl, ?_⟩
  have hz : (s.heap.push { cls := .type "tuple_iterator", data := .fields #[.ref l, .int 0 0] }).objs.size = s.heap.objs.size + 1 := Heap.size_push ..
  show _ ∧ _
  rw [hz]
  have he : IsEnum ((s.heap.push { cls := .type "tuple_iterator", data := .fields #[.ref l, .int 0 0] }).push { cls := .type "enumerate", data := .fields #[.none, .bool false, .ref s.heap.objs.size, rawInt 0, .none, .none] }) (s.heap.objs.size + 1) s.heap.objs.size 0 .none := by
    have q := Heap.get?_push_size (s.heap.push { cls := .type "tuple_iterator", data := .fields #[.ref l, .int 0 0] }) (o := { cls := .type "enumerate", data := .fields #[.none, .bool false, .ref s.heap.objs.size, rawInt 0, .none, .none] }) rfl
    rw [hz] at q
    exact q
  exact ⟨⟨_, he, rfl⟩, h _ he ⟨_, Heap.get?_push_of_some _ (Heap.get?_push_size _ rfl), rfl, rfl⟩ fun b o x => Heap.get?_push_of_some _ (Heap.get?_push_of_some _ x)⟩
end
/-- the tuple at a, each item in a new pair -/
def ItEnT (K : PySem.W.Frag) (a : Addr) : It :=
  ⟨fun i H => ∃ (xs : List V) (x : V), SqT K H a xs ∧ xs[i]? = some x, fun i H v H' => ∃ T x, v = .ref T ∧ H T = none ∧ H' = upd H T (.tup [.int (i : Nat), x]) ∧ ∀ xs, SqT K H a xs → xs[i]? = some x, fun i H => ∃ xs : List V, SqT K H a xs ∧ xs.length ≤ i⟩
theorem turn_enT {P : Program} {w : World} {K : PySem.W.Frag} {elts : List Expr} {kk : Nat} {tpos : Pos} (a e it : Addr) : Turn P w K (.Tuple elts kk tpos) (ItEnT K a) [e, it] e (fun i h => (∃ old, IsEnum h e it ((i : Nat) : Int) old) ∧ h.IsTupleIter it a i ∧ e ≠ it) where
  mem := List.mem_cons_self
  obj := fun i h st b hb => by
    obtain ⟨⟨old, he⟩, ⟨o, ho, hc, hd⟩, _⟩ := st
    rcases List.mem_cons.mp hb with z | z
    · subst z; exact ⟨_, he, nofun⟩
    · exact ⟨o, (List.mem_singleton.mp z) ▸ ho, fun v q => by rw [hd] at q; cases q⟩
  keep := fun i h h' st k => ⟨st.1.imp fun old he => k e List.mem_cons_self _ he, st.2.1.at fun o q => k it (List.mem_cons_of_mem _ List.mem_cons_self) o q, st.2.2⟩
  item := by
    intro X hP hw hK hc i pins s σ H E I hf st hg
    subst hP hw hK
    obtain ⟨⟨old, he⟩, hit, hne⟩ := st
    obtain ⟨xs, x, hq, hx⟩ := hg
    obtain ⟨its, rv, p, hz⟩ := I.tuple hq
    obtain ⟨u, hu, ru⟩ := rv.get hx
    have le : e < s.heap.objs.size := Heap.lt_size he
    have li : it < s.heap.objs.size := let ⟨_, q, _⟩ := hit; Heap.lt_size q
    refine enumT_item he hit (show s.heap.IsTuple a its.toArray from p) (x := u) (by simpa using hu) hne fun h' ho hit' hT hk => ⟨_, rfl, wpAny_letOwnedTupleGo_enum (s := { s with heap := h', toks := s.toks + 1 }) ho fun h'' he' sb => ?_⟩
    have new : ObjOk X.prog X.w (upd H s.heap.objs.size (.tup [.int (i : Nat), x])) h'' s.heap.objs.size (.tup [.int (i : Nat), x]) := ⟨by show 2 ≤ sizeLine; decide, [.int i s.toks, u], .cons ⟨_, rfl⟩ (.cons ru .nil), ⟨_, (sb.2 _ (Nat.ne_of_gt le)).trans hT, rfl, _, rfl⟩⟩
    have no : ∀ {b : Addr}, b ∉ [e, it] → b ≠ e ∧ b ≠ it := fun {b} hb => ⟨fun z => hb (z ▸ List.mem_cons_self), fun z => hb (z ▸ List.mem_cons_of_mem _ List.mem_cons_self)⟩
    have I1 : Inv X pins σ (upd H s.heap.objs.size (.tup [.int (i : Nat), x])) { s with heap := h'', toks := s.toks + 1 } :=
      I.turnedNew (ch := [e, it]) (fun b ob hb q => (sb.2 b (no hb).1).trans (hk b ob (no hb).1 (no hb).2 q)) hf (Nat.le_refl _) new
    refine ⟨.ref s.heap.objs.size, _, I1, rfl, ⟨_, x, rfl, I.hok.fresh (Nat.le_refl _), rfl, fun ys hy => by rw [I.tuple_inj hy hq]; exact hx⟩, ⟨⟨u, ?_⟩, hit'.at fun o q => (sb.2 it (Ne.symm hne)).trans q, hne⟩, fun b hb => ?_⟩
    · rw [Int.natCast_add]; exact he'
    · have hb' : b < s.heap.objs.size := (List.mem_cons.mp hb).elim (fun z => z ▸ le) fun z => (List.mem_singleton.mp z) ▸ li
      rw [upd_ne (Nat.ne_of_lt hb')]
      exact (hf b hb).1
  done := by
    intro X hP hw hK hc i pins s σ H E I hf st hg
    subst hP hw hK
    obtain ⟨⟨old, he⟩, hit, hne⟩ := st
    obtain ⟨xs, hq, hx⟩ := hg
    obtain ⟨its, rv, p, hz⟩ := I.tuple hq
    obtain ⟨f0, f1, f2, f3, f4, f5⟩ := hf it (List.mem_cons_of_mem _ List.mem_cons_self)
    have hl := rv.length
    exact enumT_end (I.ok.hd hc) he hit (show s.heap.IsTuple a its.toArray from p) (by simp; omega) fun h' eb => ⟨rfl, I.turned (t' := s.toks) (fun b o hb q => eb b o hb q) f0 f1 f3 f4 f5⟩
  self := fun A i s Q E st h => let ⟨⟨_, he⟩, _⟩ := st; wpAny_pyIter_enum he h
def iEnT (K : PySem.W.Frag) (ta : TA) : TI := fun σ H R => ta σ H fun vs H1 => ∃ a xs, vs = [.ref a] ∧ SqT K H1 a xs ∧ R (ItEnT K a) H1
theorem pi_enumT {X : Cx} (K : PySem.W.Frag) {e : Expr} {ta : TA} {p pos tpos : Pos} {elts : List Expr} {kk : Nat} (hg : Gl X "enumerate") (hm : X.mg "enumerate" = none) (ha : PA X [e] ta) (hs : starEach [e] X.env = [(false, eval e X.env)] := by rfl) (hK : X.K = K := by rfl) :
    PI X (.Tuple elts kk tpos) (.Call (.Name "enumerate" p) [e] [] pos) (iEnT K ta) := by
  subst hK
  refine ⟨fun pins s σ H R I h => Call_ (ld_blt I hg hm boot_enumerate (PyProof.Rows.callWith_type1 (thn (ha.run pos pins s σ H _ I h) fun us s1 hh => ?_) hs rfl))⟩
  obtain ⟨vs, H1, I1, r1, a, xs, ex, hq, q⟩ := hh
  subst ex
  rw [Vals.ref1 r1]
  obtain ⟨its, rv, p', hz⟩ := I1.tuple hq
  refine call_enumT (show s1.heap.IsTuple a its.toArray from p') fun h' he hit hk => wpAny_pyIter_enum he ?_
  refine ⟨s1.heap.objs.size + 1, [s1.heap.objs.size + 1, s1.heap.objs.size], _, _, H1, rfl, I1.kept (t' := s1.toks) hk, turn_enT a (s1.heap.objs.size + 1) s1.heap.objs.size, ⟨⟨.none, he⟩, hit, Nat.succ_ne_self _⟩, fun b hb => ?_, q⟩
  have hle : s1.heap.objs.size ≤ b := (List.mem_cons.mp hb).elim (fun z => z ▸ Nat.le_succ _) fun z => (List.mem_singleton.mp z) ▸ Nat.le_refl _
  exact I1.fpOk hle (I1.hok.fresh hle)
end WD
/-! isinstance(e, (C, ..)) in an except suite -/
namespace WD
open PySem PySem.Spec PyProof.Rows L2
/-! ### t[::-1] of a tuple -/
theorem fm_congr {α β : Type} {f g : α → Option β} : ∀ L : List α, (∀ x ∈ L, f x = g x) → L.filterMap f = L.filterMap g
  | [], _ => rfl
  | a :: L, h => by
    have ih := fm_congr L fun x hx => h x (List.mem_cons_of_mem _ hx)
    rw [List.filterMap_cons, List.filterMap_cons, h a List.mem_cons_self, ih]
theorem pick_rev (xs : List Value) : ((List.range xs.toArray.size).filterMap fun (k : Nat) => xs.toArray[((xs.toArray.size : Int) - 1 + (k : Int) * (-1)).toNat]?) = xs.reverse := by
  have e : ((List.range xs.toArray.size).filterMap fun (k : Nat) => xs.toArray[((xs.toArray.size : Int) - 1 + (k : Int) * (-1)).toNat]?) = (List.range xs.length).map fun k => xs.reverse.getD k .none := by
    rw [List.size_toArray]
    rw [← List.filterMap_eq_map]
    refine fm_congr _ fun k hk => ?_
    have hk := List.mem_range.mp hk
    have e1 : ((xs.length : Int) - 1 + (k : Int) * (-1)).toNat = xs.length - 1 - k := by omega
    rw [e1]
    have h2 : k < xs.reverse.length := by rw [List.length_reverse]; exact hk
    show xs.toArray[xs.length - 1 - k]? = some (xs.reverse.getD k .none)
    rw [List.getD_eq_getElem?_getD, List.getElem?_eq_getElem h2, List.getElem_reverse]
    have h3 : xs.length - 1 - k < xs.length := by omega
    simp [h3]
  rw [e]
  have := mapRange (fun x : Value => x) .none xs.reverse (n := xs.length) (by rw [List.length_reverse])
  rw [List.map_id'' (fun _ => rfl)] at this
  exact this
theorem places_rev (n : Nat) : Builtin.Slice.slicePlaces ((n : Int) - 1) (-1) (-1) = n := by
  unfold Builtin.Slice.slicePlaces
  simp only [show ¬ ((-1 : Int) > 0) by omega, if_false, Int.neg_neg, Int.ediv_one]
  split <;> omega
theorem adjust_rev (n : Nat) : Builtin.Slice.sliceAdjust none none (-1) (n : Int) = ((n : Int) - 1, -1) := by
  unfold Builtin.Slice.sliceAdjust
  simp only [show ((-1 : Int) < 0) by omega, if_true]
section
variable {prog : Program} {w : World} {A : Around} {E : Value → Shared → Prop} {s : Shared}
theorem applied_rev {sl : Addr} {u : Tok} {n : Nat} {Q : Int × Int × Nat → Shared → Prop} (hs : s.heap.IsSliceOf sl .none .none (.int (-1) u)) (h : Q ((n : Int) - 1, -1, n) s) : wpAny (model prog w) A (Builtin.Slice.sliceApplied (.ref sl) (pure (n : Int))) Q E s := by
  obtain ⟨os, hos, hcs, hds⟩ := id hs
  unfold Builtin.Slice.sliceApplied Builtin.Slice.sliceFields
  refine wpAny_bind (wpAny_bind (wpAny_field hos hds (x := .none) rfl (wpAny_bind (wpAny_field hos hds (x := .none) rfl (wpAny_bind (wpAny_field hos hds (x := .int (-1) u) rfl (wpAny_pure ?_)))))))
  refine wpAny_bind (HT.slicePart_ (.int (-1) u) ?_)
  show wpAny _ _ (if ((-1 : Int) == 0) = true then _ else _) _ _ s
  rw [if_neg (by decide)]
  refine wpAny_bind (HT.slicePart_ .none (wpAny_bind (HT.slicePart_ .none (wpAny_bind (wpAny_pure ?_)))))
  show wpAny _ _ (match Builtin.Slice.sliceAdjust none none (-1) (n : Int) with | (lo, hi) => pure (lo, (-1 : Int), Builtin.Slice.slicePlaces lo hi (-1))) _ _ s
  rw [adjust_rev n]
  show wpAny _ _ (pure ((n : Int) - 1, (-1 : Int), Builtin.Slice.slicePlaces ((n : Int) - 1) (-1) (-1))) _ _ s
  rw [places_rev]
  exact wpAny_pure h
theorem item_rev {t sl : Addr} {xs : List Value} {u : Tok} {Q : Value → Shared → Prop} (ht : IsTup s.heap t xs.toArray) (hs : s.heap.IsSliceOf sl .none .none (.int (-1) u))
    (h : Q (.ref s.heap.objs.size) { s with heap := s.heap.push { cls := .type "tuple", data := .seq xs.reverse.toArray } }) (hsz : xs.length ≤ sizeLine) : wpAny (model prog w) A (getItem (.ref t) (.ref sl)) Q E s := by
  have room : sizeOk (.seq xs.reverse.toArray) := by
    show xs.reverse.toArray.size ≤ sizeLine
    rw [List.size_toArray, List.length_reverse]
    exact hsz
  obtain ⟨os, hos, hcs, hds⟩ := id hs
  have hTs : s.TypeIs (.ref sl) "slice" := ⟨os, hos, hcs⟩
  unfold getItem
  try with_reducible refine wpAny_holding ?_
  first | refine wpAny_bind (wpAny_pure ?_) | skip
  refine wpAny_bind (wpAny_sequenceKey ht.typeIs (by decide) (wpAny_bind (wpAny_callSpecial?_slot (name := Str.ofString "__getitem__") ht.typeIs PyProof.Rows.slot_tuple_getitem (wpAny_call_entry PyProof.Rows.slot_tuple_getitem ht.typeIs entry_tuple_getitem ?_ (args_tuple_getitem _ _)))))
  show wpAny _ _ (Builtin.Tuple.tupleItemsOf (.ref t) >>= _) _ _ s
  refine wpAny_bind (tupleItemsOf_ ht (wpAny_bind (wpAny_typeOf hTs ?_)))
  rw [if_pos (by decide)]
  refine wpAny_bind (applied_rev hs ?_)
  show wpAny _ _ (if (((xs.toArray.size : Int) - 1) == 0 && (-1 : Int) == 1 && xs.toArray.size == xs.toArray.size) = true then _ else _) _ _ s
  rw [if_neg (by rw [show ((-1 : Int) == 1) = false from rfl, Bool.and_false, Bool.false_and]; exact Bool.false_ne_true), pick_rev]
  first
    | exact wpAny_bind (m := Builtin.Tuple.tupleExact _) (wpAny_newObj_type (wpAny_pure ⟨_, rfl, wpAny_pure h⟩) room)
    | exact wpAny_bind (wpAny_bind (m := Builtin.Tuple.tupleExact _) (wpAny_newObj_type (wpAny_pure (wpAny_pure ⟨_, rfl, wpAny_pure h⟩)) room))
    | exact wpAny_bind (wpAny_bind (m := Builtin.Tuple.tupleExact _) (wpAny_newObj_type (wpAny_pure ⟨_, rfl, wpAny_pure h⟩) room))
end
def tRevT (K : PySem.W.Frag) (te : TE) : TE := fun σ H Q => te σ H fun x H1 => ∃ a xs, x = .ref a ∧ SqT K H1 a xs ∧ ∀ p, H1 p = none → Q (.ref p) (upd H1 p (.tup xs.reverse))
theorem pe_revT {X : Cx} {e : Expr} {te : TE} {k : Nat} {p1 p2 p3 pos : Pos} (he : PE X e te) : PE X (.Subscript e (.Slice none none (some (.UnaryOp .USub (.Constant (.int 1) k p1) p2)) p3) pos) (tRevT X.K te) := by
  refine ⟨fun pins s σ H Q I h => Subscript_ (thn (he.run pins s σ H _ I h) fun v s1 hh => ?_)⟩
  obtain ⟨x, H1, I1, r1, a, xs, ex, hx, q⟩ := hh
  subst ex
  cases (show v = Value.ref a from r1)
  have step : PO X (some (.UnaryOp .USub (.Constant (.int 1) k p1) p2)) (tPart (tUn (rU fun i => .int (-i)) (tC (.int 1)))) := po_some (pe_un un_neg pe_int)
  refine wpAny_Slice (thn (po_none.run pins s1 σ H1 (fun o H2 => o = none ∧ H2 = H1) I1 ⟨rfl, rfl⟩) fun vl s2 h2 => ?_)
  obtain ⟨l, H2, I2, pl, rfl, rfl⟩ := h2
  refine thn (po_none.run pins s2 σ H2 (fun o H3 => o = none ∧ H3 = H2) I2 ⟨rfl, rfl⟩) fun vu s3 h3 => ?_
  obtain ⟨u, H3, I3, pu, rfl, rfl⟩ := h3
  refine thn (step.run pins s3 σ H3 (fun o H4 => o = some (-1) ∧ H4 = H3) I3 ⟨1, rfl, -1, rfl, rfl, rfl⟩) fun vs s4 h4 => ?_
  obtain ⟨o, H4, I4, ps, rfl, rfl⟩ := h4
  cases pl
  cases pu
  cases ps with
  | int i tk =>
    have I5 : Inv X pins σ H4 { s4 with heap := s4.heap.push { cls := .type "slice", data := .fields #[.none, .none, .int (-1) tk] } } := I4.kept (t' := s4.toks) fun b ob q => Heap.get?_push_of_some _ q
    obtain ⟨its, r, ht, hz⟩ := I5.tuple hx
    have hlen := r.length
    show wpAny (model X.prog X.w) X.A (subscriptTail e (.Slice none none (some (.UnaryOp .USub (.Constant (.int 1) k p1) p2)) p3) (.ref a) (.ref s4.heap.objs.size)) (EP X pins σ Q) X.xe { s4 with heap := s4.heap.push { cls := .type "slice", data := .fields #[.none, .none, .int (-1) tk] } }
    refine tail_any (ops := [.ref a, .ref s4.heap.objs.size]) ht.typeIs (PyProof.Rows.slot_tuple_getitem.lookup) (item_rev (xs := its) ht (Heap.IsSliceOf.new _ .none .none (.int (-1) tk)) ?_ (by omega)) (by with_unfolding_all rfl)
    refine ⟨.ref _, _, I5.laid (t' := s4.toks) (o := .tup xs.reverse) (fun b ob q => Heap.get?_push_of_some _ q) (Nat.le_refl _) ?_, rfl, q _ (I5.hok.fresh (Nat.le_refl _))⟩
    exact ⟨by rw [List.length_reverse]; exact hz, _, r.reverse, IsTup.new _ _⟩
end WD
/-! WDZip3: zip of three tuples, the items kept by a name -/
namespace WD
open PySem PySem.Spec PyProof.Rows L2
open PySem.Sem (wp)
section
variable {prog : Program} {w : World} {A : Around} {E : Value → Shared → Prop} {s : Shared} {z TI TO i1 i2 i3 l1 l2 l3 : Addr} {i : Nat} {xs ys us : Array Value}
end
end WD
/-! WDRep: a tuple once, or not at all -/
namespace WD
open PySem PySem.Spec PyProof.Rows L2
theorem tuple_mul1 (l : Addr) (items : Array Value) (n : Nat) (dd : Option Addr) (sl : Array (Option Value)) (u : Tok) :
    Meets (Builtin.«tuple.__mul__» ⟨[.ref l, .int 1 u], []⟩) (fun _ R s => s.heap.get? l = some { cls := .type "tuple", dict := dd, data := .seq items n, slots := sl } ∧ R (.ok (.ret (Value.ref l))) s) :=
  .of_wp fun prog w A R s h => by
    obtain ⟨hp, g, d, tk, os⟩ := s
    obtain ⟨hl, h⟩ := h
    have f1 := AutoSeq1.idx_int
    wp_walk using wpAny_loadPart' hl
    exact ⟨_, rfl, h⟩
theorem tuple_mul0 (l : Addr) (items : Array Value) (n : Nat) (dd : Option Addr) (sl : Array (Option Value)) (u : Tok) (hi : items.isEmpty = false) :
    Meets (Builtin.«tuple.__mul__» ⟨[.ref l, .int 0 u], []⟩) (fun _ R s => s.heap.get? l = some { cls := .type "tuple", dict := dd, data := .seq items n, slots := sl } ∧
      R (.ok (.ret (Value.ref s.heap.objs.size))) { s with heap := s.heap.push { cls := Value.type "tuple", data := Data.seq #[] }, toks := s.toks }) :=
  .of_wp fun prog w A R s h => by
    obtain ⟨hp, g, d, tk, os⟩ := s
    obtain ⟨hl, h⟩ := h
    have f1 := AutoSeq1.idx_int
    wp_walk using wpAny_loadPart' hl
    exact ⟨_, rfl, h⟩
def rRep1 (K : PySem.W.Frag) : R2 := fun x y H Q => ∃ l xs, x = .ref l ∧ y = .int 1 ∧ SqT K H l xs ∧ Q (.ref l) H
def rRep0 (K : PySem.W.Frag) : R2 := fun x y H Q => ∃ l xs, x = .ref l ∧ y = .int 0 ∧ SqT K H l xs ∧ xs ≠ [] ∧ ∀ p, H p = none → Q (.ref p) (upd H p (.tup []))
section
variable {X : Cx}
theorem op_rep1 : OpR X (binaryOp .Mult) (rRep1 X.K) := by
  intro pins s σ H x y v u Q I rx ry h
  obtain ⟨l, xs, rfl, rfl, hT, q⟩ := h
  cases rx
  obtain ⟨t, rfl⟩ := ry
  obtain ⟨its, r, ⟨⟨cls, dd, data, sl⟩, ho, hc, n, hd⟩, hs⟩ := I.tuple hT
  simp only at hc hd
  subst hc hd
  refine wpAny_binaryOp_repeat_ref (T := "tuple") (U := "int") (by decide) ⟨_, ho, rfl⟩ (fun s' => typeIs_int s' 1 t) noFill_tuple_mul F.fills_int_mul F.slot_int_rmul repeat_tuple F.slot_int_index.lookup
    (call_meets F.slot_int_rmul (typeIs_int s 1 t) F.entry_int_rmul (F.args_int_rmul_2 _ _) (int_rmul_tuple 1 t l its.toArray n dd sl)
      ⟨ho, rfl, ⟨_, ho, rfl⟩, call_meets F.slot_tuple_mul ⟨_, ho, rfl⟩ F.entry_tuple_mul (F.args_tuple_mul_2 _ _) (tuple_mul1 l its.toArray n dd sl t) ⟨ho, ?_⟩⟩)
  exact ⟨.ref l, H, I, rfl, q⟩
theorem op_rep0 : OpR X (binaryOp .Mult) (rRep0 X.K) := by
  intro pins s σ H x y v u Q I rx ry h
  obtain ⟨l, xs, rfl, rfl, hT, hne, q⟩ := h
  cases rx
  obtain ⟨t, rfl⟩ := ry
  obtain ⟨its, r, ⟨⟨cls, dd, data, sl⟩, ho, hc, n, hd⟩, hs⟩ := I.tuple hT
  simp only at hc hd
  subst hc hd
  have hle : its.length = xs.length := r.length.symm
  have hi : its.toArray.isEmpty = false := by
    cases its with
    | nil => exact absurd (List.eq_nil_of_length_eq_zero (by simpa using hle.symm)) hne
    | cons a b => rfl
  refine wpAny_binaryOp_repeat_ref (T := "tuple") (U := "int") (by decide) ⟨_, ho, rfl⟩ (fun s' => typeIs_int s' 0 t) noFill_tuple_mul F.fills_int_mul F.slot_int_rmul repeat_tuple F.slot_int_index.lookup
    (call_meets F.slot_int_rmul (typeIs_int s 0 t) F.entry_int_rmul (F.args_int_rmul_2 _ _) (int_rmul_tuple 0 t l its.toArray n dd sl)
      ⟨ho, rfl, ⟨_, ho, rfl⟩, call_meets F.slot_tuple_mul ⟨_, ho, rfl⟩ F.entry_tuple_mul (F.args_tuple_mul_2 _ _) (tuple_mul0 l its.toArray n dd sl t hi) ⟨ho, ?_⟩⟩)
  refine ⟨.ref s.heap.objs.size, _, I.laid (t' := s.toks) (o := .tup []) (fun b ob q => Heap.get?_push_of_some _ q) (Nat.le_refl _) ?_, rfl, q _ (I.hok.fresh (Nat.le_refl _))⟩
  exact ⟨Nat.zero_le _, [], .nil, IsTup.new _ _⟩
end
end WD
/-! WDDicT: dict(pairs), keys that are tuples of ints and texts -/
namespace WD
open PySem PySem.Spec PyProof.Rows L2
def putsT (kvs : List (List Key × V)) (more : List (List Key × Addr × V)) : List (List Key × V) := more.foldl (fun acc q => putK acc q.1 q.2.2) kvs
theorem putsT_le : ∀ (more : List (List Key × Addr × V)) (kvs : List (List Key × V)), (putsT kvs more).length ≤ kvs.length + more.length
  | [], kvs => Nat.le_refl _
  | q :: more, kvs => by
    have h1 := putsT_le more (putK kvs q.1 q.2.2)
    have h2 := length_putK kvs q.1 q.2.2
    show (putsT (putK kvs q.1 q.2.2) more).length ≤ _
    rw [List.length_cons]
    omega
section
variable {X : Cx}
theorem tpairs_of {pins : List (Addr × Obj)} {σ : L2.St} {H : Hp} {s : Shared} (I : Inv X pins σ H s) : ∀ {ps : List Addr} {kvs : List (List Key × Addr × V)}, Paired (fun p q => SqT X.K H p [.ref q.2.1, q.2.2] ∧ H q.2.1 = some (.tup (q.1.map kV))) ps kvs →
    ∃ xs : List (List Key × Addr × Value), (∀ (acc : List (List Key × V)) (ys : List (List Key × Addr × Value)), L2.KT H acc ys → L2.KT H (putsT acc kvs) (storedAllH ys xs)) ∧ xs.length = ps.length ∧
      (∀ (j : Nat) (q : List Key × Addr × Value), xs[j]? = some q → ∃ b, ps[j]? = some b ∧ IsTup s.heap b #[.ref q.2.1, q.2.2] ∧ H q.2.1 = some (.tup (q.1.map kV)))
  | _, _, .nil => ⟨[], fun acc ys h => h, rfl, fun j q e => by simp at e⟩
  | _, _, .cons (a := p) (b := kv) h t => by
    obtain ⟨xs, r, hl, hp⟩ := tpairs_of I t
    obtain ⟨its, rv, ht, _⟩ := I.tuple h.1
    obtain ⟨u, y, ei, ru, ry⟩ := vals2 rv
    subst ei
    obtain rfl : u = .ref kv.2.1 := ru
    refine ⟨(kv.1, kv.2.1, y) :: xs, fun acc ys g => ?_, by rw [List.length_cons, List.length_cons, hl], fun j q e => ?_⟩
    · exact r _ _ (L2.KT.put g kv.1 h.2 ry)
    · cases j with
      | zero =>
        have e' : (kv.1, kv.2.1, y) = q := Option.some.inj e
        subst e'
        exact ⟨p, rfl, ht, h.2⟩
      | succ j =>
        obtain ⟨b, e1, e2⟩ := hp j q (by simpa using e)
        exact ⟨b, by simpa using e1, e2⟩
def rDictT (K : PySem.W.Frag) : List V → Hp → VK → Prop := fun xs H Q => ∃ (a : Addr) (ps : List Addr) (kvs : List (List Key × Addr × V)), xs = [.ref a] ∧ SqL K H a (ps.map V.ref) ∧ Paired (fun p q => SqT K H p [.ref q.2.1, q.2.2] ∧ H q.2.1 = some (.tup (q.1.map kV))) ps kvs ∧
    ∀ p, H p = none → Q (.ref p) (upd H p (.dT (putsT [] kvs)))
theorem call_dictT (hcalm : X.calm = true) (hu : X.A.units + 64 < cLine) : CallR X (.type "dict") (rDictT X.K) := by
  intro pins s σ H xs us Q I r q
  obtain ⟨a, ps, kvs, ex, hq, hp, q⟩ := q
  subst ex
  obtain ⟨u, eu, rx⟩ := vals1 r
  subst eu
  cases rx
  obtain ⟨its, rv, pl, hz⟩ := I.list hq
  have ei := refs_at rv
  subst ei
  rw [List.length_map] at hz
  have hpl : ps.length = kvs.length := Paired.length hp
  obtain ⟨ys, rel, hl, hpr⟩ := tpairs_of I hp
  have pits : PairItems s.heap (ps.map Value.ref).toArray (fun j => ps.getD j 0) (ys.map fun q => (Value.ref q.2.1, q.2.2)) := by
    refine ⟨by simp [hl], fun j k v e => ?_⟩
    rw [List.getElem?_map] at e
    obtain ⟨q, eq, e⟩ := Option.map_eq_some_iff.mp e
    cases e
    obtain ⟨b, e1, e2, _⟩ := hpr j q eq
    have eb : ps.getD j 0 = b := by rw [List.getD_eq_getElem?_getD, e1]; rfl
    refine ⟨by simp [e1, eb], ?_⟩
    show PairAt s.heap (ps.getD j 0) _ _
    rw [eb]
    exact .inl e2
  have hks : KeysStay (tupleKind (mixKind X.prog X.w)) s.heap s.heap.objs.size [] ys := fun h' hk x hx => by
    obtain ⟨j, hj⟩ := List.mem_iff_getElem?.mp hx
    obtain ⟨b, _, _, e3⟩ := hpr j x hj
    obtain ⟨o, its, n, h1, h2, h3, h4⟩ := key_of (P := X.prog) (w := X.w) I.hok e3
    exact ⟨o, its, n, hk _ _ (Nat.ne_of_lt (Heap.lt_size h1)) (fun z => nomatch z) h1, h2, h3, h4⟩
  refine call_dict_pairsH (knd := tupleKind (mixKind X.prog X.w)) (ps := ys) (PairArg.list a (ps.map Value.ref).toArray (fun j => ps.getD j 0) (ys.map fun q => (Value.ref q.2.1, q.2.2))) (I.ok.hd hcalm) ?_ ⟨pl, pits⟩ ⟨by simp, fun i key v e => ?_⟩ hks (by rw [List.length_map, hl]; exact hz) fun h' tk hd' k => ?_
  · exact tupleKind_room_in1 (by show X.A.in1.units + 1 < cLine; have : X.A.in1.units ≤ X.A.units + 1 := Nat.le_refl _; omega)
  · have e' : (ys.map fun q => (Value.ref q.2.1, q.2.2))[i]? = some (key, v) := e
    rw [List.getElem?_map] at e'
    obtain ⟨q, eq, e'⟩ := Option.map_eq_some_iff.mp e'
    cases e'
    exact ⟨q.1, q.2.1, eq, rfl⟩
  · have hm : (s.heap.objs.size == sysModules) = false := beq_eq_false_iff_ne.mpr (Nat.ne_of_gt I.big)
    have hlen : (putsT [] kvs).length ≤ sizeLine := by
      refine Nat.le_trans (putsT_le kvs []) ?_
      rw [List.length_nil, Nat.zero_add, ← hpl]
      exact hz
    obtain ⟨o, es, ep, h1, h2, h3, h4, _, h5⟩ := hd'
    have kt := rel [] [] .nil
    refine ⟨.ref s.heap.objs.size, upd H s.heap.objs.size (.dT (putsT [] kvs)), I.laid (t' := tk) (fun b u e => k b u (fun z => nomatch z) e) (Nat.le_refl _) (show ObjOk X.prog X.w _ _ _ (.dT (putsT [] kvs)) from ⟨hlen, hm, _, L2.KT.keeps kt fun b zs e => ?_, o, es, ep, h1, h2, h3, h4, h5⟩), rfl, q _ (I.hok.fresh (Nat.le_refl _))⟩
    rw [upd_ne (fun z => by rw [z, I.hok.fresh (Nat.le_refl _)] at e; cases e)]
    exact e
end
end WD
namespace K71
open PySem PySem.Spec PyProof.Rows L2
def topS (i : Nat) : Stmt := PySem.Challenge.pw_wishdeeds_k71_products.main.body.getD i (.Pass ⟨0, 0, 0, 0⟩)
abbrev s__law_draw : Stmt := topS 30
theorem sc__law_draw : FnScope ["_law_well", "_law_many", "_law_found", "_law_number"] ["_law_well", "_law_many"] (defScope s__law_draw) := ⟨rfl, rfl, rfl, by decide +kernel, rfl, by decide +kernel, by decide +kernel⟩
abbrev s__law_sizes : Stmt := topS 37
theorem sc__law_sizes : FnScope ["_law_well", "_law_some"] ["_law_well"] (defScope s__law_sizes) := ⟨rfl, rfl, rfl, by decide +kernel, rfl, by decide +kernel, by decide +kernel⟩
abbrev s__law_rows : Stmt := topS 35
theorem sc__law_rows : FnScope ["_law_counts", "_law_found", "_law_size", "_law_longer", "_law_row", "_law_thing"] ["_law_counts"] (defScope s__law_rows) := ⟨rfl, rfl, rfl, by decide +kernel, rfl, by decide +kernel, by decide +kernel⟩
abbrev s__law_names : Stmt := topS 31
theorem sc__law_names : FnScope ["_law_well", "_law_many", "_law_letters", "_law_stem", "_law_first", "_law_at", "_law_k"] ["_law_well", "_law_many"] (defScope s__law_names) := ⟨rfl, rfl, rfl, by decide +kernel, rfl, by decide +kernel, by decide +kernel⟩
abbrev s__law_over : Stmt := topS 32
theorem sc__law_over : FnScope ["_law_things", "_law_places", "_law_found", "_law_k", "_law_longer", "_law_row", "_law_thing"] ["_law_things", "_law_places"] (defScope s__law_over) := ⟨rfl, rfl, rfl, by decide +kernel, rfl, by decide +kernel, by decide +kernel⟩
abbrev s__law_table : Stmt := topS 34
theorem sc__law_table : FnScope ["_law_well", "_law_size", "_law_places", "_law_way", "_law_number", "_law_found", "_law_row", "_law_some"] ["_law_well", "_law_size", "_law_places"] (defScope s__law_table) := ⟨rfl, rfl, rfl, by decide +kernel, rfl, by decide +kernel, by decide +kernel⟩
abbrev s_is_whole : Stmt := topS 13
theorem sc_is_whole : FnScope ["thing"] ["thing"] (defScope s_is_whole) := ⟨rfl, rfl, rfl, by decide +kernel, rfl, by decide +kernel, by decide +kernel⟩
abbrev s_NoHouse_init : Stmt := inClass (topS 3) 0
theorem sc_NoHouse_init : FnScope ["self", "at"] ["self", "at"] (defScope s_NoHouse_init) := ⟨rfl, rfl, rfl, by decide +kernel, rfl, by decide +kernel, by decide +kernel⟩
abbrev s_is_name : Stmt := topS 15
theorem sc_is_name : FnScope ["word", "sign"] ["word"] (defScope s_is_name) := ⟨rfl, rfl, rfl, by decide +kernel, rfl, by decide +kernel, by decide +kernel⟩
abbrev s_is_thing : Stmt := topS 14
theorem sc_is_thing : FnScope ["thing", "size"] ["thing", "size"] (defScope s_is_thing) := ⟨rfl, rfl, rfl, by decide +kernel, rfl, by decide +kernel, by decide +kernel⟩
abbrev s_is_row : Stmt := topS 16
theorem sc_is_row : FnScope ["row", "wide", "size", "one"] ["row", "wide", "size"] (defScope s_is_row) := ⟨rfl, rfl, rfl, by decide +kernel, rfl, by decide +kernel, by decide +kernel⟩
abbrev s_cells : Stmt := topS 17
theorem sc_cells : FnScope ["size", "places", "found", "k"] ["size", "places"] (defScope s_cells) := ⟨rfl, rfl, rfl, by decide +kernel, rfl, by decide +kernel, by decide +kernel⟩
abbrev s_is_deed : Stmt := topS 19
theorem sc_is_deed : FnScope ["deed", "size", "name", "places", "table"] ["deed", "size"] (defScope s_is_deed) := ⟨rfl, rfl, rfl, by decide +kernel, rfl, by decide +kernel, by decide +kernel⟩
abbrev s_House_init : Stmt := inClass (topS 20) 0
theorem sc_House_init : FnScope ["self", "size", "deeds", "found", "at", "deed"] ["self", "size", "deeds"] (defScope s_House_init) := ⟨rfl, rfl, rfl, by decide +kernel, rfl, by decide +kernel, by decide +kernel⟩
abbrev s__law_unfit : Stmt := topS 38
theorem sc__law_unfit : FnScope ["_law_well", "_law_deeds", "_law_way", "_law_extra"] ["_law_well", "_law_deeds"] (defScope s__law_unfit) := ⟨rfl, rfl, rfl, by decide +kernel, rfl, by decide +kernel, by decide +kernel⟩
abbrev s_House_deeds : Stmt := inClass (topS 20) 2
theorem sc_House_deeds : FnScope ["self"] ["self"] (defScope s_House_deeds) := ⟨rfl, rfl, rfl, by decide +kernel, rfl, by decide +kernel, by decide +kernel⟩
abbrev s_fits : Stmt := topS 21
theorem sc_fits : FnScope ["one", "other", "deed"] ["one", "other"] (defScope s_fits) := ⟨rfl, rfl, rfl, by decide +kernel, rfl, by decide +kernel, by decide +kernel⟩
abbrev s_House_things : Stmt := inClass (topS 20) 1
theorem sc_House_things : FnScope ["self"] ["self"] (defScope s_House_things) := ⟨rfl, rfl, rfl, by decide +kernel, rfl, by decide +kernel, by decide +kernel⟩
abbrev s_TooMany_init : Stmt := inClass (topS 7) 0
theorem sc_TooMany_init : FnScope ["self", "many"] ["self", "many"] (defScope s_TooMany_init) := ⟨rfl, rfl, rfl, by decide +kernel, rfl, by decide +kernel, by decide +kernel⟩
abbrev s_check_sizes : Stmt := topS 27
theorem sc_check_sizes : FnScope ["houses", "many", "house"] ["houses"] (defScope s_check_sizes) := ⟨rfl, rfl, rfl, by decide +kernel, rfl, by decide +kernel, by decide +kernel⟩
abbrev s_choices : Stmt := topS 25
theorem sc_choices : FnScope ["counts", "found", "size", "longer", "row", "one"] ["counts"] (defScope s_choices) := ⟨rfl, rfl, rfl, by decide +kernel, rfl, by decide +kernel, by decide +kernel⟩
abbrev s_House_names : Stmt := inClass (topS 20) 3
theorem sc_House_names : FnScope ["self"] ["self"] (defScope s_House_names) := ⟨rfl, rfl, rfl, by decide +kernel, rfl, by decide +kernel, by decide +kernel⟩
abbrev s_rows_within : Stmt := topS 23
theorem sc_rows_within : FnScope ["lot", "places", "found", "k", "longer", "row", "one"] ["lot", "places"] (defScope s_rows_within) := ⟨rfl, rfl, rfl, by decide +kernel, rfl, by decide +kernel, by decide +kernel⟩
abbrev s_spot_of : Stmt := topS 18
theorem sc_spot_of : FnScope ["things", "size", "found", "one"] ["things", "size"] (defScope s_spot_of) := ⟨rfl, rfl, rfl, by decide +kernel, rfl, by decide +kernel, by decide +kernel⟩
abbrev s_deed_by_rows : Stmt := topS 26
theorem sc_deed_by_rows : FnScope ["at", "houses", "rows", "name", "places", "table", "numbers", "come", "things", "found", "spot", "house", "cell", "number", "row"] ["at", "houses", "rows"] (defScope s_deed_by_rows) := ⟨rfl, rfl, rfl, by decide +kernel, rfl, by decide +kernel, by decide +kernel⟩
abbrev s_product : Stmt := topS 28
theorem sc_product : FnScope ["houses", "rows", "deeds", "ways", "at", "spot", "house", "row"] ["houses"] (defScope s_product) := ⟨rfl, rfl, rfl, by decide +kernel, rfl, by decide +kernel, by decide +kernel⟩
abbrev s__law_told : Stmt := topS 39
theorem sc__law_told : FnScope ["_law_houses", "_law_told_here", "e"] ["_law_houses"] (defScope s__law_told) := ⟨rfl, rfl, rfl, by decide +kernel, rfl, by decide +kernel, by decide +kernel⟩
abbrev s__law_cell : Stmt := topS 33
theorem sc__law_cell : FnScope ["_law_row", "_law_size", "_law_found", "_law_thing"] ["_law_row", "_law_size"] (defScope s__law_cell) := ⟨rfl, rfl, rfl, by decide +kernel, rfl, by decide +kernel, by decide +kernel⟩
abbrev s__law_due : Stmt := topS 36
theorem sc__law_due : FnScope ["_law_counts", "_law_all_deeds", "_law_rows_here", "_law_found", "_law_at", "_law_deed", "_law_spots", "_law_numbers", "_law_row", "_law_k", "_law_size", "_law_number"] ["_law_counts", "_law_all_deeds"] (defScope s__law_due) := ⟨rfl, rfl, rfl, by decide +kernel, rfl, by decide +kernel, by decide +kernel⟩
abbrev s__law_right : Stmt := topS 40
theorem sc__law_right : FnScope ["_law_well", "_law_counts", "_law_bad", "_law_at", "_law_whole", "_law_most", "_law_places", "_law_names_here", "_law_all_deeds", "_law_size", "_law_houses", "_law_other", "_law_due_here", "_law_ways", "_law_turn", "_law_handed", "_law_found", "_law_told_here", "_law_k", "_law_name", "_law_deeds", "_law_one", "_law_many"] ["_law_well"] (defScope s__law_right) := ⟨rfl, rfl, rfl, by decide +kernel, rfl, by decide +kernel, by decide +kernel⟩
abbrev s_House_eq : Stmt := inClass (topS 20) 10
theorem sc_House_eq : FnScope ["self", "other"] ["self", "other"] (defScope s_House_eq) := ⟨rfl, rfl, rfl, by decide +kernel, rfl, by decide +kernel, by decide +kernel⟩
abbrev s_law : Stmt := topS 41
theorem sc_law : FnScope ["_law_script", "_law_k", "_law_cell_here"] ["_law_script"] (defScope s_law) := ⟨rfl, rfl, rfl, by decide +kernel, rfl, by decide +kernel, by decide +kernel⟩
def d__law_draw : He.DefD := ⟨("_law_draw", none), "_law_draw", "_law_draw", defArgs s__law_draw, defBody s__law_draw, defScope s__law_draw, [], []⟩
def d__law_sizes : He.DefD := ⟨("_law_sizes", none), "_law_sizes", "_law_sizes", defArgs s__law_sizes, defBody s__law_sizes, defScope s__law_sizes, [], []⟩
def d__law_rows : He.DefD := ⟨("_law_rows", none), "_law_rows", "_law_rows", defArgs s__law_rows, defBody s__law_rows, defScope s__law_rows, [], []⟩
def d__law_names : He.DefD := ⟨("_law_names", none), "_law_names", "_law_names", defArgs s__law_names, defBody s__law_names, defScope s__law_names, [], []⟩
def d__law_over : He.DefD := ⟨("_law_over", none), "_law_over", "_law_over", defArgs s__law_over, defBody s__law_over, defScope s__law_over, [], []⟩
def d__law_table : He.DefD := ⟨("_law_table", none), "_law_table", "_law_table", defArgs s__law_table, defBody s__law_table, defScope s__law_table, [], []⟩
def d_is_whole : He.DefD := ⟨("is_whole", none), "is_whole", "is_whole", defArgs s_is_whole, defBody s_is_whole, defScope s_is_whole, [], []⟩
def d_NoHouse_init : He.DefD := ⟨("NoHouse", some "__init__"), "__init__", "NoHouse.__init__", defArgs s_NoHouse_init, defBody s_NoHouse_init, defScope s_NoHouse_init, [], []⟩
def d_is_name : He.DefD := ⟨("is_name", none), "is_name", "is_name", defArgs s_is_name, defBody s_is_name, defScope s_is_name, [], []⟩
def d_is_thing : He.DefD := ⟨("is_thing", none), "is_thing", "is_thing", defArgs s_is_thing, defBody s_is_thing, defScope s_is_thing, [], []⟩
def d_is_row : He.DefD := ⟨("is_row", none), "is_row", "is_row", defArgs s_is_row, defBody s_is_row, defScope s_is_row, [], []⟩
def d_cells : He.DefD := ⟨("cells", none), "cells", "cells", defArgs s_cells, defBody s_cells, defScope s_cells, [], []⟩
def d_is_deed : He.DefD := ⟨("is_deed", none), "is_deed", "is_deed", defArgs s_is_deed, defBody s_is_deed, defScope s_is_deed, [], []⟩
def d_House_init : He.DefD := ⟨("House", some "__init__"), "__init__", "House.__init__", defArgs s_House_init, defBody s_House_init, defScope s_House_init, [], []⟩
def d__law_unfit : He.DefD := ⟨("_law_unfit", none), "_law_unfit", "_law_unfit", defArgs s__law_unfit, defBody s__law_unfit, defScope s__law_unfit, [], []⟩
def d_House_deeds : He.DefD := ⟨("House", some "deeds"), "deeds", "House.deeds", defArgs s_House_deeds, defBody s_House_deeds, defScope s_House_deeds, [], []⟩
def d_fits : He.DefD := ⟨("fits", none), "fits", "fits", defArgs s_fits, defBody s_fits, defScope s_fits, [], []⟩
def d_House_things : He.DefD := ⟨("House", some "things"), "things", "House.things", defArgs s_House_things, defBody s_House_things, defScope s_House_things, [], []⟩
def d_TooMany_init : He.DefD := ⟨("TooMany", some "__init__"), "__init__", "TooMany.__init__", defArgs s_TooMany_init, defBody s_TooMany_init, defScope s_TooMany_init, [], []⟩
def d_check_sizes : He.DefD := ⟨("check_sizes", none), "check_sizes", "check_sizes", defArgs s_check_sizes, defBody s_check_sizes, defScope s_check_sizes, [], []⟩
def d_choices : He.DefD := ⟨("choices", none), "choices", "choices", defArgs s_choices, defBody s_choices, defScope s_choices, [], []⟩
def d_House_names : He.DefD := ⟨("House", some "names"), "names", "House.names", defArgs s_House_names, defBody s_House_names, defScope s_House_names, [], []⟩
def d_rows_within : He.DefD := ⟨("rows_within", none), "rows_within", "rows_within", defArgs s_rows_within, defBody s_rows_within, defScope s_rows_within, [], []⟩
def d_spot_of : He.DefD := ⟨("spot_of", none), "spot_of", "spot_of", defArgs s_spot_of, defBody s_spot_of, defScope s_spot_of, [], []⟩
def d_deed_by_rows : He.DefD := ⟨("deed_by_rows", none), "deed_by_rows", "deed_by_rows", defArgs s_deed_by_rows, defBody s_deed_by_rows, defScope s_deed_by_rows, [], []⟩
def d_product : He.DefD := ⟨("product", none), "product", "product", defArgs s_product, defBody s_product, defScope s_product, [], []⟩
def d__law_told : He.DefD := ⟨("_law_told", none), "_law_told", "_law_told", defArgs s__law_told, defBody s__law_told, defScope s__law_told, [], []⟩
def d__law_cell : He.DefD := ⟨("_law_cell", none), "_law_cell", "_law_cell", defArgs s__law_cell, defBody s__law_cell, defScope s__law_cell, [], []⟩
def d__law_due : He.DefD := ⟨("_law_due", none), "_law_due", "_law_due", defArgs s__law_due, defBody s__law_due, defScope s__law_due, [], []⟩
def d__law_right : He.DefD := ⟨("_law_right", none), "_law_right", "_law_right", defArgs s__law_right, defBody s__law_right, defScope s__law_right, [], []⟩
def d_House_eq : He.DefD := ⟨("House", some "__eq__"), "__eq__", "House.__eq__", defArgs s_House_eq, defBody s_House_eq, defScope s_House_eq, [], []⟩
def d_law : He.DefD := ⟨("law", none), "law", "law", defArgs s_law, defBody s_law, defScope s_law, [], []⟩
def fn : List He.DefD := [d__law_draw, d__law_sizes, d__law_rows, d__law_names, d__law_over, d__law_table, d_is_whole, d_NoHouse_init, d_is_name, d_is_thing, d_is_row, d_cells, d_is_deed, d_House_init, d__law_unfit, d_House_deeds, d_fits, d_House_things, d_TooMany_init, d_check_sizes, d_choices, d_House_names, d_rows_within, d_spot_of, d_deed_by_rows, d_product, d__law_told, d__law_cell, d__law_due, d__law_right, d_House_eq, d_law]
def fa : List He.Fa := [.int "MOST_DEEDS" 6, .int "MOST_PLACES" 3, .int "MOST_THINGS" 9, .str "SMALL" "abcdefghijklmnopqrstuvwxyz", .free "ValueError", .free "all", .free "bool", .free "dict", .free "enumerate", .free "int", .free "isinstance", .free "len", .free "list", .free "max", .free "min", .free "range", .free "str", .free "sum", .free "tuple", .free "zip", .glo "House", .glo "NoFit", .glo "NoHouse", .glo "TooMany", .glo "WishError", .glo "_law_draw", .glo "_law_sizes", .glo "_law_rows", .glo "_law_names", .glo "_law_over", .glo "_law_table", .glo "is_whole", .glo "is_name", .glo "is_thing", .glo "is_row", .glo "cells", .glo "is_deed", .glo "_law_unfit", .glo "fits", .glo "check_sizes", .glo "choices", .glo "rows_within", .glo "spot_of", .glo "deed_by_rows", .glo "product", .glo "_law_told", .glo "_law_cell", .glo "_law_due", .glo "_law_right", .glo "law", .cls "House", .meth "House" "__eq__", .meth "House" "deeds", .meth "House" "names", .meth "House" "things", .mkr "House", .noat "House" "by_name", .noat "House" "size", .exc "NoFit", .exm "NoFit" "NoFit" true, .exm "NoFit" "NoHouse" false, .exm "NoFit" "TooMany" false, .exm "NoHouse" "NoFit" false, .exm "NoHouse" "NoHouse" true, .exm "NoHouse" "TooMany" false, .exm "TooMany" "NoFit" false, .exm "TooMany" "NoHouse" false, .exm "TooMany" "TooMany" true]
def fx : List WD.Fx := [.oex "NoHouse", .ini "NoHouse", .noa "NoHouse" "at", .exd "NoHouse", .oex "TooMany", .ini "TooMany", .noa "TooMany" "many", .exd "TooMany", .isc "House", .par "WishError", .exd "NoFit", .kit "NoFit" "NoFit" true, .kit "NoFit" "NoHouse" false, .kit "NoFit" "TooMany" false, .kiv "NoFit" "ValueError" true, .kit "NoHouse" "NoFit" false, .kit "NoHouse" "NoHouse" true, .kit "NoHouse" "TooMany" false, .kiv "NoHouse" "ValueError" true, .kit "TooMany" "NoFit" false, .kit "TooMany" "NoHouse" false, .kit "TooMany" "TooMany" true, .kiv "TooMany" "ValueError" true]
abbrev RowR : PySem.W.OpenRow := PySem.W.OpenLaw.row PySem.Challenge.rw_wishdeeds_k71_products
abbrev hk : PySem.W.Hook := WD.hookE 5 fa fn fx
def ob (s : PySem.W.SharedT) : He.AlD := WD.obsEG 5 fa fn fx (HandSHeadRun.getT s)
theorem ob_eq (s : PySem.W.SharedT) : ob s = hk.obs s.abs := WD.obsEG_eq (HandSHeadRun.getT_eq s)
def loose : List PySem.Str := (["_wall", "WishError", "NoHouse", "NoName", "NoRow", "NoFit", "TooMany", "MOST_THINGS", "MOST_DEEDS", "MOST_PLACES", "SMALL", "is_whole", "is_thing", "is_name", "is_row", "cells", "spot_of", "is_deed", "House", "fits", "rows_within", "choices", "deed_by_rows", "check_sizes", "product", "_law_draw", "_law_names", "_law_over", "_law_cell", "_law_table"] : List PySem.Str) ++ (["_law_rows", "_law_due", "_law_sizes", "_law_unfit", "_law_told", "_law_right"] : List PySem.Str)
theorem map3 {α β γ δ : Type} {o : Option α} {f : α → β} {g : α → γ} {h : α → δ} {a : β} {b : γ} {c : δ} (x : o.map f = some a) (y : o.map g = some b) (z : o.map h = some c) : o.map (fun s => (f s, g s, h s)) = some (a, b, c) := by
  cases o with
  | none => cases x
  | some s =>
    have x := Option.some.inj x
    have y := Option.some.inj y
    have z := Option.some.inj z
    show some (f s, g s, h s) = _
    rw [x, y, z]
section
open PySem.W HandSHeadRun
theorem run_a (w : World) (os : OsState) : (endF (stepQ (denQ tabQ) RowR.prog w) 6000 RowR.prog w os).map (fun s => looksF RowR.prog (boot_heap w.params) s.abs) = some true := by kernel_rfl
theorem run_b (w : World) (os : OsState) : (endF (stepQ (denQ tabQ) RowR.prog w) 6000 RowR.prog w os).map (fun s => seenQ (PySem.W.view RowR.prog [41]) loose (importedModules RowR.prog.main.body) (fun s => xlAt (PySem.W.view RowR.prog [41]) [] s && recOk RowR.toRowW.records s) s.abs) = some (openGood (PySem.W.view RowR.prog [41]) loose) := by kernel_rfl
theorem run_c (w : World) (os : OsState) : (endF (stepQ (denQ tabQ) RowR.prog w) 6000 RowR.prog w os).map (fun s => ob s) = some (hk.val w) := by kernel_rfl
end
theorem run (w : World) : HandSHeadRun.RunEq RowR (PySem.W.view RowR.prog [41]) hk ob 6000 loose w := fun os => map3 (run_a w os) (run_b w os) (run_c w os)
end K71
/-! PM23a: the Hook that tells code objects and tables of those that make lambdas -/
namespace PM
open PySem PySem.Spec PyProof.Rows L2
open WD (MS upd_none)
def codeOf (K : PySem.W.Frag) (f : Addr) : Value := match K.lookup f with
  | some ⟨_, _, .func fd, _⟩ => fd.code
  | _ => .none
def codeA (K : PySem.W.Frag) (f : Addr) : Addr := match codeOf K f with
  | .ref c => c
  | _ => 0
def tabA (K : PySem.W.Frag) (c : Addr) : Addr := match K.lookup c with
  | some ⟨_, _, .fields vs, _⟩ => (match (vs[11]? : Option Value) with
    | some (.ref P) => P
    | _ => 0)
  | _ => 0
abbrev cdA (K : PySem.W.Frag) (x : Str) : Addr := codeA K (He.ga K x)
abbrev tbA (K : PySem.W.Frag) (x : Str) : Addr := tabA K (cdA K x)
/-- one that makes lambdas: its code object, its table, which is empty -/
structure TabK (K : PySem.W.Frag) (h : Heap) (x : Str) : Prop where
  code : codeOf K (He.ga K x) = .ref (cdA K x)
  hd : PySem.W.CodeHd h (cdA K x) (tbA K x)
  tab : h.get? (tbA K x) = some { cls := .none, data := .fields #[] }
  no : K.lookup (tbA K x) = none
theorem TabK.keeps {K : PySem.W.Frag} {h h' : Heap} {x : Str} (t : TabK K h x) (k : ∀ b o, h.get? b = some o → h'.get? b = some o) : TabK K h' x := ⟨t.code, t.hd.keeps k, k _ _ t.tab, t.no⟩
end PM
/-! PM: a machine over plain values, and what holds of the model's heap when it runs -/
namespace PM
open PySem PySem.Spec PyProof.Rows L2
open WD (MS upd_none)

/-- the fragment, with the tables of the code objects of those that make lambdas -/
structure KT where
  fr : PySem.W.Frag
  tb : List (Addr × Str)
instance : Coe KT PySem.W.Frag := ⟨KT.fr⟩
def isTb : HO → Bool
  | .tbl _ => true
  | _ => false
/-- no table, or none is to change -/
abbrev nt (T : List (Addr × Str)) (o : HO) : Prop := (isTb o && !T.isEmpty) = false
theorem nt_ne {o : HO} (h : isTb o = false) (ps : Array Value) : o ≠ .tbl ps := fun z => by rw [z] at h; cases h
theorem nt_nil {o : HO} : nt [] o := Bool.and_false _
/-- nothing that lasts -/
def nn (T : List (Addr × Str)) (x : Option HO) : Prop := ∀ o, x = some o → ¬ nt T o
theorem nn_none {T : List (Addr × Str)} {x : Option HO} (h : x = none) : nn T x := fun o e => by rw [h] at e; cases e
theorem nnn {T : List (Addr × Str)} {x : Option HO} {o : HO} (h : x = some o) (n : nt T o := by rfl) : ¬ nn T x := fun z => z o h n
def isX : HO → Bool
  | .ext _ => true
  | _ => false
/-- something of the program's own -/
def Ob (x : Option HO) : Prop := ∃ o, x = some o ∧ isTb o = false ∧ isX o = false
theorem nt_of {T : List (Addr × Str)} {o : HO} (h : isTb o = false) : nt T o := by show (isTb o && _) = false; rw [h]; rfl
theorem Ob.nn {T : List (Addr × Str)} {x : Option HO} (h : Ob x) : ¬ nn T x := fun z => let ⟨o, e, n, _⟩ := h; z o e (nt_of n)
theorem Ob.ne {x : Option HO} (h : Ob x) : x ≠ none := fun z => by obtain ⟨o, e, _⟩ := h; rw [z] at e; cases e
structure Fr (T : List (Addr × Str)) (M : MS) (H H' : Hp) : Prop where
  keep : ∀ a o, nt T o → ¬ M a → H a = some o → H' a = some o
  dom : ∀ a, nn T (H' a) → nn T (H a)
theorem Fr.refl {T : List (Addr × Str)} {M : MS} (H : Hp) : Fr T M H H := ⟨fun _ _ _ _ h => h, fun _ h => h⟩
theorem Fr.new {T : List (Addr × Str)} {M : MS} {H : Hp} {p : Addr} {o : HO} (h : H p = none) : Fr T M H (upd H p o) := ⟨fun a u _ _ e => by rw [upd_ne (ne_of_none e h)]; exact e, fun a z u e n => z u (by rw [upd_ne (ne_of_none e h)]; exact e) n⟩
theorem Fr.mut {T : List (Addr × Str)} {M : MS} {H : Hp} {p : Addr} {o : HO} (h : M p) (no : isTb o = false) : Fr T M H (upd H p o) := ⟨fun a u _ n e => by rw [upd_ne fun z => n (by rw [z]; exact h)]; exact e, fun a z u e n => by
  by_cases q : a = p
  · rw [q] at z; exact z o upd_same (nt_of no)
  · exact z u (by rw [upd_ne q]; exact e) n⟩
theorem Fr.mutNew {T : List (Addr × Str)} {M : MS} {H H1 : Hp} {D : Addr} {o : HO} (f : Fr T M H H1) (h : nn T (H D)) : Fr T M H (upd H1 D o) := by
  have ne : ∀ a u, nt T u → H a = some u → a ≠ D := fun a u t e z => h u (by rw [← z]; exact e) t
  refine ⟨fun a u t n e => by rw [upd_ne (ne a u t e)]; exact f.keep a u t n e, fun a z u e n => ?_⟩
  refine f.dom a (fun u' e' n' => ?_) u e n
  exact z u' (by rw [upd_ne (ne a u n e)]; exact e') n'
/-- the tables stay where something else is changed -/
theorem tabs_mut {T : List (Addr × Str)} {H : Hp} {a : Addr} {o o' : HO} (h : H a = some o) (n : isTb o = false) (x : isX o = false) (t : LamX.Tabs T H) : LamX.Tabs T (upd H a o') := fun p hp => by
  obtain ⟨ps, h1, h2, h3⟩ := t p hp
  refine ⟨ps, ?_, h2, fun pos cv hc => ?_⟩
  · rw [upd_ne fun z => nt_ne n ps (Option.some.inj (h.symm.trans (by rw [← z]; exact h1)))]
    exact h1
  · obtain ⟨c, e1, e2⟩ := h3 pos cv hc
    refine ⟨c, e1, ?_⟩
    rw [upd_ne fun z => by rw [z, h] at e2; rw [Option.some.inj e2] at x; cases x]
    exact e2
/-- a datum: a tree without names -/
inductive PV where
  | non
  | bl (b : Bool)
  | int (i : Int)
  | str (x : Str)
  | tup (xs : List PV)
  | lst (xs : List PV)
  | dic (b : Bool) (ks vs : List PV)
  | obj (C : Str) (ns : List Str) (vs : List PV)
/-- a part of what holds others: a datum, or a thing that changes (by its number) -/
inductive Fl where
  | t (d : PV)
  | c (k : Nat)
/-- what holds others: a tuple, an instance of an own class -/
inductive Gd where
  | tup
  | ob (C : Str) (ns : List Str)
/-- a thing that changes -/
inductive Cell where
  | lst (xs : List PV)
  | dic (b : Bool) (ks vs : List PV)
  | ob (C : Str) (ns : List Str) (fs : List Fl)
abbrev Store := List (Option Cell)
/-- what a name holds: a datum, a thing that changes (by its number), a caught exception, the script, what holds things that change, an instance in the making -/
inductive Val where
  | t (d : PV)
  | c (k : Nat)
  | x (cls : Str) (f : Option (Str × PV))
  | s (ns : List Int)
  | g (h : Gd) (fs : List Fl)
  | self
  | lam (L : Addr × Addr × Str × L2.St) (fs : List (Option Fl))
inductive R (α : Type) where
  | ok (a : α) (μ : Store)
  | ex (c : Str) (f : Option (Str × PV)) (μ : Store)
  | stuck
abbrev Sl := List (Option Val)
abbrev ME := Sl → Store → R Val
inductive RS where
  | nx (σ : Sl) (μ : Store)
  | rt (w : Val) (μ : Store)
  | bk (σ : Sl) (μ : Store)
  | ct (σ : Sl) (μ : Store)
  | ex (c : Str) (f : Option (Str × PV)) (σ : Sl) (μ : Store)
  | stuck
abbrev MSt := Sl → Store → RS

/-! ### a datum in the heap -/
def kPV : Key → PV
  | .inl i => .int i
  | .inr x => .str x
def kOk : Key → Prop
  | .inl _ => True
  | .inr x => PyData.strOk x = true
def DicR (b : Bool) (H : Hp) (a : Addr) (ks : List PV) (vs : List V) : Prop := match b with
  | false => ∃ kl : List Key, ks = kl.map kPV ∧ kl.length = vs.length ∧ (∀ k ∈ kl, kOk k) ∧ H a = some (.dK (kl.zip vs))
  | true => ∃ kl : List (List Key), ks = kl.map (fun k => PV.tup (k.map kPV)) ∧ kl.length = vs.length ∧ (∀ k ∈ kl, ∀ z ∈ k, kOk z) ∧ H a = some (.dT (kl.zip vs))
theorem DicR.has {b : Bool} {H : Hp} {a : Addr} {ks : List PV} {vs : List V} (h : DicR b H a ks vs) : ∃ o, H a = some o := by
  cases b <;> obtain ⟨_, _, _, _, h⟩ := h <;> exact ⟨_, h⟩
theorem DicR.ob {b : Bool} {H : Hp} {a : Addr} {ks : List PV} {vs : List V} (h : DicR b H a ks vs) : Ob (H a) := by
  cases b <;> obtain ⟨_, _, _, _, h⟩ := h <;> exact ⟨_, h, rfl, rfl⟩
theorem DicR.to {T : List (Addr × Str)} {b : Bool} {H H' : Hp} {a : Addr} {ks : List PV} {vs : List V} (h : DicR b H a ks vs) (k : ∀ o, nt T o → H a = some o → H' a = some o) : DicR b H' a ks vs := by
  cases b <;> obtain ⟨kl, h1, h2, h3, h4⟩ := h <;> exact ⟨kl, h1, h2, h3, k _ rfl h4⟩
theorem DicR.len {b : Bool} {H : Hp} {a : Addr} {ks : List PV} {vs : List V} (h : DicR b H a ks vs) : ks.length = vs.length := by
  cases b <;> obtain ⟨kl, h1, h2, h3, h4⟩ := h <;> rw [h1, List.length_map, h2]
mutual
def rv (K : KT) (M : MS) (H : Hp) : V → PV → Prop
  | v, .non => v = .non
  | v, .bl b => v = .bl b
  | v, .int i => v = .int i
  | v, .str x => v = .str x ∧ PyData.strOk x = true
  | v, .tup l => ∃ a vs, v = .ref a ∧ ¬ M a ∧ H a = some (.tup vs) ∧ rvs K M H vs l
  | v, .lst l => ∃ a vs, v = .ref a ∧ ¬ M a ∧ H a = some (.lst vs) ∧ rvs K M H vs l
  | v, .dic b ks l => ∃ a vs, v = .ref a ∧ ¬ M a ∧ DicR b H a ks vs ∧ rvs K M H vs l
  | v, .obj C ns l => ∃ a dx vs, v = .ref a ∧ ¬ M a ∧ ¬ M dx ∧ H a = some (.ins (He.ga K C) dx (ns.zip vs)) ∧ H dx = some (.own a) ∧ vs.length = ns.length ∧ rvs K M H vs l
def rvs (K : KT) (M : MS) (H : Hp) : List V → List PV → Prop
  | [], [] => True
  | v :: vs, d :: ds => rv K M H v d ∧ rvs K M H vs ds
  | _, _ => False
end
section
variable {K : KT} {M M' : MS} {H H' : Hp} {v : V} {vs : List V}
theorem rv_non : rv K M H v .non ↔ v = .non := by unfold rv; exact Iff.rfl
theorem rv_bl {b : Bool} : rv K M H v (.bl b) ↔ v = .bl b := by unfold rv; exact Iff.rfl
theorem rv_int {i : Int} : rv K M H v (.int i) ↔ v = .int i := by unfold rv; exact Iff.rfl
theorem rv_str {x : Str} : rv K M H v (.str x) ↔ v = .str x ∧ PyData.strOk x = true := by unfold rv; exact Iff.rfl
theorem rv_tup {l : List PV} : rv K M H v (.tup l) ↔ ∃ a vs, v = .ref a ∧ ¬ M a ∧ H a = some (.tup vs) ∧ rvs K M H vs l := by rw [rv]
theorem rv_lst {l : List PV} : rv K M H v (.lst l) ↔ ∃ a vs, v = .ref a ∧ ¬ M a ∧ H a = some (.lst vs) ∧ rvs K M H vs l := by rw [rv]
theorem rv_dic {b : Bool} {ks l : List PV} : rv K M H v (.dic b ks l) ↔ ∃ a vs, v = .ref a ∧ ¬ M a ∧ DicR b H a ks vs ∧ rvs K M H vs l := by rw [rv]
theorem rv_obj {C : Str} {ns : List Str} {l : List PV} : rv K M H v (.obj C ns l) ↔ ∃ a dx vs, v = .ref a ∧ ¬ M a ∧ ¬ M dx ∧ H a = some (.ins (He.ga K C) dx (ns.zip vs)) ∧ H dx = some (.own a) ∧ vs.length = ns.length ∧ rvs K M H vs l := by rw [rv]
theorem rvs_nil : rvs K M H [] [] := by unfold rvs; trivial
theorem rvs_cons {d : PV} {ds : List PV} : rvs K M H (v :: vs) (d :: ds) ↔ rv K M H v d ∧ rvs K M H vs ds := by rw [rvs]
mutual
theorem rv_st (na : ∀ a, ¬ M a → ¬ nn K.tb (H a) → ¬ M' a) (f : ∀ a o, nt K.tb o → ¬ M a → H a = some o → H' a = some o) : ∀ (d : PV) (v : V), rv K M H v d → rv K M' H' v d
  | .non, v, h => by rw [rv_non] at h ⊢; exact h
  | .bl b, v, h => by rw [rv_bl] at h ⊢; exact h
  | .int i, v, h => by rw [rv_int] at h ⊢; exact h
  | .str x, v, h => by rw [rv_str] at h ⊢; exact h
  | .tup l, v, h => by
    rw [rv_tup] at h ⊢
    obtain ⟨a, vs, h1, h2, h3, h4⟩ := h
    exact ⟨a, vs, h1, na a h2 (nnn h3), f a _ rfl h2 h3, rvs_st na f l vs h4⟩
  | .lst l, v, h => by
    rw [rv_lst] at h ⊢
    obtain ⟨a, vs, h1, h2, h3, h4⟩ := h
    exact ⟨a, vs, h1, na a h2 (nnn h3), f a _ rfl h2 h3, rvs_st na f l vs h4⟩
  | .dic b ks l, v, h => by
    rw [rv_dic] at h ⊢
    obtain ⟨a, vs, h1, h2, h3, h4⟩ := h
    exact ⟨a, vs, h1, na a h2 h3.ob.nn, h3.to fun o t e => f a o t h2 e, rvs_st na f l vs h4⟩
  | .obj C ns l, v, h => by
    rw [rv_obj] at h ⊢
    obtain ⟨a, dx, vs, h1, h2, h3, h4, h5, h6, h7⟩ := h
    exact ⟨a, dx, vs, h1, na a h2 (nnn h4), na dx h3 (nnn h5), f a _ rfl h2 h4, f dx _ rfl h3 h5, h6, rvs_st na f l vs h7⟩
theorem rvs_st (na : ∀ a, ¬ M a → ¬ nn K.tb (H a) → ¬ M' a) (f : ∀ a o, nt K.tb o → ¬ M a → H a = some o → H' a = some o) : ∀ (ds : List PV) (vs : List V), rvs K M H vs ds → rvs K M' H' vs ds
  | [], [], _ => rvs_nil
  | d :: ds, v :: vs, h => by
    rw [rvs_cons] at h ⊢
    exact ⟨rv_st na f d v h.1, rvs_st na f ds vs h.2⟩
  | [], _ :: _, h => by unfold rvs at h; exact h.elim
  | _ :: _, [], h => by unfold rvs at h; exact h.elim
end
theorem rvs_len : ∀ {vs : List V} {ds : List PV}, rvs K M H vs ds → vs.length = ds.length
  | [], [], _ => rfl
  | _ :: _, _ :: _, h => by rw [rvs_cons] at h; exact congrArg Nat.succ (rvs_len h.2)
  | [], _ :: _, h => by unfold rvs at h; exact h.elim
  | _ :: _, [], h => by unfold rvs at h; exact h.elim
theorem rvs_app : ∀ {vs ws : List V} {ds es : List PV}, rvs K M H vs ds → rvs K M H ws es → rvs K M H (vs ++ ws) (ds ++ es)
  | [], _, [], _, _, h => h
  | _ :: _, _, _ :: _, _, g, h => by rw [rvs_cons] at g; exact rvs_cons.mpr ⟨g.1, rvs_app g.2 h⟩
  | [], _, _ :: _, _, g, _ => by unfold rvs at g; exact g.elim
  | _ :: _, _, [], _, g, _ => by unfold rvs at g; exact g.elim
theorem rvs_at : ∀ {vs : List V} {ds : List PV} {i : Nat} {d : PV}, rvs K M H vs ds → ds[i]? = some d → ∃ v, vs[i]? = some v ∧ rv K M H v d
  | [], [], _, _, _, e => by simp at e
  | x :: _, a :: _, 0, d, h, e => by
    rw [rvs_cons] at h
    obtain rfl : a = d := Option.some.inj e
    exact ⟨x, rfl, h.1⟩
  | _ :: _, _ :: _, i + 1, v, h, e => by rw [rvs_cons] at h; exact rvs_at (i := i) h.2 e
  | [], _ :: _, _, _, h, _ => by unfold rvs at h; exact h.elim
  | _ :: _, [], _, _, h, _ => by unfold rvs at h; exact h.elim
theorem rvs_take : ∀ {vs : List V} {ds : List PV} (n : Nat), rvs K M H vs ds → rvs K M H (vs.take n) (ds.take n)
  | [], [], n, _ => by cases n <;> exact rvs_nil
  | _ :: _, _ :: _, 0, _ => rvs_nil
  | _ :: _, _ :: _, n + 1, h => by rw [rvs_cons] at h; exact rvs_cons.mpr ⟨h.1, rvs_take n h.2⟩
  | [], _ :: _, _, h => by unfold rvs at h; exact h.elim
  | _ :: _, [], _, h => by unfold rvs at h; exact h.elim
theorem rvs_drop : ∀ {vs : List V} {ds : List PV} (n : Nat), rvs K M H vs ds → rvs K M H (vs.drop n) (ds.drop n)
  | [], [], n, _ => by cases n <;> exact rvs_nil
  | _ :: _, _ :: _, 0, h => h
  | _ :: _, _ :: _, n + 1, h => by rw [rvs_cons] at h; exact rvs_drop n h.2
  | [], _ :: _, _, h => by unfold rvs at h; exact h.elim
  | _ :: _, [], _, h => by unfold rvs at h; exact h.elim
theorem rvs_set {v : V} {d : PV} (h : rv K M H v d) : ∀ {vs : List V} {ds : List PV} (j : Nat), rvs K M H vs ds → rvs K M H (vs.set j v) (ds.set j d)
  | [], [], _, _ => rvs_nil
  | _ :: _, _ :: _, 0, g => by rw [rvs_cons] at g; exact rvs_cons.mpr ⟨h, g.2⟩
  | _ :: _, _ :: _, j + 1, g => by rw [rvs_cons] at g; exact rvs_cons.mpr ⟨g.1, rvs_set h j g.2⟩
  | [], _ :: _, _, g => by unfold rvs at g; exact g.elim
  | _ :: _, [], _, g => by unfold rvs at g; exact g.elim
theorem rvs_rev : ∀ {vs : List V} {ds : List PV}, rvs K M H vs ds → rvs K M H vs.reverse ds.reverse
  | [], [], _ => rvs_nil
  | _ :: _, _ :: _, h => by
    rw [rvs_cons] at h
    rw [List.reverse_cons, List.reverse_cons]
    exact rvs_app (rvs_rev h.2) (rvs_cons.mpr ⟨h.1, rvs_nil⟩)
  | [], _ :: _, h => by unfold rvs at h; exact h.elim
  | _ :: _, [], h => by unfold rvs at h; exact h.elim
theorem rvs_ad {D : Addr} {ds : List PV} (hD : H D = none) (h : rvs K M H vs ds) : rvs K (WD.plus M D) H vs ds := rvs_st (fun a n ne z => z.elim n fun e => ne (nn_none (by rw [e]; exact hD))) (fun _ _ _ _ e => e) ds vs h
theorem rv_wk {d : PV} (s : ∀ a, M' a → M a) (h : rv K M H v d) : rv K M' H v d := rv_st (fun a n _ z => n (s a z)) (fun _ _ _ _ e => e) d v h
theorem rvs_wk {ds : List PV} (s : ∀ a, M' a → M a) (h : rvs K M H vs ds) : rvs K M' H vs ds := rvs_st (fun a n _ z => n (s a z)) (fun _ _ _ _ e => e) ds vs h
end

/-! ### the world: the things that change -/
def Mof (ζ : List Addr) (μ : Store) : MS := fun a => ∃ (k : Nat) (c : Cell), ζ[k]? = some a ∧ μ[k]? = some (some c)
/-- .. with those that are set aside -/
def MM (N : MS) (ζ : List Addr) (μ : Store) : MS := fun a => Mof ζ μ a ∨ N a
def FR (K : KT) (ζ : List Addr) (M : MS) (H : Hp) (v : V) : Fl → Prop
  | .t d => rv K M H v d
  | .c k => ∃ a, ζ[k]? = some a ∧ v = .ref a
def FRs (K : KT) (ζ : List Addr) (M : MS) (H : Hp) : List V → List Fl → Prop
  | [], [] => True
  | v :: vs, w :: ws => FR K ζ M H v w ∧ FRs K ζ M H vs ws
  | _, _ => False
theorem FR.st {K : KT} {ζ ζ' : List Addr} {M M' : MS} {H H' : Hp} {v : V} (pre : ∀ (k : Nat) (a : Addr), ζ[k]? = some a → ζ'[k]? = some a) (na : ∀ a, ¬ M a → ¬ nn K.tb (H a) → ¬ M' a) (f : ∀ a o, nt K.tb o → ¬ M a → H a = some o → H' a = some o) : ∀ {w : Fl}, FR K ζ M H v w → FR K ζ' M' H' v w
  | .t d, h => rv_st na f d v h
  | .c k, ⟨a, h1, h2⟩ => ⟨a, pre k a h1, h2⟩
theorem FRs.st {K : KT} {ζ ζ' : List Addr} {M M' : MS} {H H' : Hp} (pre : ∀ (k : Nat) (a : Addr), ζ[k]? = some a → ζ'[k]? = some a) (na : ∀ a, ¬ M a → ¬ nn K.tb (H a) → ¬ M' a) (f : ∀ a o, nt K.tb o → ¬ M a → H a = some o → H' a = some o) : ∀ {vs : List V} {ws : List Fl}, FRs K ζ M H vs ws → FRs K ζ' M' H' vs ws
  | [], [], _ => trivial
  | _ :: _, _ :: _, h => ⟨FR.st pre na f h.1, FRs.st pre na f h.2⟩
  | [], _ :: _, h => h.elim
  | _ :: _, [], h => h.elim
theorem FRs.len {K : KT} {ζ : List Addr} {M : MS} {H : Hp} : ∀ {vs : List V} {ws : List Fl}, FRs K ζ M H vs ws → vs.length = ws.length
  | [], [], _ => rfl
  | _ :: _, _ :: _, h => congrArg Nat.succ (FRs.len h.2)
  | [], _ :: _, h => h.elim
  | _ :: _, [], h => h.elim
def cellR (K : KT) (ζ : List Addr) (M : MS) (H : Hp) (a : Addr) : Cell → Prop
  | .lst ds => ∃ vs, H a = some (.lst vs) ∧ rvs K M H vs ds
  | .dic b ks ds => ∃ vs, DicR b H a ks vs ∧ rvs K M H vs ds
  | .ob C ns fs => ∃ dx vs, ¬ M dx ∧ H a = some (.ins (He.ga K C) dx (ns.zip vs)) ∧ H dx = some (.own a) ∧ vs.length = ns.length ∧ FRs K ζ M H vs fs
theorem cellR.has {K : KT} {ζ : List Addr} {M : MS} {H : Hp} {a : Addr} {c : Cell} (h : cellR K ζ M H a c) : ∃ o, H a = some o := by
  cases c with
  | lst ds => obtain ⟨vs, e, _⟩ := h; exact ⟨_, e⟩
  | dic b ks ds => obtain ⟨vs, e, _⟩ := h; exact e.has
  | ob C ns ds => obtain ⟨dx, vs, _, e, _⟩ := h; exact ⟨_, e⟩
theorem cellR.obj {K : KT} {ζ : List Addr} {M : MS} {H : Hp} {a : Addr} {c : Cell} (h : cellR K ζ M H a c) : Ob (H a) := by
  cases c with
  | lst ds => obtain ⟨vs, e, _⟩ := h; exact ⟨_, e, rfl, rfl⟩
  | dic b ks ds => obtain ⟨vs, e, _⟩ := h; cases b <;> obtain ⟨_, _, _, _, e⟩ := e <;> exact ⟨_, e, rfl, rfl⟩
  | ob C ns ds => obtain ⟨dx, vs, _, e, _⟩ := h; exact ⟨_, e, rfl, rfl⟩
theorem cellR.st {K : KT} {ζ ζ' : List Addr} {M M' : MS} {H H' : Hp} {a : Addr} {c : Cell} (pre : ∀ (k : Nat) (a : Addr), ζ[k]? = some a → ζ'[k]? = some a) (na : ∀ a, ¬ M a → ¬ nn K.tb (H a) → ¬ M' a) (f : ∀ a o, nt K.tb o → ¬ M a → H a = some o → H' a = some o) (fa : ∀ o, nt K.tb o → H a = some o → H' a = some o) (h : cellR K ζ M H a c) : cellR K ζ' M' H' a c := by
  cases c with
  | lst ds => obtain ⟨vs, e, r⟩ := h; exact ⟨vs, fa _ rfl e, rvs_st na f _ _ r⟩
  | dic b ks ds => obtain ⟨vs, e, r⟩ := h; exact ⟨vs, e.to fa, rvs_st na f _ _ r⟩
  | ob C ns ds => obtain ⟨dx, vs, nd, e, e2, l, r⟩ := h; exact ⟨dx, vs, na dx nd (nnn e2), fa _ rfl e, f _ _ rfl nd e2, l, FRs.st pre na f r⟩
structure Wd (K : KT) (N : MS) (ζ : List Addr) (μ : Store) (H : Hp) : Prop where
  len : ζ.length = μ.length
  inj : ∀ (i j : Nat) (a : Addr) (c c' : Cell), ζ[i]? = some a → ζ[j]? = some a → μ[i]? = some (some c) → μ[j]? = some (some c') → i = j
  cell : ∀ (k : Nat) (c : Cell) (a : Addr), μ[k]? = some (some c) → ζ[k]? = some a → cellR K (ζ.take k) (MM N ζ μ) H a c
  nd : ∀ a, N a → ¬ Mof ζ μ a ∧ Ob (H a)
  tb : LamX.Tabs K.tb H
structure Ev (T : List (Addr × Str)) (ζ : List Addr) (μ : Store) (H : Hp) (ζ' : List Addr) (μ' : Store) (H' : Hp) : Prop where
  pre : ∀ (k : Nat) (a : Addr), ζ[k]? = some a → ζ'[k]? = some a
  fr : Fr T (Mof ζ μ) H H'
  ml : ∀ a, Mof ζ' μ' a → Mof ζ μ a ∨ nn T (H a)
section
variable {K : KT} {N : MS} {ζ ζ1 ζ2 : List Addr} {μ μ1 μ2 : Store} {H H1 H2 : Hp} {v : V} {d : PV} {vs : List V} {ds : List PV}
theorem Ev.refl : Ev K.tb ζ μ H ζ μ H := ⟨fun _ _ h => h, Fr.refl _, fun _ h => .inl h⟩
theorem Ev.trans (a : Ev K.tb ζ μ H ζ1 μ1 H1) (b : Ev K.tb ζ1 μ1 H1 ζ2 μ2 H2) : Ev K.tb ζ μ H ζ2 μ2 H2 := by
  refine ⟨fun k x h => b.pre k x (a.pre k x h), ⟨fun x o t n h => b.fr.keep x o t (fun z => (a.ml x z).elim n fun q => q o h t) (a.fr.keep x o t n h), fun x h => a.fr.dom x (b.fr.dom x h)⟩, fun x h => ?_⟩
  rcases b.ml x h with h | h
  · exact a.ml x h
  · exact .inr (a.fr.dom x h)
theorem Ev.na (e : Ev K.tb ζ μ H ζ1 μ1 H1) : ∀ a, ¬ MM N ζ μ a → ¬ nn K.tb (H a) → ¬ MM N ζ1 μ1 a := fun a n ne z => z.elim (fun z => (e.ml a z).elim (fun q => n (.inl q)) ne) fun q => n (.inr q)
theorem Ev.keep (e : Ev K.tb ζ μ H ζ1 μ1 H1) : ∀ a o, nt K.tb o → ¬ MM N ζ μ a → H a = some o → H1 a = some o := fun a o t n h => e.fr.keep a o t (fun z => n (.inl z)) h
theorem Ev.rv (e : Ev K.tb ζ μ H ζ1 μ1 H1) (h : rv K (MM N ζ μ) H v d) : rv K (MM N ζ1 μ1) H1 v d := rv_st e.na e.keep d v h
theorem Ev.rvs (e : Ev K.tb ζ μ H ζ1 μ1 H1) (h : rvs K (MM N ζ μ) H vs ds) : rvs K (MM N ζ1 μ1) H1 vs ds := rvs_st e.na e.keep ds vs h
theorem Wd.min (w : Wd K N ζ μ H) : ∀ a, MM N ζ μ a → Ob (H a) := fun a h => by
  rcases h with ⟨k, c, h1, h2⟩ | h
  case inr => exact (w.nd a h).2
  exact (w.cell k c a h2 h1).obj
theorem Wd.no (w : Wd K N ζ μ H) {p : Addr} (h : H p = none) : ¬ MM N ζ μ p := fun z => (w.min p z).ne h
/-- something new is laid -/
theorem Ev.new {p : Addr} {o : HO} (h : H p = none) : Ev K.tb ζ μ H ζ μ (upd H p o) := ⟨fun _ _ e => e, Fr.new h, fun _ e => .inl e⟩
theorem Wd.new (w : Wd K N ζ μ H) {p : Addr} {o : HO} (h : H p = none) : Wd K N ζ μ (upd H p o) := by
  refine ⟨w.len, w.inj, fun k c a h1 h2 => ?_, fun a h' => ⟨(w.nd a h').1, (by obtain ⟨u, e, r⟩ := (w.nd a h').2; exact ⟨u, by rw [upd_ne (ne_of_none e h)]; exact e, r⟩)⟩, w.tb.ext fun b u e => by rw [upd_ne (ne_of_none e h)]; exact e⟩
  exact (w.cell k c a h1 h2).st (fun _ _ h => h) (fun _ n _ => n) (fun b u _ _ e => by rw [upd_ne (ne_of_none e h)]; exact e) (fun u _ e => by rw [upd_ne (ne_of_none e h)]; exact e)
/-- the heap may grow -/
theorem Wd.fr0 (w : Wd K N ζ μ H) (f : ∀ a o, H a = some o → H1 a = some o) : Wd K N ζ μ H1 :=
  ⟨w.len, w.inj, fun k c a h1 h2 => (w.cell k c a h1 h2).st (fun _ _ h => h) (fun _ n _ => n) (fun b u _ _ e => f b u e) (fun o _ => f a o), fun a h => ⟨(w.nd a h).1, let ⟨u, e, r⟩ := (w.nd a h).2; ⟨u, f a u e, r⟩⟩, w.tb.ext f⟩
end

/-! ### values, slots -/
abbrev Xi := Option (Addr × Value × Option Addr)
def XR (K : KT) (M : MS) (H : Hp) (d : Option Addr) : Option (Str × PV) → Prop
  | none => d = none
  | some (n, p) => ∃ dd v, d = some dd ∧ ¬ M dd ∧ H dd = some (.xd [(n, v)]) ∧ rv K M H v p
def RV (K : KT) (ξ : Xi) (ζ : List Addr) (M : MS) (H : Hp) (v : V) : Val → Prop
  | .t d => rv K M H v d
  | .c k => ∃ a, ζ[k]? = some a ∧ v = .ref a
  | .x c f => ∃ a d, ξ = some (a, .ref (He.ga K c), d) ∧ v = .ref a ∧ XR K M H d f
  | .s ns => ∃ a, v = .ref a ∧ ((¬ M a ∧ Rd H a (.lst (ns.map V.int))) ∨ ∀ H', SqL K H' a (ns.map V.int))
  | .g .tup fs => ∃ a vs, v = .ref a ∧ ¬ M a ∧ H a = some (.tup vs) ∧ FRs K ζ M H vs fs
  | .g (.ob C ns) fs => ∃ a dx vs, v = .ref a ∧ ¬ M a ∧ ¬ M dx ∧ H a = some (.ins (He.ga K C) dx (ns.zip vs)) ∧ H dx = some (.own a) ∧ vs.length = ns.length ∧ FRs K ζ M H vs fs
  | .self => ∃ a cv d, ξ = some (a, cv, d) ∧ v = .ref a
  | .lam L fs => v = .ref L.1 ∧ ¬ M L.2.1 ∧ H L.2.1 = some (LamX.CodeO L.2.1 L.2.2.1) ∧ L.2.2.2.length = fs.length ∧ ∀ (i : Nat) (w : Fl), fs[i]? = some (some w) → ∃ u, L.2.2.2[i]? = some (some u) ∧ FR K ζ M H u w
def RVs (K : KT) (ξ : Xi) (ζ : List Addr) (M : MS) (H : Hp) : List V → List Val → Prop
  | [], [] => True
  | v :: vs, w :: ws => RV K ξ ζ M H v w ∧ RVs K ξ ζ M H vs ws
  | _, _ => False
def Sok (K : KT) (ξ : Xi) (ζ : List Addr) (M : MS) (H : Hp) (σr : L2.St) (σ : Sl) : Prop :=
  σr.length = σ.length ∧ ∀ (i : Nat) (w : Val), σ[i]? = some (some w) → ∃ v, σr[i]? = some (some v) ∧ RV K ξ ζ M H v w
section
variable {K : KT} {ξ : Xi} {N : MS} {ζ ζ1 : List Addr} {μ μ1 : Store} {M : MS} {H H1 : Hp} {v : V} {w : Val} {vs : List V} {ws : List Val} {σr : L2.St} {σ : Sl}
theorem XR.st {M' : MS} {d : Option Addr} (na : ∀ a, ¬ M a → ¬ nn K.tb (H a) → ¬ M' a) (f : ∀ a o, nt K.tb o → ¬ M a → H a = some o → H1 a = some o) : ∀ {x : Option (Str × PV)}, XR K M H d x → XR K M' H1 d x
  | none, h => h
  | some (n, p), ⟨dd, v, h1, h2, h3, h4⟩ => ⟨dd, v, h1, na dd h2 (nnn h3), f _ _ rfl h2 h3, rv_st na f _ _ h4⟩
theorem XR.ev {d : Option Addr} {f : Option (Str × PV)} (e : Ev K.tb ζ μ H ζ1 μ1 H1) (h : XR K (MM N ζ μ) H d f) : XR K (MM N ζ1 μ1) H1 d f := h.st e.na e.keep
theorem RV.st {M' : MS} (pre : ∀ (k : Nat) (a : Addr), ζ[k]? = some a → ζ1[k]? = some a) (na : ∀ a, ¬ M a → ¬ nn K.tb (H a) → ¬ M' a) (f : ∀ a o, nt K.tb o → ¬ M a → H a = some o → H1 a = some o) : ∀ {w : Val}, RV K ξ ζ M H v w → RV K ξ ζ1 M' H1 v w
  | .t d, h => rv_st na f d v h
  | .c _, ⟨a, h1, h2⟩ => ⟨a, pre _ _ h1, h2⟩
  | .x _ _, ⟨a, d, h1, h2, h3⟩ => ⟨a, d, h1, h2, h3.st na f⟩
  | .s _, ⟨a, h1, .inr h⟩ => ⟨a, h1, .inr h⟩
  | .s _, ⟨a, h1, .inl ⟨h2, h3⟩⟩ => by
    refine ⟨a, h1, .inl ⟨?_, ?_⟩⟩
    · rcases h3 with h3 | ⟨o, h3⟩ <;> exact na a h2 (nnn h3)
    · rcases h3 with h3 | ⟨o, h3⟩
      · exact .inl (f a _ rfl h2 h3)
      · exact .inr ⟨o, f a _ rfl h2 h3⟩
  | .g .tup fs, ⟨a, vs, h1, h2, h3, h4⟩ => ⟨a, vs, h1, na a h2 (nnn h3), f _ _ rfl h2 h3, FRs.st pre na f h4⟩
  | .g (.ob C ns) fs, ⟨a, dx, vs, h1, h2, h3, h4, h5, h6, h7⟩ => ⟨a, dx, vs, h1, na a h2 (nnn h4), na dx h3 (nnn h5), f _ _ rfl h2 h4, f _ _ rfl h3 h5, h6, FRs.st pre na f h7⟩
  | .self, h => h
  | .lam _ _, ⟨h1, h2, h3, h4, h5⟩ => ⟨h1, na _ h2 (nnn h3), f _ _ rfl h2 h3, h4, fun i w e => let ⟨u, e1, e2⟩ := h5 i w e; ⟨u, e1, e2.st pre na f⟩⟩
theorem RV.ev (e : Ev K.tb ζ μ H ζ1 μ1 H1) {w : Val} (h : RV K ξ ζ (MM N ζ μ) H v w) : RV K ξ ζ1 (MM N ζ1 μ1) H1 v w := h.st e.pre e.na e.keep
theorem RVs.ev (e : Ev K.tb ζ μ H ζ1 μ1 H1) : ∀ {vs : List V} {ws : List Val}, RVs K ξ ζ (MM N ζ μ) H vs ws → RVs K ξ ζ1 (MM N ζ1 μ1) H1 vs ws
  | [], [], _ => trivial
  | _ :: _, _ :: _, h => ⟨RV.ev e h.1, RVs.ev e h.2⟩
  | [], _ :: _, h => h.elim
  | _ :: _, [], h => h.elim
theorem RVs.len : ∀ {vs : List V} {ws : List Val}, RVs K ξ ζ M H vs ws → vs.length = ws.length
  | [], [], _ => rfl
  | _ :: _, _ :: _, h => congrArg Nat.succ (RVs.len h.2)
  | [], _ :: _, h => h.elim
  | _ :: _, [], h => h.elim
theorem Sok.ev (e : Ev K.tb ζ μ H ζ1 μ1 H1) (h : Sok K ξ ζ (MM N ζ μ) H σr σ) : Sok K ξ ζ1 (MM N ζ1 μ1) H1 σr σ :=
  ⟨h.1, fun i w hw => let ⟨v, h1, h2⟩ := h.2 i w hw; ⟨v, h1, h2.ev e⟩⟩
theorem Sok.set {i : Nat} (h : Sok K ξ ζ M H σr σ) (r : RV K ξ ζ M H v w) : Sok K ξ ζ M H (σr.set i (some v)) (σ.set i (some w)) := by
  refine ⟨by rw [List.length_set, List.length_set]; exact h.1, fun j u hu => ?_⟩
  by_cases e : i = j
  · subst e
    have hl : i < σ.length := by
      have := (List.getElem?_eq_some_iff.mp hu).1
      rwa [List.length_set] at this
    rw [List.getElem?_set_self hl] at hu
    cases hu
    exact ⟨v, by rw [List.getElem?_set_self (by rw [h.1]; exact hl)], r⟩
  · rw [List.getElem?_set_ne e] at hu
    rw [List.getElem?_set_ne e]
    exact h.2 j u hu
theorem Sok.drop {i : Nat} (h : Sok K ξ ζ M H σr σ) : Sok K ξ ζ M H (σr.set i none) (σ.set i none) := by
  refine ⟨by rw [List.length_set, List.length_set]; exact h.1, fun j u hu => ?_⟩
  by_cases e : i = j
  · subst e
    have hl : i < σ.length := by
      have := (List.getElem?_eq_some_iff.mp hu).1
      rwa [List.length_set] at this
    rw [List.getElem?_set_self hl] at hu
    cases hu
  · rw [List.getElem?_set_ne e] at hu
    rw [List.getElem?_set_ne e]
    exact h.2 j u hu
end

/-! ### readings -/
def PostE (K : KT) (ξ : Xi) (W : WX) (N : MS) (ζ : List Addr) (μ : Store) (H : Hp) (σr : L2.St) (Q : VK) : R Val → Prop
  | .ok w μ' => ∀ ζ' H' v, Ev K.tb ζ μ H ζ' μ' H' → Wd K N ζ' μ' H' → RV K ξ ζ' (MM N ζ' μ') H' v w → Q v H'
  | .ex c f μ' => ∀ ζ' H' d, Ev K.tb ζ μ H ζ' μ' H' → Wd K N ζ' μ' H' → XR K (MM N ζ' μ') H' d f → W (.ref (He.ga K c)) d σr H'
  | .stuck => False
def tE (K : KT) (ξ : Xi) (W : WX) (f : ME) : TE := fun σr H Q => ∃ N ζ μ σ, Wd K N ζ μ H ∧ Sok K ξ ζ (MM N ζ μ) H σr σ ∧ PostE K ξ W N ζ μ H σr Q (f σ μ)
def PostT {α : Type} (K : KT) (W : WX) (N : MS) (ζ : List Addr) (μ : Store) (H : Hp) (σr : L2.St) (Q : α → Hp → Prop) : R α → Prop
  | .ok b μ' => ∀ ζ' H', Ev K.tb ζ μ H ζ' μ' H' → Wd K N ζ' μ' H' → Q b H'
  | .ex c f μ' => ∀ ζ' H' d, Ev K.tb ζ μ H ζ' μ' H' → Wd K N ζ' μ' H' → XR K (MM N ζ' μ') H' d f → W (.ref (He.ga K c)) d σr H'
  | .stuck => False
def tT (K : KT) (ξ : Xi) (W : WX) (f : Sl → Store → R Bool) : TT := fun σr H Q => ∃ N ζ μ σ, Wd K N ζ μ H ∧ Sok K ξ ζ (MM N ζ μ) H σr σ ∧ PostT K W N ζ μ H σr Q (f σ μ)
def PostA (K : KT) (ξ : Xi) (W : WX) (N : MS) (ζ : List Addr) (μ : Store) (H : Hp) (σr : L2.St) (Q : List V → Hp → Prop) : R (List Val) → Prop
  | .ok ws μ' => ∀ ζ' H' vs, Ev K.tb ζ μ H ζ' μ' H' → Wd K N ζ' μ' H' → RVs K ξ ζ' (MM N ζ' μ') H' vs ws → Q vs H'
  | .ex c f μ' => ∀ ζ' H' d, Ev K.tb ζ μ H ζ' μ' H' → Wd K N ζ' μ' H' → XR K (MM N ζ' μ') H' d f → W (.ref (He.ga K c)) d σr H'
  | .stuck => False
def tA (K : KT) (ξ : Xi) (W : WX) (f : Sl → Store → R (List Val)) : TA := fun σr H Q => ∃ N ζ μ σ, Wd K N ζ μ H ∧ Sok K ξ ζ (MM N ζ μ) H σr σ ∧ PostA K ξ W N ζ μ H σr Q (f σ μ)
/-- a new list -/
def PostF (K : KT) (W : WX) (N : MS) (ζ : List Addr) (μ : Store) (H : Hp) (σr : L2.St) (Q : VK) : R (List PV) → Prop
  | .ok ds μ' => ∀ ζ' H' a vs, Ev K.tb ζ μ H ζ' μ' H' → Wd K (WD.plus N a) ζ' μ' H' → nn K.tb (H a) → H' a = some (.lst vs) → rvs K (MM (WD.plus N a) ζ' μ') H' vs ds → Q (.ref a) H'
  | .ex c f μ' => ∀ ζ' H' d, Ev K.tb ζ μ H ζ' μ' H' → Wd K N ζ' μ' H' → XR K (MM N ζ' μ') H' d f → W (.ref (He.ga K c)) d σr H'
  | .stuck => False
def tF (K : KT) (ξ : Xi) (W : WX) (f : Sl → Store → R (List PV)) : TE := fun σr H Q => ∃ N ζ μ σ, Wd K N ζ μ H ∧ Sok K ξ ζ (MM N ζ μ) H σr σ ∧ PostF K W N ζ μ H σr Q (f σ μ)
def PostS (K : KT) (ξ : Xi) (W : WX) (N : MS) (ζ : List Addr) (μ : Store) (H : Hp) (D : Ends) : RS → Prop
  | .nx σ' μ' => ∀ ζ' H' σr', Ev K.tb ζ μ H ζ' μ' H' → Wd K N ζ' μ' H' → Sok K ξ ζ' (MM N ζ' μ') H' σr' σ' → D.nx σr' H'
  | .bk σ' μ' => ∀ ζ' H' σr', Ev K.tb ζ μ H ζ' μ' H' → Wd K N ζ' μ' H' → Sok K ξ ζ' (MM N ζ' μ') H' σr' σ' → D.bk σr' H'
  | .ct σ' μ' => ∀ ζ' H' σr', Ev K.tb ζ μ H ζ' μ' H' → Wd K N ζ' μ' H' → Sok K ξ ζ' (MM N ζ' μ') H' σr' σ' → D.ct σr' H'
  | .rt w μ' => ∀ ζ' H' v, Ev K.tb ζ μ H ζ' μ' H' → Wd K N ζ' μ' H' → RV K ξ ζ' (MM N ζ' μ') H' v w → D.rt v H'
  | .ex c f σ' μ' => ∀ ζ' H' d σr', Ev K.tb ζ μ H ζ' μ' H' → Wd K N ζ' μ' H' → XR K (MM N ζ' μ') H' d f → Sok K ξ ζ' (MM N ζ' μ') H' σr' σ' → W (.ref (He.ga K c)) d σr' H'
  | .stuck => False
def tS (K : KT) (ξ : Xi) (W : WX) (F : MSt) : TS := fun D σr H => ∃ N ζ μ σ, Wd K N ζ μ H ∧ Sok K ξ ζ (MM N ζ μ) H σr σ ∧ PostS K ξ W N ζ μ H D (F σ μ)

/-! ### judgements -/
abbrev IE (K : KT) (ξ : Xi) (W : WX) (X : Cx) (e : Expr) (f : ME) : Prop := PE X e (tE K ξ W f)
abbrev IT (K : KT) (ξ : Xi) (W : WX) (X : Cx) (e : Expr) (f : Sl → Store → R Bool) : Prop := PT X e (tT K ξ W f)
abbrev IA (K : KT) (ξ : Xi) (W : WX) (X : Cx) (es : List Expr) (f : Sl → Store → R (List Val)) : Prop := PA X es (tA K ξ W f)
abbrev IF (K : KT) (ξ : Xi) (W : WX) (X : Cx) (e : Expr) (f : Sl → Store → R (List PV)) : Prop := PE X e (tF K ξ W f)
abbrev IS (K : KT) (ξ : Xi) (W : WX) (X : Cx) (s : Stmt) (F : MSt) : Prop := PS X s (tS K ξ W F)
abbrev ISs (K : KT) (ξ : Xi) (W : WX) (X : Cx) (ss : List Stmt) (F : MSt) : Prop := PSs X ss (tS K ξ W F)
theorem PE.of {X : Cx} {e : Expr} {t t' : TE} (h : PE X e t) (k : ∀ σ H Q, t' σ H Q → t σ H Q) : PE X e t' := ⟨fun pins s σ H Q I q => h.run pins s σ H Q I (k σ H Q q)⟩
theorem PT.of {X : Cx} {e : Expr} {t t' : TT} (h : PT X e t) (k : ∀ σ H Q, t' σ H Q → t σ H Q) : PT X e t' := ⟨fun pins s σ H Q I q => h.run pins s σ H Q I (k σ H Q q)⟩
theorem PW.of {X : Cx} {e : Expr} {t t' : TT} (h : PW X e t) (k : ∀ σ H Q, t' σ H Q → t σ H Q) : PW X e t' := ⟨fun wh pins s σ H Q I q => h.run wh pins s σ H Q I (k σ H Q q)⟩
theorem PA.of {X : Cx} {e : List Expr} {t t' : TA} (h : PA X e t) (k : ∀ σ H Q, t' σ H Q → t σ H Q) : PA X e t' := ⟨fun p pins s σ H Q I q => h.run p pins s σ H Q I (k σ H Q q)⟩
theorem PS.of {X : Cx} {e : Stmt} {t t' : TS} (h : PS X e t) (k : ∀ D σ H, t' D σ H → t D σ H) : PS X e t' := ⟨fun pins s σ H D I q => h.run pins s σ H D I (k D σ H q)⟩
theorem PSs.of {X : Cx} {e : List Stmt} {t t' : TS} (h : PSs X e t) (k : ∀ D σ H, t' D σ H → t D σ H) : PSs X e t' := ⟨fun pins s σ H D I q => h.run pins s σ H D I (k D σ H q)⟩
/-- a rule chosen by what is read -/
theorem PE.pick {X : Cx} {e : Expr} {t' : TE} (k : ∀ σ H Q, t' σ H Q → ∃ t, PE X e t ∧ t σ H Q) : PE X e t' := ⟨fun pins s σ H Q I q => let ⟨_, h, q'⟩ := k σ H Q q; h.run pins s σ H Q I q'⟩
end PM
namespace PM
open PySem PySem.Spec PyProof.Rows L2
open WD (MS upd_none)

/-! ### what is written out of readings -/
section
variable {K : KT} {ξ : Xi} {W : WX} {N : MS} {ζ ζ1 : List Addr} {μ μ1 : Store} {H H1 : Hp} {σr : L2.St}
theorem PostE.ev {Q : VK} (e : Ev K.tb ζ μ H ζ1 μ1 H1) : ∀ {r : R Val}, PostE K ξ W N ζ μ H σr Q r → PostE K ξ W N ζ1 μ1 H1 σr Q r
  | .ok _ _, h => fun ζ' H' v a b c => h ζ' H' v (e.trans a) b c
  | .ex _ _ _, h => fun ζ' H' d a b c => h ζ' H' d (e.trans a) b c
  | .stuck, h => h
theorem PostT.ev {α : Type} {Q : α → Hp → Prop} (e : Ev K.tb ζ μ H ζ1 μ1 H1) : ∀ {r : R α}, PostT K W N ζ μ H σr Q r → PostT K W N ζ1 μ1 H1 σr Q r
  | .ok _ _, h => fun ζ' H' a b => h ζ' H' (e.trans a) b
  | .ex _ _ _, h => fun ζ' H' d a b c => h ζ' H' d (e.trans a) b c
  | .stuck, h => h
theorem PostA.ev {Q : List V → Hp → Prop} (e : Ev K.tb ζ μ H ζ1 μ1 H1) : ∀ {r : R (List Val)}, PostA K ξ W N ζ μ H σr Q r → PostA K ξ W N ζ1 μ1 H1 σr Q r
  | .ok _ _, h => fun ζ' H' v a b c => h ζ' H' v (e.trans a) b c
  | .ex _ _ _, h => fun ζ' H' d a b c => h ζ' H' d (e.trans a) b c
  | .stuck, h => h
theorem PostF.ev {Q : VK} (e : Ev K.tb ζ μ H ζ1 μ1 H1) : ∀ {r : R (List PV)}, PostF K W N ζ μ H σr Q r → PostF K W N ζ1 μ1 H1 σr Q r
  | .ok _ _, h => fun ζ' H' a vs e' b c d f => h ζ' H' a vs (e.trans e') b (e.fr.dom a c) d f
  | .ex _ _ _, h => fun ζ' H' d a b c => h ζ' H' d (e.trans a) b c
  | .stuck, h => h
theorem PostS.ev {D : Ends} (e : Ev K.tb ζ μ H ζ1 μ1 H1) : ∀ {r : RS}, PostS K ξ W N ζ μ H D r → PostS K ξ W N ζ1 μ1 H1 D r
  | .nx _ _, h => fun ζ' H' v a b c => h ζ' H' v (e.trans a) b c
  | .bk _ _, h => fun ζ' H' v a b c => h ζ' H' v (e.trans a) b c
  | .ct _ _, h => fun ζ' H' v a b c => h ζ' H' v (e.trans a) b c
  | .rt _ _, h => fun ζ' H' v a b c => h ζ' H' v (e.trans a) b c
  | .ex _ _ _ _, h => fun ζ' H' d s a b c f => h ζ' H' d s (e.trans a) b c f
  | .stuck, h => h
end

def R.bind {α β : Type} : R α → (α → Store → R β) → R β
  | .ok a μ, k => k a μ
  | .ex c f μ, _ => .ex c f μ
  | .stuck, _ => .stuck
/-- what of a value is to be read -/
def view (μ : Store) : Val → Option PV
  | .t d => some d
  | .c k => match μ[k]? with
    | some (some (.lst ds)) => some (.lst ds)
    | some (some (.dic b ks vs)) => some (.dic b ks vs)
    | _ => none
  | _ => none
def vv (K : KT) (M : MS) (H : Hp) (v : V) : PV → Prop
  | .lst l => ∃ a vs, v = .ref a ∧ H a = some (.lst vs) ∧ rvs K M H vs l
  | .dic b ks l => ∃ a vs, v = .ref a ∧ DicR b H a ks vs ∧ rvs K M H vs l
  | .obj C ns l => ∃ a dx vs, v = .ref a ∧ H a = some (.ins (He.ga K C) dx (ns.zip vs)) ∧ vs.length = ns.length ∧ rvs K M H vs l
  | d => rv K M H v d
section
variable {K : KT} {ξ : Xi} {N : MS} {ζ : List Addr} {μ : Store} {M : MS} {H : Hp} {v : V}
theorem vv_of : ∀ {d : PV}, rv K M H v d → vv K M H v d
  | .lst l, h => let ⟨a, vs, h1, _, h3, h4⟩ := rv_lst.mp h; ⟨a, vs, h1, h3, h4⟩
  | .dic b ks l, h => let ⟨a, vs, h1, _, h3, h4⟩ := rv_dic.mp h; ⟨a, vs, h1, h3, h4⟩
  | .obj C ns l, h => let ⟨a, dx, vs, h1, _, _, h3, _, h5, h6⟩ := rv_obj.mp h; ⟨a, dx, vs, h1, h3, h5, h6⟩
  | .non, h => h
  | .bl _, h => h
  | .int _, h => h
  | .str _, h => h
  | .tup _, h => h
theorem RV.view {w : Val} {d : PV} (wd : Wd K N ζ μ H) (h : RV K ξ ζ (MM N ζ μ) H v w) (e : view μ w = some d) : vv K (MM N ζ μ) H v d := by
  cases w with
  | t d' => cases e; exact vv_of h
  | c k =>
    obtain ⟨a, ha, rfl⟩ := h
    simp only [PM.view] at e
    split at e
    · rename_i ds hk
      cases e
      obtain ⟨vs, h1, h2⟩ := wd.cell k _ a hk ha
      exact ⟨a, vs, rfl, h1, h2⟩
    · rename_i b ks ds hk
      cases e
      obtain ⟨vs, h1, h2⟩ := wd.cell k _ a hk ha
      exact ⟨a, vs, rfl, h1, h2⟩
    · cases e
  | x _ _ => cases e
  | s _ => cases e
  | g _ _ => cases e
  | self => cases e
  | lam _ _ => cases e
/-- the heap grows -/
def Grow (H H' : Hp) : Prop := ∀ a o, H a = some o → H' a = some o
theorem Grow.refl : Grow H H := fun _ _ h => h
theorem Grow.upd {p : Addr} {o : HO} (h : H p = none) : Grow H (upd H p o) := fun a u e => by rw [upd_ne (ne_of_none e h)]; exact e
theorem Grow.trans {H1 H2 : Hp} (a : Grow H H1) (b : Grow H1 H2) : Grow H H2 := fun x o h => b x o (a x o h)
theorem Grow.dom {H' : Hp} (g : Grow H H') {a : Addr} (h : H' a = none) : H a = none := by
  cases e : H a with
  | none => rfl
  | some o => rw [g a o e] at h; cases h
theorem Grow.ev {H' : Hp} (g : Grow H H') : Ev K.tb ζ μ H ζ μ H' := ⟨fun _ _ h => h, ⟨fun a o _ _ h => g a o h, fun a z o e => z o (g a o e)⟩, fun _ h => .inl h⟩
theorem Grow.rv {H' : Hp} {d : PV} (g : Grow H H') (h : rv K M H v d) : rv K M H' v d := rv_st (fun _ n _ => n) (fun a o _ _ e => g a o e) d v h
theorem Grow.rvs {H' : Hp} {vs : List V} {ds : List PV} (g : Grow H H') (h : rvs K M H vs ds) : rvs K M H' vs ds := rvs_st (fun _ n _ => n) (fun a o _ _ e => g a o e) ds vs h
end
def Fre (M : MS) (H : Hp) : Prop := ∀ p, H p = none → ¬ M p
/-- what a pure answer is to give -/
def Gives (K : KT) (M : MS) (H : Hp) (Q : VK) (d : PV) : Prop := ∀ H' v, Grow H H' → rv K M H' v d → Q v H'
def GivesF (K : KT) (M : MS) (H : Hp) (Q : VK) (ds : List PV) : Prop := ∀ H' a vs, Grow H H' → H a = none → H' a = some (.lst vs) → rvs K (WD.plus M a) H' vs ds → Q (.ref a) H'
section
variable {K : KT} {M : MS} {H : Hp} {Q : VK}
theorem Gives.int {i : Int} (g : Gives K M H Q (.int i)) : Q (.int i) H := g H _ Grow.refl (rv_int.mpr rfl)
theorem Gives.bl {i : Bool} (g : Gives K M H Q (.bl i)) : Q (.bl i) H := g H _ Grow.refl (rv_bl.mpr rfl)
theorem Gives.str {i : Str} (g : Gives K M H Q (.str i)) (h : PyData.strOk i = true) : Q (.str i) H := g H _ Grow.refl (rv_str.mpr ⟨rfl, h⟩)
theorem Gives.tup {vs : List V} {ds : List PV} {p : Addr} (g : Gives K M H Q (.tup ds)) (f : Fre M H) (r : rvs K M H vs ds) (hp : H p = none) : Q (.ref p) (upd H p (.tup vs)) :=
  g _ _ (Grow.upd hp) (rv_tup.mpr ⟨p, vs, rfl, f p hp, upd_same, (Grow.upd hp).rvs r⟩)
theorem Gives.lst {vs : List V} {ds : List PV} {p : Addr} (g : Gives K M H Q (.lst ds)) (f : Fre M H) (r : rvs K M H vs ds) (hp : H p = none) : Q (.ref p) (upd H p (.lst vs)) :=
  g _ _ (Grow.upd hp) (rv_lst.mpr ⟨p, vs, rfl, f p hp, upd_same, (Grow.upd hp).rvs r⟩)
theorem GivesF.lst {vs : List V} {ds : List PV} {p : Addr} (g : GivesF K M H Q ds) (r : rvs K M H vs ds) (hp : H p = none) : Q (.ref p) (upd H p (.lst vs)) :=
  g _ p vs (Grow.upd hp) hp upd_same (Grow.rvs_ad (Grow.upd hp) hp r)
where Grow.rvs_ad {K : KT} {M : MS} {H H' : Hp} {p : Addr} {vs : List V} {ds : List PV} (g : Grow H H') (hp : H p = none) (r : rvs K M H vs ds) : rvs K (WD.plus M p) H' vs ds := rvs_st (fun a n ne z => z.elim n fun e => ne (nn_none (by rw [e]; exact hp))) (fun a o _ _ e => g a o e) ds vs r
end
/-- readings of pure operators -/
def rP1 (K : KT) (g : PV → Option PV) : V → Hp → VK → Prop := fun x H Q => ∃ M d1 d, vv K M H x d1 ∧ Fre M H ∧ g d1 = some d ∧ Gives K M H Q d
def rP2 (K : KT) (g : PV → PV → Option PV) : R2 := fun x y H Q => ∃ M d1 d2 d, vv K M H x d1 ∧ vv K M H y d2 ∧ Fre M H ∧ g d1 d2 = some d ∧ Gives K M H Q d
def rPF1 (K : KT) (g : PV → Option (List PV)) : V → Hp → VK → Prop := fun x H Q => ∃ M d1 d, vv K M H x d1 ∧ Fre M H ∧ g d1 = some d ∧ GivesF K M H Q d
def rPF2 (K : KT) (g : PV → PV → Option (List PV)) : R2 := fun x y H Q => ∃ M d1 d2 d, vv K M H x d1 ∧ vv K M H y d2 ∧ Fre M H ∧ g d1 d2 = some d ∧ GivesF K M H Q d
def vvs (K : KT) (M : MS) (H : Hp) : List V → List PV → Prop
  | [], [] => True
  | v :: vs, d :: ds => vv K M H v d ∧ vvs K M H vs ds
  | _, _ => False
def rPN (K : KT) (g : List PV → Option PV) : List V → Hp → VK → Prop := fun xs H Q => ∃ M ds d, vvs K M H xs ds ∧ Fre M H ∧ g ds = some d ∧ Gives K M H Q d
def rPFN (K : KT) (g : List PV → Option (List PV)) : List V → Hp → VK → Prop := fun xs H Q => ∃ M ds d, vvs K M H xs ds ∧ Fre M H ∧ g ds = some d ∧ GivesF K M H Q d
def OR.ok {α : Type} (μ : Store) : Option α → R α
  | some d => .ok d μ
  | none => .stuck
/-- .. in the machine -/
def views (μ : Store) : List Val → Option (List PV)
  | [] => some []
  | w :: ws => match view μ w, views μ ws with
    | some d, some ds => some (d :: ds)
    | _, _ => none
def p1 (g : PV → Option PV) (w : Val) (μ : Store) : R Val := match view μ w with
  | some d => OR.ok μ ((g d).map .t)
  | none => .stuck
def p2 (g : PV → PV → Option PV) (w u : Val) (μ : Store) : R Val := match view μ w, view μ u with
  | some d, some e => OR.ok μ ((g d e).map .t)
  | _, _ => .stuck
def pf1 (g : PV → Option (List PV)) (w : Val) (μ : Store) : R (List PV) := match view μ w with
  | some d => OR.ok μ (g d)
  | none => .stuck
def pf2 (g : PV → PV → Option (List PV)) (w u : Val) (μ : Store) : R (List PV) := match view μ w, view μ u with
  | some d, some e => OR.ok μ (g d e)
  | _, _ => .stuck
def pN (g : List PV → Option PV) (ws : List Val) (μ : Store) : R Val := match views μ ws with
  | some ds => OR.ok μ ((g ds).map .t)
  | none => .stuck
def pfN (g : List PV → Option (List PV)) (ws : List Val) (μ : Store) : R (List PV) := match views μ ws with
  | some ds => OR.ok μ (g ds)
  | none => .stuck
def e1 {α : Type} (g : Val → Store → R α) (a : ME) : Sl → Store → R α := fun σ μ => (a σ μ).bind g
def e2 {α : Type} (g : Val → Val → Store → R α) (a b : ME) : Sl → Store → R α := fun σ μ => (a σ μ).bind fun w μ1 => (b σ μ1).bind fun u μ2 => g w u μ2
def eN {α : Type} (g : List Val → Store → R α) (a : Sl → Store → R (List Val)) : Sl → Store → R α := fun σ μ => (a σ μ).bind g

section
variable {K : KT} {ξ : Xi} {W : WX} {N : MS} {ζ : List Addr} {μ : Store} {H : Hp} {σr : L2.St} {Q : VK} {x y : V} {w u : Val} {xs : List V} {ws : List Val}
theorem Wd.fre (h : Wd K N ζ μ H) : Fre (MM N ζ μ) H := fun _ e => h.no e
theorem postE_p {d : PV} (wd : Wd K N ζ μ H) (h : PostE K ξ W N ζ μ H σr Q (.ok (.t d) μ)) : Gives K (MM N ζ μ) H Q d := fun H' v g r => h ζ H' v g.ev (wd.fr0 g) r
theorem Wd.aside {H' : Hp} {a : Addr} (wd : Wd K N ζ μ H) (g : Grow H H') (n : H a = none) (e : Ob (H' a)) : Wd K (WD.plus N a) ζ μ H' := by
  refine ⟨wd.len, wd.inj, fun k c b h1 h2 => ?_, fun b h => ?_, wd.tb.ext g⟩
  · exact (wd.cell k c b h1 h2).st (fun _ _ h => h) (fun x nx ne z => z.elim (fun z => nx (.inl z)) fun z => z.elim (fun z => nx (.inr z)) fun z => ne (nn_none (by rw [z]; exact n))) (fun x o _ _ hx => g x o hx) (fun o _ => g b o)
  · rcases h with h | h
    · exact ⟨(wd.nd b h).1, let ⟨u, e, r⟩ := (wd.nd b h).2; ⟨u, g b u e, r⟩⟩
    · rw [show b = a from h]
      exact ⟨fun z => wd.no n (.inl z), e⟩
theorem MM_aside {a : Addr} : ∀ x, MM (WD.plus N a) ζ μ x → WD.plus (MM N ζ μ) a x := fun x h => h.elim (fun h => .inl (.inl h)) fun h => h.elim (fun h => .inl (.inr h)) fun h => .inr h
theorem postF_p {d : List PV} (wd : Wd K N ζ μ H) (h : PostF K W N ζ μ H σr Q (.ok d μ)) : GivesF K (MM N ζ μ) H Q d := fun H' a vs g n e r => h ζ H' a vs g.ev (wd.aside g n ⟨_, e, rfl, rfl⟩) (nn_none n) e (rvs_wk MM_aside r)
theorem read_p1 {g : PV → Option PV} (wd : Wd K N ζ μ H) (r : RV K ξ ζ (MM N ζ μ) H x w) (h : PostE K ξ W N ζ μ H σr Q (p1 g w μ)) : rP1 K g x H Q := by
  unfold p1 at h
  split at h
  · rename_i d e
    cases e2 : g d with
    | none => rw [e2] at h; exact h.elim
    | some d' => rw [e2] at h; exact ⟨_, d, d', r.view wd e, wd.fre, e2, postE_p wd h⟩
  · exact h.elim
theorem read_pf1 {g : PV → Option (List PV)} (wd : Wd K N ζ μ H) (r : RV K ξ ζ (MM N ζ μ) H x w) (h : PostF K W N ζ μ H σr Q (pf1 g w μ)) : rPF1 K g x H Q := by
  unfold pf1 at h
  split at h
  · rename_i d e
    cases e2 : g d with
    | none => rw [e2] at h; exact h.elim
    | some d' => rw [e2] at h; exact ⟨_, d, d', r.view wd e, wd.fre, e2, postF_p wd h⟩
  · exact h.elim
theorem read_p2 {g : PV → PV → Option PV} (wd : Wd K N ζ μ H) (r : RV K ξ ζ (MM N ζ μ) H x w) (r' : RV K ξ ζ (MM N ζ μ) H y u) (h : PostE K ξ W N ζ μ H σr Q (p2 g w u μ)) : rP2 K g x y H Q := by
  unfold p2 at h
  split at h
  · rename_i d d2 e e'
    cases e2 : g d d2 with
    | none => rw [e2] at h; exact h.elim
    | some d' => rw [e2] at h; exact ⟨_, d, d2, d', r.view wd e, r'.view wd e', wd.fre, e2, postE_p wd h⟩
  · exact h.elim
theorem read_pf2 {g : PV → PV → Option (List PV)} (wd : Wd K N ζ μ H) (r : RV K ξ ζ (MM N ζ μ) H x w) (r' : RV K ξ ζ (MM N ζ μ) H y u) (h : PostF K W N ζ μ H σr Q (pf2 g w u μ)) : rPF2 K g x y H Q := by
  unfold pf2 at h
  split at h
  · rename_i d d2 e e'
    cases e2 : g d d2 with
    | none => rw [e2] at h; exact h.elim
    | some d' => rw [e2] at h; exact ⟨_, d, d2, d', r.view wd e, r'.view wd e', wd.fre, e2, postF_p wd h⟩
  · exact h.elim
theorem RVs.views (wd : Wd K N ζ μ H) : ∀ {xs : List V} {ws : List Val} {ds : List PV}, RVs K ξ ζ (MM N ζ μ) H xs ws → views μ ws = some ds → vvs K (MM N ζ μ) H xs ds
  | [], [], ds, _, e => by cases e; exact trivial
  | x :: xs, w :: ws, ds, h, e => by
    unfold PM.views at e
    split at e
    · rename_i d ds' e1 e2
      cases e
      exact ⟨h.1.view wd e1, RVs.views wd h.2 e2⟩
    · cases e
  | [], _ :: _, _, h, _ => h.elim
  | _ :: _, [], _, h, _ => h.elim
theorem read_pN {g : List PV → Option PV} (wd : Wd K N ζ μ H) (r : RVs K ξ ζ (MM N ζ μ) H xs ws) (h : PostE K ξ W N ζ μ H σr Q (pN g ws μ)) : rPN K g xs H Q := by
  unfold pN at h
  split at h
  · rename_i d e
    cases e2 : g d with
    | none => rw [e2] at h; exact h.elim
    | some d' => rw [e2] at h; exact ⟨_, d, d', r.views wd e, wd.fre, e2, postE_p wd h⟩
  · exact h.elim
theorem read_pfN {g : List PV → Option (List PV)} (wd : Wd K N ζ μ H) (r : RVs K ξ ζ (MM N ζ μ) H xs ws) (h : PostF K W N ζ μ H σr Q (pfN g ws μ)) : rPFN K g xs H Q := by
  unfold pfN at h
  split at h
  · rename_i d e
    cases e2 : g d with
    | none => rw [e2] at h; exact h.elim
    | some d' => rw [e2] at h; exact ⟨_, d, d', r.views wd e, wd.fre, e2, postF_p wd h⟩
  · exact h.elim
end
theorem RV.blI {K : KT} {ξ : Xi} {ζ : List Addr} {M : MS} {H : Hp} {b : Bool} : RV K ξ ζ M H (.bl b) (.t (.bl b)) := (rv_bl (K := K) (M := M) (H := H)).mpr rfl
section
variable {K : KT} {ξ : Xi} {W : WX} {N : MS} {ζ : List Addr} {μ : Store} {H : Hp} {σr : L2.St} {σ : Sl} {Q : VK}
/-- a, then a step g whose answer is an R Val -/
theorem then1 {a : ME} {g : Val → Store → R Val} (wd : Wd K N ζ μ H) (so : Sok K ξ ζ (MM N ζ μ) H σr σ) (h : PostE K ξ W N ζ μ H σr Q ((a σ μ).bind g)) :
    tE K ξ W a σr H fun x H1 => ∃ ζ1 μ1 w1, Ev K.tb ζ μ H ζ1 μ1 H1 ∧ Wd K N ζ1 μ1 H1 ∧ Sok K ξ ζ1 (MM N ζ1 μ1) H1 σr σ ∧ RV K ξ ζ1 (MM N ζ1 μ1) H1 x w1 ∧ PostE K ξ W N ζ1 μ1 H1 σr Q (g w1 μ1) := by
  refine ⟨N, ζ, μ, σ, wd, so, ?_⟩
  cases e : a σ μ with
  | ok w1 μ1 => rw [e] at h; exact fun ζ' H' v ev w r => ⟨ζ', μ1, w1, ev, w, so.ev ev, r, h.ev ev⟩
  | ex c f μ1 => rw [e] at h; exact h
  | stuck => rw [e] at h; exact h
theorem then1F {a : ME} {g : Val → Store → R (List PV)} (wd : Wd K N ζ μ H) (so : Sok K ξ ζ (MM N ζ μ) H σr σ) (h : PostF K W N ζ μ H σr Q ((a σ μ).bind g)) :
    tE K ξ W a σr H fun x H1 => ∃ ζ1 μ1 w1, Ev K.tb ζ μ H ζ1 μ1 H1 ∧ Wd K N ζ1 μ1 H1 ∧ Sok K ξ ζ1 (MM N ζ1 μ1) H1 σr σ ∧ RV K ξ ζ1 (MM N ζ1 μ1) H1 x w1 ∧ PostF K W N ζ1 μ1 H1 σr Q (g w1 μ1) := by
  refine ⟨N, ζ, μ, σ, wd, so, ?_⟩
  cases e : a σ μ with
  | ok w1 μ1 => rw [e] at h; exact fun ζ' H' v ev w r => ⟨ζ', μ1, w1, ev, w, so.ev ev, r, h.ev ev⟩
  | ex c f μ1 => rw [e] at h; exact h
  | stuck => rw [e] at h; exact h
theorem then1T {α : Type} {a : ME} {P : α → Hp → Prop} {g : Val → Store → R α} (wd : Wd K N ζ μ H) (so : Sok K ξ ζ (MM N ζ μ) H σr σ) (h : PostT K W N ζ μ H σr P ((a σ μ).bind g)) :
    tE K ξ W a σr H fun x H1 => ∃ ζ1 μ1 w1, Ev K.tb ζ μ H ζ1 μ1 H1 ∧ Wd K N ζ1 μ1 H1 ∧ Sok K ξ ζ1 (MM N ζ1 μ1) H1 σr σ ∧ RV K ξ ζ1 (MM N ζ1 μ1) H1 x w1 ∧ PostT K W N ζ1 μ1 H1 σr P (g w1 μ1) := by
  refine ⟨N, ζ, μ, σ, wd, so, ?_⟩
  cases e : a σ μ with
  | ok w1 μ1 => rw [e] at h; exact fun ζ' H' v ev w r => ⟨ζ', μ1, w1, ev, w, so.ev ev, r, h.ev ev⟩
  | ex c f μ1 => rw [e] at h; exact h
  | stuck => rw [e] at h; exact h
theorem thenN {a : Sl → Store → R (List Val)} {g : List Val → Store → R Val} (wd : Wd K N ζ μ H) (so : Sok K ξ ζ (MM N ζ μ) H σr σ) (h : PostE K ξ W N ζ μ H σr Q ((a σ μ).bind g)) :
    tA K ξ W a σr H fun xs H1 => ∃ ζ1 μ1 ws, Ev K.tb ζ μ H ζ1 μ1 H1 ∧ Wd K N ζ1 μ1 H1 ∧ Sok K ξ ζ1 (MM N ζ1 μ1) H1 σr σ ∧ RVs K ξ ζ1 (MM N ζ1 μ1) H1 xs ws ∧ PostE K ξ W N ζ1 μ1 H1 σr Q (g ws μ1) := by
  refine ⟨N, ζ, μ, σ, wd, so, ?_⟩
  cases e : a σ μ with
  | ok w1 μ1 => rw [e] at h; exact fun ζ' H' v ev w r => ⟨ζ', μ1, w1, ev, w, so.ev ev, r, h.ev ev⟩
  | ex c f μ1 => rw [e] at h; exact h
  | stuck => rw [e] at h; exact h
theorem thenNF {a : Sl → Store → R (List Val)} {g : List Val → Store → R (List PV)} (wd : Wd K N ζ μ H) (so : Sok K ξ ζ (MM N ζ μ) H σr σ) (h : PostF K W N ζ μ H σr Q ((a σ μ).bind g)) :
    tA K ξ W a σr H fun xs H1 => ∃ ζ1 μ1 ws, Ev K.tb ζ μ H ζ1 μ1 H1 ∧ Wd K N ζ1 μ1 H1 ∧ Sok K ξ ζ1 (MM N ζ1 μ1) H1 σr σ ∧ RVs K ξ ζ1 (MM N ζ1 μ1) H1 xs ws ∧ PostF K W N ζ1 μ1 H1 σr Q (g ws μ1) := by
  refine ⟨N, ζ, μ, σ, wd, so, ?_⟩
  cases e : a σ μ with
  | ok w1 μ1 => rw [e] at h; exact fun ζ' H' v ev w r => ⟨ζ', μ1, w1, ev, w, so.ev ev, r, h.ev ev⟩
  | ex c f μ1 => rw [e] at h; exact h
  | stuck => rw [e] at h; exact h
/-- a reading is monotone -/
theorem tE.mono {a : ME} {Q' : VK} (h : tE K ξ W a σr H Q) (k : ∀ v H', Q v H' → Q' v H') : tE K ξ W a σr H Q' := by
  obtain ⟨N, ζ, μ, σ, wd, so, h⟩ := h
  refine ⟨N, ζ, μ, σ, wd, so, ?_⟩
  cases e : a σ μ with
  | ok w1 μ1 => rw [e] at h; exact fun ζ' H' v ev w r => k _ _ (h ζ' H' v ev w r)
  | ex c f μ1 => rw [e] at h; exact h
  | stuck => rw [e] at h; exact h
theorem tA.mono {a : Sl → Store → R (List Val)} {Q Q' : List V → Hp → Prop} (h : tA K ξ W a σr H Q) (k : ∀ v H', Q v H' → Q' v H') : tA K ξ W a σr H Q' := by
  obtain ⟨N, ζ, μ, σ, wd, so, h⟩ := h
  refine ⟨N, ζ, μ, σ, wd, so, ?_⟩
  cases e : a σ μ with
  | ok w1 μ1 => rw [e] at h; exact fun ζ' H' v ev w r => k _ _ (h ζ' H' v ev w r)
  | ex c f μ1 => rw [e] at h; exact h
  | stuck => rw [e] at h; exact h
end

/-! ### expressions -/
def eV (i : Nat) : ME := fun σ μ => match σ[i]? with
  | some (some w) => .ok w μ
  | _ => .stuck
def eC (d : PV) : ME := fun _ μ => .ok (.t d) μ
def asBl : Val → Option Bool
  | .t (.bl b) => some b
  | _ => none
def gBl {α : Type} (k : Bool → Store → R α) (w : Val) (μ : Store) : R α := match asBl w with
  | some b => k b μ
  | none => .stuck
def eAnd (a b : ME) : ME := fun σ μ => (a σ μ).bind (gBl fun c μ1 => if c then b σ μ1 else .ok (.t (.bl false)) μ1)
def eNot (a : ME) : ME := e1 (gBl fun c μ1 => .ok (.t (.bl (!c))) μ1) a
def tVal (a : ME) : Sl → Store → R Bool := e1 (gBl fun c μ1 => .ok c μ1) a
def tAnd' (a b : Sl → Store → R Bool) : Sl → Store → R Bool := fun σ μ => (a σ μ).bind fun k μ1 => if k then b σ μ1 else .ok false μ1
def tOr' (a b : Sl → Store → R Bool) : Sl → Store → R Bool := fun σ μ => (a σ μ).bind fun k μ1 => if k then .ok true μ1 else b σ μ1
def tNot' (a : Sl → Store → R Bool) : Sl → Store → R Bool := fun σ μ => (a σ μ).bind fun k μ1 => .ok (!k) μ1
def aNil : Sl → Store → R (List Val) := fun _ μ => .ok [] μ
def aCons (a : ME) (b : Sl → Store → R (List Val)) : Sl → Store → R (List Val) := fun σ μ => (a σ μ).bind fun w μ1 => (b σ μ1).bind fun ws μ2 => .ok (w :: ws) μ2
def asT : List Val → Option (List PV)
  | [] => some []
  | .t d :: ws => (asT ws).map (d :: ·)
  | _ :: _ => none
def gTup (ws : List Val) (μ : Store) : R Val := if ws.length ≤ sizeLine then OR.ok μ ((asT ws).map fun ds => .t (.tup ds)) else .stuck
def gLst (ws : List Val) (μ : Store) : R (List PV) := if ws.length ≤ sizeLine then OR.ok μ (asT ws) else .stuck
/-- a new list as a datum; as a thing that changes -/
def eOfF (f : Sl → Store → R (List PV)) : ME := fun σ μ => (f σ μ).bind fun ds μ1 => .ok (.t (.lst ds)) μ1
def eCellF (f : Sl → Store → R (List PV)) : ME := fun σ μ => (f σ μ).bind fun ds μ1 => .ok (.c μ1.length) (μ1 ++ [some (.lst ds)])

section
variable {X : Cx} {K : KT} {ξ : Xi} {W : WX} {a b c e : Expr} {es : List Expr} {fa fb fc : ME} {ta tb tc : Sl → Store → R Bool} {fs : Sl → Store → R (List Val)} {pos : Pos}
theorem i_pv {i : Nat} {x : Str} (h : PE X (.Name x pos) (tVar i)) : IE K ξ W X (.Name x pos) (eV i) := PE.of h fun σr H Q q => by
  obtain ⟨N, ζ, μ, σ, wd, so, q⟩ := q
  unfold eV at q
  split at q
  · rename_i w hw
    obtain ⟨v, h1, h2⟩ := so.2 i w hw
    exact ⟨v, h1, q ζ H v Ev.refl wd h2⟩
  · exact q.elim
theorem i_c {v : V} {d : PV} (h : PE X e (tC v)) (r : ∀ M H, rv K M H v d) : IE K ξ W X e (eC d) := PE.of h fun σr H Q q => by
  obtain ⟨N, ζ, μ, σ, wd, so, q⟩ := q
  exact q ζ H v Ev.refl wd (r _ _)
theorem i_int {i : Int} {j pos} : IE K ξ W X (.Constant (.int i) j pos) (eC (.int i)) := i_c pe_int fun _ _ => rv_int.mpr rfl
theorem i_bl {i : Bool} {j pos} : IE K ξ W X (.Constant (.bool i) j pos) (eC (.bl i)) := i_c pe_bl fun _ _ => rv_bl.mpr rfl
theorem i_non {j pos} : IE K ξ W X (.Constant .none j pos) (eC .non) := i_c pe_non fun _ _ => rv_non.mpr rfl
theorem i_str {x : Str} {j pos} (h : PyData.strOk x = true := by decide +kernel) : IE K ξ W X (.Constant (.str x) j pos) (eC (.str x)) := i_c pe_str fun _ _ => rv_str.mpr ⟨rfl, h⟩
theorem i_gi {x : Str} {i : Int} (hg : Gl X x) (h : ∃ t, X.mg x = some (.int i t)) (hd : (x == ("__debug__" : Str)) = false := by decide) : IE K ξ W X (.Name x pos) (eC (.int i)) := i_c (WD.pe_gi hg h hd) fun _ _ => rv_int.mpr rfl
theorem i_gs {x z : Str} (hg : Gl X x) (h : ∃ t, X.mg x = some (.str z t)) (hz : PyData.strOk z = true := by decide +kernel) (hd : (x == ("__debug__" : Str)) = false := by decide) : IE K ξ W X (.Name x pos) (eC (.str z)) := i_c (WD.pe_gs hg h hd) fun _ _ => rv_str.mpr ⟨rfl, hz⟩

theorem i_op {op : Operator} {g : PV → PV → Option PV} (r : OpR X (binaryOp op) (rP2 K g)) (ha : IE K ξ W X a fa) (hb : IE K ξ W X b fb) : IE K ξ W X (.BinOp a op b pos) (e2 (p2 g) fa fb) := PE.of (pe_op r ha hb) fun σr H Q q => by
  obtain ⟨N, ζ, μ, σ, wd, so, q⟩ := q
  refine (then1 wd so q).mono fun x H1 ⟨ζ1, μ1, w1, ev1, wd1, so1, r1, q1⟩ => ?_
  refine (then1 wd1 so1 q1).mono fun y H2 ⟨ζ2, μ2, w2, ev2, wd2, so2, r2, q2⟩ => ?_
  exact read_p2 wd2 (r1.ev ev2) r2 q2
theorem f_op {op : Operator} {g : PV → PV → Option (List PV)} (r : OpR X (binaryOp op) (rPF2 K g)) (ha : IE K ξ W X a fa) (hb : IE K ξ W X b fb) : IF K ξ W X (.BinOp a op b pos) (e2 (pf2 g) fa fb) := PE.of (pe_op r ha hb) fun σr H Q q => by
  obtain ⟨N, ζ, μ, σ, wd, so, q⟩ := q
  refine (then1F wd so q).mono fun x H1 ⟨ζ1, μ1, w1, ev1, wd1, so1, r1, q1⟩ => ?_
  refine (then1F wd1 so1 q1).mono fun y H2 ⟨ζ2, μ2, w2, ev2, wd2, so2, r2, q2⟩ => ?_
  exact read_pf2 wd2 (r1.ev ev2) r2 q2
theorem i_cmp {op : CmpOp} {g : PV → PV → Option PV} (r : OpR X (compareOp op) (rP2 K g)) (ha : IE K ξ W X a fa) (hb : IE K ξ W X b fb) (hm : behindInMarks op b = false) : IE K ξ W X (.Compare a [op] [b] pos) (e2 (p2 g) fa fb) := PE.of (pe_cmpR r ha hb hm) fun σr H Q q => by
  obtain ⟨N, ζ, μ, σ, wd, so, q⟩ := q
  refine (then1 wd so q).mono fun x H1 ⟨ζ1, μ1, w1, ev1, wd1, so1, r1, q1⟩ => ?_
  refine (then1 wd1 so1 q1).mono fun y H2 ⟨ζ2, μ2, w2, ev2, wd2, so2, r2, q2⟩ => ?_
  exact read_p2 wd2 (r1.ev ev2) r2 q2
/-- a value that is True or False, at once -/
theorem PostT.bl {N : MS} {ζ : List Addr} {μ : Store} {H : Hp} {σr : L2.St} {v : V} {w : Val} {P : Bool → Hp → Prop} {k : Bool → Store → R Bool} (wd : Wd K N ζ μ H) (r : RV K ξ ζ (MM N ζ μ) H v w) (h : PostT K W N ζ μ H σr P (gBl k w μ)) : ∃ c, v = .bl c ∧ PostT K W N ζ μ H σr P (k c μ) := by
  unfold gBl at h
  split at h
  · rename_i c e
    unfold asBl at e
    split at e
    · cases e; exact ⟨c, rv_bl.mp (show rv K (MM N ζ μ) H v (.bl c) from r), h⟩
    · cases e
  · exact h.elim
theorem PostE.bl {N : MS} {ζ : List Addr} {μ : Store} {H : Hp} {σr : L2.St} {v : V} {w : Val} {Q : VK} {k : Bool → Store → R Val} (wd : Wd K N ζ μ H) (r : RV K ξ ζ (MM N ζ μ) H v w) (h : PostE K ξ W N ζ μ H σr Q (gBl k w μ)) : ∃ c, v = .bl c ∧ PostE K ξ W N ζ μ H σr Q (k c μ) := by
  unfold gBl at h
  split at h
  · rename_i c e
    unfold asBl at e
    split at e
    · cases e; exact ⟨c, rv_bl.mp (show rv K (MM N ζ μ) H v (.bl c) from r), h⟩
    · cases e
  · exact h.elim
theorem t_cmp {op : CmpOp} {g : PV → PV → Option PV} (r : OpR X (compareOp op) (rP2 K g)) (ha : IE K ξ W X a fa) (hb : IE K ξ W X b fb) (hm : behindInMarks op b = false) : IT K ξ W X (.Compare a [op] [b] pos) (tVal (e2 (p2 g) fa fb)) := PT.of (pt_cmpR r ha hb hm) fun σr H Q q => by
  obtain ⟨N, ζ, μ, σ, wd, so, q⟩ := q
  have q' := then1T (a := e2 (p2 g) fa fb) wd so q
  obtain ⟨N, ζ', μ', σ', wd', so', q'⟩ := q'
  refine (then1 wd' so' q').mono fun x H1 ⟨ζ1, μ1, w1, ev1, wd1, so1, r1, q1⟩ => ?_
  refine (then1 wd1 so1 q1).mono fun y H2 ⟨ζ2, μ2, w2, ev2, wd2, so2, r2, q2⟩ => ?_
  obtain ⟨M, d1, d2, d, h1, h2, h3, h4, h5⟩ := read_p2 wd2 (r1.ev ev2) r2 q2
  refine ⟨M, d1, d2, d, h1, h2, h3, h4, fun H' v gr rr => ?_⟩
  obtain ⟨ζ3, μ3, w3, ev3, wd3, so3, r3, q3⟩ := h5 H' v gr rr
  obtain ⟨c, hc, q3⟩ := PostT.bl wd3 r3 q3
  exact ⟨c, hc, q3 ζ3 H' Ev.refl wd3⟩
theorem i_and {rest : List Expr} (ha : IE K ξ W X a fa) (hb : IE K ξ W X (.BoolOp .And (b :: rest) pos) fb) : IE K ξ W X (.BoolOp .And (a :: b :: rest) pos) (eAnd fa fb) := PE.of (pe_and ha hb) fun σr H Q q => by
  obtain ⟨N, ζ, μ, σ, wd, so, q⟩ := q
  refine (then1 wd so q).mono fun x H1 ⟨ζ1, μ1, w1, ev1, wd1, so1, r1, q1⟩ => ?_
  obtain ⟨c, hc, q2⟩ := PostE.bl wd1 r1 q1
  refine ⟨c, hc, ?_⟩
  cases c with
  | true => exact iteT ⟨N, ζ1, μ1, σ, wd1, so1, q2⟩
  | false => exact iteF (q2 ζ1 H1 _ Ev.refl wd1 RV.blI)
theorem i_not (ha : IE K ξ W X a fa) : IE K ξ W X (.UnaryOp .Not a pos) (eNot fa) := PE.of (pe_not ha) fun σr H Q q => by
  obtain ⟨N, ζ, μ, σ, wd, so, q⟩ := q
  refine (then1 wd so q).mono fun x H1 ⟨ζ1, μ1, w1, ev1, wd1, so1, r1, q1⟩ => ?_
  obtain ⟨c, hc, q2⟩ := PostE.bl wd1 r1 q1
  exact ⟨c, hc, q2 ζ1 H1 _ Ev.refl wd1 RV.blI⟩
theorem thenTT {N : MS} {ζ : List Addr} {μ : Store} {H : Hp} {σr : L2.St} {σ : Sl} {Q : Bool → Hp → Prop} {t : Sl → Store → R Bool} {g : Bool → Store → R Bool} (wd : Wd K N ζ μ H) (so : Sok K ξ ζ (MM N ζ μ) H σr σ) (h : PostT K W N ζ μ H σr Q ((t σ μ).bind g)) :
    tT K ξ W t σr H fun b H1 => ∃ ζ1 μ1, Ev K.tb ζ μ H ζ1 μ1 H1 ∧ Wd K N ζ1 μ1 H1 ∧ Sok K ξ ζ1 (MM N ζ1 μ1) H1 σr σ ∧ PostT K W N ζ1 μ1 H1 σr Q (g b μ1) := by
  refine ⟨N, ζ, μ, σ, wd, so, ?_⟩
  cases e : t σ μ with
  | ok w1 μ1 => rw [e] at h; exact fun ζ' H' ev w => ⟨ζ', μ1, ev, w, so.ev ev, h.ev ev⟩
  | ex c f μ1 => rw [e] at h; exact h
  | stuck => rw [e] at h; exact h
theorem tT.mono {σr : L2.St} {H : Hp} {t : Sl → Store → R Bool} {Q Q' : Bool → Hp → Prop} (h : tT K ξ W t σr H Q) (k : ∀ v H', Q v H' → Q' v H') : tT K ξ W t σr H Q' := by
  obtain ⟨N, ζ, μ, σ, wd, so, h⟩ := h
  refine ⟨N, ζ, μ, σ, wd, so, ?_⟩
  cases e : t σ μ with
  | ok w1 μ1 => rw [e] at h; exact fun ζ' H' ev w => k _ _ (h ζ' H' ev w)
  | ex c f μ1 => rw [e] at h; exact h
  | stuck => rw [e] at h; exact h
theorem t_val (ha : IE K ξ W X a fa) (hv : ∀ (whole : Sem Value), PySem.isTrue a X.env whole = (do
            let v ← whole
            standAt (Expr.pos a)
            holding [v] (truthy v)) := by intro _; rfl) : IT K ξ W X a (tVal fa) := PT.of (pt_val ha hv) fun σr H Q q => by
  obtain ⟨N, ζ, μ, σ, wd, so, q⟩ := q
  refine (then1T wd so q).mono fun x H1 ⟨ζ1, μ1, w1, ev1, wd1, so1, r1, q1⟩ => ?_
  obtain ⟨c, hc, q2⟩ := PostT.bl wd1 r1 q1
  exact ⟨c, hc, q2 ζ1 H1 Ev.refl wd1⟩
theorem t_not (ha : IT K ξ W X a ta) : IT K ξ W X (.UnaryOp .Not a pos) (tNot' ta) := PT.of (pt_not ha) fun σr H Q q => by
  obtain ⟨N, ζ, μ, σ, wd, so, q⟩ := q
  refine (thenTT wd so q).mono fun k H1 ⟨ζ1, μ1, ev1, wd1, so1, q1⟩ => q1 ζ1 H1 Ev.refl wd1
abbrev IW (K : KT) (ξ : Xi) (W : WX) (X : Cx) (e : Expr) (f : Sl → Store → R Bool) : Prop := PW X e (tT K ξ W f)
theorem w_and {rest : List Expr} (ha : IT K ξ W X a ta) (hb : IW K ξ W X (.BoolOp .And (b :: rest) pos) tb) : IW K ξ W X (.BoolOp .And (a :: b :: rest) pos) (tAnd' ta tb) := PW.of (pw_and ha hb) fun σr H Q q => by
  obtain ⟨N, ζ, μ, σ, wd, so, q⟩ := q
  refine (thenTT wd so q).mono fun k H1 ⟨ζ1, μ1, ev1, wd1, so1, q1⟩ => ?_
  cases k with
  | true => exact iteT ⟨N, ζ1, μ1, σ, wd1, so1, q1⟩
  | false => exact iteF (q1 ζ1 H1 Ev.refl wd1)
theorem w_or {rest : List Expr} (ha : IT K ξ W X a ta) (hb : IW K ξ W X (.BoolOp .Or (b :: rest) pos) tb) : IW K ξ W X (.BoolOp .Or (a :: b :: rest) pos) (tOr' ta tb) := PW.of (pw_or ha hb) fun σr H Q q => by
  obtain ⟨N, ζ, μ, σ, wd, so, q⟩ := q
  refine (thenTT wd so q).mono fun k H1 ⟨ζ1, μ1, ev1, wd1, so1, q1⟩ => ?_
  cases k with
  | true => exact iteT (q1 ζ1 H1 Ev.refl wd1)
  | false => exact iteF ⟨N, ζ1, μ1, σ, wd1, so1, q1⟩
theorem a_nil : IA K ξ W X [] aNil := PA.of pa_nil fun σr H Q q => by
  obtain ⟨N, ζ, μ, σ, wd, so, q⟩ := q
  exact q ζ H [] Ev.refl wd trivial
theorem thenNA {N : MS} {ζ : List Addr} {μ : Store} {H : Hp} {σr : L2.St} {σ : Sl} {Q : List V → Hp → Prop} {a : Sl → Store → R (List Val)} {g : List Val → Store → R (List Val)} (wd : Wd K N ζ μ H) (so : Sok K ξ ζ (MM N ζ μ) H σr σ) (h : PostA K ξ W N ζ μ H σr Q ((a σ μ).bind g)) :
    tA K ξ W a σr H fun xs H1 => ∃ ζ1 μ1 ws, Ev K.tb ζ μ H ζ1 μ1 H1 ∧ Wd K N ζ1 μ1 H1 ∧ RVs K ξ ζ1 (MM N ζ1 μ1) H1 xs ws ∧ PostA K ξ W N ζ1 μ1 H1 σr Q (g ws μ1) := by
  refine ⟨N, ζ, μ, σ, wd, so, ?_⟩
  cases e : a σ μ with
  | ok w1 μ1 => rw [e] at h; exact fun ζ' H' v ev w r => ⟨ζ', μ1, w1, ev, w, r, h.ev ev⟩
  | ex c f μ1 => rw [e] at h; exact h
  | stuck => rw [e] at h; exact h
theorem then1A {N : MS} {ζ : List Addr} {μ : Store} {H : Hp} {σr : L2.St} {σ : Sl} {Q : List V → Hp → Prop} {a : ME} {g : Val → Store → R (List Val)} (wd : Wd K N ζ μ H) (so : Sok K ξ ζ (MM N ζ μ) H σr σ) (h : PostA K ξ W N ζ μ H σr Q ((a σ μ).bind g)) :
    tE K ξ W a σr H fun x H1 => ∃ ζ1 μ1 w1, Ev K.tb ζ μ H ζ1 μ1 H1 ∧ Wd K N ζ1 μ1 H1 ∧ Sok K ξ ζ1 (MM N ζ1 μ1) H1 σr σ ∧ RV K ξ ζ1 (MM N ζ1 μ1) H1 x w1 ∧ PostA K ξ W N ζ1 μ1 H1 σr Q (g w1 μ1) := by
  refine ⟨N, ζ, μ, σ, wd, so, ?_⟩
  cases e : a σ μ with
  | ok w1 μ1 => rw [e] at h; exact fun ζ' H' v ev w r => ⟨ζ', μ1, w1, ev, w, so.ev ev, r, h.ev ev⟩
  | ex c f μ1 => rw [e] at h; exact h
  | stuck => rw [e] at h; exact h
theorem a_cons (ha : IE K ξ W X a fa) (hs : IA K ξ W X es fs) (h : starEach (a :: es) X.env = (false, eval a X.env) :: starEach es X.env := by rfl) : IA K ξ W X (a :: es) (aCons fa fs) := PA.of (pa_cons ha hs h) fun σr H Q q => by
  obtain ⟨N, ζ, μ, σ, wd, so, q⟩ := q
  refine (then1A wd so q).mono fun x H1 ⟨ζ1, μ1, w1, ev1, wd1, so1, r1, q1⟩ => ?_
  refine (thenNA wd1 so1 q1).mono fun xs H2 ⟨ζ2, μ2, ws, ev2, wd2, r2, q2⟩ => ?_
  exact q2 ζ2 H2 (x :: xs) Ev.refl wd2 ⟨r1.ev ev2, r2⟩
theorem asT_rvs {ζ : List Addr} {M : MS} {H : Hp} : ∀ {vs : List V} {ws : List Val} {ds : List PV}, RVs K ξ ζ M H vs ws → asT ws = some ds → rvs K M H vs ds
  | [], [], ds, _, e => by cases e; exact rvs_nil
  | v :: vs, .t d :: ws, ds, h, e => by
    obtain ⟨ds', e1, rfl⟩ := Option.map_eq_some_iff.mp e
    exact rvs_cons.mpr ⟨h.1, asT_rvs h.2 e1⟩
  | _ :: _, .c _ :: _, _, _, e => by cases e
  | _ :: _, .x _ _ :: _, _, _, e => by cases e
  | _ :: _, .s _ :: _, _, _, e => by cases e
  | _ :: _, .g _ _ :: _, _, _, e => by cases e
  | _ :: _, .self :: _, _, _, e => by cases e
  | [], _ :: _, _, h, _ => h.elim
  | _ :: _, [], _, h, _ => h.elim
theorem i_tup {x1 : Nat} (hs : IA K ξ W X es fs) : IE K ξ W X (.Tuple es x1 pos) (eN gTup fs) := PE.of (pe_tup hs) fun σr H Q q => by
  obtain ⟨N, ζ, μ, σ, wd, so, q⟩ := q
  refine (thenN wd so q).mono fun xs H1 ⟨ζ1, μ1, ws, ev1, wd1, so1, r1, q1⟩ => ?_
  unfold gTup at q1
  split at q1
  · rename_i hl
    cases e : asT ws with
    | none => rw [e] at q1; exact q1.elim
    | some ds =>
      rw [e] at q1
      exact ⟨by rw [r1.len]; exact hl, fun p hp => (postE_p wd1 q1).tup wd1.fre (asT_rvs r1 e) hp⟩
  · exact q1.elim
theorem f_lst (hs : IA K ξ W X es fs) : IF K ξ W X (.List es pos) (eN gLst fs) := PE.of (pe_lst hs) fun σr H Q q => by
  obtain ⟨N, ζ, μ, σ, wd, so, q⟩ := q
  refine (thenNF wd so q).mono fun xs H1 ⟨ζ1, μ1, ws, ev1, wd1, so1, r1, q1⟩ => ?_
  unfold gLst at q1
  split at q1
  · rename_i hl
    cases e : asT ws with
    | none => rw [e] at q1; exact q1.elim
    | some ds =>
      rw [e] at q1
      exact ⟨by rw [r1.len]; exact hl, fun p hp => (postF_p wd1 q1).lst (asT_rvs r1 e) hp⟩
  · exact q1.elim
/-- what was set aside is let go -/
theorem Wd.unside {N : MS} {ζ : List Addr} {μ : Store} {H : Hp} {a : Addr} (wd : Wd K (WD.plus N a) ζ μ H) : Wd K N ζ μ H :=
  ⟨wd.len, wd.inj, fun k c b h1 h2 => (wd.cell k c b h1 h2).st (fun _ _ h => h) (fun x nx _ z => nx (z.elim .inl fun z => .inr (.inl z))) (fun _ _ _ _ e => e) (fun _ _ e => e), fun b h => wd.nd b (.inl h), wd.tb⟩
/-- a new list as a datum -/
theorem i_ofF {f : Sl → Store → R (List PV)} (h : IF K ξ W X e f) : IE K ξ W X e (eOfF f) := PE.of h fun σr H Q q => by
  obtain ⟨N, ζ, μ, σ, wd, so, q⟩ := q
  refine ⟨N, ζ, μ, σ, wd, so, ?_⟩
  unfold eOfF at q
  cases e : f σ μ with
  | ok ds μ1 =>
    rw [e] at q
    intro ζ' H' a vs ev w hn ha r
    refine q ζ' H' _ ev w.unside (rv_lst.mpr ⟨a, vs, rfl, fun z => ?_, ha, rvs_wk (fun x z => z.elim .inl fun z => .inr (.inl z)) r⟩)
    rcases z with z | z
    · exact (w.nd a (.inr rfl)).1 z
    · exact (wd.nd a z).2.nn hn
  | ex c f μ1 => rw [e] at q; exact q
  | stuck => rw [e] at q; exact q
theorem Mof_snoc {ζ : List Addr} {μ : Store} {a : Addr} {c : Cell} (hl : ζ.length = μ.length) : ∀ x, Mof (ζ ++ [a]) (μ ++ [some c]) x ↔ WD.plus (Mof ζ μ) a x := by
  intro x
  constructor
  · rintro ⟨k, c', h1, h2⟩
    by_cases hk : k < ζ.length
    · rw [List.getElem?_append_left hk] at h1
      rw [List.getElem?_append_left (by omega)] at h2
      exact .inl ⟨k, c', h1, h2⟩
    · rw [List.getElem?_append_right (by omega)] at h1
      have h0 : k - ζ.length = 0 := by
        have := (List.getElem?_eq_some_iff.mp h1).1
        simp at this; omega
      rw [h0] at h1
      exact .inr (Option.some.inj h1).symm
  · rintro (⟨k, c', h1, h2⟩ | h)
    · have hk := (List.getElem?_eq_some_iff.mp h1).1
      exact ⟨k, c', by rw [List.getElem?_append_left hk]; exact h1, by rw [List.getElem?_append_left (by omega)]; exact h2⟩
    · exact ⟨ζ.length, c, by rw [List.getElem?_append_right (Nat.le_refl _), Nat.sub_self, h]; rfl, by rw [hl, List.getElem?_append_right (Nat.le_refl _), Nat.sub_self]; rfl⟩
theorem snoc_at {α : Type} {l : List α} {x y : α} {i : Nat} (h : (l ++ [x])[i]? = some y) : (i < l.length ∧ l[i]? = some y) ∨ (i = l.length ∧ y = x) := by
  by_cases hi : i < l.length
  · rw [List.getElem?_append_left hi] at h
    exact .inl ⟨hi, h⟩
  · rw [List.getElem?_append_right (by omega)] at h
    have h0 : i - l.length = 0 := by
      have := (List.getElem?_eq_some_iff.mp h).1
      simp at this; omega
    rw [h0] at h
    exact .inr ⟨by omega, (Option.some.inj h).symm⟩
theorem MM_snoc {N : MS} {ζ : List Addr} {μ : Store} {a : Addr} {c : Cell} (hl : ζ.length = μ.length) : ∀ x, MM N (ζ ++ [a]) (μ ++ [some c]) x → MM (WD.plus N a) ζ μ x := fun x h => by
  rcases h with h | h
  · rcases (Mof_snoc hl x).mp h with h | h
    · exact .inl h
    · exact .inr (.inr h)
  · exact .inr (.inl h)
/-- what was set aside becomes a thing that changes -/
theorem Wd.push {N : MS} {ζ : List Addr} {μ : Store} {H : Hp} {a : Addr} {c : Cell} (wd : Wd K (WD.plus N a) ζ μ H) (nN : ¬ N a) (hc : cellR K ζ (MM (WD.plus N a) ζ μ) H a c) : Wd K N (ζ ++ [a]) (μ ++ [some c]) H := by
  have hM := MM_snoc (N := N) (a := a) (c := c) wd.len
  have na : ¬ Mof ζ μ a := (wd.nd a (.inr rfl)).1
  have up : ∀ {b : Addr} {c' : Cell} {k : Nat}, k ≤ ζ.length → cellR K (ζ.take k) (MM (WD.plus N a) ζ μ) H b c' → cellR K ((ζ ++ [a]).take k) (MM N (ζ ++ [a]) (μ ++ [some c])) H b c' := fun {b c' k} hk r => r.st (fun j x h => by rw [List.take_append_of_le_length hk]; exact h) (fun x nx _ z => nx (hM x z)) (fun _ _ _ _ e => e) (fun _ _ e => e)
  refine ⟨by rw [List.length_append, List.length_append, wd.len]; rfl, fun i j b c1 c2 h1 h2 h3 h4 => ?_, fun k c' b h1 h2 => ?_, fun b hb => ?_, wd.tb⟩
  · have hl := wd.len
    rcases snoc_at h1 with ⟨i1, g1⟩ | ⟨i1, g1⟩ <;> rcases snoc_at h2 with ⟨j1, g2⟩ | ⟨j1, g2⟩ <;> rcases snoc_at h3 with ⟨i2, g3⟩ | ⟨i2, g3⟩ <;> rcases snoc_at h4 with ⟨j2, g4⟩ | ⟨j2, g4⟩ <;> first
      | omega
      | exact wd.inj i j b c1 c2 g1 g2 g3 g4
      | (subst g2; exact absurd ⟨i, c1, g1, g3⟩ na)
      | (subst g1; exact absurd ⟨j, c2, g2, g4⟩ na)
  · have hl := wd.len
    rcases snoc_at h1 with ⟨i1, g1⟩ | ⟨i1, g1⟩ <;> rcases snoc_at h2 with ⟨j1, g2⟩ | ⟨j1, g2⟩
    · exact up (by omega) (wd.cell k c' b g1 g2)
    · omega
    · omega
    · cases g1
      rw [g2]
      exact up (by omega) (by rw [List.take_of_length_le (by omega)]; exact hc)
  · refine ⟨fun z => ?_, (wd.nd b (.inl hb)).2⟩
    rcases (Mof_snoc wd.len b).mp z with z | z
    · exact (wd.nd b (.inl hb)).1 z
    · exact nN (z ▸ hb)
/-- a new list as a thing that changes -/
theorem i_cellF {f : Sl → Store → R (List PV)} (h : IF K ξ W X e f) : IE K ξ W X e (eCellF f) := PE.of h fun σr H Q q => by
  obtain ⟨N, ζ, μ, σ, wd, so, q⟩ := q
  refine ⟨N, ζ, μ, σ, wd, so, ?_⟩
  unfold eCellF at q
  cases e : f σ μ with
  | ok ds μ1 =>
    rw [e] at q
    intro ζ' H' a vs ev w hn ha r
    refine q (ζ' ++ [a]) H' _ ⟨fun k b hb => ?_, ev.fr, fun b hb => ?_⟩ (w.push (fun z => (wd.nd a z).2.nn hn) ⟨vs, ha, r⟩) ⟨a, by rw [← w.len, List.getElem?_append_right (Nat.le_refl _), Nat.sub_self]; rfl, rfl⟩
    · have := ev.pre k b hb
      rw [List.getElem?_append_left (List.getElem?_eq_some_iff.mp this).1]
      exact this
    · rcases (Mof_snoc w.len b).mp hb with z | z
      · exact ev.ml b z
      · exact .inr (by rw [z]; exact hn)
  | ex c f μ1 => rw [e] at q; exact q
  | stuck => rw [e] at q; exact q
end
end PM
namespace PM
open PySem PySem.Spec PyProof.Rows L2
open WD (MS upd_none)

/-! ### data to be compared -/
mutual
def PV.data : PV → PyData
  | .non => .none
  | .bl b => .bool b
  | .int i => .int i
  | .str x => .str x
  | .tup xs => .tuple (datas xs)
  | .lst xs => .list (datas xs)
  | .dic _ _ _ => .none
  | .obj _ _ _ => .none
def datas : List PV → List PyData
  | [] => []
  | x :: xs => x.data :: datas xs
end
mutual
def PV.flat : PV → Bool
  | .tup xs => flats xs
  | .lst xs => flats xs
  | .dic _ _ _ => false
  | .obj _ _ _ => false
  | _ => true
def flats : List PV → Bool
  | [] => true
  | x :: xs => x.flat && flats xs
end
/-- to be compared -/
def okD (d : PV) : Bool := d.flat && decide (d.data.depth ≤ 64)
def eqB (x y : PV) : Bool := PyData.eqv x.data y.data
def eqV (x y : PV) : Option PV := if okD x && okD y then some (.bl (eqB x y)) else none
def neV (x y : PV) : Option PV := if okD x && okD y then some (.bl (!eqB x y)) else none
section
variable {K : KT} {M : MS} {H : Hp}
mutual
theorem rv_dp : ∀ (d : PV) (v : V), d.flat = true → rv K M H v d → Dp K H v d.data ∧ d.data.canLay0 = true
  | .non, v, _, h => by rw [rv_non] at h; subst h; exact ⟨.non, rfl⟩
  | .bl b, v, _, h => by rw [rv_bl] at h; subst h; exact ⟨.bl b, rfl⟩
  | .int i, v, _, h => by rw [rv_int] at h; subst h; exact ⟨.int i, rfl⟩
  | .str x, v, _, h => by
    rw [rv_str] at h
    obtain ⟨rfl, h⟩ := h
    exact ⟨.str x, by show PyData.canLay0 (.str x) = true; exact h⟩
  | .tup l, v, f, h => by
    rw [rv_tup] at h
    obtain ⟨a, vs, rfl, _, h3, h4⟩ := h
    obtain ⟨g1, g2⟩ := rvs_dp l vs (by unfold PV.flat at f; exact f) h4
    unfold PV.data
    exact ⟨.tup (SqT.of h3) g1, g2⟩
  | .lst l, v, f, h => by
    rw [rv_lst] at h
    obtain ⟨a, vs, rfl, _, h3, h4⟩ := h
    obtain ⟨g1, g2⟩ := rvs_dp l vs (by unfold PV.flat at f; exact f) h4
    unfold PV.data
    exact ⟨.lst (SqL.of h3) g1, g2⟩
  | .dic _ _ _, v, f, _ => by unfold PV.flat at f; cases f
  | .obj _ _ _, v, f, _ => by unfold PV.flat at f; cases f
theorem rvs_dp : ∀ (ds : List PV) (vs : List V), flats ds = true → rvs K M H vs ds → DpAll K H vs (datas ds) ∧ PyData.canLayAll0 (datas ds) = true
  | [], [], _, _ => by unfold datas; exact ⟨.nil, rfl⟩
  | d :: ds, v :: vs, f, h => by
    rw [rvs_cons] at h
    unfold flats at f
    rw [Bool.and_eq_true] at f
    obtain ⟨h1, h2⟩ := rv_dp d v f.1 h.1
    obtain ⟨h3, h4⟩ := rvs_dp ds vs f.2 h.2
    unfold datas
    exact ⟨.cons h1 h3, by show (d.data.canLay0 && PyData.canLayAll0 (datas ds)) = true; rw [h2, h4]; rfl⟩
  | [], _ :: _, _, h => by unfold rvs at h; exact h.elim
  | _ :: _, [], _, h => by unfold rvs at h; exact h.elim
end
theorem vv_dp : ∀ {d : PV} {v : V}, d.flat = true → vv K M H v d → Dp K H v d.data ∧ d.data.canLay0 = true
  | .lst l, v, f, h => by
    obtain ⟨a, vs, rfl, h3, h4⟩ := h
    obtain ⟨g1, g2⟩ := rvs_dp l vs (by unfold PV.flat at f; exact f) h4
    unfold PV.data
    exact ⟨.lst (SqL.of h3) g1, g2⟩
  | .dic _ _ _, v, f, _ => by unfold PV.flat at f; cases f
  | .obj _ _ _, v, f, _ => by unfold PV.flat at f; cases f
  | .non, v, f, h => rv_dp (M := M) _ v f h
  | .bl b, v, f, h => rv_dp (M := M) _ v f h
  | .int i, v, f, h => rv_dp (M := M) _ v f h
  | .str x, v, f, h => rv_dp (M := M) _ v f h
  | .tup l, v, f, h => rv_dp (M := M) _ v f h
theorem okD_dp {d : PV} {v : V} (f : okD d = true) (h : vv K M H v d) : Dp K H v d.data ∧ SeqAt.shaped d.data = true := by
  unfold okD at f
  rw [Bool.and_eq_true] at f
  obtain ⟨h1, h2⟩ := vv_dp f.1 h
  exact ⟨h1, by unfold SeqAt.shaped; rw [h2, f.2]; rfl⟩
end
section
variable {X : Cx} {K : KT}
theorem op_eqV (hu : X.A.units + 64 < cLine) (hK : X.K = K := by rfl) : OpR X (compareOp .Eq) (rP2 K eqV) := by
  obtain ⟨K, Kt⟩ := K; obtain rfl : X.K = K := hK
  intro pins s σ H x y v u Q I rx ry h
  obtain ⟨M, d1, d2, d, h1, h2, fr, e, g⟩ := h
  unfold eqV at e
  split at e
  · rename_i hc
    cases e
    rw [Bool.and_eq_true] at hc
    obtain ⟨p1, p2⟩ := okD_dp hc.1 h1
    obtain ⟨q1, q2⟩ := okD_dp hc.2 h2
    exact op_eqD hu pins s σ H x y v u Q I rx ry ⟨_, _, p1, q1, p2, q2, g.bl⟩
  · cases e
theorem op_neV (hu : X.A.units + 64 < cLine) (hK : X.K = K := by rfl) : OpR X (compareOp .NotEq) (rP2 K neV) := by
  obtain ⟨K, Kt⟩ := K; obtain rfl : X.K = K := hK
  intro pins s σ H x y v u Q I rx ry h
  obtain ⟨M, d1, d2, d, h1, h2, fr, e, g⟩ := h
  unfold neV at e
  split at e
  · rename_i hc
    cases e
    rw [Bool.and_eq_true] at hc
    obtain ⟨p1, p2⟩ := okD_dp hc.1 h1
    obtain ⟨q1, q2⟩ := okD_dp hc.2 h2
    exact op_neD hu pins s σ H x y v u Q I rx ry ⟨_, _, p1, q1, p2, q2, g.bl⟩
  · cases e
end

/-! ### arithmetic -/
def addV : PV → PV → Option PV
  | .int i, .int j => some (.int (i + j))
  | .str a, .str b => if a.length + b.length ≤ sizeLine then some (.str (a ++ b)) else none
  | .tup a, .tup b => if a.length + b.length ≤ sizeLine then some (.tup (a ++ b)) else none
  | .lst a, .lst b => if a.length + b.length ≤ sizeLine then some (.lst (a ++ b)) else none
  | _, _ => none
def addF : PV → PV → Option (List PV)
  | .lst a, .lst b => if a.length + b.length ≤ sizeLine then some (a ++ b) else none
  | _, _ => none
/-- bounds, so said that the kernel never counts down from them -/
def inW (i : Int) : Bool := Nat.ble i.natAbs 18446744073709551615
def bnd (i : Int) : Bool := Nat.ble i.natAbs 1000000000000
theorem bnd_ok {i : Int} (h : bnd i = true) : -(2 ^ 62) ≤ i ∧ i < 2 ^ 62 := by
  have := Nat.le_of_ble_eq_true h
  omega
theorem bnd_of {i : Int} (h1 : -1000000000000 ≤ i) (h2 : i ≤ 1000000000000) : bnd i = true := Nat.ble_eq_true_of_le (by omega)
def rep {α : Type} (k : Int) (l : List α) : List α := (List.replicate k.toNat l).flatten
def mulV : PV → PV → Option PV
  | .int i, .int j => if inW i || inW j then some (.int (i * j)) else none
  | .tup a, .int k => if !a.isEmpty && (decide (0 ≤ k) && (Nat.ble k.toNat 1000 && Nat.ble a.length 1000)) then some (.tup (rep k a)) else none
  | _, _ => none
def mulF : PV → PV → Option (List PV)
  | .lst a, .int k => if bnd k && Nat.ble (a.length * k.toNat) sizeLine then some (rep k a) else none
  | _, _ => none
def modV : PV → PV → Option PV
  | .int i, .int j => if 0 < j then some (.int (i % j)) else none
  | _, _ => none
def fdivV : PV → PV → Option PV
  | .int i, .int j => if Nat.ble 1 j.toNat && Nat.ble j.toNat 1073741823 then some (.int (i / j)) else none
  | _, _ => none
def powV : PV → PV → Option PV
  | .int i, .int j => if decide (0 ≤ j) && (Nat.ble j.toNat 1000000 && inW i) then some (.int (i ^ j.toNat)) else none
  | _, _ => none
def negV : PV → Option PV
  | .int i => some (.int (-i))
  | _ => none
theorem strOk_app {a b : Str} (ha : PyData.strOk a = true) (hb : PyData.strOk b = true) : PyData.strOk (a ++ b) = true := by
  unfold PyData.strOk at *
  show (a.cps ++ b.cps).all (· < 0x110000) = true
  rw [Array.all_append, ha, hb]; rfl
section
variable {X : Cx} {K : KT} {M : MS} {H : Hp} {v : V}
theorem vv_int {i : Int} (h : vv K M H v (.int i)) : v = .int i := (rv_int (K := K) (M := M) (H := H)).mp h
theorem vv_bl {i : Bool} (h : vv K M H v (.bl i)) : v = .bl i := (rv_bl (K := K) (M := M) (H := H)).mp h
theorem vv_non (h : vv K M H v .non) : v = .non := (rv_non (K := K) (M := M) (H := H)).mp h
theorem vv_str {x : Str} (h : vv K M H v (.str x)) : v = .str x ∧ PyData.strOk x = true := (rv_str (K := K) (M := M) (H := H)).mp h
theorem vv_tup {l : List PV} (h : vv K M H v (.tup l)) : ∃ a vs, v = .ref a ∧ ¬ M a ∧ H a = some (.tup vs) ∧ rvs K M H vs l := (rv_tup (K := K) (M := M) (H := H)).mp h
theorem op_addV (hK : X.K = K := by rfl) : OpR X (binaryOp .Add) (rP2 K addV) := by
  obtain ⟨K, Kt⟩ := K; obtain rfl : X.K = K := hK
  intro pins s σ H x y v u Q I rx ry h
  obtain ⟨M, d1, d2, d, h1, h2, fr, e, g⟩ := h
  unfold addV at e
  split at e
  · cases e
    cases vv_int h1; cases vv_int h2
    exact op_add pins s σ H _ _ v u Q I rx ry ⟨_, _, rfl, rfl, g.int⟩
  · split at e
    · cases e
      obtain ⟨rfl, s1⟩ := vv_str h1
      obtain ⟨rfl, s2⟩ := vv_str h2
      exact op_add_str pins s σ H _ _ v u Q I rx ry ⟨_, _, rfl, rfl, by assumption, g.str (strOk_app s1 s2)⟩
    · cases e
  · split at e
    · rename_i a b hl
      cases e
      obtain ⟨p, vs, rfl, n1, g1, r1⟩ := vv_tup h1
      obtain ⟨q, ws, rfl, n2, g2, r2⟩ := vv_tup h2
      have l1 := rvs_len r1
      have l2 := rvs_len r2
      refine op_catA pins s σ H _ _ v u Q I rx ry ⟨p, q, vs, ws, rfl, rfl, SqT.of g1, SqT.of g2, by omega, fun z => ?_, fun z1 z2 => ?_, fun _ _ r hr => g.tup fr (rvs_app r1 r2) hr⟩
      · have e1 : a = [] := List.eq_nil_of_length_eq_zero (by rw [← l1, z]; rfl)
        subst e1
        exact g H _ Grow.refl (rv_tup.mpr ⟨q, ws, rfl, n2, g2, r2⟩)
      · have e1 : b = [] := List.eq_nil_of_length_eq_zero (by rw [← l2, z2]; rfl)
        subst e1
        rw [List.append_nil] at g
        exact g H _ Grow.refl (rv_tup.mpr ⟨p, vs, rfl, n1, g1, r1⟩)
    · cases e
  · split at e
    · rename_i a b hl
      cases e
      obtain ⟨p, vs, rfl, g1, r1⟩ := h1
      obtain ⟨q, ws, rfl, g2, r2⟩ := h2
      have l1 := rvs_len r1
      have l2 := rvs_len r2
      exact WD.op_catL pins s σ H _ _ v u Q I rx ry ⟨p, q, vs, ws, rfl, rfl, SqL.of g1, SqL.of g2, by omega, fun r hr => g.lst fr (rvs_app r1 r2) hr⟩
    · cases e
  · cases e
theorem op_addF (hK : X.K = K := by rfl) : OpR X (binaryOp .Add) (rPF2 K addF) := by
  obtain ⟨K, Kt⟩ := K; obtain rfl : X.K = K := hK
  intro pins s σ H x y v u Q I rx ry h
  obtain ⟨M, d1, d2, d, h1, h2, fr, e, g⟩ := h
  unfold addF at e
  split at e
  · split at e
    · rename_i a b hl
      cases e
      obtain ⟨p, vs, rfl, g1, r1⟩ := h1
      obtain ⟨q, ws, rfl, g2, r2⟩ := h2
      have l1 := rvs_len r1
      have l2 := rvs_len r2
      exact WD.op_catL pins s σ H _ _ v u Q I rx ry ⟨p, q, vs, ws, rfl, rfl, SqL.of g1, SqL.of g2, by omega, fun r hr => g.lst (rvs_app r1 r2) hr⟩
    · cases e
  · cases e
theorem op_modV (hK : X.K = K := by rfl) : OpR X (binaryOp .Mod) (rP2 K modV) := by
  intro pins s σ H x y v u Q I rx ry h
  obtain ⟨M, d1, d2, d, h1, h2, fr, e, g⟩ := h
  unfold modV at e
  split at e
  · split at e
    · cases e
      cases vv_int h1; cases vv_int h2
      exact op_mod pins s σ H _ _ v u Q I rx ry ⟨_, _, rfl, rfl, by assumption, g.int⟩
    · cases e
  · cases e
theorem op_fdivV (hK : X.K = K := by rfl) : OpR X (binaryOp .FloorDiv) (rP2 K fdivV) := by
  intro pins s σ H x y v u Q I rx ry h
  obtain ⟨M, d1, d2, d, h1, h2, fr, e, g⟩ := h
  unfold fdivV at e
  split at e
  · split at e
    · cases e
      rename_i hc
      cases vv_int h1; cases vv_int h2
      rw [Bool.and_eq_true] at hc
      have c1 := Nat.le_of_ble_eq_true hc.1
      have c2 := Nat.le_of_ble_eq_true hc.2
      exact op_fdiv pins s σ H _ _ v u Q I rx ry ⟨_, _, rfl, rfl, ⟨by omega, by omega⟩, g.int⟩
    · cases e
  · cases e
theorem op_powV (hK : X.K = K := by rfl) : OpR X (binaryOp .Pow) (rP2 K powV) := by
  intro pins s σ H x y v u Q I rx ry h
  obtain ⟨M, d1, d2, d, h1, h2, fr, e, g⟩ := h
  unfold powV at e
  split at e
  · split at e
    · cases e
      rename_i hc
      cases vv_int h1; cases vv_int h2
      rw [Bool.and_eq_true, Bool.and_eq_true] at hc
      have c1 := of_decide_eq_true hc.1
      have c2 := Nat.le_of_ble_eq_true hc.2.1
      have c3 := Nat.le_of_ble_eq_true hc.2.2
      exact op_pow pins s σ H _ _ v u Q I rx ry ⟨_, _, rfl, rfl, ⟨c1, by omega, by omega⟩, g.int⟩
    · cases e
  · cases e
theorem inW_ok {i : Int} (h : inW i = true) : -(2 ^ 64) < i ∧ i < 2 ^ 64 := by
  have := Nat.le_of_ble_eq_true h
  omega
theorem rvs_rep {vs : List V} {ds : List PV} (h : rvs K M H vs ds) : ∀ n : Nat, rvs K M H ((List.replicate n vs).flatten) ((List.replicate n ds).flatten)
  | 0 => rvs_nil
  | n + 1 => by
    rw [List.replicate_succ, List.replicate_succ, List.flatten_cons, List.flatten_cons]
    exact rvs_app h (rvs_rep h n)
end
end PM
/-! dicts: what is looked up, what is put -/
namespace PM
open PySem PySem.Spec PyProof.Rows L2
open WD (MS upd_none)
def keyOf : PV → Option Key
  | .int i => some (.inl i)
  | .str x => some (.inr x)
  | _ => none
def keysOf : List PV → Option (List Key)
  | [] => some []
  | d :: ds => match keyOf d, keysOf ds with
    | some k, some ks => some (k :: ks)
    | _, _ => none
/-- may it be a key of such a dict? -/
def keyB : Bool → PV → Bool
  | false, d => (keyOf d).isSome
  | true, .tup l => (keysOf l).isSome
  | true, _ => false
def kEq1 : PV → PV → Bool
  | .int i, .int j => decide (i = j)
  | .str x, .str y => decide (x = y)
  | _, _ => false
def kEqs : List PV → List PV → Bool
  | [], [] => true
  | a :: as, b :: bs => kEq1 a b && kEqs as bs
  | _, _ => false
def keyEq : PV → PV → Bool
  | .tup a, .tup b => kEqs a b
  | a, b => kEq1 a b
def dfind : List PV → List PV → PV → Option PV
  | x :: ks, v :: vs, k => if keyEq x k then some v else dfind ks vs k
  | _, _, _ => none
def dset : List PV → List PV → PV → PV → List PV
  | x :: ks, v :: vs, k, d => (if keyEq x k then d else v) :: dset ks vs k d
  | _, _, _, _ => []
def dput (ks vs : List PV) (k d : PV) : List PV × List PV := if ks.any (keyEq · k) then (ks, dset ks vs k d) else (ks ++ [k], vs ++ [d])
theorem kEq1_k (a b : Key) : kEq1 (kPV a) (kPV b) = decide (a = b) := by
  cases a <;> cases b <;> simp [kPV, kEq1]
theorem keyEq_k (a b : Key) : keyEq (kPV a) (kPV b) = decide (a = b) := by
  rw [← kEq1_k]
  cases a <;> cases b <;> rfl
theorem kEqs_k : ∀ (a b : List Key), kEqs (a.map kPV) (b.map kPV) = decide (a = b)
  | [], [] => by simp [kEqs]
  | [], _ :: _ => by simp [kEqs]
  | _ :: _, [] => by simp [kEqs]
  | a :: as, b :: bs => by simp [kEqs, kEq1_k, kEqs_k as bs]
theorem keyEq_t (a b : List Key) : keyEq (.tup (a.map kPV)) (.tup (b.map kPV)) = decide (a = b) := kEqs_k a b
theorem keyOf_some {d : PV} {k : Key} (h : keyOf d = some k) : d = kPV k := by
  unfold keyOf at h
  split at h <;> cases h <;> rfl
theorem keysOf_some : ∀ {l : List PV} {ks : List Key}, keysOf l = some ks → l = ks.map kPV
  | [], ks, h => by cases h; rfl
  | d :: ds, ks, h => by
    unfold keysOf at h
    split at h
    · rename_i k ks' h1 h2
      cases h
      rw [keyOf_some h1, keysOf_some h2]
      rfl
    · cases h
section
variable {K : KT} {M : MS} {H : Hp} {κ : Type} [DecidableEq κ] {φ : κ → PV}
theorem dfind_ok (hφ : ∀ a b, keyEq (φ a) (φ b) = decide (a = b)) (k : κ) : ∀ {kl : List κ} {vs : List V} {ds : List PV}, kl.length = vs.length → rvs K M H vs ds →
    (∃ d v, dfind (kl.map φ) ds (φ k) = some d ∧ valV (kl.zip vs) k = some v ∧ rv K M H v d) ∨ (dfind (kl.map φ) ds (φ k) = none ∧ valV (kl.zip vs) k = none)
  | [], [], [], _, _ => .inr ⟨rfl, rfl⟩
  | x :: kl, v :: vs, d :: ds, hl, r => by
    rw [rvs_cons] at r
    by_cases e : x = k
    · refine .inl ⟨d, v, ?_, valV_pos (p := (x, v)) e, r.1⟩
      show (if keyEq (φ x) (φ k) then some d else _) = _
      rw [hφ, decide_eq_true e]; rfl
    · have e1 : dfind ((x :: kl).map φ) (d :: ds) (φ k) = dfind (kl.map φ) ds (φ k) := by
        show (if keyEq (φ x) (φ k) then some d else _) = _
        rw [hφ, decide_eq_false e]; rfl
      have e2 : valV ((x :: kl).zip (v :: vs)) k = valV (kl.zip vs) k := valV_neg (p := (x, v)) e
      rw [e1, e2]
      exact dfind_ok hφ k (Nat.succ.inj hl) r.2
  | [], _ :: _, _, hl, _ => by cases hl
  | _ :: _, [], _, hl, _ => by cases hl
  | [], [], _ :: _, _, r => by unfold rvs at r; exact r.elim
  | _ :: _, _ :: _, [], _, r => by unfold rvs at r; exact r.elim
theorem any_ok (hφ : ∀ a b, keyEq (φ a) (φ b) = decide (a = b)) (k : κ) : ∀ {kl : List κ} {vs : List V}, kl.length = vs.length → ((kl.map φ).any (keyEq · (φ k))) = ((kl.zip vs).any fun kv => decide (kv.1 = k))
  | [], [], _ => rfl
  | x :: kl, v :: vs, hl => by
    show (keyEq (φ x) (φ k) || (kl.map φ).any (keyEq · (φ k))) = (decide (x = k) || (kl.zip vs).any fun kv => decide (kv.1 = k))
    rw [hφ, any_ok hφ k (Nat.succ.inj hl)]
  | [], _ :: _, hl => by cases hl
  | _ :: _, [], hl => by cases hl
def vset {κ : Type} [DecidableEq κ] : List κ → List V → κ → V → List V
  | x :: ks, u :: vs, k, v => (if x = k then v else u) :: vset ks vs k v
  | _, _, _, _ => []
theorem vset_zip (k : κ) (v : V) : ∀ {kl : List κ} {vs : List V}, kl.length = vs.length → (kl.zip vs).map (fun kv => if kv.1 = k then (kv.1, v) else kv) = kl.zip (vset kl vs k v) ∧ kl.length = (vset kl vs k v).length
  | [], [], _ => ⟨rfl, rfl⟩
  | x :: kl, u :: vs, hl => by
    obtain ⟨h1, h2⟩ := vset_zip k v (Nat.succ.inj hl)
    refine ⟨?_, congrArg Nat.succ h2⟩
    show (if x = k then (x, v) else (x, u)) :: (kl.zip vs).map _ = (x, if x = k then v else u) :: kl.zip (vset kl vs k v)
    rw [h1]
    split <;> rfl
  | [], _ :: _, hl => by cases hl
  | _ :: _, [], hl => by cases hl
theorem dset_ok (hφ : ∀ a b, keyEq (φ a) (φ b) = decide (a = b)) {k : κ} {v : V} {d : PV} (hv : rv K M H v d) : ∀ {kl : List κ} {vs : List V} {ds : List PV}, kl.length = vs.length → rvs K M H vs ds → rvs K M H (vset kl vs k v) (dset (kl.map φ) ds (φ k) d)
  | [], [], [], _, _ => rvs_nil
  | x :: kl, u :: vs, e :: ds, hl, r => by
    rw [rvs_cons] at r
    refine rvs_cons.mpr ⟨?_, dset_ok hφ hv (Nat.succ.inj hl) r.2⟩
    rw [hφ]
    by_cases hx : x = k
    · rw [if_pos hx, if_pos (decide_eq_true hx)]; exact hv
    · rw [if_neg hx, if_neg (by rw [decide_eq_false hx]; exact Bool.false_ne_true)]; exact r.1
  | [], _ :: _, _, hl, _ => by cases hl
  | _ :: _, [], _, hl, _ => by cases hl
  | [], [], _ :: _, _, r => by unfold rvs at r; exact r.elim
  | _ :: _, _ :: _, [], _, r => by unfold rvs at r; exact r.elim
theorem dput_ok (hφ : ∀ a b, keyEq (φ a) (φ b) = decide (a = b)) {k : κ} {v : V} {d : PV} {kl : List κ} {vs : List V} {ds : List PV} (hv : rv K M H v d) (hl : kl.length = vs.length) (r : rvs K M H vs ds) {P : κ → Prop} (hp : ∀ x ∈ kl, P x) (hk : P k) :
    ∃ (kl' : List κ) (vs' : List V), putK (kl.zip vs) k v = kl'.zip vs' ∧ (dput (kl.map φ) ds (φ k) d).1 = kl'.map φ ∧ kl'.length = vs'.length ∧ rvs K M H vs' (dput (kl.map φ) ds (φ k) d).2 ∧ ∀ x ∈ kl', P x := by
  unfold putK dput
  rw [← any_ok hφ k hl]
  split
  · obtain ⟨h1, h2⟩ := vset_zip k v hl
    exact ⟨kl, vset kl vs k v, h1, rfl, h2, dset_ok hφ hv hl r, hp⟩
  · refine ⟨kl ++ [k], vs ++ [v], by rw [List.zip_append hl]; rfl, by simp, by simp [hl], rvs_app r (rvs_cons.mpr ⟨hv, rvs_nil⟩), fun x hx => ?_⟩
    rcases List.mem_append.mp hx with h | h
    · exact hp x h
    · rw [List.mem_singleton.mp h]; exact hk
end
section
variable {X : Cx} {K : KT} {M : MS} {H : Hp} {v : V}
theorem kV_of {k : Key} (h : rv K M H v (kPV k)) : v = kV k ∧ kOk k := by
  cases k with
  | inl i => exact ⟨rv_int.mp h, trivial⟩
  | inr x => exact ⟨(rv_str.mp h).1, (rv_str.mp h).2⟩
theorem kVs_of : ∀ {vs : List V} {ks : List Key}, rvs K M H vs (ks.map kPV) → vs = ks.map kV ∧ ∀ k ∈ ks, kOk k
  | [], [], _ => ⟨rfl, fun _ h => nomatch h⟩
  | v :: vs, k :: ks, h => by
    have h : rvs K M H (v :: vs) (kPV k :: ks.map kPV) := h
    rw [rvs_cons] at h
    obtain ⟨h1, h2⟩ := kV_of h.1
    obtain ⟨h3, h4⟩ := kVs_of h.2
    refine ⟨by rw [h1, h3]; rfl, fun z hz => ?_⟩
    rcases List.mem_cons.mp hz with e | e
    · rw [e]; exact h2
    · exact h4 z e
  | [], _ :: _, h => by
    have := rvs_len h
    simp at this
  | _ :: _, [], h => by
    have := rvs_len h
    simp at this
theorem vv_key : ∀ {d : PV} {k : Key}, keyOf d = some k → vv K M H v d → v = kV k ∧ kOk k := by
  intro d k e h
  rw [keyOf_some e] at h
  refine kV_of (K := K) (M := M) (H := H) ?_
  cases k <;> exact h
/-- what is looked up -/
theorem dget_rel {b : Bool} {a : Addr} {ks ds : List PV} {vs : List V} {y : V} {k : PV} (h : DicR b H a ks vs) (r : rvs K M H vs ds) (hy : vv K M H y k) (hk : keyB b k = true) :
    (∃ d v, dfind ks ds k = some d ∧ DGet H a y (some v) ∧ rv K M H v d) ∨ (dfind ks ds k = none ∧ DGet H a y none) := by
  cases b with
  | false =>
    obtain ⟨kl, rfl, hl, hok, ha⟩ := h
    obtain ⟨k', hk'⟩ := Option.isSome_iff_exists.mp hk
    obtain ⟨rfl, _⟩ := vv_key hk' hy
    rw [keyOf_some hk']
    rcases dfind_ok keyEq_k k' hl r with ⟨d, v, h1, h2, h3⟩ | ⟨h1, h2⟩
    · exact .inl ⟨d, v, h1, by rw [← h2]; exact DGet.k ha, h3⟩
    · exact .inr ⟨h1, by rw [← h2]; exact DGet.k ha⟩
  | true =>
    obtain ⟨kl, rfl, hl, hok, ha⟩ := h
    cases k with
    | tup l =>
      obtain ⟨k', hk'⟩ := Option.isSome_iff_exists.mp (show (keysOf l).isSome = true from hk)
      rw [keysOf_some hk'] at hy ⊢
      obtain ⟨p, us, rfl, _, hp, ru⟩ := vv_tup hy
      obtain ⟨rfl, _⟩ := kVs_of ru
      rcases dfind_ok (φ := fun k => PV.tup (k.map kPV)) keyEq_t k' hl r with ⟨d, v, h1, h2, h3⟩ | ⟨h1, h2⟩
      · exact .inl ⟨d, v, h1, by rw [← h2]; exact DGet.t ha hp, h3⟩
      · exact .inr ⟨h1, by rw [← h2]; exact DGet.t ha hp⟩
    | _ => cases hk
/-- what is put -/
theorem dput_rel {b : Bool} {a : Addr} {ks ds : List PV} {vs : List V} {y v : V} {k d : PV} (h : DicR b H a ks vs) (r : rvs K M H vs ds) (hy : vv K M H y k) (hk : keyB b k = true) (hv : rv K M H v d) (hz : ks.length < sizeLine) :
    ∃ H' o vs', DPut H a y v H' ∧ H' = upd H a o ∧ DicR b H' a (dput ks ds k d).1 vs' ∧ rvs K M H vs' (dput ks ds k d).2 := by
  have hlen := h.len
  cases b with
  | false =>
    obtain ⟨kl, rfl, hl, hok, ha⟩ := h
    obtain ⟨k', hk'⟩ := Option.isSome_iff_exists.mp hk
    obtain ⟨rfl, ok'⟩ := vv_key hk' hy
    rw [keyOf_some hk']
    obtain ⟨kl', vs', e1, e2, e3, e4, e5⟩ := dput_ok keyEq_k hv hl r hok ok'
    exact ⟨_, _, vs', DPut.k ha (by rw [List.length_zip, hl, Nat.min_self, ← hl]; simpa using hz), rfl, ⟨kl', e2, e3, e5, by rw [upd_same, e1]⟩, e4⟩
  | true =>
    obtain ⟨kl, rfl, hl, hok, ha⟩ := h
    cases k with
    | tup l =>
      obtain ⟨k', hk'⟩ := Option.isSome_iff_exists.mp (show (keysOf l).isSome = true from hk)
      rw [keysOf_some hk'] at hy ⊢
      obtain ⟨p, us, rfl, _, hp, ru⟩ := vv_tup hy
      obtain ⟨rfl, ok'⟩ := kVs_of ru
      obtain ⟨kl', vs', e1, e2, e3, e4, e5⟩ := dput_ok (φ := fun k => PV.tup (k.map kPV)) keyEq_t (P := fun k => ∀ z ∈ k, kOk z) hv hl r hok ok'
      exact ⟨_, _, vs', DPut.t ha hp (by rw [List.length_zip, hl, Nat.min_self, ← hl]; simpa using hz), rfl, ⟨kl', e2, e3, e5, by rw [upd_same, e1]⟩, e4⟩
    | _ => cases hk
theorem ix_dict (hu : X.A.units + 1 < cLine) : IxR X (fun x y H Q => ∃ a v, x = .ref a ∧ DGet H a y (some v) ∧ Q v H) := by
  intro value slice pins s σ H x y v u Q I rx ry h hs
  obtain ⟨a, z, rfl, g, q⟩ := h
  obtain rfl : v = Value.ref a := rx
  have hT := dict_typeIs I g
  unfold subscriptTail
  refine wpAny_bind ?_
  rw [getitemInPython_of_ne hT.not_modules]
  refine wpAny_bind (wpAny_specialOf hT PySem.F.slot_dict_getitem.lookup ?_)
  have fin : wpAny (model X.prog X.w) X.A (subscripted slice false (.ref a) u) (fun r s₃ => wpAny (model X.prog X.w) X.A (letTemporaryGo value (.ref a) r >>= fun _ => pure r) (EP X pins σ Q) X.xe s₃) X.xe s := by
    rw [hs]
    exact wpAny_operating (wpAny_mono (d_getItem hu I g ry fun w' s3 I3 rw' => (⟨z, H, I3, rw', q⟩ : EP X pins σ Q w' s3)) (fun r s₃ h₃ => wpAny_bind (wpAny_letTemporaryGo (wpAny_pure h₃))) fun _ _ x => x)
  first
    | exact wpAny_pure (wpAny_bind fin)
    | exact wpAny_bind (wpAny_pure (wpAny_bind fin))
    | exact wpAny_bind fin
theorem op_inDict (hu : X.A.units + 1 < cLine) : OpR X (compareOp .In) (fun y x H Q => ∃ a o, x = .ref a ∧ DGet H a y o ∧ Q (.bl o.isSome) H) := by
  intro pins s σ H x y v u Q I rx ry h
  obtain ⟨a, o, rfl, g, q⟩ := h
  obtain rfl : u = Value.ref a := ry
  exact d_in hu I g rx fun s3 I3 => ⟨.bl o.isSome, H, I3, rfl, q⟩
theorem op_notInDict (hu : X.A.units + 1 < cLine) : OpR X (compareOp .NotIn) (fun y x H Q => ∃ a o, x = .ref a ∧ DGet H a y o ∧ Q (.bl (!o.isSome)) H) := by
  intro pins s σ H x y v u Q I rx ry h
  obtain ⟨a, o, rfl, g, q⟩ := h
  obtain rfl : u = Value.ref a := ry
  exact d_notIn hu I g rx fun s3 I3 => ⟨.bl (!o.isSome), H, I3, rfl, q⟩
end
end PM
namespace PM
open PySem PySem.Spec PyProof.Rows L2
open WD (MS upd_none)
section
variable {X : Cx} {K : KT} {M : MS} {H : Hp} {v : V}
theorem op_mulV (hK : X.K = K := by rfl) : OpR X (binaryOp .Mult) (rP2 K mulV) := by
  obtain ⟨K, Kt⟩ := K; obtain rfl : X.K = K := hK
  intro pins s σ H x y v u Q I rx ry h
  obtain ⟨M, d1, d2, d, h1, h2, fr, e, g⟩ := h
  unfold mulV at e
  split at e
  · split at e
    · rename_i i j hc
      cases e
      cases vv_int h1; cases vv_int h2
      refine op_mul pins s σ H _ _ v u Q I rx ry ⟨_, _, rfl, rfl, ?_, g.int⟩
      rw [Bool.or_eq_true] at hc
      rcases hc with hc | hc
      · exact .inl (inW_ok hc)
      · exact .inr (inW_ok hc)
    · cases e
  · split at e
    · rename_i a k hc
      cases e
      obtain ⟨p, vs, rfl, n1, g1, r1⟩ := vv_tup h1
      cases vv_int h2
      have l1 := rvs_len r1
      rw [Bool.and_eq_true, Bool.and_eq_true, Bool.and_eq_true] at hc
      have c1 : 0 ≤ k := of_decide_eq_true hc.2.1
      have c2 := Nat.le_of_ble_eq_true hc.2.2.1
      have c3 := Nat.le_of_ble_eq_true hc.2.2.2
      have hne : vs ≠ [] := fun z => by
        have e0 : a = [] := List.eq_nil_of_length_eq_zero (by rw [← l1, z]; rfl)
        rw [e0] at hc
        simp at hc
      by_cases k0 : k = 0
      · subst k0
        refine WD.op_rep0 pins s σ H _ _ v u Q I rx ry ⟨p, vs, rfl, rfl, SqT.of g1, hne, fun r hr => ?_⟩
        exact g.tup fr (vs := []) rvs_nil hr
      · by_cases k1 : k = 1
        · subst k1
          refine WD.op_rep1 pins s σ H _ _ v u Q I rx ry ⟨p, vs, rfl, rfl, SqT.of g1, ?_⟩
          refine g H _ Grow.refl (rv_tup.mpr ⟨p, vs, rfl, n1, g1, ?_⟩)
          have e : rep 1 a = a := by unfold rep; simp
          rw [e]; exact r1
        · refine op_repT pins s σ H _ _ v u Q I rx ry ⟨p, k, vs, rfl, rfl, SqT.of g1, hne, by omega, by omega, by omega, fun r hr => g.tup fr (rvs_rep r1 _) hr⟩
    · cases e
  · cases e
theorem op_mulF (hK : X.K = K := by rfl) : OpR X (binaryOp .Mult) (rPF2 K mulF) := by
  obtain ⟨K, Kt⟩ := K; obtain rfl : X.K = K := hK
  intro pins s σ H x y v u Q I rx ry h
  obtain ⟨M, d1, d2, d, h1, h2, fr, e, g⟩ := h
  unfold mulF at e
  split at e
  · split at e
    · rename_i a k hc
      cases e
      obtain ⟨p, vs, rfl, g1, r1⟩ := h1
      cases vv_int h2
      have l1 := rvs_len r1
      rw [Bool.and_eq_true] at hc
      have c1 := bnd_ok hc.1
      have c2 := Nat.le_of_ble_eq_true hc.2
      exact op_rep pins s σ H _ _ v u Q I rx ry ⟨p, k, vs, rfl, rfl, g1, by omega, by omega, by rw [l1]; exact c2, fun r hr => g.lst (rvs_rep r1 _) hr⟩
    · cases e
  · cases e
theorem un_negV (hK : X.K = K := by rfl) : UnR X (unaryOp .USub) (rP1 K negV) := by
  intro pins s σ H x v Q I rx h
  obtain ⟨M, d1, d, h1, fr, e, g⟩ := h
  unfold negV at e
  split at e
  · cases e
    cases vv_int h1
    exact un_neg pins s σ H _ v Q I rx ⟨_, rfl, g.int⟩
  · cases e
end
/-! ### comparisons -/
def intsOf : List PV → Option (List Int)
  | [] => some []
  | .int i :: r => (intsOf r).map (i :: ·)
  | _ :: _ => none
theorem intsOf_map (l : List Int) : intsOf (l.map .int) = some l := by
  induction l with
  | nil => rfl
  | cons a l ih => show (intsOf (l.map .int)).map _ = _; rw [ih]; rfl
def ltV : PV → PV → Option PV
  | .int i, .int j => some (.bl (decide (i < j)))
  | .tup a, .tup b => match intsOf a, intsOf b with
    | some l, some m => some (.bl (HT.lexLt l m))
    | _, _ => none
  | _, _ => none
def leV : PV → PV → Option PV
  | .int i, .int j => some (.bl (decide (i ≤ j)))
  | _, _ => none
def gtV : PV → PV → Option PV
  | .int i, .int j => some (.bl (decide (j < i)))
  | _, _ => none
def geV : PV → PV → Option PV
  | .int i, .int j => some (.bl (decide (j ≤ i)))
  | _, _ => none
def scalB : PV → Bool
  | .non => true
  | .bl _ => true
  | .int _ => true
  | .str _ => true
  | _ => false
/-- x in y -/
def inV' : PV → PV → Option Bool
  | .str c, .str z => match c.cps.toList with
    | [k] => some (decide (k ∈ z.cps.toList))
    | _ => none
  | d, .lst l => if okD d && okD (.lst l) then some (l.any fun z => eqB z d) else none
  | d, .tup l => if scalB d && l.all scalB then some (l.any fun z => eqB z d) else none
  | d, .dic b ks vs => if keyB b d then some (dfind ks vs d).isSome else none
  | _, _ => none
def inPV (x y : PV) : Option PV := (inV' x y).map .bl
section
variable {X : Cx} {K : KT} {M : MS} {H : Hp} {v : V}
theorem ints_vals : ∀ {vs : List V} {ds : List PV} {l : List Int}, rvs K M H vs ds → intsOf ds = some l → vs = l.map V.int
  | [], [], l, _, e => by cases e; rfl
  | v :: vs, .int i :: ds, l, h, e => by
    rw [rvs_cons] at h
    obtain ⟨l', e1, rfl⟩ := Option.map_eq_some_iff.mp e
    rw [rv_int.mp h.1, ints_vals h.2 e1]
    rfl
  | _ :: _, .non :: _, _, _, e => by cases e
  | _ :: _, .bl _ :: _, _, _, e => by cases e
  | _ :: _, .str _ :: _, _, _, e => by cases e
  | _ :: _, .tup _ :: _, _, _, e => by cases e
  | _ :: _, .lst _ :: _, _, _, e => by cases e
  | _ :: _, .dic _ _ _ :: _, _, _, e => by cases e
  | _ :: _, .obj _ _ _ :: _, _, _, e => by cases e
  | [], _ :: _, _, h, _ => by unfold rvs at h; exact h.elim
  | _ :: _, [], _, h, _ => by unfold rvs at h; exact h.elim
theorem op_ltV (hu : X.A.units < cLine) (hK : X.K = K := by rfl) : OpR X (compareOp .Lt) (rP2 K ltV) := by
  obtain ⟨K, Kt⟩ := K; obtain rfl : X.K = K := hK
  intro pins s σ H x y v u Q I rx ry h
  obtain ⟨M, d1, d2, d, h1, h2, fr, e, g⟩ := h
  unfold ltV at e
  split at e
  · cases e
    cases vv_int h1; cases vv_int h2
    exact op_lt pins s σ H _ _ v u Q I rx ry ⟨_, _, rfl, rfl, g.bl⟩
  · split at e
    · rename_i a b l m e1 e2
      cases e
      obtain ⟨p, vs, rfl, n1, g1, r1⟩ := vv_tup h1
      obtain ⟨q, ws, rfl, n2, g2, r2⟩ := vv_tup h2
      have z1 := ints_vals r1 e1
      have z2 := ints_vals r2 e2
      subst z1 z2
      exact op_ltT hu pins s σ H _ _ v u Q I rx ry ⟨p, q, l, m, rfl, rfl, SqT.of g1, SqT.of g2, g.bl⟩
    · cases e
  · cases e
theorem op_leV (hK : X.K = K := by rfl) : OpR X (compareOp .LtE) (rP2 K leV) := by
  intro pins s σ H x y v u Q I rx ry h
  obtain ⟨M, d1, d2, d, h1, h2, fr, e, g⟩ := h
  unfold leV at e
  split at e
  · cases e
    cases vv_int h1; cases vv_int h2
    exact op_le pins s σ H _ _ v u Q I rx ry ⟨_, _, rfl, rfl, g.bl⟩
  · cases e
theorem op_gtV (hK : X.K = K := by rfl) : OpR X (compareOp .Gt) (rP2 K gtV) := by
  intro pins s σ H x y v u Q I rx ry h
  obtain ⟨M, d1, d2, d, h1, h2, fr, e, g⟩ := h
  unfold gtV at e
  split at e
  · cases e
    cases vv_int h1; cases vv_int h2
    exact op_gt pins s σ H _ _ v u Q I rx ry ⟨_, _, rfl, rfl, g.bl⟩
  · cases e
theorem op_geV (hK : X.K = K := by rfl) : OpR X (compareOp .GtE) (rP2 K geV) := by
  intro pins s σ H x y v u Q I rx ry h
  obtain ⟨M, d1, d2, d, h1, h2, fr, e, g⟩ := h
  unfold geV at e
  split at e
  · cases e
    cases vv_int h1; cases vv_int h2
    exact op_ge pins s σ H _ _ v u Q I rx ry ⟨_, _, rfl, rfl, g.bl⟩
  · cases e
theorem datas_any (l : List PV) (p : PyData → Bool) : (datas l).any p = l.any fun z => p z.data := by
  induction l with
  | nil => unfold datas; rfl
  | cons a l ih => unfold datas; rw [List.any_cons, List.any_cons, ih]
theorem scal_flat : ∀ {d : PV}, scalB d = true → vv K M H v d → flatV v = true
  | .non, _, h => by rw [vv_non h]; rfl
  | .bl _, _, h => by rw [vv_bl h]; rfl
  | .int _, _, h => by rw [vv_int h]; rfl
  | .str _, _, h => by rw [(vv_str h).1]; rfl
  | .tup _, f, _ => by cases f
  | .lst _, f, _ => by cases f
  | .dic _ _ _, f, _ => by cases f
  | .obj _ _ _, f, _ => by cases f
theorem scal_eq : ∀ {d e : PV} {u : V}, scalB d = true → scalB e = true → vv K M H v d → rv K M H u e → L2.eqV v u = eqB d e := by
  intro d e u f1 f2 h1 h2
  have h2 := vv_of h2
  cases d <;> (first | cases f1 | skip) <;> cases e <;> (first | cases f2 | skip) <;> (
    first
    | rw [vv_non h1] | rw [vv_bl h1] | rw [vv_int h1] | rw [(vv_str h1).1]) <;> (
    first
    | rw [vv_non h2] | rw [vv_bl h2] | rw [vv_int h2] | rw [(vv_str h2).1]) <;> simp only [L2.eqV, eqB, PV.data, PyData.eqv]
theorem scal_any {d : PV} {u : V} (f : scalB d = true) (h : vv K M H u d) : ∀ {vs : List V} {ds : List PV}, ds.all scalB = true → rvs K M H vs ds → vs.all flatV = true ∧ inV u vs = ds.any fun z => eqB z d := by
  intro vs ds
  induction ds generalizing vs with
  | nil => intro _ r; have := rvs_len r; cases List.eq_nil_of_length_eq_zero this; exact ⟨rfl, rfl⟩
  | cons e ds ih =>
    intro hf r
    cases vs with
    | nil => unfold rvs at r; exact r.elim
    | cons w vs =>
      rw [rvs_cons] at r
      rw [List.all_cons, Bool.and_eq_true] at hf
      obtain ⟨g1, g2⟩ := ih hf.2 r.2
      have k1 := scal_flat hf.1 (vv_of r.1)
      have k2 : L2.eqV w u = eqB e d := by
        have hd : rv K M H u d := by
          cases d <;> first | exact h | cases f
        exact scal_eq hf.1 f (vv_of r.1) hd
      refine ⟨by rw [List.all_cons, k1, g1]; rfl, ?_⟩
      show (L2.eqV w u || inV u vs) = _
      rw [k2, g2, List.any_cons]
theorem op_inX (neg : Bool) (hu : X.A.units + 65 < cLine) (hK : X.K = K := by rfl) : OpR X (compareOp (if neg then .NotIn else .In)) (rP2 K fun x y => (inV' x y).map fun b => .bl (if neg then !b else b)) := by
  obtain ⟨K, Kt⟩ := K; obtain rfl : X.K = K := hK
  intro pins s σ H x y v u Q I rx ry h
  obtain ⟨M, d1, d2, d, h1, h2, fr, e0, g⟩ := h
  obtain ⟨b, e, ed⟩ := Option.map_eq_some_iff.mp e0
  subst ed
  clear e0
  have g := g.bl
  unfold inV' at e
  split at e
  · split at e
    · rename_i c z _ k hk
      cases e
      obtain ⟨rfl, _⟩ := vv_str h1
      obtain ⟨rfl, _⟩ := vv_str h2
      have hc : c = ⟨#[k]⟩ := by
        obtain ⟨cp⟩ := c
        congr 1
        have : cp.toList = [k] := hk
        rw [← Array.toArray_toList (xs := cp), this]
      subst hc
      cases neg
      · exact op_inS pins s σ H _ _ v u Q I rx ry ⟨k, z, rfl, rfl, g⟩
      · exact op_notInS pins s σ H _ _ v u Q I rx ry ⟨k, z, rfl, rfl, g⟩
    · cases e
  · split at e
    · rename_i l hc
      cases e
      rw [Bool.and_eq_true] at hc
      obtain ⟨p1, p2⟩ := okD_dp hc.1 h1
      obtain ⟨q1, q2⟩ := okD_dp hc.2 h2
      have ea : (l.any fun z => eqB z d1) = (datas l).any fun z => PyData.eqv z d1.data := (datas_any l (fun z => PyData.eqv z d1.data)).symm
      rw [ea] at g
      unfold PV.data at q1 q2
      cases neg
      · exact op_inD hu pins s σ H _ _ v u Q I rx ry ⟨_, _, p1, q1, p2, q2, g⟩
      · exact op_notInD hu pins s σ H _ _ v u Q I rx ry ⟨_, _, p1, q1, p2, q2, g⟩
    · cases e
  · split at e
    · rename_i l hc
      cases e
      rw [Bool.and_eq_true] at hc
      obtain ⟨p, vs, rfl, n1, g1, r1⟩ := vv_tup h2
      obtain ⟨k1, k2⟩ := scal_any hc.1 h1 hc.2 r1
      have k3 := scal_flat hc.1 h1
      cases neg
      · refine op_in_seq pins s σ H _ _ v u Q I rx ry ⟨p, vs, rfl, .inr (SqT.of g1), k3, k1, ?_⟩
        rw [k2]
        exact g
      · refine op_notIn_seq pins s σ H _ _ v u Q I rx ry ⟨p, vs, rfl, .inr (SqT.of g1), k3, k1, ?_⟩
        rw [k2]
        exact g
    · cases e
  · split at e
    · rename_i b ks ds hk
      cases e
      obtain ⟨a, vs, rfl, hd, r⟩ := h2
      have hu1 : X.A.units + 1 < cLine := by omega
      rcases dget_rel hd r h1 hk with ⟨d, z, e1, g1, _⟩ | ⟨e1, g1⟩
      · rw [e1] at g
        cases neg
        · exact op_inDict hu1 pins s σ H _ _ v u Q I rx ry ⟨a, _, rfl, g1, g⟩
        · exact op_notInDict hu1 pins s σ H _ _ v u Q I rx ry ⟨a, _, rfl, g1, g⟩
      · rw [e1] at g
        cases neg
        · exact op_inDict hu1 pins s σ H _ _ v u Q I rx ry ⟨a, _, rfl, g1, g⟩
        · exact op_notInDict hu1 pins s σ H _ _ v u Q I rx ry ⟨a, _, rfl, g1, g⟩
    · cases e
  · cases e
theorem op_inV (hu : X.A.units + 65 < cLine) (hK : X.K = K := by rfl) : OpR X (compareOp .In) (rP2 K inPV) := op_inX false hu hK
end
end PM
namespace PM
open PySem PySem.Spec PyProof.Rows L2
open WD (MS upd_none)
/-! ### items, slices -/
def atV : PV → PV → Option PV
  | .lst l, .int i => atI l i
  | .tup l, .int i => atI l i
  | .str z, .int i => if z.length ≤ sizeLine then (atI z.cps.toList i).map fun c => .str ⟨#[c]⟩ else none
  | .dic b ks vs, k => if keyB b k then dfind ks vs k else none
  | _, _ => none
def cutG {α : Type} (xs : List α) (lo hi : Option Int) : List α := (xs.drop (HT.sIx xs.length 0 lo)).take (HT.sIx xs.length xs.length hi - HT.sIx xs.length 0 lo)
def slV (lo hi : Option Int) : PV → Option PV
  | .lst l => some (.lst (cutG l lo hi))
  | .tup l => some (.tup (cutG l lo hi))
  | .str z => if z.length ≤ sizeLine then some (.str (cutS z lo hi)) else none
  | _ => none
def slF (lo hi : Option Int) : PV → Option (List PV)
  | .lst l => some (cutG l lo hi)
  | _ => none
abbrev MO := Sl → Store → R (Option Int)
def oNone : MO := fun _ μ => .ok none μ
def gOpt : Val → Store → R (Option Int)
  | .t (.int i), μ => .ok (some i) μ
  | _, _ => .stuck
def oSome (f : ME) : MO := e1 gOpt f
def eSl {α : Type} (g : Option Int → Option Int → Val → Store → R α) (a : ME) (lo hi : MO) : Sl → Store → R α := fun σ μ => (a σ μ).bind fun w μ1 => (lo σ μ1).bind fun l μ2 => (hi σ μ2).bind fun h μ3 => g l h w μ3
def tO (K : KT) (ξ : Xi) (W : WX) (f : MO) : TO := fun σr H Q => ∃ N ζ μ σ, Wd K N ζ μ H ∧ Sok K ξ ζ (MM N ζ μ) H σr σ ∧ PostT K W N ζ μ H σr Q (f σ μ)
abbrev IO (K : KT) (ξ : Xi) (W : WX) (X : Cx) (e : Option Expr) (f : MO) : Prop := PO X e (tO K ξ W f)
theorem PO.of {X : Cx} {e : Option Expr} {t t' : TO} (h : PO X e t) (k : ∀ σ H Q, t' σ H Q → t σ H Q) : PO X e t' := ⟨fun pins s σ H Q I q => h.run pins s σ H Q I (k σ H Q q)⟩
section
variable {X : Cx} {K : KT} {ξ : Xi} {W : WX} {M : MS} {H : Hp} {v : V} {a b e : Expr} {fa fb : ME} {pos : Pos}
theorem rvs_atI {vs : List V} {ds : List PV} {i : Int} {d : PV} (h : rvs K M H vs ds) (e : atI ds i = some d) : ∃ v, atI vs i = some v ∧ rv K M H v d := by
  unfold atI at e ⊢
  rw [rvs_len h]
  cases e2 : ixN ds.length i with
  | none => rw [e2] at e; cases e
  | some j =>
    rw [e2] at e
    obtain ⟨v, h1, h2⟩ := rvs_at h e
    exact ⟨v, h1, h2⟩
theorem rvs_cut {vs : List V} {ds : List PV} (h : rvs K M H vs ds) (lo hi : Option Int) : rvs K M H (cutV vs lo hi) (cutG ds lo hi) := by
  unfold cutV cutG
  rw [rvs_len h]
  exact rvs_take _ (rvs_drop _ h)
theorem strOk_sub {z : Str} {l : List Nat} (h : PyData.strOk z = true) (s : ∀ c ∈ l, c ∈ z.cps.toList) : PyData.strOk ⟨l.toArray⟩ = true := by
  unfold PyData.strOk at *
  rw [Array.all_eq_true_iff_forall_mem] at h ⊢
  intro c hc
  exact h c (by rw [← Array.mem_toList_iff]; exact s c (by simpa using hc))
theorem ix_V (hu : X.A.units + 1 < cLine) (hK : X.K = K := by rfl) : IxR X (rP2 K atV) := by
  obtain ⟨K, Kt⟩ := K; obtain rfl : X.K = K := hK
  intro val sl pins s σ H x y v u Q I rx ry h hs
  obtain ⟨M, d1, d2, d, h1, h2, fr, e, g⟩ := h
  unfold atV at e
  split at e
  · obtain ⟨p, vs, rfl, g1, r1⟩ := h1
    cases vv_int h2
    obtain ⟨z, z1, z2⟩ := rvs_atI r1 e
    exact ix_list val sl pins s σ H _ _ v u Q I rx ry ⟨p, vs, _, z, rfl, rfl, SqL.of g1, z1, g H _ Grow.refl z2⟩ hs
  · obtain ⟨p, vs, rfl, n1, g1, r1⟩ := vv_tup h1
    cases vv_int h2
    obtain ⟨z, z1, z2⟩ := rvs_atI r1 e
    exact ix_tup val sl pins s σ H _ _ v u Q I rx ry ⟨p, vs, _, z, rfl, rfl, SqT.of g1, z1, g H _ Grow.refl z2⟩ hs
  · split at e
    · rename_i z i hz
      obtain ⟨rfl, so⟩ := vv_str h1
      cases vv_int h2
      obtain ⟨c, c1, c2⟩ := Option.map_eq_some_iff.mp e
      subst c2
      refine ix_str val sl pins s σ H _ _ v u Q I rx ry ⟨z, i, c, rfl, rfl, hz, c1, g.str (strOk_sub (l := [c]) so fun c' hc' => ?_)⟩ hs
      rw [List.mem_singleton.mp hc']
      unfold atI at c1
      cases e2 : ixN z.cps.toList.length i with
      | none => rw [e2] at c1; cases c1
      | some j => rw [e2] at c1; exact List.mem_of_getElem? c1
    · cases e
  · split at e
    · rename_i b ks ds k hk
      obtain ⟨a, vs, rfl, hd, r⟩ := h1
      rcases dget_rel hd r h2 hk with ⟨d', z, e1, g1, r1⟩ | ⟨e1, g1⟩
      · rw [e1] at e
        cases e
        exact ix_dict hu val sl pins s σ H _ _ v u Q I rx ry ⟨a, z, rfl, g1, g H _ Grow.refl r1⟩ hs
      · rw [e1] at e
        cases e
    · cases e
  · cases e
theorem i_ix (hu : X.A.units + 1 < cLine) (ha : IE K ξ W X a fa) (hb : IE K ξ W X b fb) (hp : PlainIx b) (hK : X.K = K := by rfl) : IE K ξ W X (.Subscript a b pos) (e2 (p2 atV) fa fb) := PE.of (pe_ix (ix_V hu hK) ha hb hp) fun σr H Q q => by
  obtain ⟨N, ζ, μ, σ, wd, so, q⟩ := q
  refine (then1 wd so q).mono fun x H1 ⟨ζ1, μ1, w1, ev1, wd1, so1, r1, q1⟩ => ?_
  refine (then1 wd1 so1 q1).mono fun y H2 ⟨ζ2, μ2, w2, ev2, wd2, so2, r2, q2⟩ => ?_
  exact read_p2 wd2 (r1.ev ev2) r2 q2
theorem sl_V (hK : X.K = K := by rfl) : SlR X (fun x lo hi H Q => rP1 K (slV lo hi) x H Q) := by
  obtain ⟨K, Kt⟩ := K; obtain rfl : X.K = K := hK
  intro pins s σ H x v vl vu lo hi sl Q I rx hsl hl hu h
  obtain ⟨M, d1, d, h1, fr, e, g⟩ := h
  unfold slV at e
  split at e
  · cases e
    obtain ⟨p, vs, rfl, g1, r1⟩ := h1
    exact sl_list pins s σ H _ v vl vu lo hi sl Q I rx hsl hl hu ⟨p, vs, rfl, SqL.of g1, fun q hq => g.lst fr (rvs_cut r1 lo hi) hq⟩
  · cases e
    rename_i l
    obtain ⟨p, vs, rfl, n1, g1, r1⟩ := vv_tup h1
    refine sl_tupA pins s σ H _ v vl vu lo hi sl Q I rx hsl hl hu ⟨p, vs, rfl, SqT.of g1, fun z => ?_, fun _ q hq => g.tup fr (rvs_cut r1 lo hi) hq⟩
    have ec : cutG l lo hi = l := by
      unfold cutG
      rw [← rvs_len r1, z.1, z.2, List.drop_zero, Nat.sub_zero, rvs_len r1, List.take_length]
    rw [ec] at g
    exact g H _ Grow.refl (rv_tup.mpr ⟨p, vs, rfl, n1, g1, r1⟩)
  · split at e
    · cases e
      obtain ⟨rfl, so⟩ := vv_str h1
      refine sl_str pins s σ H _ v vl vu lo hi sl Q I rx hsl hl hu ⟨_, rfl, by assumption, g.str ?_⟩
      exact strOk_sub so fun c hc => List.mem_of_mem_drop (List.mem_of_mem_take hc)
    · cases e
  · cases e
theorem sl_F (hK : X.K = K := by rfl) : SlR X (fun x lo hi H Q => rPF1 K (slF lo hi) x H Q) := by
  obtain ⟨K, Kt⟩ := K; obtain rfl : X.K = K := hK
  intro pins s σ H x v vl vu lo hi sl Q I rx hsl hl hu h
  obtain ⟨M, d1, d, h1, fr, e, g⟩ := h
  unfold slF at e
  split at e
  · cases e
    obtain ⟨p, vs, rfl, g1, r1⟩ := h1
    exact sl_list pins s σ H _ v vl vu lo hi sl Q I rx hsl hl hu ⟨p, vs, rfl, SqL.of g1, fun q hq => g.lst (rvs_cut r1 lo hi) hq⟩
  · cases e
theorem o_none : IO K ξ W X none oNone := PO.of po_none fun σr H Q q => by
  obtain ⟨N, ζ, μ, σ, wd, so, q⟩ := q
  exact q ζ H Ev.refl wd
theorem o_some (ha : IE K ξ W X a fa) : IO K ξ W X (some a) (oSome fa) := PO.of (po_some ha) fun σr H Q q => by
  obtain ⟨N, ζ, μ, σ, wd, so, q⟩ := q
  refine (then1T wd so q).mono fun x H1 ⟨ζ1, μ1, w1, ev1, wd1, so1, r1, q1⟩ => ?_
  unfold gOpt at q1
  split at q1
  · rename_i i
    exact ⟨i, rv_int.mp (show rv K (MM N ζ1 μ1) H1 x (.int i) from r1), q1 ζ1 H1 Ev.refl wd1⟩
  · exact q1.elim
variable {N : MS} {ζ : List Addr} {μ : Store} {σr : L2.St} {σ : Sl}
theorem thenO {Q : VK} {t : MO} {g : Option Int → Store → R Val} (wd : Wd K N ζ μ H) (so : Sok K ξ ζ (MM N ζ μ) H σr σ) (h : PostE K ξ W N ζ μ H σr Q ((t σ μ).bind g)) :
    tO K ξ W t σr H fun b H1 => ∃ ζ1 μ1, Ev K.tb ζ μ H ζ1 μ1 H1 ∧ Wd K N ζ1 μ1 H1 ∧ Sok K ξ ζ1 (MM N ζ1 μ1) H1 σr σ ∧ PostE K ξ W N ζ1 μ1 H1 σr Q (g b μ1) := by
  refine ⟨N, ζ, μ, σ, wd, so, ?_⟩
  cases e : t σ μ with
  | ok w1 μ1 => rw [e] at h; exact fun ζ' H' ev w => ⟨ζ', μ1, ev, w, so.ev ev, h.ev ev⟩
  | ex c f μ1 => rw [e] at h; exact h
  | stuck => rw [e] at h; exact h
theorem thenOF {Q : VK} {t : MO} {g : Option Int → Store → R (List PV)} (wd : Wd K N ζ μ H) (so : Sok K ξ ζ (MM N ζ μ) H σr σ) (h : PostF K W N ζ μ H σr Q ((t σ μ).bind g)) :
    tO K ξ W t σr H fun b H1 => ∃ ζ1 μ1, Ev K.tb ζ μ H ζ1 μ1 H1 ∧ Wd K N ζ1 μ1 H1 ∧ Sok K ξ ζ1 (MM N ζ1 μ1) H1 σr σ ∧ PostF K W N ζ1 μ1 H1 σr Q (g b μ1) := by
  refine ⟨N, ζ, μ, σ, wd, so, ?_⟩
  cases e : t σ μ with
  | ok w1 μ1 => rw [e] at h; exact fun ζ' H' ev w => ⟨ζ', μ1, ev, w, so.ev ev, h.ev ev⟩
  | ex c f μ1 => rw [e] at h; exact h
  | stuck => rw [e] at h; exact h
theorem tO.mono {t : MO} {Q Q' : Option Int → Hp → Prop} (h : tO K ξ W t σr H Q) (k : ∀ v H', Q v H' → Q' v H') : tO K ξ W t σr H Q' := by
  obtain ⟨N, ζ, μ, σ, wd, so, h⟩ := h
  refine ⟨N, ζ, μ, σ, wd, so, ?_⟩
  cases e : t σ μ with
  | ok w1 μ1 => rw [e] at h; exact fun ζ' H' ev w => k _ _ (h ζ' H' ev w)
  | ex c f μ1 => rw [e] at h; exact h
  | stuck => rw [e] at h; exact h
theorem i_sl {lo hi : Option Expr} {fl fh : MO} {p2 : Pos} (ha : IE K ξ W X a fa) (hl : IO K ξ W X lo fl) (hh : IO K ξ W X hi fh) (hK : X.K = K := by rfl) : IE K ξ W X (.Subscript a (.Slice lo hi none p2) pos) (eSl (fun l h => p1 (slV l h)) fa fl fh) := PE.of (pe_slice (sl_V hK) ha hl hh) fun σr H Q q => by
  obtain ⟨N, ζ, μ, σ, wd, so, q⟩ := q
  refine (then1 wd so q).mono fun x H1 ⟨ζ1, μ1, w1, ev1, wd1, so1, r1, q1⟩ => ?_
  refine (thenO wd1 so1 q1).mono fun l H2 ⟨ζ2, μ2, ev2, wd2, so2, q2⟩ => ?_
  refine (thenO wd2 so2 q2).mono fun h H3 ⟨ζ3, μ3, ev3, wd3, so3, q3⟩ => ?_
  exact read_p1 wd3 ((r1.ev ev2).ev ev3) q3
theorem f_sl {lo hi : Option Expr} {fl fh : MO} {p2 : Pos} (ha : IE K ξ W X a fa) (hl : IO K ξ W X lo fl) (hh : IO K ξ W X hi fh) (hK : X.K = K := by rfl) : IF K ξ W X (.Subscript a (.Slice lo hi none p2) pos) (eSl (fun l h => pf1 (slF l h)) fa fl fh) := PE.of (pe_slice (sl_F hK) ha hl hh) fun σr H Q q => by
  obtain ⟨N, ζ, μ, σ, wd, so, q⟩ := q
  refine (then1F wd so q).mono fun x H1 ⟨ζ1, μ1, w1, ev1, wd1, so1, r1, q1⟩ => ?_
  refine (thenOF wd1 so1 q1).mono fun l H2 ⟨ζ2, μ2, ev2, wd2, so2, q2⟩ => ?_
  refine (thenOF wd2 so2 q2).mono fun h H3 ⟨ζ3, μ3, ev3, wd3, so3, q3⟩ => ?_
  exact read_pf1 wd3 ((r1.ev ev2).ev ev3) q3
/-- x[::-1] -/
def revV : PV → Option PV
  | .lst l => some (.lst l.reverse)
  | .tup l => some (.tup l.reverse)
  | _ => none
theorem i_rev {k : Nat} {p1 p2 p3 : Pos} (ha : IE K ξ W X a fa) (hK : X.K = K := by rfl) : IE K ξ W X (.Subscript a (.Slice none none (some (.UnaryOp .USub (.Constant (.int 1) k p1) p2)) p3) pos) (e1 (PM.p1 revV) fa) := by
  obtain ⟨K, Kt⟩ := K; obtain rfl : X.K = K := hK
  refine PE.pick fun σr H Q q => ?_
  obtain ⟨N, ζ, μ, σ, wd, so, q⟩ := q
  have key := then1 wd so q
  cases ea : fa σ μ with
  | ex c f μ1 =>
    refine ⟨_, pe_revL ha, ?_⟩
    refine ⟨N, ζ, μ, σ, wd, so, ?_⟩
    unfold e1 at q
    rw [ea] at q ⊢
    exact q
  | stuck =>
    unfold e1 at q
    rw [ea] at q
    exact q.elim
  | ok w μ1 =>
    unfold e1 at q
    rw [ea] at q
    have q' : PostE ⟨X.K, Kt⟩ ξ W N ζ μ H σr Q (PM.p1 revV w μ1) := q
    cases ev : view μ1 w with
    | none => unfold PM.p1 at q'; rw [ev] at q'; exact q'.elim
    | some d =>
      cases d with
      | lst l =>
        refine ⟨_, pe_revL ha, ⟨N, ζ, μ, σ, wd, so, ?_⟩⟩
        rw [ea]
        intro ζ' H' v ev1 wd1 r1
        obtain ⟨M, d1, d, h1, fr, e2, g⟩ := read_p1 wd1 r1 (q'.ev ev1)
        obtain ⟨p, vs, rfl, g1, r2⟩ := r1.view wd1 ev
        refine ⟨p, vs, rfl, SqL.of g1, fun q hq => ?_⟩
        refine q'.ev ev1 |> fun z => ?_
        unfold PM.p1 at z
        rw [ev] at z
        exact (postE_p wd1 z).lst wd1.fre (rvs_rev r2) hq
      | tup l =>
        refine ⟨_, WD.pe_revT ha, ⟨N, ζ, μ, σ, wd, so, ?_⟩⟩
        rw [ea]
        intro ζ' H' v ev1 wd1 r1
        obtain ⟨p, vs, rfl, n1, g1, r2⟩ := vv_tup (r1.view wd1 ev)
        refine ⟨p, vs, rfl, SqT.of g1, fun q hq => ?_⟩
        refine q'.ev ev1 |> fun z => ?_
        unfold PM.p1 at z
        rw [ev] at z
        exact (postE_p wd1 z).tup wd1.fre (rvs_rev r2) hq
      | non => unfold PM.p1 at q'; rw [ev] at q'; exact q'.elim
      | bl _ => unfold PM.p1 at q'; rw [ev] at q'; exact q'.elim
      | int _ => unfold PM.p1 at q'; rw [ev] at q'; exact q'.elim
      | str _ => unfold PM.p1 at q'; rw [ev] at q'; exact q'.elim
      | dic _ _ _ => unfold PM.p1 at q'; rw [ev] at q'; exact q'.elim
      | obj _ _ _ => unfold PM.p1 at q'; rw [ev] at q'; exact q'.elim
theorem i_un {op : UnaryOp} {g : PV → Option PV} (r : UnR X (unaryOp op) (rP1 K g)) (ha : IE K ξ W X a fa) : IE K ξ W X (.UnaryOp op a pos) (e1 (p1 g) fa) := PE.of (pe_un r ha) fun σr H Q q => by
  obtain ⟨N, ζ, μ, σ, wd, so, q⟩ := q
  refine (then1 wd so q).mono fun x H1 ⟨ζ1, μ1, w1, ev1, wd1, so1, r1, q1⟩ => ?_
  exact read_p1 wd1 r1 q1
/-- a < b < c -/
def eChain (g h : PV → PV → Option PV) (a b c : ME) : ME := fun σ μ => (a σ μ).bind fun w μ1 => (b σ μ1).bind fun u μ2 => (p2 g w u μ2).bind (gBl fun k μ3 => if k then (c σ μ3).bind fun z μ4 => p2 h u z μ4 else .ok (.t (.bl false)) μ3)
end
end PM
namespace PM
open PySem PySem.Spec PyProof.Rows L2
open WD (MS upd_none)
section
variable {X : Cx} {K : KT} {ξ : Xi} {W : WX} {N : MS} {ζ : List Addr} {μ : Store} {H : Hp} {σr : L2.St} {σ : Sl} {v : V} {a b c e : Expr} {es : List Expr} {fa fb fc : ME} {fs : Sl → Store → R (List Val)} {pos : Pos}
/-- a pure operator, then a step -/
theorem read_p2then {x y : V} {w u : Val} {g : PV → PV → Option PV} {Q : VK} {k : Val → Store → R Val} (wd : Wd K N ζ μ H) (r : RV K ξ ζ (MM N ζ μ) H x w) (r' : RV K ξ ζ (MM N ζ μ) H y u) (h : PostE K ξ W N ζ μ H σr Q ((p2 g w u μ).bind k)) :
    rP2 K g x y H fun z H' => ∃ d, Grow H H' ∧ rv K (MM N ζ μ) H' z d ∧ PostE K ξ W N ζ μ H' σr Q (k (.t d) μ) := by
  unfold p2 at h
  split at h
  · rename_i d d2 e e'
    cases e2 : g d d2 with
    | none => rw [e2] at h; exact h.elim
    | some d' =>
      rw [e2] at h
      exact ⟨_, d, d2, d', r.view wd e, r'.view wd e', wd.fre, e2, fun H' v gr rr => ⟨d', gr, rr, PostE.ev gr.ev h⟩⟩
  · exact h.elim
theorem i_chain {op op' : CmpOp} {g h : PV → PV → Option PV} (r : OpR X (compareOp op) (rP2 K g)) (r' : OpR X (compareOp op') (rP2 K h)) (ha : IE K ξ W X a fa) (hb : IE K ξ W X b fb) (hc : IE K ξ W X c fc) (hm : lastMarks [op, op'] [b, c] = false := by rfl) :
    IE K ξ W X (.Compare a [op, op'] [b, c] pos) (eChain g h fa fb fc) := PE.of (pe_chain r r' ha hb hc hm) fun σr H Q q => by
  obtain ⟨N, ζ, μ, σ, wd, so, q⟩ := q
  refine (then1 wd so q).mono fun x H1 ⟨ζ1, μ1, w1, ev1, wd1, so1, r1, q1⟩ => ?_
  refine (then1 wd1 so1 q1).mono fun y H2 ⟨ζ2, μ2, w2, ev2, wd2, so2, r2, q2⟩ => ?_
  obtain ⟨M, d1, d2, d, h1, h2, fr, e, gv⟩ := read_p2then wd2 (r1.ev ev2) r2 q2
  refine ⟨M, d1, d2, d, h1, h2, fr, e, fun H' z gr rz => ?_⟩
  obtain ⟨d', gr', rz', q3⟩ := gv H' z gr rz
  have wd3 := wd2.fr0 gr'
  obtain ⟨k, hk, q3⟩ := PostE.bl (w := .t d') wd3 rz' q3
  refine ⟨k, hk, ?_⟩
  cases k with
  | false => exact iteF (q3 ζ2 H' _ Ev.refl wd3 RV.blI)
  | true =>
    refine iteT ?_
    refine (then1 wd3 (so2.ev gr'.ev) q3).mono fun z H3 ⟨ζ3, μ3, w3, ev3, wd4, so3, r3, q4⟩ => ?_
    exact read_p2 wd4 ((r2.ev gr'.ev).ev ev3) r3 q4
theorem t_chain {op op' : CmpOp} {g h : PV → PV → Option PV} (r : OpR X (compareOp op) (rP2 K g)) (r' : OpR X (compareOp op') (rP2 K h)) (ha : IE K ξ W X a fa) (hb : IE K ξ W X b fb) (hc : IE K ξ W X c fc) (hm : lastMarks [op, op'] [b, c] = false := by rfl) :
    IT K ξ W X (.Compare a [op, op'] [b, c] pos) (tVal (eChain g h fa fb fc)) := PT.of (pt_chain r r' ha hb hc hm) fun σr H Q q => by
  obtain ⟨N, ζ, μ, σ, wd, so, q⟩ := q
  have q' := then1T (a := eChain g h fa fb fc) wd so q
  obtain ⟨N', ζ', μ', σ', wd', so', q'⟩ := q'
  refine (then1 wd' so' q').mono fun x H1 ⟨ζ1, μ1, w1, ev1, wd1, so1, r1, q1⟩ => ?_
  refine (then1 wd1 so1 q1).mono fun y H2 ⟨ζ2, μ2, w2, ev2, wd2, so2, r2, q2⟩ => ?_
  obtain ⟨M, d1, d2, d, h1, h2, fr, e, gv⟩ := read_p2then wd2 (r1.ev ev2) r2 q2
  refine ⟨M, d1, d2, d, h1, h2, fr, e, fun H' z gr rz => ?_⟩
  obtain ⟨d', gr', rz', q3⟩ := gv H' z gr rz
  have wd3 := wd2.fr0 gr'
  obtain ⟨k, hk, q3⟩ := PostE.bl (w := .t d') wd3 rz' q3
  refine ⟨k, hk, ?_⟩
  have fin : ∀ {z : V} {H3 : Hp}, (∃ ζ1 μ1 w1, Ev K.tb ζ μ H ζ1 μ1 H3 ∧ Wd K N ζ1 μ1 H3 ∧ Sok K ξ ζ1 (MM N ζ1 μ1) H3 σr σ ∧ RV K ξ ζ1 (MM N ζ1 μ1) H3 z w1 ∧ PostT K W N ζ1 μ1 H3 σr Q (gBl (fun c μ1 => .ok c μ1) w1 μ1)) → ∃ k, z = .bl k ∧ Q k H3 := by
    rintro z H3 ⟨ζ5, μ5, w5, ev5, wd5, so5, r5, q5⟩
    obtain ⟨c, hc, q5⟩ := PostT.bl wd5 r5 q5
    exact ⟨c, hc, q5 ζ5 H3 Ev.refl wd5⟩
  cases k with
  | false => exact iteF (fin (q3 ζ2 H' _ Ev.refl wd3 RV.blI))
  | true =>
    refine iteT ?_
    refine (then1 wd3 (so2.ev gr'.ev) q3).mono fun z H3 ⟨ζ3, μ3, w3, ev3, wd4, so3, r3, q4⟩ => ?_
    obtain ⟨M, d1, d2, d, h1, h2, h3, h4, h5⟩ := read_p2 wd4 ((r2.ev gr'.ev).ev ev3) r3 q4
    exact ⟨M, d1, d2, d, h1, h2, h3, h4, fun H4 v4 g4 r4 => fin (h5 H4 v4 g4 r4)⟩

/-! ### built-in calls -/
theorem i_callB {x : Str} {p : Pos} {id : String} {g : List PV → Option PV} (r : CallR X (.builtin id) (rPN K g)) (hg : Gl X x) (hm : X.mg x = none) (hb : bootBuiltins x = some (.builtin id)) (ha : IA K ξ W X (e :: es) fs) (hn : x ≠ "__name__" := by decide) (hd : (x == ("__debug__" : Str)) = false := by decide)
    (hs : starEach (e :: es) X.env = (false, eval e X.env) :: starEach es X.env := by rfl) (hp : ((backTo pos (starEach es X.env)).any (·.1)) = false := by rfl) : IE K ξ W X (.Call (.Name x p) (e :: es) [] pos) (eN (pN g) fs) := PE.of (pe_callB r hg hm hb ha hn hd hs hp) fun σr H Q q => by
  obtain ⟨N, ζ, μ, σ, wd, so, q⟩ := q
  refine (thenN wd so q).mono fun xs H1 ⟨ζ1, μ1, ws, ev1, wd1, so1, r1, q1⟩ => read_pN wd1 r1 q1
theorem i_callTy {x : Str} {p : Pos} {T : String} {g : List PV → Option PV} (r : CallR X (.type T) (rPN K g)) (hg : Gl X x) (hm : X.mg x = none) (hb : bootBuiltins x = some (.type T)) (ha : IA K ξ W X (e :: es) fs) (hn : x ≠ "__name__" := by decide) (hd : (x == ("__debug__" : Str)) = false := by decide)
    (hs : starEach (e :: es) X.env = (false, eval e X.env) :: starEach es X.env := by rfl) (hp : ((backTo pos (starEach es X.env)).any (·.1)) = false := by rfl) : IE K ξ W X (.Call (.Name x p) (e :: es) [] pos) (eN (pN g) fs) := PE.of (pe_callTy r hg hm hb ha hn hd hs hp) fun σr H Q q => by
  obtain ⟨N, ζ, μ, σ, wd, so, q⟩ := q
  refine (thenN wd so q).mono fun xs H1 ⟨ζ1, μ1, ws, ev1, wd1, so1, r1, q1⟩ => read_pN wd1 r1 q1
theorem f_callTy {x : Str} {p : Pos} {T : String} {g : List PV → Option (List PV)} (r : CallR X (.type T) (rPFN K g)) (hg : Gl X x) (hm : X.mg x = none) (hb : bootBuiltins x = some (.type T)) (ha : IA K ξ W X (e :: es) fs) (hn : x ≠ "__name__" := by decide) (hd : (x == ("__debug__" : Str)) = false := by decide)
    (hs : starEach (e :: es) X.env = (false, eval e X.env) :: starEach es X.env := by rfl) (hp : ((backTo pos (starEach es X.env)).any (·.1)) = false := by rfl) : IF K ξ W X (.Call (.Name x p) (e :: es) [] pos) (eN (pfN g) fs) := PE.of (pe_callTy r hg hm hb ha hn hd hs hp) fun σr H Q q => by
  obtain ⟨N, ζ, μ, σ, wd, so, q⟩ := q
  refine (thenNF wd so q).mono fun xs H1 ⟨ζ1, μ1, ws, ev1, wd1, so1, r1, q1⟩ => read_pfN wd1 r1 q1
end
section
variable {X : Cx} {K : KT} {M : MS} {H : Hp}
theorem vvs1 {xs : List V} {d : PV} (h : vvs K M H xs [d]) : ∃ v, xs = [v] ∧ vv K M H v d := by
  match xs, h with
  | [v], h => exact ⟨v, rfl, h.1⟩
  | [], h => exact h.elim
  | _ :: _ :: _, h => exact h.2.elim
theorem vvs2 {xs : List V} {d e : PV} (h : vvs K M H xs [d, e]) : ∃ v u, xs = [v, u] ∧ vv K M H v d ∧ vv K M H u e := by
  match xs, h with
  | [v, u], h => exact ⟨v, u, rfl, h.1, h.2.1⟩
  | [], h => exact h.elim
  | [_], h => exact h.2.elim
  | _ :: _ :: _ :: _, h => exact h.2.2.elim
/-- len -/
def lenV : List PV → Option PV
  | [.lst l] => some (.int l.length)
  | [.tup l] => some (.int l.length)
  | [.str z] => if z.length ≤ sizeLine then some (.int z.length) else none
  | [.dic _ ks _] => some (.int ks.length)
  | _ => none
theorem cr_lenV (hK : X.K = K := by rfl) : CallR X (.builtin "len") (rPN K lenV) := by
  obtain ⟨K, Kt⟩ := K; obtain rfl : X.K = K := hK
  intro pins s σ H xs us Q I r h
  obtain ⟨M, ds, d, hv, fr, e, g⟩ := h
  unfold lenV at e
  split at e
  · cases e
    obtain ⟨v, rfl, h1⟩ := vvs1 hv
    obtain ⟨p, vs, rfl, g1, r1⟩ := h1
    refine call_len_seq pins s σ H _ us Q I r ⟨p, vs, rfl, .inl (SqL.of g1), ?_⟩
    rw [rvs_len r1]; exact g.int
  · cases e
    obtain ⟨v, rfl, h1⟩ := vvs1 hv
    obtain ⟨p, vs, rfl, _, g1, r1⟩ := vv_tup h1
    refine call_len_seq pins s σ H _ us Q I r ⟨p, vs, rfl, .inr (SqT.of g1), ?_⟩
    rw [rvs_len r1]; exact g.int
  · split at e
    · cases e
      obtain ⟨v, rfl, h1⟩ := vvs1 hv
      obtain ⟨rfl, _⟩ := vv_str h1
      exact call_len_str pins s σ H _ us Q I r ⟨_, rfl, by assumption, g.int⟩
    · cases e
  · rename_i b ks ds
    cases e
    obtain ⟨v, rfl, h1⟩ := vvs1 hv
    obtain ⟨p, vs, rfl, g1, r1⟩ := h1
    cases b with
    | false =>
      obtain ⟨kl, rfl, hl, _, ha⟩ := g1
      have e : (kl.zip vs).length = (kl.map kPV).length := by rw [List.length_zip, ← hl, Nat.min_self, List.length_map]
      refine call_lenD pins s σ H _ us Q I r ⟨p, _, rfl, ha, ?_⟩
      rw [e]; exact g.int
    | true =>
      obtain ⟨kl, rfl, hl, _, ha⟩ := g1
      have e : (kl.zip vs).length = (kl.map fun k => PV.tup (k.map kPV)).length := by rw [List.length_zip, ← hl, Nat.min_self, List.length_map]
      refine call_len_dT pins s σ H _ us Q I r ⟨p, _, rfl, ha, ?_⟩
      rw [e]; exact g.int
  · cases e
def minV : List PV → Option PV
  | [.int i, .int j] => some (.int (if j < i then j else i))
  | _ => none
theorem cr_minV (hc : X.calm = true) : CallR X (.builtin "min") (rPN K minV) := by
  intro pins s σ H xs us Q I r h
  obtain ⟨M, ds, d, hv, fr, e, g⟩ := h
  unfold minV at e
  split at e
  · cases e
    obtain ⟨v, u, rfl, h1, h2⟩ := vvs2 hv
    cases vv_int h1; cases vv_int h2
    exact call_min2 hc pins s σ H _ us Q I r ⟨_, _, rfl, g.int⟩
  · cases e
/-- int(x) -/
def intV : List PV → Option PV
  | [.int i] => some (.int i)
  | [.bl k] => some (.int (if k then 1 else 0))
  | _ => none
theorem cr_intV : CallR X (.type "int") (rPN K intV) := by
  intro pins s σ H xs us Q I r h
  obtain ⟨M, ds, d, hv, fr, e, g⟩ := h
  unfold intV at e
  split at e
  · cases e
    obtain ⟨v, rfl, h1⟩ := vvs1 hv
    cases vv_int h1
    exact call_int1 pins s σ H _ us Q I r (.inl ⟨_, rfl, g.int⟩)
  · cases e
    obtain ⟨v, rfl, h1⟩ := vvs1 hv
    cases vv_bl h1
    exact call_int1 pins s σ H _ us Q I r (.inr ⟨_, rfl, g.int⟩)
  · cases e
/-- all, any of a list of bools -/
def blsOf : List PV → Option (List Bool)
  | [] => some []
  | .bl i :: r => (blsOf r).map (i :: ·)
  | _ :: _ => none
theorem blsOf_map (l : List Bool) : blsOf (l.map .bl) = some l := by
  induction l with
  | nil => rfl
  | cons a l ih => show (blsOf (l.map .bl)).map _ = _; rw [ih]; rfl
theorem bls_vals : ∀ {vs : List V} {ds : List PV} {l : List Bool}, rvs K M H vs ds → blsOf ds = some l → vs = l.map V.bl
  | [], [], l, _, e => by cases e; rfl
  | v :: vs, .bl i :: ds, l, h, e => by
    rw [rvs_cons] at h
    obtain ⟨l', e1, rfl⟩ := Option.map_eq_some_iff.mp e
    rw [rv_bl.mp h.1, bls_vals h.2 e1]
    rfl
  | _ :: _, .non :: _, _, _, e => by cases e
  | _ :: _, .int _ :: _, _, _, e => by cases e
  | _ :: _, .str _ :: _, _, _, e => by cases e
  | _ :: _, .tup _ :: _, _, _, e => by cases e
  | _ :: _, .lst _ :: _, _, _, e => by cases e
  | _ :: _, .dic _ _ _ :: _, _, _, e => by cases e
  | _ :: _, .obj _ _ _ :: _, _, _, e => by cases e
  | [], _ :: _, _, h, _ => by unfold rvs at h; exact h.elim
  | _ :: _, [], _, h, _ => by unfold rvs at h; exact h.elim
def allV : List PV → Option PV
  | [.lst l] => (blsOf l).map fun bs => .bl (bs.all id)
  | _ => none
theorem cr_allV (hc : X.calm = true) (hK : X.K = K := by rfl) : CallR X (.builtin "all") (rPN K allV) := by
  obtain ⟨K, Kt⟩ := K; obtain rfl : X.K = K := hK
  intro pins s σ H xs us Q I r h
  obtain ⟨M, ds, d, hv, fr, e, g⟩ := h
  unfold allV at e
  split at e
  · obtain ⟨bs, e1, e2⟩ := Option.map_eq_some_iff.mp e
    subst e2
    obtain ⟨v, rfl, h1⟩ := vvs1 hv
    obtain ⟨p, vs, rfl, g1, r1⟩ := h1
    have z := bls_vals r1 e1
    subst z
    exact cr_all hc pins s σ H _ us Q I r ⟨p, bs, rfl, SqL.of g1, g.bl⟩
  · cases e
/-- tuple(x), list(x) -/
def tupleV : List PV → Option PV
  | [.lst l] => some (.tup l)
  | [.tup l] => some (.tup l)
  | _ => none
def listF : List PV → Option (List PV)
  | [.lst l] => some l
  | [.tup l] => some l
  | [.dic false ks _] => some ks
  | _ => none
theorem rvs_keys : ∀ {kl : List Key}, (∀ k ∈ kl, kOk k) → rvs K M H (kl.map kV) (kl.map kPV)
  | [], _ => rvs_nil
  | k :: kl, h => by
    refine rvs_cons.mpr ⟨?_, rvs_keys fun z hz => h z (List.mem_cons_of_mem _ hz)⟩
    have := h k List.mem_cons_self
    cases k with
    | inl i => exact rv_int.mpr rfl
    | inr x => exact rv_str.mpr ⟨rfl, this⟩
theorem cr_tupleV (hK : X.K = K := by rfl) : CallR X (.type "tuple") (rPN K tupleV) := by
  obtain ⟨K, Kt⟩ := K; obtain rfl : X.K = K := hK
  intro pins s σ H xs us Q I r h
  obtain ⟨M, ds, d, hv, fr, e, g⟩ := h
  unfold tupleV at e
  split at e
  · cases e
    obtain ⟨v, rfl, h1⟩ := vvs1 hv
    obtain ⟨p, vs, rfl, g1, r1⟩ := h1
    exact call_tuple_of pins s σ H _ us Q I r ⟨p, vs, rfl, .inl ⟨SqL.of g1, fun l hl => g.tup fr r1 hl⟩⟩
  · cases e
    obtain ⟨v, rfl, h1⟩ := vvs1 hv
    obtain ⟨p, vs, rfl, n1, g1, r1⟩ := vv_tup h1
    exact call_tuple_of pins s σ H _ us Q I r ⟨p, vs, rfl, .inr ⟨SqT.of g1, g H _ Grow.refl (rv_tup.mpr ⟨p, vs, rfl, n1, g1, r1⟩)⟩⟩
  · cases e
theorem cr_listF (hc : X.calm = true) (hK : X.K = K := by rfl) : CallR X (.type "list") (rPFN K listF) := by
  obtain ⟨K, Kt⟩ := K; obtain rfl : X.K = K := hK
  intro pins s σ H xs us Q I r h
  obtain ⟨M, ds, d, hv, fr, e, g⟩ := h
  unfold listF at e
  split at e
  · cases e
    obtain ⟨v, rfl, h1⟩ := vvs1 hv
    obtain ⟨p, vs, rfl, g1, r1⟩ := h1
    exact call_list_of pins s σ H _ us Q I r ⟨p, vs, rfl, .inl (SqL.of g1), fun l hl => g.lst r1 hl⟩
  · cases e
    obtain ⟨v, rfl, h1⟩ := vvs1 hv
    obtain ⟨p, vs, rfl, n1, g1, r1⟩ := vv_tup h1
    exact call_list_of pins s σ H _ us Q I r ⟨p, vs, rfl, .inr (SqT.of g1), fun l hl => g.lst r1 hl⟩
  · cases e
    obtain ⟨v, rfl, h1⟩ := vvs1 hv
    obtain ⟨p, vs, rfl, g1, r1⟩ := h1
    obtain ⟨kl, rfl, hl, hok, ha⟩ := g1
    refine call_listD hc pins s σ H _ us Q I r ⟨p, _, rfl, .inl ha, fun l hl' => ?_⟩
    have e : ((kl.zip vs).map fun kv => kV kv.1) = kl.map kV := by
      have h1 : ((kl.zip vs).map fun kv => kV kv.1) = ((kl.zip vs).map Prod.fst).map kV := by rw [List.map_map]; rfl
      rw [h1, List.map_fst_zip (by omega)]
    rw [e]
    exact g.lst (rvs_keys hok) hl'
  · cases e
theorem rvs_ints (l : List Int) : rvs K M H (l.map V.int) (l.map PV.int) := by
  induction l with
  | nil => exact rvs_nil
  | cons a l ih => exact rvs_cons.mpr ⟨rv_int.mpr rfl, ih⟩
end
end PM
namespace PM
open PySem PySem.Spec PyProof.Rows L2
open WD (MS upd_none)
/-! ### targets -/
inductive Tgt where
  | nm (i : Nat)
  | tp (ts : List Tgt)
def Fl.v : Fl → Val
  | .t d => .t d
  | .c k => .c k
mutual
def asg : Tgt → Val → Sl → Option Sl
  | .nm i, w, σ => some (σ.set i (some w))
  | .tp ts, .t (.tup ds), σ => asgs ts (ds.map .t) σ
  | .tp ts, .g .tup fs, σ => asgs ts (fs.map Fl.v) σ
  | .tp _, _, _ => none
def asgs : List Tgt → List Val → Sl → Option Sl
  | [], [], σ => some σ
  | t :: ts, w :: ws, σ => match asg t w σ with
    | some σ1 => asgs ts ws σ1
    | none => none
  | _, _, _ => none
end
mutual
def Tgt.sl : Tgt → List Nat
  | .nm i => [i]
  | .tp ts => sls ts
def sls : List Tgt → List Nat
  | [] => []
  | t :: ts => t.sl ++ sls ts
end
def Agree (σ' σ : L2.St) (s : List Nat) : Prop := σ'.length = σ.length ∧ ∀ j, j ∉ s → σ'[j]? = σ[j]?
theorem wipe_get (σ : L2.St) : ∀ (s : List Nat) (j : Nat), (wipe σ s)[j]? = if j ∈ s then (if j < σ.length then some none else none) else σ[j]?
  | [], j => by simp [wipe]
  | v :: vs, j => by
    unfold wipe
    by_cases hv : v = j
    · subst hv
      by_cases hl : v < σ.length
      · rw [List.getElem?_set_self (by rw [wipe_length]; exact hl)]
        simp [hl]
      · rw [List.getElem?_eq_none (by rw [List.length_set, wipe_length]; omega)]
        simp [hl]
    · rw [List.getElem?_set_ne hv, wipe_get σ vs j]
      have : (j ∈ v :: vs) ↔ j ∈ vs := by
        rw [List.mem_cons]
        exact ⟨fun h => h.elim (fun e => absurd e.symm hv) id, .inr⟩
      simp only [this]
theorem Agree.wipe {σ' σ : L2.St} {s : List Nat} (h : Agree σ' σ s) : L2.wipe σ' s = L2.wipe σ s := by
  refine List.ext_getElem? fun j => ?_
  rw [wipe_get, wipe_get, h.1]
  by_cases hj : j ∈ s
  · rw [if_pos hj, if_pos hj]
  · rw [if_neg hj, if_neg hj, h.2 j hj]
theorem Agree.refl {σ : L2.St} {s : List Nat} : Agree σ σ s := ⟨rfl, fun _ _ => rfl⟩
theorem Agree.trans {σ σ1 σ2 : L2.St} {s t : List Nat} (h : Agree σ1 σ s) (g : Agree σ2 σ1 t) : Agree σ2 σ (s ++ t) :=
  ⟨g.1.trans h.1, fun j hj => (g.2 j fun z => hj (List.mem_append_right _ z)).trans (h.2 j fun z => hj (List.mem_append_left _ z))⟩
theorem Agree.set {σ : L2.St} {i : Nat} {v : Option V} : Agree (σ.set i v) σ [i] := ⟨List.length_set, fun j hj => by
  rw [List.getElem?_set_ne fun z => hj (by rw [z]; exact List.mem_singleton.mpr rfl)]⟩
def tG (K : KT) (ξ : Xi) (T : Tgt) : TG := fun v σr H Q => ∃ N ζ μ σ w σ', Wd K N ζ μ H ∧ Sok K ξ ζ (MM N ζ μ) H σr σ ∧ RV K ξ ζ (MM N ζ μ) H v w ∧ asg T w σ = some σ' ∧ ∀ σr', Sok K ξ ζ (MM N ζ μ) H σr' σ' → Agree σr' σr T.sl → Q σr' H
def tGs (K : KT) (ξ : Xi) (ts : List Tgt) : TGs := fun vs σr H Q => ∃ N ζ μ σ ws σ', Wd K N ζ μ H ∧ Sok K ξ ζ (MM N ζ μ) H σr σ ∧ RVs K ξ ζ (MM N ζ μ) H vs ws ∧ asgs ts ws σ = some σ' ∧ ∀ σr', Sok K ξ ζ (MM N ζ μ) H σr' σ' → Agree σr' σr (sls ts) → Q σr' H
abbrev IG (K : KT) (ξ : Xi) (X : Cx) (tg : Expr) (T : Tgt) : Prop := PG X tg (tG K ξ T)
abbrev IGs (K : KT) (ξ : Xi) (X : Cx) (tg : List Expr) (T : List Tgt) : Prop := PGs X tg (tGs K ξ T)
theorem PG.of {X : Cx} {e : Expr} {t t' : TG} (h : PG X e t) (k : ∀ v σ H Q, t' v σ H Q → t v σ H Q) : PG X e t' := by
  obtain ⟨r⟩ := h
  exact ⟨fun pins s σ H v u Q I ru q => r pins s σ H v u Q I ru (k _ _ _ _ q)⟩
theorem PGs.of {X : Cx} {e : List Expr} {t t' : TGs} (h : PGs X e t) (k : ∀ v σ H Q, t' v σ H Q → t v σ H Q) : PGs X e t' := by
  obtain ⟨r⟩ := h
  exact ⟨fun pins s σ H v u Q I ru q => r pins s σ H v u Q I ru (k _ _ _ _ q)⟩
section
variable {X : Cx} {K : KT} {ξ : Xi} {W : WX} {e : Expr} {es : List Expr} {pos : Pos} {T : Tgt} {Ts : List Tgt}
theorem g_name {i : Nat} {x : Str} (h : PG X (.Name x pos) (gName i)) : IG K ξ X (.Name x pos) (.nm i) := PG.of h fun v σr H Q q => by
  obtain ⟨N, ζ, μ, σ, w, σ', wd, so, r, e, k⟩ := q
  unfold asg at e
  cases e
  exact k _ (so.set r) (by unfold Tgt.sl; exact Agree.set)
theorem gs_nil : IGs K ξ X [] [] := PGs.of pgs_nil fun vs σr H Q q => by
  obtain ⟨N, ζ, μ, σ, ws, σ', wd, so, r, e, k⟩ := q
  cases ws with
  | nil =>
    cases List.eq_nil_of_length_eq_zero r.len
    unfold asgs at e
    cases e
    exact ⟨rfl, k σr so Agree.refl⟩
  | cons d ds => unfold asgs at e; cases e
theorem gs_cons (h : IG K ξ X e T) (hs : IGs K ξ X es Ts) (hz : (assignEach (e :: es) X.env).map (·.2) = assign e X.env :: (assignEach es X.env).map (·.2) := by rfl) : IGs K ξ X (e :: es) (T :: Ts) := PGs.of (pgs_cons h hs hz) fun vs σr H Q q => by
  obtain ⟨N, ζ, μ, σ, ws, σ', wd, so, r, e, k⟩ := q
  cases ws with
  | nil => unfold asgs at e; cases e
  | cons w ws =>
    cases vs with
    | nil => exact r.elim
    | cons v vs =>
      unfold asgs at e
      split at e
      · rename_i σ1 e1
        refine ⟨v, vs, rfl, N, ζ, μ, σ, w, σ1, wd, so, r.1, e1, fun σr1 so1 ag1 => ?_⟩
        refine ⟨N, ζ, μ, σ1, ws, σ', wd, so1, r.2, e, fun σr2 so2 ag2 => k σr2 so2 ?_⟩
        unfold sls
        exact ag1.trans ag2
      · cases e
theorem asgs_len : ∀ {ts : List Tgt} {ds : List Val} {σ σ' : Sl}, asgs ts ds σ = some σ' → ds.length = ts.length
  | [], [], _, _, _ => rfl
  | t :: ts, d :: ds, σ, σ', e => by
    unfold asgs at e
    split at e
    · exact congrArg Nat.succ (asgs_len e)
    · cases e
  | [], _ :: _, _, _, e => by unfold asgs at e; cases e
  | _ :: _, [], _, _, e => by unfold asgs at e; cases e
theorem rvs_RVs {ζ : List Addr} {M : MS} {H : Hp} : ∀ {vs : List V} {ds : List PV}, rvs K M H vs ds → RVs K ξ ζ M H vs (ds.map .t)
  | [], [], _ => trivial
  | _ :: _, _ :: _, h => by rw [rvs_cons] at h; exact ⟨h.1, rvs_RVs h.2⟩
  | [], _ :: _, h => by unfold rvs at h; exact h.elim
  | _ :: _, [], h => by unfold rvs at h; exact h.elim
theorem FR.RV {ζ : List Addr} {M : MS} {H : Hp} {v : V} : ∀ {w : Fl}, FR K ζ M H v w → RV K ξ ζ M H v w.v
  | .t _, h => h
  | .c _, h => h
theorem FRs.RVs {ζ : List Addr} {M : MS} {H : Hp} : ∀ {vs : List V} {ws : List Fl}, FRs K ζ M H vs ws → RVs K ξ ζ M H vs (ws.map Fl.v)
  | [], [], _ => trivial
  | _ :: _, _ :: _, h => ⟨h.1.RV, FRs.RVs h.2⟩
  | [], _ :: _, h => h.elim
  | _ :: _, [], h => h.elim
theorem g_tup {kk : Nat} (hs : IGs K ξ X es Ts) (hc : X.calm = true) (hn : (assignEach es X.env).length = Ts.length := by rfl) (hst : (assignEach es X.env).findIdx? (·.1) = none := by rfl) (hK : X.K = K := by rfl) : IG K ξ X (.Tuple es kk pos) (.tp Ts) := PG.of (WD.k_pg_tup K hc hs hn hst hK) fun v σr H Q q => by
  obtain ⟨N, ζ, μ, σ, w, σ', wd, so, r, e, k⟩ := q
  have e0 : ∃ a vs ws, v = .ref a ∧ H a = some (.tup vs) ∧ RVs K ξ ζ (MM N ζ μ) H vs ws ∧ asgs Ts ws σ = some σ' := by
    cases w with
    | t d =>
      cases d with
      | tup ds =>
        unfold asg at e
        obtain ⟨a, vs, h0, n1, h1, r1⟩ := rv_tup.mp (show rv K (MM N ζ μ) H v (.tup ds) from r)
        exact ⟨a, vs, _, h0, h1, rvs_RVs r1, e⟩
      | _ => unfold asg at e; cases e
    | g h fs =>
      cases h with
      | tup =>
        unfold asg at e
        obtain ⟨a, vs, h0, n1, h1, r1⟩ := r
        exact ⟨a, vs, _, h0, h1, r1.RVs, e⟩
      | ob _ _ => unfold asg at e; cases e
    | c _ => unfold asg at e; cases e
    | x _ _ => unfold asg at e; cases e
    | s _ => unfold asg at e; cases e
    | self => unfold asg at e; cases e
    | lam _ _ => unfold asg at e; cases e
  obtain ⟨a, vs, ws, rfl, h1, r1, e⟩ := e0
  refine ⟨a, vs, rfl, SqT.of h1, by rw [r1.len]; exact asgs_len e, N, ζ, μ, σ, ws, σ', wd, so, r1, e, fun σr' so' ag => k σr' so' ?_⟩
  unfold Tgt.sl
  exact ag
end
end PM
namespace PM
open PySem PySem.Spec PyProof.Rows L2
open WD (MS upd_none)
/-! ### statements -/
def R.st {α : Type} (σ : Sl) : R α → (α → Store → RS) → RS
  | .ok a μ, k => k a μ
  | .ex c f μ, _ => .ex c f σ μ
  | .stuck, _ => .stuck
def RS.seq : RS → (Sl → Store → RS) → RS
  | .nx σ μ, k => k σ μ
  | r, _ => r
def sPass : MSt := fun σ μ => .nx σ μ
def sSeq (a b : MSt) : MSt := fun σ μ => (a σ μ).seq b
def sAsg (T : Tgt) (f : ME) : MSt := fun σ μ => (f σ μ).st σ fun w μ1 => match asg T w σ with
  | some σ1 => .nx σ1 μ1
  | none => .stuck
def sExp (f : ME) : MSt := fun σ μ => (f σ μ).st σ fun _ μ1 => .nx σ μ1
def sRet (f : ME) : MSt := fun σ μ => (f σ μ).st σ fun w μ1 => .rt w μ1
def sIf (c : Sl → Store → R Bool) (a b : MSt) : MSt := fun σ μ => (c σ μ).st σ fun k μ1 => if k then a σ μ1 else b σ μ1
def forL (T : Tgt) (body : MSt) : List PV → Sl → Store → RS
  | [], σ, μ => .nx σ μ
  | d :: ds, σ, μ => match asg T (.t d) σ with
    | none => .stuck
    | some σ1 => match body σ1 μ with
      | .nx σ2 μ2 => forL T body ds σ2 μ2
      | .ct σ2 μ2 => forL T body ds σ2 μ2
      | .bk σ2 μ2 => .nx σ2 μ2
      | r => r
def sFor (it : Sl → Store → R (List PV)) (T : Tgt) (body : MSt) : MSt := fun σ μ => (it σ μ).st σ fun items μ1 => forL T body items σ μ1
section
variable {X : Cx} {K : KT} {ξ : Xi} {W : WX} {N : MS} {ζ : List Addr} {μ : Store} {H : Hp} {σr : L2.St} {σ : Sl} {D : Ends} {e tg : Expr} {st : Stmt} {ss : List Stmt} {fa : ME} {ta : Sl → Store → R Bool} {A B : MSt} {T : Tgt} {pos : Pos}
/-- a reading, then a statement's step -/
theorem stE {k : Val → Store → RS} (wd : Wd K N ζ μ H) (so : Sok K ξ ζ (MM N ζ μ) H σr σ) (h : PostS K ξ W N ζ μ H D ((fa σ μ).st σ k)) :
    tE K ξ W fa σr H fun x H1 => ∃ ζ1 μ1 w1, Ev K.tb ζ μ H ζ1 μ1 H1 ∧ Wd K N ζ1 μ1 H1 ∧ Sok K ξ ζ1 (MM N ζ1 μ1) H1 σr σ ∧ RV K ξ ζ1 (MM N ζ1 μ1) H1 x w1 ∧ PostS K ξ W N ζ1 μ1 H1 D (k w1 μ1) := by
  refine ⟨N, ζ, μ, σ, wd, so, ?_⟩
  cases e : fa σ μ with
  | ok w1 μ1 => rw [e] at h; exact fun ζ' H' v ev w r => ⟨ζ', μ1, w1, ev, w, so.ev ev, r, PostS.ev ev h⟩
  | ex c f μ1 => rw [e] at h; exact fun ζ' H' d ev w r => h ζ' H' d σr ev w r (so.ev ev)
  | stuck => rw [e] at h; exact h
theorem stT {k : Bool → Store → RS} (wd : Wd K N ζ μ H) (so : Sok K ξ ζ (MM N ζ μ) H σr σ) (h : PostS K ξ W N ζ μ H D ((ta σ μ).st σ k)) :
    tT K ξ W ta σr H fun b H1 => ∃ ζ1 μ1, Ev K.tb ζ μ H ζ1 μ1 H1 ∧ Wd K N ζ1 μ1 H1 ∧ Sok K ξ ζ1 (MM N ζ1 μ1) H1 σr σ ∧ PostS K ξ W N ζ1 μ1 H1 D (k b μ1) := by
  refine ⟨N, ζ, μ, σ, wd, so, ?_⟩
  cases e : ta σ μ with
  | ok w1 μ1 => rw [e] at h; exact fun ζ' H' ev w => ⟨ζ', μ1, ev, w, so.ev ev, PostS.ev ev h⟩
  | ex c f μ1 => rw [e] at h; exact fun ζ' H' d ev w r => h ζ' H' d σr ev w r (so.ev ev)
  | stuck => rw [e] at h; exact h
theorem s_exp (ha : IE K ξ W X e fa) (hs : swapsWith e none pos.line X.env = pure false := by rfl) : IS K ξ W X (.Expr e pos) (sExp fa) := PS.of (ps_expr ha hs) fun D σr H q => by
  obtain ⟨N, ζ, μ, σ, wd, so, q⟩ := q
  refine (stE wd so q).mono fun x H1 ⟨ζ1, μ1, w1, ev1, wd1, so1, r1, q1⟩ => q1 ζ1 H1 σr Ev.refl wd1 so1
theorem s_ret (h : PS X st (tRet (tE K ξ W fa))) : IS K ξ W X st (sRet fa) := PS.of h fun D σr H q => by
  obtain ⟨N, ζ, μ, σ, wd, so, q⟩ := q
  refine (stE wd so q).mono fun x H1 ⟨ζ1, μ1, w1, ev1, wd1, so1, r1, q1⟩ => q1 ζ1 H1 x Ev.refl wd1 r1
/-- x = e, by any rule for it -/
theorem s_asgR {te : TE} {i : Nat} (h : PS X st (tAsg te (gName i))) (k : ∀ σ H Q, tE K ξ W fa σ H Q → te σ H Q) : IS K ξ W X st (sAsg (.nm i) fa) := PS.of h fun D σr H q => by
  obtain ⟨N, ζ, μ, σ, wd, so, q⟩ := q
  refine k _ _ _ ((stE wd so q).mono fun x H1 ⟨ζ1, μ1, w1, ev1, wd1, so1, r1, q1⟩ => ?_)
  unfold asg at q1
  exact q1 ζ1 H1 _ Ev.refl wd1 (so1.set r1)
theorem s_set {i : Nat} (h : PS X st (tAsg (tE K ξ W fa) (gName i))) : IS K ξ W X st (sAsg (.nm i) fa) := s_asgR h fun _ _ _ q => q
theorem s_asg (h : PS X st (tAsg (tE K ξ W fa) (tG K ξ T))) : IS K ξ W X st (sAsg T fa) := PS.of h fun D σr H q => by
  obtain ⟨N, ζ, μ, σ, wd, so, q⟩ := q
  refine (stE wd so q).mono fun x H1 ⟨ζ1, μ1, w1, ev1, wd1, so1, r1, q1⟩ => ?_
  split at q1
  · rename_i σ1 e1
    exact ⟨N, ζ1, μ1, σ, w1, σ1, wd1, so1, r1, e1, fun σr' so' _ => q1 ζ1 H1 σr' Ev.refl wd1 so'⟩
  · exact q1.elim
theorem s_if (h : PS X st (tIfS (tT K ξ W ta) (tS K ξ W A) (tS K ξ W B))) : IS K ξ W X st (sIf ta A B) := PS.of h fun D σr H q => by
  obtain ⟨N, ζ, μ, σ, wd, so, q⟩ := q
  refine (stT wd so q).mono fun b H1 ⟨ζ1, μ1, ev1, wd1, so1, q1⟩ => ?_
  cases b with
  | true => exact iteT ⟨N, ζ1, μ1, σ, wd1, so1, q1⟩
  | false => exact iteF ⟨N, ζ1, μ1, σ, wd1, so1, q1⟩
theorem PostS.seq {r : RS} (h : PostS K ξ W N ζ μ H D (r.seq B)) : PostS K ξ W N ζ μ H { D with nx := tS K ξ W B D } r := by
  cases r with
  | nx σ' μ' => exact fun ζ' H' σr' ev wd so => ⟨N, ζ', μ', σ', wd, so, PostS.ev ev h⟩
  | bk _ _ => exact h
  | ct _ _ => exact h
  | rt _ _ => exact h
  | ex _ _ _ _ => exact h
  | stuck => exact h
theorem ss_nil : ISs K ξ W X [] sPass := PSs.of pss_nil fun D σr H q => by
  obtain ⟨N, ζ, μ, σ, wd, so, q⟩ := q
  exact q ζ H σr Ev.refl wd so
theorem ss_cons (ha : IS K ξ W X st A) (hb : ISs K ξ W X ss B) : ISs K ξ W X (st :: ss) (sSeq A B) := PSs.of (pss_cons ha hb) fun D σr H q => by
  obtain ⟨N, ζ, μ, σ, wd, so, q⟩ := q
  exact ⟨N, ζ, μ, σ, wd, so, PostS.seq q⟩
theorem ss_one (ha : IS K ξ W X st A) : ISs K ξ W X [st] A := pss_one ha
/-- a ghost step ahead of a block -/
theorem ss_ghost {G : MSt} (hb : ISs K ξ W X ss B) (g : ∀ (D : Ends) (σr : L2.St) (H : Hp) (N : MS) (ζ : List Addr) (μ : Store) (σ : Sl), Wd K N ζ μ H → Sok K ξ ζ (MM N ζ μ) H σr σ → PostS K ξ W N ζ μ H D ((G σ μ).seq B) → tS K ξ W B D σr H) : ISs K ξ W X ss (sSeq G B) := PSs.of hb fun D σr H q => by
  obtain ⟨N, ζ, μ, σ, wd, so, q⟩ := q
  exact g D σr H N ζ μ σ wd so q

/-! ### what is walked -/
def ItOk (K : KT) (M : MS) (H : Hp) (J : It) (items : List PV) : Prop := ∀ M1 H1, (∀ a, ¬ M a → ¬ nn K.tb (H a) → ¬ M1 a) → (∀ a o, nt K.tb o → ¬ M a → H a = some o → H1 a = some o) → Fre M1 H1 →
  (∀ (i : Nat) d, items[i]? = some d → J.go i H1 ∧ ∀ x H2, J.yld i H1 x H2 → Grow H1 H2 ∧ rv K M1 H2 x d) ∧ J.stop items.length H1
def PostI (K : KT) (W : WX) (N : MS) (ζ : List Addr) (μ : Store) (H : Hp) (σr : L2.St) (Q : It → Hp → Prop) : R (List PV) → Prop
  | .ok ds μ' => ∀ ζ' H' J, Ev K.tb ζ μ H ζ' μ' H' → Wd K N ζ' μ' H' → ItOk K (MM N ζ' μ') H' J ds → Q J H'
  | .ex c f μ' => ∀ ζ' H' d, Ev K.tb ζ μ H ζ' μ' H' → Wd K N ζ' μ' H' → XR K (MM N ζ' μ') H' d f → W (.ref (He.ga K c)) d σr H'
  | .stuck => False
def tI (K : KT) (ξ : Xi) (W : WX) (f : Sl → Store → R (List PV)) : TI := fun σr H Q => ∃ N ζ μ σ, Wd K N ζ μ H ∧ Sok K ξ ζ (MM N ζ μ) H σr σ ∧ PostI K W N ζ μ H σr Q (f σ μ)
abbrev II (K : KT) (ξ : Xi) (W : WX) (X : Cx) (tg it : Expr) (f : Sl → Store → R (List PV)) : Prop := PI X tg it (tI K ξ W f)
theorem PI.of {tg it : Expr} {t t' : TI} (h : PI X tg it t) (k : ∀ σ H Q, t' σ H Q → t σ H Q) : PI X tg it t' := ⟨fun pins s σ H Q I q => h.run pins s σ H Q I (k σ H Q q)⟩
theorem PI.pick {tg it : Expr} {t' : TI} (k : ∀ σ H Q, t' σ H Q → ∃ t, PI X tg it t ∧ t σ H Q) : PI X tg it t' := ⟨fun pins s σ H Q I q => let ⟨_, h, q'⟩ := k σ H Q q; h.run pins s σ H Q I q'⟩
theorem PostI.ev {ζ1 : List Addr} {μ1 : Store} {H1 : Hp} {Q : It → Hp → Prop} (e : Ev K.tb ζ μ H ζ1 μ1 H1) : ∀ {r : R (List PV)}, PostI K W N ζ μ H σr Q r → PostI K W N ζ1 μ1 H1 σr Q r
  | .ok _ _, h => fun ζ' H' v a b c => h ζ' H' v (e.trans a) b c
  | .ex _ _ _, h => fun ζ' H' d a b c => h ζ' H' d (e.trans a) b c
  | .stuck, h => h
theorem then1I {a : ME} {P : It → Hp → Prop} {g : Val → Store → R (List PV)} (wd : Wd K N ζ μ H) (so : Sok K ξ ζ (MM N ζ μ) H σr σ) (h : PostI K W N ζ μ H σr P ((a σ μ).bind g)) :
    tE K ξ W a σr H fun x H1 => ∃ ζ1 μ1 w1, Ev K.tb ζ μ H ζ1 μ1 H1 ∧ Wd K N ζ1 μ1 H1 ∧ Sok K ξ ζ1 (MM N ζ1 μ1) H1 σr σ ∧ RV K ξ ζ1 (MM N ζ1 μ1) H1 x w1 ∧ PostI K W N ζ1 μ1 H1 σr P (g w1 μ1) := by
  refine ⟨N, ζ, μ, σ, wd, so, ?_⟩
  cases e : a σ μ with
  | ok w1 μ1 => rw [e] at h; exact fun ζ' H' v ev w r => ⟨ζ', μ1, w1, ev, w, so.ev ev, r, h.ev ev⟩
  | ex c f μ1 => rw [e] at h; exact h
  | stuck => rw [e] at h; exact h
theorem thenNI {a : Sl → Store → R (List Val)} {P : It → Hp → Prop} {g : List Val → Store → R (List PV)} (wd : Wd K N ζ μ H) (so : Sok K ξ ζ (MM N ζ μ) H σr σ) (h : PostI K W N ζ μ H σr P ((a σ μ).bind g)) :
    tA K ξ W a σr H fun xs H1 => ∃ ζ1 μ1 ws, Ev K.tb ζ μ H ζ1 μ1 H1 ∧ Wd K N ζ1 μ1 H1 ∧ Sok K ξ ζ1 (MM N ζ1 μ1) H1 σr σ ∧ RVs K ξ ζ1 (MM N ζ1 μ1) H1 xs ws ∧ PostI K W N ζ1 μ1 H1 σr P (g ws μ1) := by
  refine ⟨N, ζ, μ, σ, wd, so, ?_⟩
  cases e : a σ μ with
  | ok w1 μ1 => rw [e] at h; exact fun ζ' H' v ev w r => ⟨ζ', μ1, w1, ev, w, so.ev ev, r, h.ev ev⟩
  | ex c f μ1 => rw [e] at h; exact h
  | stuck => rw [e] at h; exact h
/-- for .. in .. -/
theorem s_for {it : Expr} {body : List Stmt} {fi : Sl → Store → R (List PV)} (hp : PassesOwn (model X.prog X.w) X.A X.env X.xe) (hc : X.calm = true) (hi : II K ξ W X tg it fi) (hg : IG K ξ X tg T) (hb : ISs K ξ W X body B)
    (hf : ∀ x : Value, foldedSetIterable it X.env x = pure x := by intro _; rfl) : IS K ξ W X (.For tg it body [] pos) (sFor fi T B) := PS.of (ps_for hp hc hi hg hb hf) fun D σr H q => by
  obtain ⟨N, ζ, μ, σ, wd, so, q⟩ := q
  refine ⟨N, ζ, μ, σ, wd, so, ?_⟩
  unfold sFor at q
  cases e : fi σ μ with
  | stuck => rw [e] at q; exact q
  | ex c f μ1 => rw [e] at q; exact fun ζ' H' d ev w r => q ζ' H' d σr ev w r (so.ev ev)
  | ok items μ1 =>
    rw [e] at q
    intro ζ1 H1 J ev1 wd1 ok
    have q1 : PostS K ξ W N ζ1 μ1 H1 D (forL T B items σ μ1) := PostS.ev ev1 q
    refine ⟨fun i m σr' H' => ∃ ζ' μ' σ', i ≤ items.length ∧ m = items.length - i ∧ Ev K.tb ζ1 μ1 H1 ζ' μ' H' ∧ Wd K N ζ' μ' H' ∧ Sok K ξ ζ' (MM N ζ' μ') H' σr' σ' ∧ PostS K ξ W N ζ' μ' H' D (forL T B (items.drop i) σ' μ'),
      ⟨_, ζ1, μ1, σ, Nat.zero_le _, rfl, Ev.refl, wd1, so.ev ev1, q1⟩, ?_⟩
    rintro i m σr' H' ⟨ζ', μ', σ', hi, hm, ev', wd', so', q'⟩
    obtain ⟨k1, k2⟩ := ok (MM N ζ' μ') H' ev'.na ev'.keep wd'.fre
    by_cases hlt : i < items.length
    · refine .inr ?_
      have hd : items.drop i = items[i] :: items.drop (i + 1) := List.drop_eq_getElem_cons hlt
      obtain ⟨kgo, ky⟩ := k1 i _ (List.getElem?_eq_getElem hlt)
      refine ⟨kgo, fun σ2 H2 => ∃ ζ2 μ2 σm, i + 1 ≤ items.length ∧ Ev K.tb ζ1 μ1 H1 ζ2 μ2 H2 ∧ Wd K N ζ2 μ2 H2 ∧ Sok K ξ ζ2 (MM N ζ2 μ2) H2 σ2 σm ∧ PostS K ξ W N ζ2 μ2 H2 D (forL T B (items.drop (i + 1)) σm μ2), fun σ2 H2 ⟨ζ2, μ2, σm, a1, a2, a3, a4, a5⟩ => ⟨items.length - (i + 1), by omega, ζ2, μ2, σm, a1, rfl, a2, a3, a4, a5⟩, fun x Hy hy => ?_⟩
      obtain ⟨gr, rx⟩ := ky x Hy hy
      rw [hd] at q'
      unfold forL at q'
      cases ea : asg T (.t items[i]) σ' with
      | none => rw [ea] at q'; exact q'.elim
      | some σ1 =>
        rw [ea] at q'
        dsimp only at q'
        refine ⟨N, ζ', μ', σ', .t items[i], σ1, wd'.fr0 gr, so'.ev gr.ev, rx, ea, fun σr1 so1 _ => ⟨N, ζ', μ', σ1, wd'.fr0 gr, so1, ?_⟩⟩
        have q2 := PostS.ev (gr.ev (ζ := ζ') (μ := μ')) q'
        have evy : Ev K.tb ζ1 μ1 H1 ζ' μ' Hy := ev'.trans gr.ev
        cases eb : B σ1 μ' with
        | nx σ2 μ2 => rw [eb] at q2; exact fun ζ2 H2 σr2 ev2 wd2 so2 => ⟨ζ2, μ2, σ2, hlt, evy.trans ev2, wd2, so2, PostS.ev ev2 q2⟩
        | ct σ2 μ2 => rw [eb] at q2; exact fun ζ2 H2 σr2 ev2 wd2 so2 => ⟨ζ2, μ2, σ2, hlt, evy.trans ev2, wd2, so2, PostS.ev ev2 q2⟩
        | bk σ2 μ2 => rw [eb] at q2; exact q2
        | rt w μ2 => rw [eb] at q2; exact q2
        | ex c f σ2 μ2 => rw [eb] at q2; exact q2
        | stuck => rw [eb] at q2; exact q2
    · refine .inl ?_
      have hi2 : i = items.length := by omega
      subst hi2
      rw [List.drop_length] at q'
      exact ⟨k2, q' ζ' H' σr' Ev.refl wd' so'⟩
end
end PM
namespace PM
open PySem PySem.Spec PyProof.Rows L2
open WD (MS upd_none)
/-! ### what can be walked -/
def itemsV : PV → Option (List PV)
  | .lst l => some l
  | .tup l => some l
  | .str z => some (z.cps.toList.map fun c => .str ⟨#[c]⟩)
  | _ => none
/-- only data are walked: a thing that changes isn't -/
def gIt (w : Val) (μ : Store) : R (List PV) := match w with
  | .t d => OR.ok μ (itemsV d)
  | _ => .stuck
def rgI (lo : Int) (n : Nat) : List PV := (List.range n).map fun (k : Nat) => .int (lo + (k : Int))
def gRange1 : List Val → Store → R (List PV)
  | [.t (.int j)], μ => if bnd j then .ok (rgI 0 j.toNat) μ else .stuck
  | _, _ => .stuck
def enumP (l : List PV) : List PV := (List.range l.length).zipWith (fun (k : Nat) d => .tup [.int (k : Int), d]) l
def seqV : PV → Option (List PV)
  | .lst l => some l
  | .tup l => some l
  | _ => none
def gEnum : List Val → Store → R (List PV)
  | [.t d], μ => match seqV d with
    | some l => .ok (enumP l) μ
    | none => .stuck
  | _, _ => .stuck
def zipP (l m : List PV) : List PV := l.zipWith (fun a b => .tup [a, b]) m
def gZip : List Val → Store → R (List PV)
  | [.t (.lst l), .t (.lst m)], μ => .ok (zipP l m) μ
  | [.t (.tup l), .t (.tup m)], μ => .ok (zipP l m) μ
  | _, _ => .stuck
section
variable {X : Cx} {K : KT} {ξ : Xi} {W : WX} {N : MS} {ζ : List Addr} {μ : Store} {M : MS} {H : Hp} {σr : L2.St} {σ : Sl} {tg it e : Expr} {es : List Expr} {fa : ME} {fs : Sl → Store → R (List Val)} {pos : Pos}
theorem it_list {a : Addr} {vs : List V} {ds : List PV} (n : ¬ M a) (h : H a = some (.lst vs)) (r : rvs K M H vs ds) : ItOk K M H (Itl K a) ds := fun M1 H1 na kp fr => by
  have h1 : SqL K H1 a vs := SqL.of (kp a _ rfl n h)
  have r1 := rvs_st na kp ds vs r
  have hl := rvs_len r
  refine ⟨fun i d hd => ?_, ⟨vs, h1, by omega⟩⟩
  obtain ⟨v, hv, rvv⟩ := rvs_at r1 hd
  refine ⟨⟨vs, v, h1, hv⟩, fun x H2 hy => ?_⟩
  obtain ⟨rfl, hx⟩ := hy
  have := hx vs h1
  rw [hv] at this
  cases this
  exact ⟨Grow.refl, rvv⟩
theorem it_tup {a : Addr} {vs : List V} {ds : List PV} (n : ¬ M a) (h : H a = some (.tup vs)) (r : rvs K M H vs ds) : ItOk K M H (Itt K a) ds := fun M1 H1 na kp fr => by
  have h1 : SqT K H1 a vs := SqT.of (kp a _ rfl n h)
  have r1 := rvs_st na kp ds vs r
  have hl := rvs_len r
  refine ⟨fun i d hd => ?_, ⟨vs, h1, by omega⟩⟩
  obtain ⟨v, hv, rvv⟩ := rvs_at r1 hd
  refine ⟨⟨vs, v, h1, hv⟩, fun x H2 hy => ?_⟩
  obtain ⟨rfl, hx⟩ := hy
  have := hx vs h1
  rw [hv] at this
  cases this
  exact ⟨Grow.refl, rvv⟩
theorem it_str {z : Str} (h : PyData.strOk z = true) : ItOk K M H (Its z) (z.cps.toList.map fun c => .str ⟨#[c]⟩) := fun M1 H1 na kp fr => by
  refine ⟨fun i d hd => ?_, by show z.cps.size ≤ _; simp⟩
  rw [List.getElem?_map] at hd
  obtain ⟨c, hc, rfl⟩ := Option.map_eq_some_iff.mp hd
  have hc' : z.cps[i]? = some c := by rw [← Array.getElem?_toList]; exact hc
  refine ⟨(Array.getElem?_eq_some_iff.mp hc').1, fun x H2 hy => ?_⟩
  obtain ⟨rfl, c', h1, rfl⟩ := hy
  rw [hc'] at h1
  cases h1
  exact ⟨Grow.refl, rv_str.mpr ⟨rfl, strOk_sub (l := [c]) h fun c' hc2 => by rw [List.mem_singleton.mp hc2]; exact List.mem_of_getElem? hc⟩⟩
theorem it_rng {lo : Int} {n : Nat} : ItOk K M H (Itr lo n) (rgI lo n) := fun M1 H1 na kp fr => by
  refine ⟨fun i d hd => ?_, by show n ≤ (rgI lo n).length; unfold rgI; simp⟩
  unfold rgI at hd
  rw [List.getElem?_map] at hd
  obtain ⟨k, hk, rfl⟩ := Option.map_eq_some_iff.mp hd
  have hi : i < n := by
    have := (List.getElem?_eq_some_iff.mp hk).1
    simpa using this
  rw [List.getElem?_range hi] at hk
  cases hk
  refine ⟨hi, fun x H2 hy => ?_⟩
  obtain ⟨rfl, rfl⟩ := hy
  exact ⟨Grow.refl, rv_int.mpr rfl⟩
theorem pair_new {T : Addr} {x y : V} {d e : PV} {M1 : MS} {H1 : Hp} (fr : Fre M1 H1) (hT : H1 T = none) (hx : rv K M1 H1 x d) (hy : rv K M1 H1 y e) : Grow H1 (upd H1 T (.tup [x, y])) ∧ rv K M1 (upd H1 T (.tup [x, y])) (.ref T) (.tup [d, e]) :=
  ⟨Grow.upd hT, rv_tup.mpr ⟨T, _, rfl, fr T hT, upd_same, rvs_cons.mpr ⟨(Grow.upd hT).rv hx, rvs_cons.mpr ⟨(Grow.upd hT).rv hy, rvs_nil⟩⟩⟩⟩
theorem enum_at {l : List PV} {i : Nat} {d : PV} (h : (enumP l)[i]? = some d) : ∃ z, l[i]? = some z ∧ d = .tup [.int (i : Int), z] := by
  unfold enumP at h
  rw [List.getElem?_zipWith] at h
  by_cases hi : i < l.length
  · rw [List.getElem?_range hi, List.getElem?_eq_getElem hi] at h
    exact ⟨l[i], List.getElem?_eq_getElem hi, (Option.some.inj h).symm⟩
  · rw [List.getElem?_eq_none (l := l) (by omega)] at h
    cases h2 : (List.range l.length)[i]? <;> rw [h2] at h <;> cases h
theorem enum_len (l : List PV) : (enumP l).length = l.length := by unfold enumP; simp
theorem it_enL {a : Addr} {vs : List V} {ds : List PV} (n : ¬ M a) (h : H a = some (.lst vs)) (r : rvs K M H vs ds) : ItOk K M H (Ite K a) (enumP ds) := fun M1 H1 na kp fr => by
  have h1 : SqL K H1 a vs := SqL.of (kp a _ rfl n h)
  have r1 := rvs_st na kp ds vs r
  have hl := rvs_len r
  refine ⟨fun i d hd => ?_, ⟨vs, h1, by rw [enum_len]; omega⟩⟩
  obtain ⟨z, hz, rfl⟩ := enum_at hd
  obtain ⟨v, hv, rvv⟩ := rvs_at r1 hz
  refine ⟨⟨vs, v, h1, hv⟩, fun x H2 hy => ?_⟩
  obtain ⟨T, y, rfl, hT, rfl, hx⟩ := hy
  have := hx vs h1
  rw [hv] at this
  cases this
  exact pair_new fr hT (rv_int.mpr rfl) rvv
theorem it_enT {a : Addr} {vs : List V} {ds : List PV} (n : ¬ M a) (h : H a = some (.tup vs)) (r : rvs K M H vs ds) : ItOk K M H (WD.ItEnT K a) (enumP ds) := fun M1 H1 na kp fr => by
  have h1 : SqT K H1 a vs := SqT.of (kp a _ rfl n h)
  have r1 := rvs_st na kp ds vs r
  have hl := rvs_len r
  refine ⟨fun i d hd => ?_, ⟨vs, h1, by rw [enum_len]; omega⟩⟩
  obtain ⟨z, hz, rfl⟩ := enum_at hd
  obtain ⟨v, hv, rvv⟩ := rvs_at r1 hz
  refine ⟨⟨vs, v, h1, hv⟩, fun x H2 hy => ?_⟩
  obtain ⟨T, y, rfl, hT, rfl, hx⟩ := hy
  have := hx vs h1
  rw [hv] at this
  cases this
  exact pair_new fr hT (rv_int.mpr rfl) rvv
theorem zip_at {l m : List PV} {i : Nat} {d : PV} (h : (zipP l m)[i]? = some d) : ∃ z y, l[i]? = some z ∧ m[i]? = some y ∧ d = .tup [z, y] := by
  unfold zipP at h
  rw [List.getElem?_zipWith] at h
  cases h1 : l[i]? with
  | none => rw [h1] at h; cases h
  | some z =>
    rw [h1] at h
    cases h2 : m[i]? with
    | none => rw [h2] at h; cases h
    | some y => rw [h2] at h; exact ⟨z, y, rfl, rfl, (Option.some.inj h).symm⟩
theorem zip_len (l m : List PV) : (zipP l m).length = min l.length m.length := by unfold zipP; simp
/-- a value that is walked -/
theorem ii_val (h : IE K ξ W X it fa) (hK : X.K = K := by rfl) : II K ξ W X tg it (e1 gIt fa) := by
  obtain ⟨K, Kt⟩ := K; obtain rfl : X.K = K := hK
  refine PI.pick fun σr H Q q => ?_
  obtain ⟨N, ζ, μ, σ, wd, so, q⟩ := q
  have key := then1I wd so q
  cases ea : fa σ μ with
  | ex c f μ1 =>
    refine ⟨_, pi_list h, N, ζ, μ, σ, wd, so, ?_⟩
    unfold e1 at q
    rw [ea] at q ⊢
    exact q
  | stuck =>
    unfold e1 at q
    rw [ea] at q
    exact q.elim
  | ok w μ1 =>
    unfold e1 at q
    rw [ea] at q
    have q' : PostI ⟨X.K, Kt⟩ W N ζ μ H σr Q (gIt w μ1) := q
    cases w with
    | c _ => exact q'.elim
    | x _ _ => exact q'.elim
    | s _ => exact q'.elim
    | g _ _ => exact q'.elim
    | self => exact q'.elim
    | lam _ _ => exact q'.elim
    | t d =>
      cases d with
      | lst l =>
        refine ⟨_, pi_list h, N, ζ, μ, σ, wd, so, ?_⟩
        rw [ea]
        intro ζ' H' v ev1 wd1 r1
        obtain ⟨p, vs, rfl, n1, g1, r2⟩ := rv_lst.mp (show rv ⟨X.K, Kt⟩ (MM N ζ' μ1) H' v (.lst l) from r1)
        exact ⟨p, rfl, ⟨vs, SqL.of g1⟩, q' ζ' H' _ ev1 wd1 (it_list n1 g1 r2)⟩
      | tup l =>
        refine ⟨_, pi_tup h, N, ζ, μ, σ, wd, so, ?_⟩
        rw [ea]
        intro ζ' H' v ev1 wd1 r1
        obtain ⟨p, vs, rfl, n1, g1, r2⟩ := rv_tup.mp (show rv ⟨X.K, Kt⟩ (MM N ζ' μ1) H' v (.tup l) from r1)
        exact ⟨p, rfl, ⟨vs, SqT.of g1⟩, q' ζ' H' _ ev1 wd1 (it_tup n1 g1 r2)⟩
      | str z =>
        refine ⟨_, pi_str h, N, ζ, μ, σ, wd, so, ?_⟩
        rw [ea]
        intro ζ' H' v ev1 wd1 r1
        obtain ⟨rfl, so1⟩ := rv_str.mp (show rv ⟨X.K, Kt⟩ (MM N ζ' μ1) H' v (.str z) from r1)
        exact ⟨z, rfl, q' ζ' H' _ ev1 wd1 (it_str so1)⟩
      | non => exact q'.elim
      | bl _ => exact q'.elim
      | int _ => exact q'.elim
      | dic _ _ _ => exact q'.elim
      | obj _ _ _ => exact q'.elim
theorem RVs1 {xs : List V} {w : Val} (h : RVs K ξ ζ M H xs [w]) : ∃ v, xs = [v] ∧ RV K ξ ζ M H v w := by
  match xs, h with
  | [v], h => exact ⟨v, rfl, h.1⟩
  | [], h => exact h.elim
  | _ :: _ :: _, h => exact h.2.elim
theorem RVs2 {xs : List V} {w u : Val} (h : RVs K ξ ζ M H xs [w, u]) : ∃ v z, xs = [v, z] ∧ RV K ξ ζ M H v w ∧ RV K ξ ζ M H z u := by
  match xs, h with
  | [v, u], h => exact ⟨v, u, rfl, h.1, h.2.1⟩
  | [], h => exact h.elim
  | [_], h => exact h.2.elim
  | _ :: _ :: _ :: _, h => exact h.2.2.elim
theorem ii_range1 {p : Pos} (hg : Gl X "range") (hm : X.mg "range" = none) (ha : IA K ξ W X [e] fs) (hs : starEach [e] X.env = [(false, eval e X.env)] := by rfl) : II K ξ W X tg (.Call (.Name "range" p) [e] [] pos) (eN gRange1 fs) := PI.of (pi_range1 hg hm ha hs) fun σr H Q q => by
  obtain ⟨N, ζ, μ, σ, wd, so, q⟩ := q
  refine (thenNI wd so q).mono fun xs H1 ⟨ζ1, μ1, ws, ev1, wd1, so1, r1, q1⟩ => ?_
  unfold gRange1 at q1
  split at q1
  · split at q1
    · rename_i j hj
      obtain ⟨v, rfl, hv⟩ := RVs1 r1
      cases rv_int.mp (show rv K (MM N ζ1 μ1) H1 v (.int j) from hv)
      exact ⟨j, rfl, (bnd_ok hj).1, (bnd_ok hj).2, q1 ζ1 H1 _ Ev.refl wd1 it_rng⟩
    · exact q1.elim
  · exact q1.elim
theorem ii_enum {p tpos : Pos} {elts : List Expr} {kk : Nat} (hg : Gl X "enumerate") (hm : X.mg "enumerate" = none) (ha : IA K ξ W X [e] fs) (hs : starEach [e] X.env = [(false, eval e X.env)] := by rfl) (hK : X.K = K := by rfl) : II K ξ W X (.Tuple elts kk tpos) (.Call (.Name "enumerate" p) [e] [] pos) (eN gEnum fs) := by
  obtain ⟨K, Kt⟩ := K; obtain rfl : X.K = K := hK
  refine PI.pick fun σr H Q q => ?_
  obtain ⟨N, ζ, μ, σ, wd, so, q⟩ := q
  unfold eN at q
  cases ea : fs σ μ with
  | ex c f μ1 =>
    refine ⟨_, pi_enum hg hm ha hs, N, ζ, μ, σ, wd, so, ?_⟩
    rw [ea] at q ⊢
    exact q
  | stuck =>
    rw [ea] at q
    exact q.elim
  | ok ws μ1 =>
    rw [ea] at q
    have q' : PostI ⟨X.K, Kt⟩ W N ζ μ H σr Q (gEnum ws μ1) := q
    unfold gEnum at q'
    split at q'
    · rename_i d
      cases d with
      | lst l =>
        refine ⟨_, pi_enum hg hm ha hs, N, ζ, μ, σ, wd, so, ?_⟩
        rw [ea]
        intro ζ' H' vs ev1 wd1 r1
        obtain ⟨v, rfl, r1'⟩ := RVs1 r1
        obtain ⟨p, vs, rfl, n1, g1, r2⟩ := rv_lst.mp (show rv ⟨X.K, Kt⟩ (MM N ζ' μ1) H' v (.lst l) from r1')
        exact ⟨p, vs, rfl, SqL.of g1, q' ζ' H' _ ev1 wd1 (it_enL n1 g1 r2)⟩
      | tup l =>
        refine ⟨_, WD.pi_enumT X.K hg hm ha hs, N, ζ, μ, σ, wd, so, ?_⟩
        rw [ea]
        intro ζ' H' vs ev1 wd1 r1
        obtain ⟨v, rfl, r1'⟩ := RVs1 r1
        obtain ⟨p, vs, rfl, n1, g1, r2⟩ := rv_tup.mp (show rv ⟨X.K, Kt⟩ (MM N ζ' μ1) H' v (.tup l) from r1')
        exact ⟨p, vs, rfl, SqT.of g1, q' ζ' H' _ ev1 wd1 (it_enT n1 g1 r2)⟩
      | str z => exact q'.elim
      | non => exact q'.elim
      | bl _ => exact q'.elim
      | int _ => exact q'.elim
      | dic _ _ _ => exact q'.elim
      | obj _ _ _ => exact q'.elim
    · exact q'.elim
theorem it_zipL {a b : Addr} {vs ws : List V} {ds es : List PV} (n : ¬ M a) (n' : ¬ M b) (h : H a = some (.lst vs)) (h' : H b = some (.lst ws)) (r : rvs K M H vs ds) (r' : rvs K M H ws es) : ItOk K M H (Itz K a b) (zipP ds es) := fun M1 H1 na kp fr => by
  have h1 : SqL K H1 a vs := SqL.of (kp a _ rfl n h)
  have h2 : SqL K H1 b ws := SqL.of (kp b _ rfl n' h')
  have r1 := rvs_st na kp ds vs r
  have r2 := rvs_st na kp es ws r'
  have hl := rvs_len r
  have hl2 := rvs_len r'
  refine ⟨fun i d hd => ?_, ?_⟩
  · obtain ⟨z, y, hz, hy, rfl⟩ := zip_at hd
    obtain ⟨v, hv, rvv⟩ := rvs_at r1 hz
    obtain ⟨u, hu, rvu⟩ := rvs_at r2 hy
    refine ⟨⟨vs, ws, v, u, h1, h2, hv, hu⟩, fun x H2 hy => ?_⟩
    obtain ⟨T, x1, x2, rfl, hT, rfl, k1, k2⟩ := hy
    have e1 := k1 vs h1
    have e2 := k2 ws h2
    rw [hv] at e1
    rw [hu] at e2
    cases e1
    cases e2
    exact pair_new fr hT rvv rvu
  · refine ⟨vs, ws, h1, h2, ?_⟩
    rw [zip_len]
    omega
theorem it_zipT {a b : Addr} {vs ws : List V} {ds es : List PV} (n : ¬ M a) (n' : ¬ M b) (h : H a = some (.tup vs)) (h' : H b = some (.tup ws)) (r : rvs K M H vs ds) (r' : rvs K M H ws es) : ItOk K M H (RZ.ItzT K a b) (zipP ds es) := fun M1 H1 na kp fr => by
  have h1 : SqT K H1 a vs := SqT.of (kp a _ rfl n h)
  have h2 : SqT K H1 b ws := SqT.of (kp b _ rfl n' h')
  have r1 := rvs_st na kp ds vs r
  have r2 := rvs_st na kp es ws r'
  have hl := rvs_len r
  have hl2 := rvs_len r'
  refine ⟨fun i d hd => ?_, ?_⟩
  · obtain ⟨z, y, hz, hy, rfl⟩ := zip_at hd
    obtain ⟨v, hv, rvv⟩ := rvs_at r1 hz
    obtain ⟨u, hu, rvu⟩ := rvs_at r2 hy
    refine ⟨⟨vs, ws, v, u, h1, h2, hv, hu⟩, fun x H2 hy => ?_⟩
    obtain ⟨T, x1, x2, rfl, hT, rfl, k1, k2⟩ := hy
    have e1 := k1 vs h1
    have e2 := k2 ws h2
    rw [hv] at e1
    rw [hu] at e2
    cases e1
    cases e2
    exact pair_new fr hT rvv rvu
  · refine ⟨vs, ws, h1, h2, ?_⟩
    rw [zip_len]
    omega

theorem ii_zip {e2 : Expr} {p tpos : Pos} {elts : List Expr} {kk : Nat} (hg : Gl X "zip") (hm : X.mg "zip" = none) (ha : IA K ξ W X [e, e2] fs) (hs : starEach [e, e2] X.env = (false, eval e X.env) :: starEach [e2] X.env := by rfl) (hpl : (backTo pos (starEach [e2] X.env)).any (·.1) = false := by rfl) (hK : X.K = K := by rfl) :
    II K ξ W X (.Tuple elts kk tpos) (.Call (.Name "zip" p) [e, e2] [] pos) (eN gZip fs) := PI.of (WD.k_pi_zipA K hg hm ha hs hpl hK) fun σr H Q q => by
  obtain ⟨N, ζ, μ, σ, wd, so, q⟩ := q
  refine (thenNI wd so q).mono fun xs H1 ⟨ζ1, μ1, ws, ev1, wd1, so1, r1, q1⟩ => ?_
  unfold gZip at q1
  split at q1
  · rename_i l m
    obtain ⟨v, u, rfl, hv, hu⟩ := RVs2 r1
    obtain ⟨p, vs, rfl, n1, g1, r2⟩ := rv_lst.mp (show rv K (MM N ζ1 μ1) H1 v (.lst l) from hv)
    obtain ⟨p', vs', rfl, n1', g1', r2'⟩ := rv_lst.mp (show rv K (MM N ζ1 μ1) H1 u (.lst m) from hu)
    exact ⟨p, p', vs, vs', rfl, .inl ⟨SqL.of g1, SqL.of g1', q1 ζ1 H1 _ Ev.refl wd1 (it_zipL n1 n1' g1 g1' r2 r2')⟩⟩
  · rename_i l m
    obtain ⟨v, u, rfl, hv, hu⟩ := RVs2 r1
    obtain ⟨p, vs, rfl, n1, g1, r2⟩ := rv_tup.mp (show rv K (MM N ζ1 μ1) H1 v (.tup l) from hv)
    obtain ⟨p', vs', rfl, n1', g1', r2'⟩ := rv_tup.mp (show rv K (MM N ζ1 μ1) H1 u (.tup m) from hu)
    exact ⟨p, p', vs, vs', rfl, .inr ⟨SqT.of g1, SqT.of g1', q1 ζ1 H1 _ Ev.refl wd1 (it_zipT n1 n1' g1 g1' r2 r2')⟩⟩
  · exact q1.elim
end
/-! ### list comprehensions -/
def R.noex {α : Type} : R α → R α
  | .ex _ _ _ => .stuck
  | r => r
def wipeM (σ : Sl) : List Nat → Sl
  | [] => σ
  | v :: vs => (wipeM σ vs).set v none
def gT (w : Val) (μ : Store) : R PV := match w with
  | .t d => .ok d μ
  | _ => .stuck
def lcL (T : Tgt) (test : Sl → Store → R Bool) (elt : ME) : List PV → Sl → Store → R (List PV)
  | [], _, μ => .ok [] μ
  | d :: ds, σ, μ => match asg T (.t d) σ with
    | none => .stuck
    | some σ1 => (test σ1 μ).noex.bind fun b μ1 => if b then (elt σ1 μ1).noex.bind fun w μ2 => (gT w μ2).bind fun y μ3 => (lcL T test elt ds σ μ3).bind fun ys μ4 => .ok (y :: ys) μ4 else lcL T test elt ds σ μ1
def szF (ds : List PV) (μ : Store) : R (List PV) := if ds.length ≤ sizeLine then .ok ds μ else .stuck
def lcF (it : Sl → Store → R (List PV)) (T : Tgt) (test : Sl → Store → R Bool) (elt : ME) : Sl → Store → R (List PV) := fun σ μ => (it σ μ).bind fun items μ1 => (lcL T test elt items (wipeM σ T.sl) μ1).bind szF
def tYes' : Sl → Store → R Bool := fun _ μ => .ok true μ
abbrev W0 : WX := fun _ _ _ _ => False
section
variable {X : Cx} {K : KT} {ξ : Xi} {W : WX} {N : MS} {ζ : List Addr} {μ : Store} {M : MS} {H : Hp} {σr : L2.St} {σ : Sl} {tg it e : Expr} {T : Tgt} {fi : Sl → Store → R (List PV)} {test : Sl → Store → R Bool} {elt : ME}
theorem Sok.wipe (h : Sok K ξ ζ M H σr σ) : ∀ s : List Nat, Sok K ξ ζ M H (L2.wipe σr s) (wipeM σ s)
  | [] => h
  | v :: vs => (Sok.wipe h vs).drop
theorem Ev.mutNew {ζ1 : List Addr} {μ1 : Store} {H1 : Hp} {D : Addr} {o : HO} (e : Ev K.tb ζ μ H ζ1 μ1 H1) (h : nn K.tb (H D)) : Ev K.tb ζ μ H ζ1 μ1 (upd H1 D o) := ⟨e.pre, e.fr.mutNew h, e.ml⟩
theorem Wd.mutN {D : Addr} {o o0 : HO} (wd : Wd K N ζ μ H) (h : N D) (h0 : H D = some o0) (n : isTb o0 = false := by rfl) (x : isX o0 = false := by rfl) (n1 : isTb o = false := by rfl) (x1 : isX o = false := by rfl) : Wd K N ζ μ (upd H D o) := by
  have ne : ∀ a, ¬ MM N ζ μ a → a ≠ D := fun a n z => n (.inr (by rw [z]; exact h))
  refine ⟨wd.len, wd.inj, fun k c a h1 h2 => (wd.cell k c a h1 h2).st (fun _ _ h => h) (fun _ n _ => n) (fun b u _ n e => by rw [upd_ne (ne b n)]; exact e) (fun u _ e => ?_), fun a ha => ⟨(wd.nd a ha).1, (by
    by_cases q : a = D
    · rw [q]; exact ⟨o, upd_same, n1, x1⟩
    · rw [upd_ne q]; exact (wd.nd a ha).2)⟩, tabs_mut h0 n x wd.tb⟩
  rw [upd_ne]
  · exact e
  · rintro rfl
    exact (wd.nd a h).1 ⟨k, c, h2, h1⟩
theorem rvs_mutN {D : Addr} {o : HO} {vs : List V} {ds : List PV} (h : M D) (r : rvs K M H vs ds) : rvs K M (upd H D o) vs ds := rvs_st (fun _ n _ => n) (fun b u _ n e => by rw [upd_ne fun z => n (by rw [z]; exact h)]; exact e) ds vs r
theorem rv_mutN {D : Addr} {o : HO} {v : V} {d : PV} (h : M D) (r : rv K M H v d) : rv K M (upd H D o) v d := rv_st (fun _ n _ => n) (fun b u _ n e => by rw [upd_ne fun z => n (by rw [z]; exact h)]; exact e) d v r
/-- the slots, seen with more set aside -/
theorem Sok.aside {N' : MS} {ζ1 : List Addr} {μ1 : Store} {H1 : Hp} (h : Sok K ξ ζ (MM N ζ μ) H σr σ) (pre : ∀ (k : Nat) (a : Addr), ζ[k]? = some a → ζ1[k]? = some a) (na : ∀ a, ¬ MM N ζ μ a → ¬ nn K.tb (H a) → ¬ MM N' ζ1 μ1 a) (kp : ∀ a o, nt K.tb o → ¬ MM N ζ μ a → H a = some o → H1 a = some o) : Sok K ξ ζ1 (MM N' ζ1 μ1) H1 σr σ := by
  refine ⟨h.1, fun i w hw => ?_⟩
  obtain ⟨v, h1, h2⟩ := h.2 i w hw
  exact ⟨v, h1, h2.st pre na kp⟩
theorem lcL_noex : ∀ {items : List PV} {σ : Sl} {μ3 : Store} {c : Str} {f : Option (Str × PV)} {μ4 : Store}, lcL T test elt items σ μ3 = .ex c f μ4 → False := by
  intro items
  induction items with
  | nil => intro σ μ3 c f μ4 h; unfold lcL at h; cases h
  | cons d ds ih =>
    intro σ μ3 c f μ4 h
    unfold lcL at h
    split at h
    · cases h
    · rename_i σ1 _
      cases et : test σ1 μ3 with
      | stuck => rw [et] at h; cases h
      | ex _ _ _ => rw [et] at h; cases h
      | ok b μ5 =>
        rw [et] at h
        cases b with
        | false => exact ih h
        | true =>
          have h2 : ((elt σ1 μ5).noex.bind fun w μ2 => (gT w μ2).bind fun y μ3 => (lcL T test elt ds σ μ3).bind fun ys μ4 => .ok (y :: ys) μ4) = .ex c f μ4 := h
          cases ee : elt σ1 μ5 with
          | stuck => rw [ee] at h2; cases h2
          | ex _ _ _ => rw [ee] at h2; cases h2
          | ok w μ6 =>
            rw [ee] at h2
            cases w with
            | c _ => cases h2
            | x _ _ => cases h2
            | s _ => cases h2
            | g _ _ => cases h2
            | self => cases h2
            | lam _ _ => cases h2
            | t y' =>
              have h3 : ((lcL T test elt ds σ μ6).bind fun ys μ4 => R.ok (y' :: ys) μ4) = .ex c f μ4 := h2
              cases el : lcL T test elt ds σ μ6 with
              | stuck => rw [el] at h3; cases h3
              | ok _ _ => rw [el] at h3; cases h3
              | ex c' f' μ7 => exact ih el
/-- the reading of a comprehension -/
theorem rd_lc {Q : VK} (q : tF K ξ W (lcF fi T test elt) σr H Q) : tLc (tI K ξ W fi) (tG K ξ T) (tT K ξ W0 test) (tE K ξ W0 elt) T.sl σr H Q := by
  obtain ⟨N, ζ, μ, σ, wd, so, q⟩ := q
  refine ⟨N, ζ, μ, σ, wd, so, ?_⟩
  unfold lcF at q
  cases e : fi σ μ with
  | stuck => rw [e] at q; exact q
  | ex c f μ1 => rw [e] at q; exact q
  | ok items μ1 =>
    rw [e] at q
    intro ζ1 H1 J ev1 wd1 ok D hD
    have q1 : PostF K W N ζ1 μ1 H1 σr Q ((lcL T test elt items (wipeM σ T.sl) μ1).bind szF) := PostF.ev ev1 q
    have so1 := so.ev ev1
    have nN : ¬ N D := fun z => (wd1.nd D z).2.ne hD
    refine ⟨fun i m H' => ∃ ζ' μ' acc vs, i ≤ items.length ∧ m = items.length - i ∧ Ev K.tb ζ1 μ1 H1 ζ' μ' H' ∧ Wd K (WD.plus N D) ζ' μ' H' ∧ H' D = some (.lst vs) ∧ rvs K (MM (WD.plus N D) ζ' μ') H' vs acc ∧ PostF K W N ζ1 μ1 H1 σr Q ((lcL T test elt (items.drop i) (wipeM σ T.sl) μ').bind fun ys μ4 => szF (acc ++ ys) μ4),
      ⟨_, ζ1, μ1, [], [], Nat.zero_le _, rfl, Ev.new hD, wd1.aside (Grow.upd hD) hD ⟨_, upd_same, rfl, rfl⟩, upd_same, rvs_nil, q1⟩, ?_⟩
    rintro i m H' ⟨ζ', μ', acc, vs, hi, hm, ev', wd', hD', ra, q'⟩
    have na : ∀ a, ¬ MM N ζ1 μ1 a → ¬ nn K.tb (H1 a) → ¬ MM (WD.plus N D) ζ' μ' a := fun a n ne z => by
      rcases z with z | z | z
      · exact (ev'.ml a z).elim (fun z => n (.inl z)) ne
      · exact n (.inr z)
      · exact ne (nn_none (by rw [z]; exact hD))
    obtain ⟨k1, k2⟩ := ok (MM (WD.plus N D) ζ' μ') H' na ev'.keep wd'.fre
    have hDM : MM (WD.plus N D) ζ' μ' D := .inr (.inr rfl)
    have hlen := rvs_len ra
    by_cases hlt : i < items.length
    · refine .inr ?_
      have hd : items.drop i = items[i] :: items.drop (i + 1) := List.drop_eq_getElem_cons hlt
      obtain ⟨kgo, ky⟩ := k1 i _ (List.getElem?_eq_getElem hlt)
      refine ⟨kgo, fun H2 => ∃ ζ2 μ2 acc2 vs2, i + 1 ≤ items.length ∧ Ev K.tb ζ1 μ1 H1 ζ2 μ2 H2 ∧ Wd K (WD.plus N D) ζ2 μ2 H2 ∧ H2 D = some (.lst vs2) ∧ rvs K (MM (WD.plus N D) ζ2 μ2) H2 vs2 acc2 ∧ PostF K W N ζ1 μ1 H1 σr Q ((lcL T test elt (items.drop (i + 1)) (wipeM σ T.sl) μ2).bind fun ys μ4 => szF (acc2 ++ ys) μ4),
        fun H2 ⟨ζ2, μ2, acc2, vs2, a1, a2, a3, a4, a5, a6⟩ => ⟨items.length - (i + 1), by omega, ζ2, μ2, acc2, vs2, a1, rfl, a2, a3, a4, a5, a6⟩, fun x Hy hy => ?_⟩
      obtain ⟨gr, rx⟩ := ky x Hy hy
      rw [hd] at q'
      unfold lcL at q'
      cases ea : asg T (.t items[i]) (wipeM σ T.sl) with
      | none => rw [ea] at q'; exact q'.elim
      | some σ1 =>
        rw [ea] at q'
        dsimp only at q'
        have wdy := wd'.fr0 gr
        have evy : Ev K.tb ζ1 μ1 H1 ζ' μ' Hy := ev'.trans gr.ev
        have soy : Sok K ξ ζ' (MM (WD.plus N D) ζ' μ') Hy (L2.wipe σr T.sl) (wipeM σ T.sl) := (so1.wipe T.sl).aside ev'.pre na (fun a o t n h => gr a o (ev'.keep a o t n h))
        refine ⟨WD.plus N D, ζ', μ', wipeM σ T.sl, .t items[i], σ1, wdy, soy, rx, ea, fun σr1 so1 ag => ⟨?_, WD.plus N D, ζ', μ', σ1, wdy, so1, ?_⟩⟩
        · have h1 := ag.wipe
          rw [h1]
          refine List.ext_getElem? fun j => ?_
          rw [wipe_get, wipe_get]
          by_cases hj : j ∈ T.sl
          · rw [if_pos hj, if_pos hj, wipe_length]
          · rw [if_neg hj, if_neg hj]
        · cases et : test σ1 μ' with
          | stuck => rw [et] at q'; exact q'.elim
          | ex c f μ2 => rw [et] at q'; exact q'.elim
          | ok b μ2 =>
            rw [et] at q'
            intro ζ2 H2 ev2 wd2
            cases b with
            | false =>
              refine iteF ⟨ζ2, μ2, acc, vs, hlt, evy.trans ev2, wd2, ?_, ?_, q'⟩
              · exact ev2.fr.keep _ _ rfl (fun z => (wdy.nd D (.inr rfl)).1 z) (gr _ _ hD')
              · exact ev2.rvs (gr.rvs ra)
            | true =>
              refine iteT ⟨WD.plus N D, ζ2, μ2, σ1, wd2, so1.ev ev2, ?_⟩
              have q2 : PostF K W N ζ1 μ1 H1 σr Q (((elt σ1 μ2).noex.bind fun w μ2 => (gT w μ2).bind fun y μ3 => (lcL T test elt (items.drop (i + 1)) (wipeM σ T.sl) μ3).bind fun ys μ4 => .ok (y :: ys) μ4).bind fun ys μ4 => szF (acc ++ ys) μ4) := q'
              cases ee : elt σ1 μ2 with
              | stuck => rw [ee] at q2; exact q2.elim
              | ex c f μ3 => rw [ee] at q2; exact q2.elim
              | ok w μ3 =>
                rw [ee] at q2
                intro ζ3 H3 y ev3 wd3 r3
                cases w with
                | c _ => exact q2.elim
                | x _ _ => exact q2.elim
                | s _ => exact q2.elim
                | g _ _ => exact q2.elim
                | self => exact q2.elim
                | lam _ _ => exact q2.elim
                | t y' =>
                  have q3 : PostF K W N ζ1 μ1 H1 σr Q (((lcL T test elt (items.drop (i + 1)) (wipeM σ T.sl) μ3).bind fun ys μ4 => .ok (y' :: ys) μ4).bind fun ys μ4 => szF (acc ++ ys) μ4) := q2
                  have hD3 : H3 D = some (.lst vs) := ev3.fr.keep _ _ rfl (fun z => (wd2.nd D (.inr rfl)).1 z) (ev2.fr.keep _ _ rfl (fun z => (wdy.nd D (.inr rfl)).1 z) (gr _ _ hD'))
                  have hDM3 : MM (WD.plus N D) ζ3 μ3 D := .inr (.inr rfl)
                  have hsz : vs.length < sizeLine := by
                    cases el : lcL T test elt (items.drop (i + 1)) (wipeM σ T.sl) μ3 with
                    | stuck => rw [el] at q3; exact q3.elim
                    | ex c f μ4 =>
                      exfalso
                      exact lcL_noex el
                    | ok ys μ4 =>
                      rw [el] at q3
                      have q4 : PostF K W N ζ1 μ1 H1 σr Q (szF (acc ++ (y' :: ys)) μ4) := q3
                      unfold szF at q4
                      split at q4
                      · rename_i hz
                        rw [List.length_append, List.length_cons] at hz
                        omega
                      · exact q4.elim
                  refine ⟨vs, hD3, hsz, ζ3, μ3, acc ++ [y'], vs ++ [y], hlt, ((evy.trans ev2).trans ev3).mutNew (nn_none hD), wd3.mutN (.inr rfl) hD3, upd_same, rvs_app (rvs_mutN hDM3 (ev3.rvs (ev2.rvs (gr.rvs ra)))) (rvs_cons.mpr ⟨rv_mutN hDM3 r3, rvs_nil⟩), ?_⟩
                  cases el : lcL T test elt (items.drop (i + 1)) (wipeM σ T.sl) μ3 with
                  | stuck => rw [el] at q3; exact q3
                  | ex c f μ4 => exact (lcL_noex el).elim
                  | ok ys μ4 =>
                    rw [el] at q3
                    show PostF K W N ζ1 μ1 H1 σr Q (szF ((acc ++ [y']) ++ ys) μ4)
                    rw [List.append_assoc]
                    exact q3
    · refine .inl ?_
      have hi2 : i = items.length := by omega
      subst hi2
      rw [List.drop_length] at q'
      have q2 : PostF K W N ζ1 μ1 H1 σr Q (szF (acc ++ []) μ') := q'
      rw [List.append_nil] at q2
      unfold szF at q2
      split at q2
      · exact ⟨k2, q2 ζ' H' D vs ev' wd' (nn_none hD) hD' ra⟩
      · exact q2.elim
end
end PM
namespace PM
open PySem PySem.Spec PyProof.Rows L2
open WD (MS upd_none)
section
variable {X : Cx} {K : KT} {ξ : Xi} {W : WX} {N : MS} {ζ : List Addr} {μ : Store} {M : MS} {H : Hp} {σr : L2.St} {σ : Sl} {tg it e o : Expr} {es : List Expr} {T : Tgt} {fi : Sl → Store → R (List PV)} {fs : Sl → Store → R (List Val)} {test : Sl → Store → R Bool} {elt fa fo : ME} {st : Stmt} {pos : Pos}
theorem r_ofF {f : Sl → Store → R (List PV)} {Q : VK} (q : tE K ξ W (eOfF f) σr H Q) : tF K ξ W f σr H Q := by
  obtain ⟨N, ζ, μ, σ, wd, so, q⟩ := q
  refine ⟨N, ζ, μ, σ, wd, so, ?_⟩
  unfold eOfF at q
  cases e : f σ μ with
  | ok ds μ1 =>
    rw [e] at q
    intro ζ' H' a vs ev w hn ha r
    refine q ζ' H' _ ev w.unside (rv_lst.mpr ⟨a, vs, rfl, fun z => ?_, ha, rvs_wk (fun x z => z.elim .inl fun z => .inr (.inl z)) r⟩)
    rcases z with z | z
    · exact (w.nd a (.inr rfl)).1 z
    · exact (wd.nd a z).2.nn hn
  | ex c f μ1 => rw [e] at q; exact q
  | stuck => rw [e] at q; exact q
theorem r_cellF {f : Sl → Store → R (List PV)} {Q : VK} (q : tE K ξ W (eCellF f) σr H Q) : tF K ξ W f σr H Q := by
  obtain ⟨N, ζ, μ, σ, wd, so, q⟩ := q
  refine ⟨N, ζ, μ, σ, wd, so, ?_⟩
  unfold eCellF at q
  cases e : f σ μ with
  | ok ds μ1 =>
    rw [e] at q
    intro ζ' H' a vs ev w hn ha r
    refine q (ζ' ++ [a]) H' _ ⟨fun k b hb => ?_, ev.fr, fun b hb => ?_⟩ (w.push (fun z => (wd.nd a z).2.nn hn) ⟨vs, ha, r⟩) ⟨a, by rw [← w.len, List.getElem?_append_right (Nat.le_refl _), Nat.sub_self]; rfl, rfl⟩
    · have := ev.pre k b hb
      rw [List.getElem?_append_left (List.getElem?_eq_some_iff.mp this).1]
      exact this
    · rcases (Mof_snoc w.len b).mp hb with z | z
      · exact ev.ml b z
      · exact .inr (by rw [z]; exact hn)
  | ex c f μ1 => rw [e] at q; exact q
  | stuck => rw [e] at q; exact q
/-- [e for ..] -/
theorem f_lc (h : PE X e (tLc (tI K ξ W fi) (tG K ξ T) (tT K ξ W0 test) (tE K ξ W0 elt) T.sl)) : IF K ξ W X e (lcF fi T test elt) := PE.of h fun _ _ _ q => rd_lc q
theorem s_lcT {i : Nat} (h : PS X st (tAsg (tLc (tI K ξ W fi) (tG K ξ T) (tT K ξ W0 test) (tE K ξ W0 elt) T.sl) (gName i))) : IS K ξ W X st (sAsg (.nm i) (eOfF (lcF fi T test elt))) := s_asgR h fun _ _ _ q => rd_lc (r_ofF q)
theorem s_lcC {i : Nat} (h : PS X st (tAsg (tLc (tI K ξ W fi) (tG K ξ T) (tT K ξ W0 test) (tE K ξ W0 elt) T.sl) (gName i))) : IS K ξ W X st (sAsg (.nm i) (eCellF (lcF fi T test elt))) := s_asgR h fun _ _ _ q => rd_lc (r_cellF q)
theorem ts_yes : PTs X [] (tT K ξ W tYes') := by
  have h : PTs X [] tYes := pts_nil
  exact ⟨fun pins s σ H Q I q => h.run pins s σ H Q I (by
    obtain ⟨N, ζ, μ, σ, wd, so, q⟩ := q
    exact q ζ _ Ev.refl wd)⟩

/-! ### a thing that changes is changed -/
theorem Mof_set {k : Nat} {c c' : Cell} (h : μ[k]? = some (some c)) : ∀ x, Mof ζ (μ.set k (some c')) x ↔ Mof ζ μ x := by
  have hk := (List.getElem?_eq_some_iff.mp h).1
  intro x
  constructor
  · rintro ⟨j, d, h1, h2⟩
    by_cases e : k = j
    · subst e; exact ⟨k, c, h1, h⟩
    · rw [List.getElem?_set_ne e] at h2; exact ⟨j, d, h1, h2⟩
  · rintro ⟨j, d, h1, h2⟩
    by_cases e : k = j
    · subst e; exact ⟨k, c', h1, List.getElem?_set_self hk⟩
    · exact ⟨j, d, h1, by rw [List.getElem?_set_ne e]; exact h2⟩
theorem MM_set {k : Nat} {c c' : Cell} (h : μ[k]? = some (some c)) : ∀ x, MM N ζ (μ.set k (some c')) x ↔ MM N ζ μ x := fun x => or_congr (Mof_set h x) Iff.rfl
theorem ev_set {k : Nat} {a : Addr} {c c' : Cell} {o' : HO} (hk : μ[k]? = some (some c)) (ha : ζ[k]? = some a) (no : isTb o' = false := by rfl) : Ev K.tb ζ μ H ζ (μ.set k (some c')) (upd H a o') :=
  ⟨fun _ _ h => h, Fr.mut ⟨k, c, ha, hk⟩ no, fun x h => .inl ((Mof_set hk x).mp h)⟩
theorem Wd.setC {k : Nat} {a : Addr} {c c' : Cell} {o' : HO} (wd : Wd K N ζ μ H) (hk : μ[k]? = some (some c)) (ha : ζ[k]? = some a) (r : cellR K (ζ.take k) (MM N ζ μ) (upd H a o') a c') : Wd K N ζ (μ.set k (some c')) (upd H a o') := by
  have hM := MM_set (N := N) (ζ := ζ) (c' := c') hk
  have hkl := (List.getElem?_eq_some_iff.mp hk).1
  have aM : MM N ζ μ a := .inl ⟨k, c, ha, hk⟩
  have live : ∀ {j : Nat} {d : Cell}, (μ.set k (some c'))[j]? = some (some d) → ∃ d', μ[j]? = some (some d') ∧ (j ≠ k → d' = d) := by
    intro j d h
    by_cases e : k = j
    · subst e; exact ⟨c, hk, fun z => absurd rfl z⟩
    · rw [List.getElem?_set_ne e] at h; exact ⟨d, h, fun _ => rfl⟩
  refine ⟨by rw [List.length_set]; exact wd.len, fun i j b c1 c2 h1 h2 h3 h4 => ?_, fun j d b h1 h2 => ?_, fun b hb => ?_, (by obtain ⟨o, e1, e2, e3⟩ := (wd.cell k c a hk ha).obj; exact tabs_mut e1 e2 e3 wd.tb)⟩
  · obtain ⟨d1, g1, _⟩ := live h3
    obtain ⟨d2, g2, _⟩ := live h4
    exact wd.inj i j b d1 d2 h1 h2 g1 g2
  · by_cases e : k = j
    · subst e
      rw [ha] at h2
      cases h2
      rw [List.getElem?_set_self hkl] at h1
      cases h1
      exact r.st (fun _ _ h => h) (fun x n _ z => n ((hM x).mp z)) (fun _ _ _ _ e => e) (fun _ _ e => e)
    · rw [List.getElem?_set_ne e] at h1
      have hb : b ≠ a := fun z => e (wd.inj k j a c d ha (z ▸ h2) hk h1)
      exact (wd.cell j d b h1 h2).st (fun _ _ h => h) (fun x n _ z => n ((hM x).mp z)) (fun x o _ n hx => by rw [upd_ne fun z => n (by rw [z]; exact aM)]; exact hx) (fun o _ hx => by rw [upd_ne hb]; exact hx)
  · refine ⟨fun z => (wd.nd b hb).1 ((Mof_set hk b).mp z), ?_⟩
    rw [upd_ne fun z => (wd.nd b hb).1 (by rw [z]; exact ⟨k, c, ha, hk⟩)]
    exact (wd.nd b hb).2
/-- methods that change a list: what they answer, what the list is then -/
abbrev MF := List PV → List PV → Option (PV × List PV)
def mAppend : MF := fun old args => match args with
  | [d] => if old.length < sizeLine then some (.non, old ++ [d]) else none
  | _ => none
def mClear : MF := fun _ args => match args with
  | [] => some (.non, [])
  | _ => none
/-- the reading of such a method: in the heap -/
def rMF (K : KT) (m : MF) : V → List V → Hp → VK → Prop := fun x xs H Q => ∃ M a vs ds es ret new, x = .ref a ∧ M a ∧ H a = some (.lst vs) ∧ rvs K M H vs ds ∧ rvs K M H xs es ∧ m ds es = some (ret, new) ∧
  ∀ v vs', rv K M H v ret → rvs K M H vs' new → Q v (upd H a (.lst vs'))
def lstAt (μ : Store) : Val → Option (Nat × List PV)
  | .c k => match μ[k]? with
    | some (some (.lst ds)) => some (k, ds)
    | _ => none
  | _ => none
def gMut (m : MF) (w : Val) (ws : List Val) (μ : Store) : R Val := match lstAt μ w, asT ws with
  | some (k, ds), some es => match m ds es with
    | some (ret, new) => .ok (.t ret) (μ.set k (some (.lst new)))
    | none => .stuck
  | _, _ => .stuck
def gExt (w : Val) (ws : List Val) (μ : Store) : R Val := match lstAt μ w, views μ ws with
  | some (k, ds), some [.lst es] => if ds.length + es.length ≤ sizeLine then .ok (.t .non) (μ.set k (some (.lst (ds ++ es)))) else .stuck
  | _, _ => .stuck
def eMutG (g : Val → List Val → Store → R Val) (o : ME) (as : Sl → Store → R (List Val)) : ME := fun σ μ => (o σ μ).bind fun w μ1 => match lstAt μ1 w with
  | none => .stuck
  | some _ => (as σ μ1).bind fun ws μ2 => g w ws μ2
abbrev eMut (m : MF) := eMutG (gMut m)
abbrev eExt := eMutG gExt
theorem lstAt_ok {w : Val} {k : Nat} {ds : List PV} {v : V} (wd : Wd K N ζ μ H) (r : RV K ξ ζ (MM N ζ μ) H v w) (e : lstAt μ w = some (k, ds)) : ∃ a vs, w = .c k ∧ v = .ref a ∧ ζ[k]? = some a ∧ μ[k]? = some (some (.lst ds)) ∧ H a = some (.lst vs) ∧ rvs K (MM N ζ μ) H vs ds := by
  cases w with
  | c j =>
    obtain ⟨a, ha, rfl⟩ := r
    simp only [lstAt] at e
    split at e
    · rename_i ds' hk
      cases e
      obtain ⟨vs, h1, h2⟩ := wd.cell k _ a hk ha
      exact ⟨a, vs, rfl, rfl, ha, hk, h1, h2⟩
    · cases e
  | t _ => cases e
  | x _ _ => cases e
  | s _ => cases e
  | g _ _ => cases e
  | self => cases e
  | lam _ _ => cases e
theorem read_mut {m : MF} {w : Val} {ws : List Val} {x : V} {xs : List V} {Q : VK} (wd : Wd K N ζ μ H) (r : RV K ξ ζ (MM N ζ μ) H x w) (rs : RVs K ξ ζ (MM N ζ μ) H xs ws) (h : PostE K ξ W N ζ μ H σr Q (gMut m w ws μ)) : rMF K m x xs H Q := by
  unfold gMut at h
  split at h
  · rename_i k ds es e1 e2
    split at h
    · rename_i ret new e3
      obtain ⟨a, vs, rfl, rfl, ha, hk, h1, h2⟩ := lstAt_ok wd r e1
      refine ⟨MM N ζ μ, a, vs, ds, es, ret, new, rfl, .inl ⟨k, _, ha, hk⟩, h1, h2, asT_rvs rs e2, e3, fun v vs' rv' rn => ?_⟩
      have ev : Ev K.tb ζ μ H ζ (μ.set k (some (.lst new))) (upd H a (.lst vs')) := ev_set hk ha
      exact h ζ _ v ev (wd.setC hk ha ⟨vs', upd_same, rvs_mutN (.inl ⟨k, _, ha, hk⟩) rn⟩) (ev.rv rv')
    · exact h.elim
  · exact h.elim
theorem mt_of {m : MF} {id : String} {r : V → List V → Hp → VK → Prop} (h : MtM X id r) (k : ∀ x xs H Q, rMF K m x xs H Q → r x xs H Q) : MtM X id (rMF K m) := fun pins s σ H x xs v us Q I rx rs q => h pins s σ H x xs v us Q I rx rs (k x xs H Q q)
theorem rvs1 {xs : List V} {d : PV} (h : rvs K M H xs [d]) : ∃ v, xs = [v] ∧ rv K M H v d := by
  cases xs with
  | nil => unfold rvs at h; exact h.elim
  | cons v xs =>
    rw [rvs_cons] at h
    cases List.eq_nil_of_length_eq_zero (rvs_len h.2)
    exact ⟨v, rfl, h.1⟩
theorem mt_appendM : MtM X "list.append" (rMF K mAppend) := mt_of mt_append fun x xs H Q q => by
  obtain ⟨M, a, vs, ds, es, ret, new, rfl, hM, h1, r1, r2, e, k⟩ := q
  unfold mAppend at e
  split at e
  · split at e
    · rename_i d hl
      cases e
      obtain ⟨v, rfl, hv⟩ := rvs1 r2
      exact ⟨a, vs, v, rfl, rfl, h1, by rw [rvs_len r1]; exact hl, k _ _ (rv_non.mpr rfl) (rvs_app r1 (rvs_cons.mpr ⟨hv, rvs_nil⟩))⟩
    · cases e
  · cases e
theorem mt_clearM : MtM X "list.clear" (rMF K mClear) := mt_of mt_clear fun x xs H Q q => by
  obtain ⟨M, a, vs, ds, es, ret, new, rfl, hM, h1, r1, r2, e, k⟩ := q
  unfold mClear at e
  split at e
  · cases e
    cases List.eq_nil_of_length_eq_zero (rvs_len r2)
    exact ⟨a, vs, rfl, rfl, h1, k _ _ (rv_non.mpr rfl) rvs_nil⟩
  · cases e
/-- o.m(..) of a list that changes -/
theorem i_mut {m : MF} {name : Str} {id : String} {apos cpos : Pos} (slot : Slot "list" name id) (hty : typeOf (.builtin id) = pure (.type "method_descriptor")) (hm : MtM X id (rMF K m)) (ho : IE K ξ W X o fo) (ha : IA K ξ W X (e :: es) fs)
    (h : ∀ {r : V → List V → Hp → VK → Prop} {to : TE} {t : TA}, MtR X id r → PE X o to → PA X (e :: es) t → PE X (.Call (.Attribute o name apos) (e :: es) [] cpos) (tBM K "list" r to t)) : IE K ξ W X (.Call (.Attribute o name apos) (e :: es) [] cpos) (eMut m fo fs) := PE.of (h hm ho ha) fun σr H Q q => by
  obtain ⟨N, ζ, μ, σ, wd, so, q⟩ := q
  refine (then1 wd so q).mono fun x H1 ⟨ζ1, μ1, w1, ev1, wd1, so1, r1, q1⟩ => ?_
  split at q1
  · exact q1.elim
  · rename_i kd e
    obtain ⟨a, vs, rfl, rfl, ha, hk, h1, h2⟩ := lstAt_ok wd1 r1 (k := kd.1) (ds := kd.2) e
    refine ⟨.inl ⟨rfl, vs, SqL.of h1⟩, ?_⟩
    refine (thenN wd1 so1 q1).mono fun xs H2 ⟨ζ2, μ2, ws, ev2, wd2, so2, r2, q2⟩ => ?_
    exact read_mut wd2 (r1.ev ev2) r2 q2
theorem i_mut0 {m : MF} {name : Str} {id : String} {apos cpos : Pos} (hm : MtM X id (rMF K m)) (ho : IE K ξ W X o fo)
    (h : ∀ {r : V → List V → Hp → VK → Prop} {to : TE}, MtR X id r → PE X o to → PE X (.Call (.Attribute o name apos) [] [] cpos) (tBM0 K "list" r to)) : IE K ξ W X (.Call (.Attribute o name apos) [] [] cpos) (eMut m fo aNil) := PE.of (h hm ho) fun σr H Q q => by
  obtain ⟨N, ζ, μ, σ, wd, so, q⟩ := q
  refine (then1 wd so q).mono fun x H1 ⟨ζ1, μ1, w1, ev1, wd1, so1, r1, q1⟩ => ?_
  split at q1
  · exact q1.elim
  · rename_i kd e
    obtain ⟨a, vs, rfl, rfl, ha, hk, h1, h2⟩ := lstAt_ok wd1 r1 (k := kd.1) (ds := kd.2) e
    exact ⟨.inl ⟨rfl, vs, SqL.of h1⟩, read_mut (ws := []) wd1 r1 trivial q1⟩
/-- xs.extend(ys) -/
theorem i_ext {name : Str} {apos cpos : Pos} (ho : IE K ξ W X o fo) (ha : IA K ξ W X (e :: es) fs)
    (h : ∀ {to : TE} {t : TA}, PE X o to → PA X (e :: es) t → PE X (.Call (.Attribute o name apos) (e :: es) [] cpos) (tBM K "list" rExtend to t)) : IE K ξ W X (.Call (.Attribute o name apos) (e :: es) [] cpos) (eExt fo fs) := PE.of (h ho ha) fun σr H Q q => by
  obtain ⟨N, ζ, μ, σ, wd, so, q⟩ := q
  refine (then1 wd so q).mono fun x H1 ⟨ζ1, μ1, w1, ev1, wd1, so1, r1, q1⟩ => ?_
  split at q1
  · exact q1.elim
  · rename_i kd e
    obtain ⟨a, vs, rfl, rfl, ha, hk, h1, h2⟩ := lstAt_ok wd1 r1 (k := kd.1) (ds := kd.2) e
    refine ⟨.inl ⟨rfl, vs, SqL.of h1⟩, ?_⟩
    refine (thenN wd1 so1 q1).mono fun xs H2 ⟨ζ2, μ2, ws, ev2, wd2, so2, r2, q2⟩ => ?_
    unfold gExt at q2
    split at q2
    · rename_i k ds es e1 e2
      split at q2
      · rename_i hl
        obtain ⟨a', vs', ew, ea, ha', hk', h1', h2'⟩ := lstAt_ok wd2 (r1.ev ev2) e1
        cases ea
        obtain ⟨u, rfl, hu⟩ := vvs1 (r2.views wd2 e2)
        obtain ⟨b, zs, rfl, hb, rz⟩ := hu
        have l1 := rvs_len h2'
        have l2 := rvs_len rz
        refine ⟨a, b, vs', zs, rfl, rfl, h1', hb, by omega, ?_⟩
        have ev : Ev K.tb ζ2 μ2 H2 ζ2 (μ2.set k (some (.lst (ds ++ es)))) (upd H2 a (.lst (vs' ++ zs))) := ev_set hk' ha'
        exact q2 ζ2 _ _ ev (wd2.setC hk' ha' ⟨_, upd_same, rvs_mutN (.inl ⟨k, _, ha', hk'⟩) (rvs_app h2' rz)⟩) (ev.rv (rv_non.mpr rfl))
      · exact q2.elim
    · exact q2.elim
/-- xs[i] = e, of a list that changes -/
def gSetL (w u z : Val) (μ : Store) : Option Store := match w, lstAt μ u, z with
  | .t d, some (k, ds), .t (.int i) => (ixN ds.length i).map fun j => μ.set k (some (.lst (ds.set j d)))
  | _, _, _ => none
def sSetL (fe fo fi : ME) : MSt := fun σ μ => (fe σ μ).st σ fun w μ1 => (fo σ μ1).st σ fun u μ2 => (fi σ μ2).st σ fun z μ3 => match gSetL w u z μ3 with
  | some μ4 => .nx σ μ4
  | none => .stuck
theorem read_setL {w1 w2 w3 : Val} {x y z : V} {μ' : Store} {Q : Hp → Prop} (wd : Wd K N ζ μ H) (r1 : RV K ξ ζ (MM N ζ μ) H x w1) (r2 : RV K ξ ζ (MM N ζ μ) H y w2) (r3 : RV K ξ ζ (MM N ζ μ) H z w3) (e : gSetL w1 w2 w3 μ = some μ') (k : ∀ H', Ev K.tb ζ μ H ζ μ' H' → Wd K N ζ μ' H' → Q H') : rSetL y z x H Q := by
  unfold gSetL at e
  split at e
  · rename_i d k' ds i e1
    obtain ⟨j, hj, rfl⟩ := Option.map_eq_some_iff.mp e
    obtain ⟨a, vs, ew, rfl, ha, hk, h1, h2⟩ := lstAt_ok wd r2 e1
    cases rv_int.mp (show rv K (MM N ζ μ) H z (.int i) from r3)
    have rx : rv K (MM N ζ μ) H x d := r1
    exact ⟨a, vs, i, j, rfl, rfl, h1, by rw [rvs_len h2]; exact hj, k _ (ev_set hk ha) (wd.setC hk ha ⟨_, upd_same, rvs_mutN (.inl ⟨k', _, ha, hk⟩) (rvs_set rx j h2)⟩)⟩
  · cases e
theorem s_setL {fe fi : ME} (h : PS X st (tAsg (tE K ξ W fe) (gSub (tE K ξ W fo) (tE K ξ W fi) rSetL))) : IS K ξ W X st (sSetL fe fo fi) := PS.of h fun D σr H q => by
  obtain ⟨N, ζ, μ, σ, wd, so, q⟩ := q
  refine (stE wd so q).mono fun x H1 ⟨ζ1, μ1, w1, ev1, wd1, so1, r1, q1⟩ => ?_
  refine (stE wd1 so1 q1).mono fun y H2 ⟨ζ2, μ2, w2, ev2, wd2, so2, r2, q2⟩ => ?_
  refine (stE wd2 so2 q2).mono fun z H3 ⟨ζ3, μ3, w3, ev3, wd3, so3, r3, q3⟩ => ?_
  cases e : gSetL w1 w2 w3 μ3 with
  | none => rw [e] at q3; exact q3.elim
  | some μ4 =>
    rw [e] at q3
    exact read_setL wd3 ((r1.ev ev2).ev ev3) (r2.ev ev3) r3 e fun H' ev wd => q3 ζ3 H' σr ev wd (so3.ev ev)
/-! ### a thing that changes no more: it becomes a datum -/
def frz1 (μ : Store) : Val → Option (Val × Store)
  | .c k => match μ[k]? with
    | some (some (.lst ds)) => some (.t (.lst ds), μ.set k none)
    | some (some (.dic b ks ds)) => some (.t (.dic b ks ds), μ.set k none)
    | _ => none
  | w => some (w, μ)
/-- ghost: the name's thing becomes a datum -/
def sFrz (i : Nat) : MSt := fun σ μ => match σ[i]? with
  | some (some w) => match frz1 μ w with
    | some (w', μ') => .nx (σ.set i (some w')) μ'
    | none => .stuck
  | _ => .nx σ μ
def eFrz (f : ME) : ME := e1 (fun w μ => match frz1 μ w with
  | some (w', μ') => .ok w' μ'
  | none => .stuck) f
theorem Mof_dead {k : Nat} : ∀ x, Mof ζ (μ.set k none) x → Mof ζ μ x := by
  rintro x ⟨j, d, h1, h2⟩
  by_cases e : k = j
  · subst e
    by_cases hk : k < μ.length
    · rw [List.getElem?_set_self hk] at h2; cases h2
    · rw [List.getElem?_eq_none (by rw [List.length_set]; omega)] at h2; cases h2
  · rw [List.getElem?_set_ne e] at h2; exact ⟨j, d, h1, h2⟩
theorem dead_live {k j : Nat} {d : Cell} (h : (μ.set k none)[j]? = some (some d)) : μ[j]? = some (some d) ∧ j ≠ k := by
  by_cases e : k = j
  · subst e
    by_cases hk : k < μ.length
    · rw [List.getElem?_set_self hk] at h; cases h
    · rw [List.getElem?_eq_none (by rw [List.length_set]; omega)] at h; cases h
  · rw [List.getElem?_set_ne e] at h; exact ⟨h, fun z => e z.symm⟩
theorem ev_dead {k : Nat} : Ev K.tb ζ μ H ζ (μ.set k none) H := ⟨fun _ _ h => h, Fr.refl _, fun x h => .inl (Mof_dead x h)⟩
theorem Wd.dead {k : Nat} (wd : Wd K N ζ μ H) : Wd K N ζ (μ.set k none) H :=
  ⟨by rw [List.length_set]; exact wd.len, fun i j a c c' h1 h2 h3 h4 => wd.inj i j a c c' h1 h2 (dead_live h3).1 (dead_live h4).1,
   fun j c a h1 h2 => (wd.cell j c a (dead_live h1).1 h2).st (fun _ _ h => h) (fun x n _ z => n (z.elim (fun z => .inl (Mof_dead x z)) .inr)) (fun _ _ _ _ e => e) (fun _ _ e => e), fun a ha => ⟨fun z => (wd.nd a ha).1 (Mof_dead a z), (wd.nd a ha).2⟩, wd.tb⟩
theorem frz1_ok {w w' : Val} {μ' : Store} {v : V} (wd : Wd K N ζ μ H) (r : RV K ξ ζ (MM N ζ μ) H v w) (e : frz1 μ w = some (w', μ')) : Ev K.tb ζ μ H ζ μ' H ∧ Wd K N ζ μ' H ∧ RV K ξ ζ (MM N ζ μ') H v w' := by
  have triv : (w', μ') = (w, μ) → Ev K.tb ζ μ H ζ μ' H ∧ Wd K N ζ μ' H ∧ RV K ξ ζ (MM N ζ μ') H v w' := by
    intro h; cases h; exact ⟨Ev.refl, wd, r⟩
  cases w with
  | t d => exact triv (Option.some.inj e).symm
  | x _ _ => exact triv (Option.some.inj e).symm
  | s _ => exact triv (Option.some.inj e).symm
  | g _ _ => exact triv (Option.some.inj e).symm
  | self => exact triv (Option.some.inj e).symm
  | lam _ _ => exact triv (Option.some.inj e).symm
  | c k =>
    obtain ⟨a, ha, rfl⟩ := r
    have hn : ∀ {c : Cell}, μ[k]? = some (some c) → ¬ MM N ζ (μ.set k none) a := fun {c} hk z => by
      rcases z with ⟨j, d, h1, h2⟩ | z
      · obtain ⟨h3, h4⟩ := dead_live h2
        exact h4 (wd.inj j k a d c h1 ha h3 hk)
      · exact (wd.nd a z).1 ⟨k, c, ha, hk⟩
    have sub : ∀ x, MM N ζ (μ.set k none) x → MM N ζ μ x := fun x z => z.elim (fun z => .inl (Mof_dead x z)) .inr
    simp only [frz1] at e
    split at e
    · rename_i ds hk
      cases e
      obtain ⟨vs, h1, h2⟩ := wd.cell k _ a hk ha
      exact ⟨ev_dead, wd.dead, rv_lst.mpr ⟨a, vs, rfl, hn hk, h1, rvs_wk sub h2⟩⟩
    · rename_i b ks ds hk
      cases e
      obtain ⟨vs, h1, h2⟩ := wd.cell k _ a hk ha
      exact ⟨ev_dead, wd.dead, rv_dic.mpr ⟨a, vs, rfl, hn hk, h1, rvs_wk sub h2⟩⟩
    · cases e
theorem Sok.same {i : Nat} {w : Val} {v : V} (h : Sok K ξ ζ M H σr σ) (hv : σr[i]? = some (some v)) (r : RV K ξ ζ M H v w) : Sok K ξ ζ M H σr (σ.set i (some w)) := by
  have := h.set (i := i) r
  have e : σr.set i (some v) = σr := by
    refine List.ext_getElem? fun j => ?_
    by_cases e : i = j
    · subst e
      rw [List.getElem?_set_self (List.getElem?_eq_some_iff.mp hv).1, hv]
    · rw [List.getElem?_set_ne e]
  rw [e] at this
  exact this
theorem ss_frz {i : Nat} {ss : List Stmt} {B : MSt} (hb : ISs K ξ W X ss B) : ISs K ξ W X ss (sSeq (sFrz i) B) := ss_ghost hb fun D σr H N ζ μ σ wd so q => by
  unfold sFrz at q
  split at q
  · rename_i w hw
    split at q
    · rename_i w' μ' e
      obtain ⟨v, h1, h2⟩ := so.2 i w hw
      obtain ⟨ev, wd', r'⟩ := frz1_ok wd h2 e
      exact ⟨N, ζ, μ', σ.set i (some w'), wd', (so.ev ev).same h1 r', PostS.ev ev q⟩
    · exact q.elim
  · exact ⟨N, ζ, μ, σ, wd, so, q⟩
theorem i_frz (ha : IE K ξ W X e fa) : IE K ξ W X e (eFrz fa) := PE.of ha fun σr H Q q => by
  obtain ⟨N, ζ, μ, σ, wd, so, q⟩ := q
  refine (then1 wd so q).mono fun x H1 ⟨ζ1, μ1, w1, ev1, wd1, so1, r1, q1⟩ => ?_
  cases e : frz1 μ1 w1 with
  | none => rw [e] at q1; exact q1.elim
  | some p =>
    obtain ⟨w', μ'⟩ := p
    rw [e] at q1
    obtain ⟨ev, wd', r'⟩ := frz1_ok wd1 r1 e
    exact q1 ζ1 H1 x ev wd' r'
end
end PM
namespace PM
open PySem PySem.Spec PyProof.Rows L2
open WD (MS upd_none)
/-! ### defs -/
abbrev Fn := List Val → Store → R Val
def PostC (K : KT) (N : MS) (ζ : List Addr) (μ : Store) (H : Hp) (Q : VK) (E : XK) : R Val → Prop
  | .ok w μ' => ∀ ζ' H' v, Ev K.tb ζ μ H ζ' μ' H' → Wd K N ζ' μ' H' → RV K none ζ' (MM N ζ' μ') H' v w → Q v H'
  | .ex c f μ' => ∀ ζ' H' d, Ev K.tb ζ μ H ζ' μ' H' → Wd K N ζ' μ' H' → XR K (MM N ζ' μ') H' d f → E (.ref (He.ga K c)) d H'
  | .stuck => False
def SpF (K : KT) (n : Nat) (fn : Fn) : Sp := fun vs H Q E => ∃ N ζ μ ws, Wd K N ζ μ H ∧ RVs K none ζ (MM N ζ μ) H vs ws ∧ ws.length = n ∧ PostC K N ζ μ H Q E (fn ws μ)
def Val.plain : Val → Bool
  | .x _ _ => false
  | .self => false
  | _ => true
def noOb : Cell → Bool
  | .ob _ _ _ => false
  | _ => true
def Fl.below (n : Nat) : Fl → Bool
  | .t _ => true
  | .c k => decide (k < n)
/-- a datum, an elder cell, or the cell k -/
def Fl.only (n k : Nat) : Fl → Bool
  | .t _ => true
  | .c j => decide (j < n ∨ j = k)
def Fl.ren (n k : Nat) : Fl → Fl
  | .t d => .t d
  | .c j => if j = k then .c n else .c j
def gCall (n : Nat) (fn : Fn) (ws : List Val) (μ : Store) : R Val := if ws.all Val.plain && decide (ws.length = n) then fn ws μ else .stuck
def fin (n : Nat) (w : Val) (μ : Store) : R Val := match w with
  | .t d => .ok (.t d) (μ.take n)
  | .c k => if k < n then .ok (.c k) (μ.take n) else match μ[k]? with
    | some (some c) => if noOb c then .ok (.c n) (μ.take n ++ [some c]) else .stuck
    | _ => .stuck
  | .g (.ob C ns) fs => if fs.all (Fl.below n) then .ok (.g (.ob C ns) fs) (μ.take n) else .ok (.g (.ob C ns) fs) μ
  | .g .tup fs => if fs.all (Fl.below n) then .ok (.g .tup fs) (μ.take n) else match fs.find? (fun x => !Fl.below n x) with
    | some (.c k) => (match μ[k]? with
      | some (some c) => if noOb c && fs.all (Fl.only n k) then .ok (.g .tup (fs.map (Fl.ren n k))) (μ.take n ++ [some c]) else .ok (.g .tup fs) μ
      | _ => .ok (.g .tup fs) μ)
    | _ => .ok (.g .tup fs) μ
  | _ => .stuck
def startM (n : Nat) (ws : List Val) : Sl := ws.map some ++ List.replicate (n - ws.length) none
def endM (n : Nat) : RS → R Val
  | .nx _ μ' => fin n (.t .non) μ'
  | .rt w μ' => fin n w μ'
  | .ex c f _ μ' => .ex c f (μ'.take n)
  | _ => .stuck
def fnOf (n : Nat) (b : MSt) : Fn := fun ws μ => endM μ.length (b (startM n ws) μ)
section
variable {X : Cx} {K : KT} {ξ : Xi} {W : WX} {N : MS} {ζ : List Addr} {μ : Store} {M : MS} {H : Hp} {σr : L2.St} {σ : Sl} {e : Expr} {es : List Expr} {fs : Sl → Store → R (List Val)} {pos : Pos}
theorem RV.none_to {v : V} {w : Val} (h : RV K none ζ M H v w) : RV K ξ ζ M H v w := by
  cases w with
  | x c f => obtain ⟨a, d, h1, _⟩ := h; cases h1
  | self => obtain ⟨a, cv, d, h1, _⟩ := h; cases h1
  | lam _ _ => exact h
  | t _ => exact h
  | c _ => exact h
  | s _ => exact h
  | g hd _ => cases hd <;> exact h
theorem RV.to_none {v : V} {w : Val} (h : RV K ξ ζ M H v w) (p : w.plain = true) : RV K none ζ M H v w := by
  cases w with
  | x c f => cases p
  | self => cases p
  | lam _ _ => exact h
  | t _ => exact h
  | c _ => exact h
  | s _ => exact h
  | g hd _ => cases hd <;> exact h
theorem RVs.to_none : ∀ {vs : List V} {ws : List Val}, RVs K ξ ζ M H vs ws → ws.all Val.plain = true → RVs K none ζ M H vs ws
  | [], [], _, _ => trivial
  | _ :: _, _ :: _, h, p => by
    rw [List.all_cons, Bool.and_eq_true] at p
    exact ⟨h.1.to_none p.1, RVs.to_none h.2 p.2⟩
  | [], _ :: _, h, _ => h.elim
  | _ :: _, [], h, _ => h.elim
theorem PostC.of {n : Nat} {fn : Fn} {ws : List Val} {Q : VK} (h : PostE K ξ W N ζ μ H σr Q (fn ws μ)) : PostC K N ζ μ H Q (WE W σr) (fn ws μ) := by
  cases e : fn ws μ with
  | ok w μ' => rw [e] at h; exact fun ζ' H' v a b c => h ζ' H' v a b c.none_to
  | ex c f μ' => rw [e] at h; exact h
  | stuck => rw [e] at h; exact h
theorem read_call {n : Nat} {fn : Fn} {ws : List Val} {vs : List V} {Q : VK} (wd : Wd K N ζ μ H) (r : RVs K ξ ζ (MM N ζ μ) H vs ws) (h : PostE K ξ W N ζ μ H σr Q (gCall n fn ws μ)) : SpF K n fn vs H Q (WE W σr) := by
  unfold gCall at h
  split at h
  · rename_i hc
    rw [Bool.and_eq_true] at hc
    exact ⟨N, ζ, μ, ws, wd, r.to_none hc.1, of_decide_eq_true hc.2, PostC.of (n := n) h⟩
  · exact h.elim
/-- f(e, ..) -/
theorem i_call {k n : Nat} {x : Str} {f : Addr} {fn : Fn} {p : Pos} (c : WD.Cal X.prog X.w X.K X.mg X.base (L2.CX X.prog X.w) k x f (SpF K n fn) []) (tk : Takes X W) (hr : Room k X.A) (hg : Gl X x) (ha : IA K ξ W X (e :: es) fs) (hdb : (x == ("__debug__" : Str)) = false := by decide)
    (he : starEach (e :: es) X.env = (false, eval e X.env) :: starEach es X.env := by rfl) (hpl : (backTo pos (starEach es X.env)).any (·.1) = false := by rfl) : IE K ξ W X (.Call (.Name x p) (e :: es) [] pos) (eN (gCall n fn) fs) := PE.of (WD.pe_calX c tk hr hg ha hdb he hpl) fun σr H Q q => by
  obtain ⟨N, ζ, μ, σ, wd, so, q⟩ := q
  refine (thenN wd so q).mono fun vs H1 ⟨ζ1, μ1, ws, ev1, wd1, so1, r1, q1⟩ => read_call wd1 r1 q1
theorem cellR.stN {ζ' : List Addr} {M' : MS} {H' : Hp} {a : Addr} {c : Cell} (nb : noOb c = true) (na : ∀ a, ¬ M a → ¬ nn K.tb (H a) → ¬ M' a) (f : ∀ a o, nt K.tb o → ¬ M a → H a = some o → H' a = some o) (fa : ∀ o, nt K.tb o → H a = some o → H' a = some o) (h : cellR K ζ M H a c) : cellR K ζ' M' H' a c := by
  cases c with
  | lst ds => obtain ⟨vs, e, r⟩ := h; exact ⟨vs, fa _ rfl e, rvs_st na f _ _ r⟩
  | dic b ks ds => obtain ⟨vs, e, r⟩ := h; exact ⟨vs, e.to fa, rvs_st na f _ _ r⟩
  | ob C ns ds => cases nb
/-- the store, cut down -/
theorem Wd.sub {ζ' : List Addr} {μ' : Store} (wd : Wd K N ζ μ H) (hl : ζ'.length = μ'.length) (f : Nat → Nat) (h : ∀ (i : Nat) a c, ζ'[i]? = some a → μ'[i]? = some (some c) → ζ[f i]? = some a ∧ μ[f i]? = some (some c)) (hf : ∀ i j, i < ζ'.length → j < ζ'.length → f i = f j → i = j) (hp : ∀ (i : Nat) a c, ζ'[i]? = some a → μ'[i]? = some (some c) → noOb c = true ∨ ∀ (j : Nat) b, (ζ.take (f i))[j]? = some b → (ζ'.take i)[j]? = some b) : Wd K N ζ' μ' H ∧ ∀ x, MM N ζ' μ' x → MM N ζ μ x := by
  have sub : ∀ x, Mof ζ' μ' x → Mof ζ μ x := fun x ⟨k, c, h1, h2⟩ => ⟨f k, c, h k x c h1 h2⟩
  have sub2 : ∀ x, MM N ζ' μ' x → MM N ζ μ x := fun x z => z.elim (fun z => .inl (sub x z)) .inr
  refine ⟨⟨hl, fun i j a c c' h1 h2 h3 h4 => ?_, fun k c a h1 h2 => ?_, fun a ha => ⟨fun z => (wd.nd a ha).1 (sub a z), (wd.nd a ha).2⟩, wd.tb⟩, sub2⟩
  · obtain ⟨g1, g2⟩ := h i a c h1 h3
    obtain ⟨g3, g4⟩ := h j a c' h2 h4
    exact hf i j (List.getElem?_eq_some_iff.mp h1).1 (List.getElem?_eq_some_iff.mp h2).1 (wd.inj _ _ a c c' g1 g3 g2 g4)
  · obtain ⟨g1, g2⟩ := h k a c h2 h1
    rcases hp k a c h2 h1 with h3 | h3
    · exact (wd.cell _ c a g2 g1).stN h3 (fun x n _ z => n (sub2 x z)) (fun _ _ _ _ e => e) (fun _ _ e => e)
    · exact (wd.cell _ c a g2 g1).st h3 (fun x n _ z => n (sub2 x z)) (fun _ _ _ _ e => e) (fun _ _ e => e)
theorem take_at {α : Type} {l : List α} {n i : Nat} {x : α} (h : (l.take n)[i]? = some x) : i < n ∧ l[i]? = some x := by
  rw [List.getElem?_take] at h
  split at h
  · exact ⟨by assumption, h⟩
  · cases h
/-- back from a def: what it made for itself is let go -/
theorem cut_ok {ζ1 : List Addr} {μ1 : Store} {H1 : Hp} (ev : Ev K.tb ζ μ H ζ1 μ1 H1) (wd : Wd K N ζ1 μ1 H1) (hl : ζ.length = μ.length) : Ev K.tb ζ μ H (ζ1.take μ.length) (μ1.take μ.length) H1 ∧ Wd K N (ζ1.take μ.length) (μ1.take μ.length) H1 ∧ ∀ x, MM N (ζ1.take μ.length) (μ1.take μ.length) x → MM N ζ1 μ1 x := by
  obtain ⟨w, s⟩ := wd.sub (ζ' := ζ1.take μ.length) (μ' := μ1.take μ.length) (by rw [List.length_take, List.length_take, wd.len]) id (fun i a c h1 h2 => ⟨(take_at h1).2, (take_at h2).2⟩) (fun i j _ _ e => e) (fun i a c h1 h2 => .inr fun j b hb => by rw [List.take_take, Nat.min_eq_left (Nat.le_of_lt (take_at h1).1)]; exact hb)
  refine ⟨⟨fun k a h => ?_, ev.fr, fun a h => ?_⟩, w, s⟩
  · have := ev.pre k a h
    rw [List.getElem?_take, if_pos (by have := (List.getElem?_eq_some_iff.mp h).1; omega)]
    exact this
  · obtain ⟨k, c, h1, h2⟩ := h
    exact ev.ml a ⟨k, c, (take_at h1).2, (take_at h2).2⟩
theorem FRs.cut {ζ1 : List Addr} {M' : MS} {n : Nat} (sub : ∀ x, M' x → M x) : ∀ {vs : List V} {fs : List Fl}, fs.all (Fl.below n) = true → FRs K ζ1 M H vs fs → FRs K (ζ1.take n) M' H vs fs
  | [], [], _, _ => trivial
  | v :: vs, .t d :: fs, hb, h => by
    rw [List.all_cons, Bool.and_eq_true] at hb
    exact ⟨rv_wk sub h.1, FRs.cut sub hb.2 h.2⟩
  | v :: vs, .c k :: fs, hb, h => by
    rw [List.all_cons, Bool.and_eq_true] at hb
    obtain ⟨⟨a, h1, h2⟩, h3⟩ := h
    exact ⟨⟨a, by rw [List.getElem?_take, if_pos (of_decide_eq_true hb.1)]; exact h1, h2⟩, FRs.cut sub hb.2 h3⟩
  | [], _ :: _, _, h => h.elim
  | _ :: _, [], _, h => h.elim
theorem RV.cutG {ζ1 : List Addr} {M' : MS} {n : Nat} {v : V} {hd : Gd} {fs : List Fl} (hb : fs.all (Fl.below n) = true) (sub : ∀ x, M' x → M x) (h : RV K ξ ζ1 M H v (.g hd fs)) : RV K ξ (ζ1.take n) M' H v (.g hd fs) := by
  cases hd with
  | tup => obtain ⟨a, vs, h1, h2, h3, h4⟩ := h; exact ⟨a, vs, h1, fun z => h2 (sub _ z), h3, h4.cut sub hb⟩
  | ob C ns => obtain ⟨a, dx, vs, h1, h2, h2', h3, h3', h3'', h4⟩ := h; exact ⟨a, dx, vs, h1, fun z => h2 (sub _ z), fun z => h2' (sub _ z), h3, h3', h3'', h4.cut sub hb⟩
/-- .. but for one thing, that is handed back -/
theorem cutk_ok {ζ1 : List Addr} {μ1 : Store} {H1 : Hp} {k : Nat} {a : Addr} {c : Cell} (ev : Ev K.tb ζ μ H ζ1 μ1 H1) (wd : Wd K N ζ1 μ1 H1) (hl : ζ.length = μ.length) (ha : ζ1[k]? = some a) (hk : ¬ k < μ.length) (hc : μ1[k]? = some (some c)) (hnb : noOb c = true) :
    (ζ1.take μ.length ++ [a])[μ.length]? = some a ∧ Ev K.tb ζ μ H (ζ1.take μ.length ++ [a]) (μ1.take μ.length ++ [some c]) H1 ∧ Wd K N (ζ1.take μ.length ++ [a]) (μ1.take μ.length ++ [some c]) H1 ∧ (∀ x, MM N (ζ1.take μ.length ++ [a]) (μ1.take μ.length ++ [some c]) x → MM N ζ1 μ1 x) ∧
      ∀ (j : Nat) (b : Addr), j < μ.length → ζ1[j]? = some b → (ζ1.take μ.length ++ [a])[j]? = some b := by
  obtain ⟨ev', wd', sub⟩ := cut_ok ev wd hl
  have hlen : (ζ1.take μ.length).length = μ.length := by
    rw [List.length_take]
    have h1 := (List.getElem?_eq_some_iff.mp ha).1
    omega
  have hlen2 : (μ1.take μ.length).length = μ.length := by
    rw [List.length_take]
    have h1 := (List.getElem?_eq_some_iff.mp ha).1
    have := wd.len
    omega
  obtain ⟨w2, s2⟩ := wd.sub (ζ' := ζ1.take μ.length ++ [a]) (μ' := μ1.take μ.length ++ [some c]) (by rw [List.length_append, List.length_append, hlen, hlen2]; rfl) (fun i => if i < μ.length then i else k) (fun i b c' h1 h2 => by
    rcases snoc_at h1 with ⟨i1, g1⟩ | ⟨i1, g1⟩ <;> rcases snoc_at h2 with ⟨i2, g2⟩ | ⟨i2, g2⟩
    · rw [if_pos (by omega)]
      exact ⟨(take_at g1).2, (take_at g2).2⟩
    · omega
    · omega
    · rw [if_neg (by omega)]
      cases g2
      rw [g1]
      exact ⟨ha, hc⟩) (fun i j hi hj e => by
    rw [List.length_append, hlen] at hi hj
    have hi : i < μ.length + 1 := hi
    have hj : j < μ.length + 1 := hj
    split at e <;> split at e <;> omega) (fun i b c' h1 h2 => by
    rcases snoc_at h1 with ⟨i1, g1⟩ | ⟨i1, g1⟩ <;> rcases snoc_at h2 with ⟨i2, g2⟩ | ⟨i2, g2⟩
    · refine .inr fun j x hx => ?_
      have hi : i < μ.length := by omega
      rw [if_pos hi] at hx
      rw [List.take_append_of_le_length (by omega), List.take_take, Nat.min_eq_left (by omega)]
      exact hx
    · omega
    · omega
    · cases g2
      exact .inl hnb)
  refine ⟨by rw [List.getElem?_append_right (by omega), hlen, Nat.sub_self]; rfl, ⟨fun j b hb => ?_, ev.fr, fun b hb => ?_⟩, w2, s2, fun j b hj hb => ?_⟩
  · have h1 := ev'.pre j b hb
    rw [List.getElem?_append_left (List.getElem?_eq_some_iff.mp h1).1]
    exact h1
  · obtain ⟨j, c', h1, h2⟩ := hb
    rcases snoc_at h1 with ⟨i1, g1⟩ | ⟨i1, g1⟩ <;> rcases snoc_at h2 with ⟨i2, g2⟩ | ⟨i2, g2⟩
    · exact ev.ml b ⟨j, c', (take_at g1).2, (take_at g2).2⟩
    · omega
    · omega
    · exact ev.ml b ⟨k, c, by rw [g1]; exact ha, hc⟩
  · rw [List.getElem?_append_left (by rw [hlen]; exact hj), List.getElem?_take, if_pos hj]
    exact hb
theorem FRs.ren {ζ1 ζ2 : List Addr} {M' : MS} {n k : Nat} {a : Addr} (sub : ∀ x, M' x → M x) (ha : ζ1[k]? = some a) (hn : ζ2[n]? = some a) (old : ∀ (j : Nat) (b : Addr), j < n → ζ1[j]? = some b → ζ2[j]? = some b) : ∀ {vs : List V} {fs : List Fl}, fs.all (Fl.only n k) = true → FRs K ζ1 M H vs fs → FRs K ζ2 M' H vs (fs.map (Fl.ren n k))
  | [], [], _, _ => trivial
  | v :: vs, .t d :: fs, hb, h => by
    rw [List.all_cons, Bool.and_eq_true] at hb
    exact ⟨rv_wk sub h.1, FRs.ren sub ha hn old hb.2 h.2⟩
  | v :: vs, .c j :: fs, hb, h => by
    rw [List.all_cons, Bool.and_eq_true] at hb
    obtain ⟨⟨b, h1, h2⟩, h3⟩ := h
    refine ⟨?_, FRs.ren sub ha hn old hb.2 h3⟩
    show FR K ζ2 M' H v (if j = k then .c n else .c j)
    by_cases e : j = k
    · rw [if_pos e]
      rw [e, ha] at h1
      exact ⟨a, hn, by rw [h2, Option.some.inj h1]⟩
    · rw [if_neg e]
      exact ⟨b, old j b ((of_decide_eq_true hb.1).resolve_right e) h1, h2⟩
  | [], _ :: _, _, h => h.elim
  | _ :: _, [], _, h => h.elim
theorem RV.renG {ζ1 ζ2 : List Addr} {M' : MS} {n k : Nat} {a : Addr} {v : V} {hd : Gd} {fs : List Fl} (sub : ∀ x, M' x → M x) (ha : ζ1[k]? = some a) (hn : ζ2[n]? = some a) (old : ∀ (j : Nat) (b : Addr), j < n → ζ1[j]? = some b → ζ2[j]? = some b) (hb : fs.all (Fl.only n k) = true) (h : RV K ξ ζ1 M H v (.g hd fs)) : RV K ξ ζ2 M' H v (.g hd (fs.map (Fl.ren n k))) := by
  cases hd with
  | tup => obtain ⟨a', vs, h1, h2, h3, h4⟩ := h; exact ⟨a', vs, h1, fun z => h2 (sub _ z), h3, h4.ren sub ha hn old hb⟩
  | ob C ns => obtain ⟨a', dx, vs, h1, h2, h2', h3, h3', h3'', h4⟩ := h; exact ⟨a', dx, vs, h1, fun z => h2 (sub _ z), fun z => h2' (sub _ z), h3, h3', h3'', h4.ren sub ha hn old hb⟩
theorem FRs.c_at {ζ1 : List Addr} {k : Nat} : ∀ {vs : List V} {fs : List Fl}, FRs K ζ1 M H vs fs → Fl.c k ∈ fs → ∃ a, ζ1[k]? = some a
  | [], [], _, m => by cases m
  | v :: vs, f :: fs, h, m => by
    rcases List.mem_cons.mp m with e | m
    · have h1 : FR K ζ1 M H v (.c k) := by rw [e]; exact h.1
      obtain ⟨a, h2, _⟩ := h1
      exact ⟨a, h2⟩
    · exact FRs.c_at h.2 m
  | [], _ :: _, h, _ => h.elim
  | _ :: _, [], h, _ => h.elim
theorem RV.c_at {ζ1 : List Addr} {k : Nat} {v : V} {hd : Gd} {fs : List Fl} (h : RV K ξ ζ1 M H v (.g hd fs)) (m : Fl.c k ∈ fs) : ∃ a, ζ1[k]? = some a := by
  cases hd with
  | tup => obtain ⟨a', vs, _, _, _, h4⟩ := h; exact h4.c_at m
  | ob C ns => obtain ⟨a', dx, vs, _, _, _, _, _, _, h4⟩ := h; exact h4.c_at m
theorem fin_ok {ζ1 : List Addr} {μ1 : Store} {H1 : Hp} {Q : VK} {E : XK} {w : Val} {v : V} (ev : Ev K.tb ζ μ H ζ1 μ1 H1) (wd : Wd K N ζ1 μ1 H1) (hl : ζ.length = μ.length) (r : RV K none ζ1 (MM N ζ1 μ1) H1 v w) (h : PostC K N ζ μ H Q E (fin μ.length w μ1)) : Q v H1 := by
  obtain ⟨ev', wd', sub⟩ := cut_ok ev wd hl
  cases w with
  | t d => exact h _ _ v ev' wd' (rv_wk sub r)
  | x _ _ => exact h.elim
  | s _ => exact h.elim
  | self => exact h.elim
  | lam _ _ => exact h.elim
  | g hd fs => cases hd with
   | ob C ns =>
    simp only [fin] at h
    split at h
    · rename_i hb
      exact h _ _ v ev' wd' (RV.cutG hb sub r)
    · exact h _ _ v ev wd r
   | tup =>
    simp only [fin] at h
    split at h
    · rename_i hb
      exact h _ _ v ev' wd' (RV.cutG hb sub r)
    · split at h
      · rename_i k hf
        have hm := List.mem_of_find?_eq_some hf
        have hk : ¬ k < μ.length := fun z => by
          have := List.find?_some hf
          simp [Fl.below, z] at this
        split at h
        · rename_i c hc
          split at h
          · rename_i hb
            rw [Bool.and_eq_true] at hb
            obtain ⟨a, ha⟩ := r.c_at hm
            obtain ⟨k1, k2, k3, k4, k5⟩ := cutk_ok ev wd hl ha hk hc hb.1
            exact h _ _ v k2 k3 (RV.renG k4 ha k1 k5 hb.2 r)
          · exact h _ _ v ev wd r
        · exact h _ _ v ev wd r
      · exact h _ _ v ev wd r
  | c k =>
    obtain ⟨a, ha, rfl⟩ := r
    simp only [fin] at h
    split at h
    · rename_i hk
      exact h _ _ _ ev' wd' ⟨a, by rw [List.getElem?_take, if_pos hk]; exact ha, rfl⟩
    · rename_i hk
      split at h
      case h_2 => exact h.elim
      rename_i c hc
      split at h
      · rename_i hnb
        obtain ⟨k1, k2, k3, k4, k5⟩ := cutk_ok ev wd hl ha hk hc hnb
        exact h _ _ _ k2 k3 ⟨a, k1, rfl⟩
      · exact h.elim
theorem RVs.get {vs : List V} {ws : List Val} {i : Nat} {w : Val} : RVs K ξ ζ M H vs ws → ws[i]? = some w → ∃ v, vs[i]? = some v ∧ RV K ξ ζ M H v w := by
  induction ws generalizing vs i with
  | nil => intro _ e; simp at e
  | cons u ws ih =>
    intro h e
    cases vs with
    | nil => exact h.elim
    | cons v vs =>
      cases i with
      | zero => cases e; exact ⟨v, rfl, h.1⟩
      | succ i => exact ih (vs := vs) (i := i) h.2 e
theorem start_ok {vs : List V} {ws : List Val} {N' : List Str} (r : RVs K ξ ζ M H vs ws) : Sok K ξ ζ M H (L2.start N' vs) (startM N'.length ws) := by
  have hl := r.len
  unfold L2.start startM
  refine ⟨by rw [List.length_append, List.length_append, List.length_map, List.length_map, List.length_replicate, List.length_replicate, hl], fun i w hw => ?_⟩
  by_cases hi : i < ws.length
  · rw [List.getElem?_append_left (by rw [List.length_map]; exact hi), List.getElem?_map, List.getElem?_eq_getElem hi] at hw
    have e : ws[i]? = some w := by rw [List.getElem?_eq_getElem hi]; exact Option.some.inj hw ▸ rfl
    obtain ⟨v, h1, h2⟩ := r.get e
    exact ⟨v, by rw [List.getElem?_append_left (by rw [List.length_map]; omega), List.getElem?_map, h1]; rfl, h2⟩
  · rw [List.getElem?_append_right (by rw [List.length_map]; omega)] at hw
    rw [List.getElem?_replicate] at hw
    split at hw <;> cases hw
end
section
variable {P : Program} {w : World} {K : KT} {mg : Str → Option Value} {base : Heap} {x qual : Str} {params : Arguments} {body : List Stmt} {scope : Scope} {f C : Addr} {fd : FuncData} {Nm ps : List Str} {k : Nat} {b : MSt}
theorem fn_read {N : MS} {ζ : List Addr} {μ : Store} {H : Hp} {vs : List V} {ws : List Val} {Q : VK} {E : XK} (wd : Wd K N ζ μ H) (r : RVs K none ζ (MM N ζ μ) H vs ws) (h : PostC K N ζ μ H Q E (fnOf Nm.length b ws μ)) :
    tS K none (fun cls d _ H => E cls d H) b { nx := fun _ H' => Q .non H', rt := Q } (L2.start Nm vs) H := by
  refine ⟨N, ζ, μ, startM Nm.length ws, wd, start_ok r, ?_⟩
  unfold fnOf at h
  cases e : b (startM Nm.length ws) μ with
  | nx σ' μ' => rw [e] at h; exact fun ζ' H' σr' ev wd' so => fin_ok (w := .t .non) ev wd' wd.len ((rv_non (K := K) (M := MM N ζ' μ') (H := H')).mpr rfl) h
  | rt u μ' => rw [e] at h; exact fun ζ' H' v ev wd' r' => fin_ok ev wd' wd.len r' h
  | ex c f σ' μ' =>
    rw [e] at h
    intro ζ' H' d σr' ev wd' xr so
    obtain ⟨ev', wd2, sub⟩ := cut_ok ev wd' wd.len
    refine h _ _ d ev' wd2 ?_
    cases f with
    | none => exact xr
    | some q =>
      obtain ⟨n, p⟩ := q
      obtain ⟨dd, v', k1, k2, k3, k4⟩ := xr
      exact ⟨dd, v', k1, fun z => k2 (sub _ z), k3, rv_wk sub k4⟩
  | bk _ _ => rw [e] at h; exact h.elim
  | ct _ _ => rw [e] at h; exact h.elim
  | stuck => rw [e] at h; exact h.elim
theorem fn_ok (F : FunD K x qual params body scope [] [] f fd) (S : FnScope Nm ps scope)
    (bind : ∀ (kV doc pm : Value) (an : Option Addr) (cdv ct : Value) (us : List Value), us.length = ps.length → bindArgs (PySem.W.fnOf x qual params body scope .none kV doc pm an cdv ct) ⟨us, []⟩ = pure (ps.zip us))
    (hb : ∀ (cdv : Value) (A : Around) (outer : List Env) (s : Shared) (H : Hp) (E : XK), Room k (A.deeper (envOfC qual scope s.heap.objs.size f cdv)) → ISs K none (fun cls d _ H => E cls d H) (cxOf (L2.CX P w) P w K mg base Nm qual scope f cdv A outer s H E) body b) :
    ∃ (fd : FuncData) (ps' : List Str) (ds : List Value), FnOk P w K mg base (L2.CX P w) (k + 1) f fd ps' (SpF K ps.length (fnOf Nm.length b)) ∧ Binds K fd ps' ds ∧ Vals [] ds :=
  WD.fnX_of F S (fun vs H Q E ⟨N, ζ, μ, ws, wd, r, hl, _⟩ => r.len.trans hl) bind fun cdv A outer s H vs Q E hr ⟨N, ζ, μ, ws, wd, r, hl, h⟩ => ⟨_, hb cdv A outer s H E hr, fn_read wd r h⟩
end
end PM
namespace PM
open PySem PySem.Spec PyProof.Rows L2
open WD (MS upd_none)
/-! ### raise -/
def sRaise (c f : Str) (as : Sl → Store → R (List Val)) : MSt := fun σ μ => (as σ μ).st σ fun ws μ1 => match ws with
  | [.t d] => .ex c (some (f, d)) σ μ1
  | _ => .stuck
def sRaise0 (c : Str) : MSt := fun σ μ => .ex c none σ μ
section
variable {X : Cx} {K : KT} {ξ : Xi} {W : WX} {N : MS} {ζ : List Addr} {μ : Store} {M : MS} {H : Hp} {σr : L2.St} {σ : Sl} {e : Expr} {es : List Expr} {fa : ME} {fs : Sl → Store → R (List Val)} {pos : Pos} {st : Stmt} {D : Ends}
theorem stN {k : List Val → Store → RS} (wd : Wd K N ζ μ H) (so : Sok K ξ ζ (MM N ζ μ) H σr σ) (h : PostS K ξ W N ζ μ H D ((fs σ μ).st σ k)) :
    tA K ξ W fs σr H fun xs H1 => ∃ ζ1 μ1 ws, Ev K.tb ζ μ H ζ1 μ1 H1 ∧ Wd K N ζ1 μ1 H1 ∧ Sok K ξ ζ1 (MM N ζ1 μ1) H1 σr σ ∧ RVs K ξ ζ1 (MM N ζ1 μ1) H1 xs ws ∧ PostS K ξ W N ζ1 μ1 H1 D (k ws μ1) := by
  refine ⟨N, ζ, μ, σ, wd, so, ?_⟩
  cases e : fs σ μ with
  | ok w1 μ1 => rw [e] at h; exact fun ζ' H' v ev w r => ⟨ζ', μ1, w1, ev, w, so.ev ev, r, PostS.ev ev h⟩
  | ex c f μ1 => rw [e] at h; exact fun ζ' H' d ev w r => h ζ' H' d σr ev w r (so.ev ev)
  | stuck => rw [e] at h; exact h
theorem xr_new {d : Addr} {f : Str} {v : V} {p : PV} (wd : Wd K N ζ μ H) (hd : H d = none) (r : rv K (MM N ζ μ) H v p) : XR K (MM N ζ μ) (upd H d (.xd [(f, v)])) (some d) (some (f, p)) :=
  ⟨d, v, rfl, wd.no hd, upd_same, (Grow.upd hd).rv r⟩
theorem s_raise {c f : Str} (h : PS X st (fun _ σ H => WD.tExc (He.ga K c) f (tA K ξ W fs) σ H fun cls d H' => W cls d σ H')) : IS K ξ W X st (sRaise c f fs) := PS.of h fun D σr H q => by
  obtain ⟨N, ζ, μ, σ, wd, so, q⟩ := q
  refine (stN wd so q).mono fun xs H1 ⟨ζ1, μ1, ws, ev1, wd1, so1, r1, q1⟩ => ?_
  split at q1
  · rename_i d
    obtain ⟨v, rfl, hv⟩ := RVs1 r1
    exact ⟨v, rfl, fun dd hd => q1 ζ1 _ (some dd) σr (Ev.new hd) (wd1.new hd) (xr_new wd1 hd hv) (so1.ev (Ev.new hd))⟩
  · exact q1.elim
theorem s_raise0 {c : Str} (h : PS X st (fun _ σ H => W (.ref (He.ga K c)) none σ H)) : IS K ξ W X st (sRaise0 c) := PS.of h fun D σr H q => by
  obtain ⟨N, ζ, μ, σ, wd, so, q⟩ := q
  exact q ζ H none σr Ev.refl wd rfl so
end
/-! ### try -/
structure Clause where
  name : Str
  yes : List Str
  no : List Str
  slot : Nat
  suite : MSt
def plainO : Option Val → Bool
  | some w => w.plain
  | none => true
def RS.unset (i : Nat) : RS → RS
  | .nx σ μ => if (σ.set i none).all plainO then .nx (σ.set i none) μ else .stuck
  | .bk σ μ => if (σ.set i none).all plainO then .bk (σ.set i none) μ else .stuck
  | .ct σ μ => if (σ.set i none).all plainO then .ct (σ.set i none) μ else .stuck
  | .rt w μ => if w.plain then .rt w μ else .stuck
  | .ex _ _ _ _ => .stuck
  | .stuck => .stuck
def handle (c : Str) (f : Option (Str × PV)) (σ : Sl) (μ : Store) : List Clause → RS
  | [] => .ex c f σ μ
  | k :: r => if c ∈ k.yes then (k.suite (σ.set k.slot (some (.x c f))) μ).unset k.slot else if c ∈ k.no then handle c f σ μ r else .stuck
def sTry (B : MSt) (cl : List Clause) : MSt := fun σ μ => match B σ μ with
  | .ex c f σ1 μ1 => handle c f σ1 μ1 cl
  | r => r
def clL (K : KT) : List Clause → List (Value × Nat × WD.Su)
  | [] => []
  | k :: r => (.ref (He.ga K k.name), k.slot, fun a cls d => tS K (some (a, cls, d)) W0 k.suite) :: clL K r
def ClFacts (K : KT) : List Clause → Prop
  | [] => True
  | k :: r => (∀ c ∈ k.yes, PySem.W.exmOne K (.ref (He.ga K c)) (.ref (He.ga K k.name)) = some true) ∧ (∀ c ∈ k.no, PySem.W.exmOne K (.ref (He.ga K c)) (.ref (He.ga K k.name)) = some false) ∧ ClFacts K r
section
variable {X : Cx} {K : KT} {ξ : Xi} {W : WX} {N : MS} {ζ : List Addr} {μ : Store} {M : MS} {H : Hp} {σr : L2.St} {σ : Sl} {e : Expr} {es : List Expr} {fa : ME} {fs : Sl → Store → R (List Val)} {pos : Pos} {st : Stmt} {D : Ends} {B : MSt}
theorem Sok.to_none (h : Sok K ξ ζ M H σr σ) (p : σ.all plainO = true) : Sok K none ζ M H σr σ := ⟨h.1, fun i w hw => by
  obtain ⟨v, h1, h2⟩ := h.2 i w hw
  have := List.all_eq_true.mp p _ (List.mem_of_getElem? hw)
  exact ⟨v, h1, h2.to_none this⟩⟩
theorem Sok.of_none (h : Sok K none ζ M H σr σ) : Sok K ξ ζ M H σr σ := ⟨h.1, fun i w hw => let ⟨v, h1, h2⟩ := h.2 i w hw; ⟨v, h1, h2.none_to⟩⟩
theorem unset_ok {ξ' : Xi} {i : Nat} {r : RS} (h : PostS K none W N ζ μ H D (r.unset i)) :
    PostS K ξ' W0 N ζ μ H { nx := fun σ' H' => D.nx (σ'.set i none) H', rt := D.rt, bk := fun σ' H' => D.bk (σ'.set i none) H', ct := fun σ' H' => D.ct (σ'.set i none) H' } r := by
  cases r with
  | nx σ' μ' =>
    simp only [RS.unset] at h
    split at h
    · exact fun ζ' H' σr' ev wd so => h ζ' H' _ ev wd (so.drop.to_none (by assumption))
    · exact h.elim
  | bk σ' μ' =>
    simp only [RS.unset] at h
    split at h
    · exact fun ζ' H' σr' ev wd so => h ζ' H' _ ev wd (so.drop.to_none (by assumption))
    · exact h.elim
  | ct σ' μ' =>
    simp only [RS.unset] at h
    split at h
    · exact fun ζ' H' σr' ev wd so => h ζ' H' _ ev wd (so.drop.to_none (by assumption))
    · exact h.elim
  | rt w μ' =>
    simp only [RS.unset] at h
    split at h
    · exact fun ζ' H' v ev wd r => h ζ' H' v ev wd (r.to_none (by assumption))
    · exact h.elim
  | ex _ _ _ _ => exact h.elim
  | stuck => exact h.elim
theorem handle_ok {c : Str} {f : Option (Str × PV)} {d : Option Addr} (wd : Wd K N ζ μ H) (so : Sok K none ζ (MM N ζ μ) H σr σ) (xr : XR K (MM N ζ μ) H d f) : ∀ {cl : List Clause}, ClFacts K cl → PostS K none W N ζ μ H D (handle c f σ μ cl) → WD.wClauses K W D (clL K cl) (.ref (He.ga K c)) d σr H
  | [], _, h => h ζ H d σr Ev.refl wd xr so
  | k :: r, hf, h => by
    unfold handle at h
    split at h
    · rename_i hy
      refine ⟨true, hf.1 c hy, fun _ a ha => ?_, fun z => nomatch z⟩
      exact ⟨N, ζ, μ, _, wd, (so.of_none (ξ := some (a, .ref (He.ga K c), d))).set (w := .x c f) ⟨a, d, rfl, rfl, xr⟩, unset_ok h⟩
    · split at h
      · rename_i hn
        exact ⟨false, hf.2.1 c hn, fun z => Bool.noConfusion z, fun _ => handle_ok wd so xr hf.2.2 h⟩
      · exact h.elim
theorem s_try {body : List Stmt} {hd0 : ExceptHandler} {hds : List ExceptHandler} {cl : List Clause} (hs : X.stack = X.env :: X.outer) (hf : X.env.frame = some X.env.locals) (hN : X.N.Nodup) (tk : Takes X W)
    (bd : ∀ (W' : WX) (pn : List (Addr × Obj)) (xe : Value → Shared → Prop), Takes (X.tr pn xe) W' → ISs K none W' (X.tr pn xe) body B) (hc : WD.Clauses X (hd0 :: hds) (clL K cl)) (hF : ClFacts K cl) (hK : X.K = K := by rfl) : IS K none W X (.Try body (hd0 :: hds) [] [] pos) (sTry B cl) := by
  obtain ⟨K, Kt⟩ := K; obtain rfl : X.K = K := hK
  refine PS.of (WD.ps_try_clauses hs hf hN tk bd hc) fun D σr H q => ?_
  obtain ⟨N, ζ, μ, σ, wd, so, q⟩ := q
  refine ⟨N, ζ, μ, σ, wd, so, ?_⟩
  unfold sTry at q
  cases e : B σ μ with
  | ex c f σ1 μ1 => rw [e] at q; exact fun ζ' H' d σr' ev wd' xr so' => handle_ok wd' so' xr hF (PostS.ev ev q)
  | nx _ _ => rw [e] at q; exact q
  | bk _ _ => rw [e] at q; exact q
  | ct _ _ => rw [e] at q; exact q
  | rt _ _ => rw [e] at q; exact q
  | stuck => rw [e] at q; exact q
/-! ### a caught exception is asked -/
def gXf (cs : List Str) (n : Str) (w : Val) (μ : Store) : R Val := match w with
  | .x c (some (m, p)) => if m = n ∧ c ∈ cs then .ok (.t p) μ else .stuck
  | _ => .stuck
theorem i_xf {a : Addr} {oe : Obj} {cls : Value} {d : Option Addr} {pn : List (Addr × Obj)} {n : Str} {cs : List Str} (hz : Zc cls d oe) (hf : ∃ vs, oe.data = .fields vs) (he : IE K (some (a, cls, d)) W (X.suite a ((a, oe) :: pn)) e fa) (hx : ∀ c ∈ cs, WD.ExD K (He.ga K c) ∧ PySem.W.findIn K (.ref (He.ga K c)) n = some none)
    (hb : attributeBase e n X.env (eval e X.env) = eval e X.env := by rfl) (hK : X.K = K := by rfl) : IE K (some (a, cls, d)) W (X.suite a ((a, oe) :: pn)) (.Attribute e n pos) (e1 (gXf cs n) fa) := by
  obtain ⟨K, Kt⟩ := K; obtain rfl : X.K = K := hK
  refine PE.of (WD.pe_xfA hz hf he hb) fun σr H Q q => ?_
  obtain ⟨N, ζ, μ, σ, wd, so, q⟩ := q
  refine (then1 wd so q).mono fun x H1 ⟨ζ1, μ1, w1, ev1, wd1, so1, r1, q1⟩ => ?_
  unfold gXf at q1
  split at q1
  · split at q1
    · rename_i c m p hc
      obtain ⟨rfl, hc⟩ := hc
      obtain ⟨a', d', h1, rfl, dd, v, rfl, h3, h4, h5⟩ := r1
      cases h1
      obtain ⟨k1, k2⟩ := hx c hc
      exact ⟨_, rfl, rfl, k1, k2, dd, [(m, v)], v, rfl, h4, by simp [List.lookup], q1 ζ1 H1 v Ev.refl wd1 h5⟩
    · exact q1.elim
  · exact q1.elim
/-- readings of classes -/
def taC (vs : List V) : TA := fun _ H Q => Q vs H
theorem pa_c0 : PA X [] (taC []) := PA.of pa_nil fun _ _ _ q => q
theorem pa_c {v : V} {vs : List V} (h : PE X e (tC v)) (hs : PA X es (taC vs)) (hst : starEach (e :: es) X.env = (false, eval e X.env) :: starEach es X.env := by rfl) : PA X (e :: es) (taC (v :: vs)) := PA.of (pa_cons h hs hst) fun _ _ _ q => q
def gIsX (tab : List (Str × Bool)) (w : Val) (μ : Store) : R Val := match w with
  | .x c _ => match tab.lookup c with
    | some b => .ok (.t (.bl b)) μ
    | none => .stuck
  | _ => .stuck
theorem xd_of {ζ : List Addr} {f : Option (Str × PV)} {d : Option Addr} (xr : XR K M H d f) : ∀ dd, d = some dd → ∃ fs, H dd = some (.xd fs) := fun dd hd => by
  cases f with
  | none => rw [show d = none from xr] at hd; cases hd
  | some q =>
    obtain ⟨n, p⟩ := q
    obtain ⟨d2, v, h1, _, h3, _⟩ := xr
    rw [h1] at hd
    cases hd
    exact ⟨_, h3⟩
theorem lookup_mem {tab : List (Str × Bool)} {c : Str} {b : Bool} (h : tab.lookup c = some b) : (c, b) ∈ tab := by
  induction tab with
  | nil => cases h
  | cons p tab ih =>
    obtain ⟨x, y⟩ := p
    rw [List.lookup_cons] at h
    split at h
    · rename_i heq
      cases h
      rw [eq_of_beq heq]
      exact List.mem_cons_self
    · exact List.mem_cons_of_mem _ (ih h)
theorem i_isX {a : Addr} {oe : Obj} {cls cv : Value} {d : Option Addr} {pn : List (Addr × Obj)} {c2 : Expr} {v2 : V} {p : Pos} {tab : List (Str × Bool)} (hz : Zc cls d oe) (hf : ∃ vs, oe.data = .fields vs) (he : IE K (some (a, cls, d)) W (X.suite a ((a, oe) :: pn)) e fa) (h2 : PE (X.suite a ((a, oe) :: pn)) c2 (tC v2)) (hv : ∀ u, RelV v2 u → u = cv)
    (hx : ∀ q ∈ tab, WD.ExD K (He.ga K q.1) ∧ PySem.W.kitOne K (.ref (He.ga K q.1)) cv = some q.2) (hg : Gl X "isinstance") (hm : X.mg "isinstance" = none)
    (hs : starEach [e, c2] X.env = (false, eval e X.env) :: starEach [c2] X.env := by rfl) (hs2 : starEach [c2] X.env = (false, eval c2 X.env) :: starEach [] X.env := by rfl) (hp : ((backTo pos (starEach [c2] X.env)).any (·.1)) = false := by rfl) (hK : X.K = K := by rfl) :
    IE K (some (a, cls, d)) W (X.suite a ((a, oe) :: pn)) (.Call (.Name "isinstance" p) [e, c2] [] pos) (e1 (gIsX tab) fa) := by
  obtain ⟨K, Kt⟩ := K; obtain rfl : X.K = K := hK
  refine PE.of (pe_callB (X := X.suite a ((a, oe) :: pn)) (WD.call_isX hz hf) hg hm WD.bt_isinstance (pa_cons he (pa_c h2 pa_c0 hs2) hs) (by decide) (by decide) hs hp) fun σr H Q q => ?_
  obtain ⟨N, ζ, μ, σ, wd, so, q⟩ := q
  refine (then1 wd so q).mono fun x H1 ⟨ζ1, μ1, w1, ev1, wd1, so1, r1, q1⟩ => ?_
  unfold gIsX at q1
  split at q1
  · split at q1
    · rename_i c f b hb
      obtain ⟨a', d', h1, rfl, xr⟩ := r1
      cases h1
      obtain ⟨k1, k2⟩ := hx _ (lookup_mem hb)
      exact ⟨_, v2, cv, b, rfl, k1, xd_of (ζ := ζ1) xr, rfl, hv, k2, q1 ζ1 H1 _ Ev.refl wd1 RV.blI⟩
    · exact q1.elim
  · exact q1.elim
/-! ### isinstance of data -/
def tyN : PV → Option String
  | .non => some "NoneType"
  | .bl _ => some "bool"
  | .int _ => some "int"
  | .str _ => some "str"
  | .tup _ => some "tuple"
  | .lst _ => some "list"
  | .dic _ _ _ => some "dict"
  | .obj _ _ _ => none
def subT (n T : String) : Bool := n == T || (n == "bool" && T == "int")
def isTy (T : String) (d : PV) : Option PV := (tyN d).map fun n => .bl (subT n T)
theorem kit_tab : ∀ n ∈ ["NoneType", "bool", "int", "str", "tuple", "list", "dict"], ∀ T ∈ ["int", "bool", "str", "tuple", "list", "dict"], kitB n T = some (subT n T) := by decide +kernel
theorem ty_of {v : V} {d : PV} {n : String} (h : vv K M H v d) (e : tyN d = some n) : TyX K H v (.type n) ∧ n ∈ ["NoneType", "bool", "int", "str", "tuple", "list", "dict"] := by
  cases d with
  | non => cases e; rw [vv_non h]; exact ⟨.base .non, by decide⟩
  | bl b => cases e; rw [vv_bl h]; exact ⟨.base (.bl b), by decide⟩
  | int b => cases e; rw [vv_int h]; exact ⟨.base (.int b), by decide⟩
  | str b => cases e; rw [(vv_str h).1]; exact ⟨.base (.str b), by decide⟩
  | tup l => cases e; obtain ⟨a, vs, rfl, _, h1, _⟩ := vv_tup h; exact ⟨.base (.tup h1), by decide⟩
  | lst l => cases e; obtain ⟨a, vs, rfl, h1, _⟩ := h; exact ⟨.base (.lst h1), by decide⟩
  | dic b ks l =>
    cases e
    obtain ⟨a, vs, rfl, h1, _⟩ := h
    cases b <;> obtain ⟨_, _, _, _, h1⟩ := h1
    · exact ⟨.base (.dK h1), by decide⟩
    · exact ⟨.base (.dT h1), by decide⟩
  | obj _ _ _ => cases e
theorem i_isT {T : String} {c2 : Expr} {p : Pos} (he : IE K ξ W X e fa) (h2 : PE X c2 (tC (.ty T))) (hT : T ∈ ["int", "bool", "str", "tuple", "list", "dict"]) (hg : Gl X "isinstance") (hm : X.mg "isinstance" = none)
    (hs : starEach [e, c2] X.env = (false, eval e X.env) :: starEach [c2] X.env := by rfl) (hs2 : starEach [c2] X.env = (false, eval c2 X.env) :: starEach [] X.env := by rfl) (hp : ((backTo pos (starEach [c2] X.env)).any (·.1)) = false := by rfl) (hK : X.K = K := by rfl) :
    IE K ξ W X (.Call (.Name "isinstance" p) [e, c2] [] pos) (e1 (p1 (isTy T)) fa) := by
  obtain ⟨K, Kt⟩ := K; obtain rfl : X.K = K := hK
  refine PE.of (pe_callB call_isi hg hm WD.bt_isinstance (pa_cons he (pa_c h2 pa_c0 hs2) hs) (by decide) (by decide) hs hp) fun σr H Q q => ?_
  obtain ⟨N, ζ, μ, σ, wd, so, q⟩ := q
  refine (then1 wd so q).mono fun x H1 ⟨ζ1, μ1, w1, ev1, wd1, so1, r1, q1⟩ => ?_
  obtain ⟨M, d1, d, h1, fr, e, g⟩ := read_p1 wd1 r1 q1
  obtain ⟨n, e1, rfl⟩ := Option.map_eq_some_iff.mp e
  obtain ⟨k1, k2⟩ := ty_of h1 e1
  exact ⟨x, .ty T, _, _, _, rfl, .ty T, k1, kit_ty (kit_tab n k2 T hT), g.bl⟩
/-! ### the rest -/
def idxB (l : List PV) (d : PV) : Option Nat := l.findIdx? fun z => eqB z d
def gIndex (w : Val) (ws : List Val) (μ : Store) : R Val := match view μ w, views μ ws with
  | some (.lst l), some [d] => if okD (.lst l) && okD d then OR.ok μ ((idxB l d).map fun (j : Nat) => .t (.int (j : Int))) else .stuck
  | _, _ => .stuck
def isLst (μ : Store) (w : Val) : Bool := match view μ w with
  | some (.lst _) => true
  | _ => false
def eIndex (o : ME) (as : Sl → Store → R (List Val)) : ME := fun σ μ => (o σ μ).bind fun w μ1 => if isLst μ1 w then (as σ μ1).bind fun ws μ2 => gIndex w ws μ2 else .stuck
theorem datas_at : ∀ (l : List PV) (j : Nat), (datas l)[j]? = (l[j]?).map PV.data
  | [], j => by unfold datas; simp
  | a :: l, 0 => by unfold datas; rfl
  | a :: l, j + 1 => by unfold datas; exact datas_at l j
theorem i_index {o : Expr} {fo : ME} {name : Str} {apos cpos : Pos} (hu : X.A.units + 65 < cLine) (ho : IE K ξ W X o fo) (ha : IA K ξ W X (e :: es) fs)
    (h : ∀ {to : TE} {t : TA}, PE X o to → PA X (e :: es) t → PE X (.Call (.Attribute o name apos) (e :: es) [] cpos) (tBM K "list" (rIndexD K) to t)) : IE K ξ W X (.Call (.Attribute o name apos) (e :: es) [] cpos) (eIndex fo fs) := PE.of (h ho ha) fun σr H Q q => by
  obtain ⟨N, ζ, μ, σ, wd, so, q⟩ := q
  refine (then1 wd so q).mono fun x H1 ⟨ζ1, μ1, w1, ev1, wd1, so1, r1, q1⟩ => ?_
  split at q1
  · rename_i hl
    have hl' : ∃ l, view μ1 w1 = some (.lst l) := by
      unfold isLst at hl
      split at hl
      · exact ⟨_, by assumption⟩
      · cases hl
    obtain ⟨l0, hl0⟩ := hl'
    obtain ⟨a, vs, rfl, h1, h2⟩ := r1.view wd1 hl0
    refine ⟨.inl ⟨rfl, vs, SqL.of h1⟩, ?_⟩
    refine (thenN wd1 so1 q1).mono fun xs H2 ⟨ζ2, μ2, ws, ev2, wd2, so2, r2, q2⟩ => ?_
    unfold gIndex at q2
    split at q2
    · rename_i l d e1 e2
      split at q2
      · rename_i hc
        rw [Bool.and_eq_true] at hc
        cases e3 : idxB l d with
        | none => rw [e3] at q2; exact q2.elim
        | some j =>
          rw [e3] at q2
          obtain ⟨u, rfl, hu2⟩ := vvs1 (r2.views wd2 e2)
          obtain ⟨p1, p2⟩ := okD_dp hc.1 ((r1.ev ev2).view wd2 e1)
          obtain ⟨q3, q4⟩ := okD_dp hc.2 hu2
          unfold idxB at e3
          obtain ⟨hj, hj1, hj2⟩ := List.findIdx?_eq_some_iff_getElem.mp e3
          unfold PV.data at p1 p2
          refine ⟨a, u, d.data, datas l, j, (l[j]).data, rfl, rfl, p1, q3, p2, q4, by rw [datas_at, List.getElem?_eq_getElem hj]; rfl, hj1, fun m z' hm hz => ?_, q2 ζ2 H2 _ Ev.refl wd2 ((rv_int (K := K) (M := MM N ζ2 μ2) (H := H2)).mpr rfl)⟩
          rw [datas_at, List.getElem?_eq_getElem (by omega)] at hz
          cases hz
          have := hj2 m hm
          simpa [eqB] using this
      · exact q2.elim
    · exact q2.elim
  · exact q1.elim
/-- list(range(n)), list(range(a, b)) -/
def gRg (i j : Int) (μ : Store) : R (List PV) := if bnd i && (bnd j && Nat.ble (j - i).toNat 16777216) then .ok (rgI i (j - i).toNat) μ else .stuck
def gLR1 (w : Val) (μ : Store) : R (List PV) := match w with
  | .t (.int j) => gRg 0 j μ
  | _ => .stuck
theorem rvs_rg {a b : Int} : rvs K M H (rgV a b) (rgI a (b - a).toNat) := by
  unfold rgV rgI
  have : ∀ l : List Nat, rvs K M H (l.map fun (i : Nat) => V.int (a + (i : Int))) (l.map fun (k : Nat) => PV.int (a + (k : Int))) := by
    intro l
    induction l with
    | nil => exact rvs_nil
    | cons x l ih => exact rvs_cons.mpr ⟨rv_int.mpr rfl, ih⟩
  exact this _
theorem read_rg {i j : Int} {Q : VK} (wd : Wd K N ζ μ H) (h : PostF K W N ζ μ H σr Q (gRg i j μ)) : RgOk i j ∧ ∀ q, H q = none → Q (.ref q) (upd H q (.lst (rgV i j))) := by
  unfold gRg at h
  split at h
  · rename_i hc
    rw [Bool.and_eq_true, Bool.and_eq_true] at hc
    have c1 := bnd_ok hc.1
    have c2 := bnd_ok hc.2.1
    have c3 := Nat.le_of_ble_eq_true hc.2.2
    exact ⟨⟨c1.1, c1.2, c2.1, c2.2, by omega⟩, fun q hq => (postF_p wd h).lst rvs_rg hq⟩
  · exact h.elim
theorem f_listRg1 {p pr posr : Pos} (hc : X.calm = true) (hg : Gl X "list") (hm : X.mg "list" = none) (hgr : Gl X "range") (hmr : X.mg "range" = none) (ha : IE K ξ W X e fa) (hs : starEach [e] X.env = (false, eval e X.env) :: starEach [] X.env := by rfl)
    (hs2 : starEach [.Call (.Name "range" pr) [e] [] posr] X.env = (false, eval (.Call (.Name "range" pr) [e] [] posr) X.env) :: starEach [] X.env := by rfl) : IF K ξ W X (.Call (.Name "list" p) [.Call (.Name "range" pr) [e] [] posr] [] pos) (e1 gLR1 fa) := PE.of (pe_listRg hc hg hm (prg_1 hgr hmr ha hs) hs2) fun σr H Q q => by
  obtain ⟨N, ζ, μ, σ, wd, so, q⟩ := q
  refine (then1F wd so q).mono fun x H1 ⟨ζ1, μ1, w1, ev1, wd1, so1, r1, q1⟩ => ?_
  unfold gLR1 at q1
  split at q1
  · rename_i j
    exact ⟨j, rv_int.mp (show rv K (MM N ζ1 μ1) H1 x (.int j) from r1), read_rg wd1 q1⟩
  · exact q1.elim
/-- the script, with a list behind it -/
def gScr (w u : Val) (μ : Store) : R (List PV) := match w, u with
  | .s ns, .t (.lst ds) => if ns.length + ds.length ≤ sizeLine then .ok (ns.map .int ++ ds) μ else .stuck
  | _, _ => .stuck
theorem f_scr {b : Expr} {fb : ME} (ha : IE K ξ W X e fa) (hb : IE K ξ W X b fb) (hK : X.K = K := by rfl) : IF K ξ W X (.BinOp e .Add b pos) (e2 gScr fa fb) := by
  obtain ⟨K, Kt⟩ := K; obtain rfl : X.K = K := hK
  refine PE.of (pe_op WD.op_catL ha hb) fun σr H Q q => ?_
  obtain ⟨N, ζ, μ, σ, wd, so, q⟩ := q
  refine (then1F wd so q).mono fun x H1 ⟨ζ1, μ1, w1, ev1, wd1, so1, r1, q1⟩ => ?_
  refine (then1F wd1 so1 q1).mono fun y H2 ⟨ζ2, μ2, w2, ev2, wd2, so2, r2, q2⟩ => ?_
  have key : ∃ ns ds, w1 = .s ns ∧ w2 = .t (.lst ds) ∧ ns.length + ds.length ≤ sizeLine ∧ PostF ⟨X.K, Kt⟩ W N ζ2 μ2 H2 σr Q (.ok (ns.map .int ++ ds) μ2) := by
    unfold gScr at q2
    split at q2
    · split at q2
      · exact ⟨_, _, rfl, rfl, by assumption, q2⟩
      · exact q2.elim
    · exact q2.elim
  obtain ⟨ns, ds, rfl, rfl, hl, q2⟩ := key
  obtain ⟨a, rfl, h1⟩ := r1.ev ev2
  have h1 : SqL X.K H2 a (ns.map V.int) := h1.elim (fun h => .inl h.2) fun h => h H2
  obtain ⟨b, vs, rfl, n2, h2, r3⟩ := rv_lst.mp (show rv ⟨X.K, Kt⟩ (MM N ζ2 μ2) H2 y (.lst ds) from r2)
  have := rvs_len r3
  exact ⟨a, b, _, vs, rfl, rfl, h1, SqL.of h2, by rw [List.length_map]; omega, fun p hp => (postF_p wd2 q2).lst (rvs_app (rvs_ints ns) r3) hp⟩
theorem fa_nil {α : Type} {p : α → Prop} : ∀ x ∈ ([] : List α), p x := fun _ h => nomatch h
theorem fa_cons {α : Type} {p : α → Prop} {a : α} {l : List α} (h : p a) (t : ∀ x ∈ l, p x) : ∀ x ∈ a :: l, p x := fun x hx => (List.mem_cons.mp hx).elim (fun e => e ▸ h) (t x)
/-- the law's own call -/
def spLaw (K : KT) : Sp := fun vs H Q _ => ∃ (a : Addr) (ns : List Int), vs = [.ref a] ∧ SqL K H a (ns.map V.int) ∧ ns.length ≤ 63 ∧ LamX.Tabs K.tb H ∧ ∀ H', Q (.bl true) H'
theorem spLaw_ask {H : Hp} {a : Addr} {ns : List Int} (hl : ns.length ≤ 63) (hS : SqL K H a (ns.map V.int)) (hT : LamX.Tabs K.tb H) : spLaw K [.ref a] H (fun v _ => v = .bl true) (fun _ _ _ => False) := ⟨a, ns, rfl, hS, hl, hT, fun _ => rfl⟩
theorem law_read {b : MSt} {Nm : List Str} (hb : ∀ ns : List Int, ns.length ≤ 63 → fnOf Nm.length b [.s ns] [] = .ok (.t (.bl true)) []) {vs : List V} {H : Hp} {Q : VK} {E : XK} (h : spLaw K vs H Q E) : tS K none W0 b { nx := fun _ H' => Q .non H', rt := Q } (L2.start Nm vs) H := by
  obtain ⟨a, ns, rfl, hS, hl, hT, k⟩ := h
  have noM : ∀ x, ¬ MM WD.M0 [] [] x := fun x z => z.elim (fun ⟨k, c, h1, _⟩ => by simp at h1) fun z => z
  refine fn_read (N := WD.M0) (ζ := []) (μ := []) (E := fun _ _ _ => False) (ws := [.s ns]) ⟨rfl, fun i j a c c' h => by simp at h, fun k c a h => by simp at h, fun a h => h.elim, hT⟩ ⟨⟨a, rfl, ?_⟩, trivial⟩ ?_
  · rcases hS with h | h
    · exact .inl ⟨noM a, h⟩
    · exact .inr fun H' => .inr h
  · rw [hb ns hl]
    exact fun ζ' H' v _ _ r => by rw [rv_bl.mp (show rv K (MM WD.M0 ζ' []) H' v (.bl true) from r)]; exact k H'
end
end PM
/-! A turn of a loop: what it made for itself is let go at its end. -/
namespace PM
open PySem PySem.Spec PyProof.Rows L2
open WD (MS upd_none)
def belowV (n : Nat) : Option Val → Bool
  | some (.c k) => decide (k < n)
  | some (.x _ _) => false
  | some (.lam _ _) => false
  | some (.g _ fs) => fs.all (Fl.below n)
  | _ => true
def sScope (B : MSt) : MSt := fun σ μ => match B σ μ with
  | .nx σ' μ' => if σ'.all (belowV μ.length) then .nx σ' (μ'.take μ.length) else .nx σ' μ'
  | .ct σ' μ' => if σ'.all (belowV μ.length) then .ct σ' (μ'.take μ.length) else .ct σ' μ'
  | r => r
section
variable {X : Cx} {K : KT} {ξ : Xi} {W : WX} {N : MS} {ζ ζ1 : List Addr} {μ μ1 : Store} {H : Hp} {σr : L2.St} {σ : Sl} {B : MSt}
theorem Sok.cut {n : Nat} (so : Sok K ξ ζ1 (MM N ζ1 μ1) H σr σ) (sub : ∀ x, MM N (ζ1.take n) (μ1.take n) x → MM N ζ1 μ1 x) (hb : σ.all (belowV n) = true) : Sok K ξ (ζ1.take n) (MM N (ζ1.take n) (μ1.take n)) H σr σ := by
  refine ⟨so.1, fun i w hw => ?_⟩
  obtain ⟨v, h1, h2⟩ := so.2 i w hw
  have hb := List.all_eq_true.mp hb _ (List.mem_of_getElem? hw)
  refine ⟨v, h1, ?_⟩
  cases w with
  | t d => exact rv_wk sub h2
  | c k =>
    obtain ⟨a, ha, rfl⟩ := h2
    exact ⟨a, by rw [List.getElem?_take, if_pos (of_decide_eq_true hb)]; exact ha, rfl⟩
  | x c f => cases hb
  | self => exact h2
  | lam _ _ => cases hb
  | g hd fs => exact RV.cutG hb sub h2
  | s ns =>
    obtain ⟨a, rfl, h2⟩ := h2
    exact ⟨a, rfl, h2.imp (fun z => ⟨fun m => z.1 (sub a m), z.2⟩) id⟩
theorem s_scope {body : List Stmt} (h : ISs K ξ W X body B) : ISs K ξ W X body (sScope B) := PSs.of h fun D σr H q => by
  obtain ⟨N, ζ, μ, σ, wd, so, q⟩ := q
  refine ⟨N, ζ, μ, σ, wd, so, ?_⟩
  unfold sScope at q
  cases e : B σ μ with
  | nx σ' μ' =>
    rw [e] at q
    dsimp only at q
    split at q
    · rename_i hb
      intro ζ' H' σr' ev wd' so'
      obtain ⟨ev', wd'', sub⟩ := cut_ok ev wd' wd.len
      exact q _ _ _ ev' wd'' (so'.cut sub hb)
    · exact q
  | ct σ' μ' =>
    rw [e] at q
    dsimp only at q
    split at q
    · rename_i hb
      intro ζ' H' σr' ev wd' so'
      obtain ⟨ev', wd'', sub⟩ := cut_ok ev wd' wd.len
      exact q _ _ _ ev' wd'' (so'.cut sub hb)
    · exact q
  | _ => rw [e] at q; exact q
end
end PM
/-! sep.join(xs) -/
namespace PM
open PySem PySem.Spec PyProof.Rows L2
open WD (MS upd_none)
def strsOf : List PV → Option (List Str)
  | [] => some []
  | .str x :: ds => (strsOf ds).map (x :: ·)
  | _ => none
def joinB (a : Str) (ys : List Str) : Bool := Nat.ble ((ys.map (·.length)).sum + ys.length * a.length) 16777216 && PyData.strOk (Txt.join a ys)
def gJoin (a : Str) (u : Val) (μ : Store) : R Val := match view μ u with
  | some (.lst ds) => match strsOf ds with
    | some ys => if joinB a ys then .ok (.t (.str (Txt.join a ys))) μ else .stuck
    | none => .stuck
  | some (.tup ds) => match strsOf ds with
    | some ys => if joinB a ys then .ok (.t (.str (Txt.join a ys))) μ else .stuck
    | none => .stuck
  | _ => .stuck
def eJoin (fo fe : ME) : ME := fun σ μ => (fo σ μ).bind fun w μ1 => match w with
  | .t (.str a) => (fe σ μ1).bind fun u μ2 => gJoin a u μ2
  | _ => .stuck
section
variable {X : Cx} {K : KT} {ξ : Xi} {W : WX} {N : MS} {ζ ζ1 : List Addr} {μ μ1 : Store} {M : MS} {H : Hp} {σr : L2.St} {σ : Sl} {o e : Expr} {fo fe : ME} {apos pos : Pos}
theorem rvs_strs : ∀ {ds : List PV} {vs : List V} {ys : List Str}, rvs K M H vs ds → strsOf ds = some ys → vs = ys.map V.str
  | [], [], _, _, e => by cases e; rfl
  | [], _ :: _, _, h, _ => h.elim
  | d :: ds, [], _, h, _ => by cases d <;> exact h.elim
  | d :: ds, v :: vs, ys, h, e => by
    cases d with
    | str x =>
      rw [rvs_cons] at h
      obtain ⟨zs, hz, rfl⟩ := Option.map_eq_some_iff.mp (show (strsOf ds).map (x :: ·) = some ys from e)
      rw [(rv_str.mp h.1).1, rvs_strs h.2 hz]
      rfl
    | _ => cases e
theorem i_join (ho : IE K ξ W X o fo) (he : IE K ξ W X e fe) (h : ∀ {to te : TE}, PE X o to → PE X e te → PE X (.Call (.Attribute o "join" apos) [e] [] pos) (tM1 (WD.rJoin K) to te)) : IE K ξ W X (.Call (.Attribute o "join" apos) [e] [] pos) (eJoin fo fe) := PE.of (h ho he) fun σr H Q q => by
  obtain ⟨N, ζ, μ, σ, wd, so, q⟩ := q
  refine (then1 wd so q).mono fun x H1 ⟨ζ1, μ1, w1, ev1, wd1, so1, r1, q1⟩ => ?_
  split at q1
  · rename_i a
    obtain ⟨rfl, ok⟩ := rv_str.mp (show rv K (MM N ζ1 μ1) H1 x (.str a) from r1)
    refine ⟨⟨a, rfl⟩, ?_⟩
    refine (then1 wd1 so1 q1).mono fun y H2 ⟨ζ2, μ2, w2, ev2, wd2, so2, r2, q2⟩ => ?_
    unfold gJoin at q2
    split at q2
    · rename_i ds e1
      split at q2
      · rename_i ys e2
        split at q2
        · rename_i hc
          unfold joinB at hc
          rw [Bool.and_eq_true] at hc
          obtain ⟨p, vs, rfl, h1, h2⟩ := r2.view wd2 e1
          refine ⟨a, p, ys, rfl, rfl, .inl (rvs_strs h2 e2 ▸ SqL.of h1), Nat.le_of_ble_eq_true hc.1, q2 ζ2 H2 _ Ev.refl wd2 ((rv_str (K := K) (M := MM N ζ2 μ2) (H := H2)).mpr ⟨rfl, hc.2⟩)⟩
        · exact q2.elim
      · exact q2.elim
    · rename_i ds e1
      split at q2
      · rename_i ys e2
        split at q2
        · rename_i hc
          unfold joinB at hc
          rw [Bool.and_eq_true] at hc
          obtain ⟨p, vs, rfl, _, h1, h2⟩ := (r2.view wd2 e1 : rv K (MM N ζ2 μ2) H2 y (.tup ds))
          refine ⟨a, p, ys, rfl, rfl, .inr (rvs_strs h2 e2 ▸ SqT.of h1), Nat.le_of_ble_eq_true hc.1, q2 ζ2 H2 _ Ev.refl wd2 ((rv_str (K := K) (M := MM N ζ2 μ2) (H := H2)).mpr ⟨rfl, hc.2⟩)⟩
        · exact q2.elim
      · exact q2.elim
    · exact q2.elim
  · exact q1.elim
end
end PM
/-! sum of ints -/
namespace PM
open PySem PySem.Spec PyProof.Rows L2
open WD (MS upd_none)
def numsOf : List PV → Option (List Int)
  | [] => some []
  | .int x :: ds => (numsOf ds).map (x :: ·)
  | _ => none
def sumV : List PV → Option PV
  | [.lst l] => (numsOf l).map fun ns => .int ns.sum
  | [.tup l] => (numsOf l).map fun ns => .int ns.sum
  | _ => none
section
variable {X : Cx} {K : KT} {M : MS} {H : Hp}
theorem rvs_nums : ∀ {ds : List PV} {vs : List V} {ys : List Int}, rvs K M H vs ds → numsOf ds = some ys → vs = ys.map V.int
  | [], [], _, _, e => by cases e; rfl
  | [], _ :: _, _, h, _ => h.elim
  | d :: ds, [], _, h, _ => by cases d <;> exact h.elim
  | d :: ds, v :: vs, ys, h, e => by
    cases d with
    | int x =>
      rw [rvs_cons] at h
      obtain ⟨zs, hz, rfl⟩ := Option.map_eq_some_iff.mp (show (numsOf ds).map (x :: ·) = some ys from e)
      rw [rv_int.mp h.1, rvs_nums h.2 hz]
      rfl
    | _ => cases e
theorem cr_sumV (hc : X.calm = true) (hK : X.K = K := by rfl) : CallR X (.builtin "sum") (rPN K sumV) := by
  obtain ⟨K, Kt⟩ := K; obtain rfl : X.K = K := hK
  intro pins s σ H xs us Q I r h
  obtain ⟨M, ds, d, hv, fr, e, g⟩ := h
  unfold sumV at e
  split at e
  · obtain ⟨bs, e1, e2⟩ := Option.map_eq_some_iff.mp e
    subst e2
    obtain ⟨v, rfl, h1⟩ := vvs1 hv
    obtain ⟨p, vs, rfl, g1, r1⟩ := h1
    have z := rvs_nums r1 e1
    subst z
    exact cr_sum hc pins s σ H _ us Q I r ⟨p, bs, rfl, SqL.of g1, g.int⟩
  · obtain ⟨bs, e1, e2⟩ := Option.map_eq_some_iff.mp e
    subst e2
    obtain ⟨v, rfl, h1⟩ := vvs1 hv
    obtain ⟨p, vs, rfl, _, g1, r1⟩ := (h1 : rv ⟨X.K, Kt⟩ M H v (.tup _))
    have z := rvs_nums r1 e1
    subst z
    exact WD.cr_sumT hc pins s σ H _ us Q I r ⟨p, bs, rfl, SqT.of g1, g.int⟩
  · cases e
end
end PM
/-! dicts that change -/
namespace PM
open PySem PySem.Spec PyProof.Rows L2
open WD (MS upd_none)
/-- {} -/
def eDNew (b : Bool) : ME := fun _ μ => .ok (.c μ.length) (μ ++ [some (.dic b [] [])])
section
variable {X : Cx} {K : KT} {ξ : Xi} {W : WX} {N : MS} {ζ : List Addr} {μ : Store} {H : Hp} {pos : Pos}
theorem dnew_ok {b : Bool} {σr : L2.St} {Q : VK} {a : Addr} {o : HO} (wd : Wd K N ζ μ H) (ha : H a = none) (hd : DicR b (upd H a o) a [] []) (q : PostE K ξ W N ζ μ H σr Q (.ok (.c μ.length) (μ ++ [some (.dic b [] [])]))) : Q (.ref a) (upd H a o) := by
  have w := wd.aside (a := a) (H' := upd H a o) (Grow.upd ha) ha hd.ob
  refine q (ζ ++ [a]) _ _ ⟨fun k b hb => ?_, Fr.new ha, fun b hb => ?_⟩ (w.push (fun z => (wd.nd a z).2.ne ha) ⟨[], hd, trivial⟩) ⟨a, by rw [← wd.len, List.getElem?_append_right (Nat.le_refl _), Nat.sub_self]; rfl, rfl⟩
  · rw [List.getElem?_append_left (List.getElem?_eq_some_iff.mp hb).1]
    exact hb
  · rcases (Mof_snoc wd.len b).mp hb with z | z
    · exact .inl z
    · exact .inr (nn_none (by rw [z]; exact ha))
theorem i_dnewK : IE K ξ W X (.Dict [] [] pos) (eDNew false) := PE.of pe_dnewK fun σr H Q q => by
  obtain ⟨N, ζ, μ, σ, wd, so, q⟩ := q
  exact fun a ha => dnew_ok (b := false) wd ha ⟨[], rfl, rfl, fun _ h => (nomatch h), upd_same⟩ q
end
end PM
/-! min, max of a list, of a tuple of ints -/
namespace PM
open PySem PySem.Spec PyProof.Rows L2
open WD (MS upd_none)
def minOf : List Int → Option PV
  | [] => none
  | n :: ns => some (.int (ns.foldl min n))
def maxOf : List Int → Option PV
  | [] => none
  | n :: ns => some (.int (ns.foldl max n))
def minV1 : List PV → Option PV
  | [.lst l] => (intsOf l).bind minOf
  | [.tup l] => (intsOf l).bind minOf
  | _ => none
def maxV1 : List PV → Option PV
  | [.lst l] => (intsOf l).bind maxOf
  | [.tup l] => (intsOf l).bind maxOf
  | _ => none
theorem foldl_min_le (n : Int) (ns : List Int) : ∀ y ∈ n :: ns, ns.foldl min n ≤ y := by
  induction ns generalizing n with
  | nil => intro y hy; rw [List.mem_singleton.mp hy]; exact Int.le_refl _
  | cons k r ih =>
    intro y hy
    show r.foldl min (min n k) ≤ y
    have h0 := ih (min n k) (min n k) List.mem_cons_self
    rcases List.mem_cons.mp hy with e | hy
    · subst e; omega
    · rcases List.mem_cons.mp hy with e | hy
      · subst e; omega
      · exact ih (min n k) y (List.mem_cons_of_mem _ hy)
theorem foldl_min_mem (n : Int) (ns : List Int) : ns.foldl min n ∈ n :: ns := by
  induction ns generalizing n with
  | nil => exact List.mem_singleton.mpr rfl
  | cons k r ih =>
    show r.foldl min (min n k) ∈ n :: k :: r
    rcases List.mem_cons.mp (ih (min n k)) with e | e
    · rw [e]
      rcases (by omega : min n k = n ∨ min n k = k) with e | e <;> rw [e] <;> simp
    · exact List.mem_cons_of_mem _ (List.mem_cons_of_mem _ e)
theorem foldl_max_le (n : Int) (ns : List Int) : ∀ y ∈ n :: ns, y ≤ ns.foldl max n := by
  induction ns generalizing n with
  | nil => intro y hy; rw [List.mem_singleton.mp hy]; exact Int.le_refl _
  | cons k r ih =>
    intro y hy
    show y ≤ r.foldl max (max n k)
    have h0 := ih (max n k) (max n k) List.mem_cons_self
    rcases List.mem_cons.mp hy with e | hy
    · subst e; omega
    · rcases List.mem_cons.mp hy with e | hy
      · subst e; omega
      · exact ih (max n k) y (List.mem_cons_of_mem _ hy)
theorem foldl_max_mem (n : Int) (ns : List Int) : ns.foldl max n ∈ n :: ns := by
  induction ns generalizing n with
  | nil => exact List.mem_singleton.mpr rfl
  | cons k r ih =>
    show r.foldl max (max n k) ∈ n :: k :: r
    rcases List.mem_cons.mp (ih (max n k)) with e | e
    · rw [e]
      rcases (by omega : max n k = n ∨ max n k = k) with e | e <;> rw [e] <;> simp
    · exact List.mem_cons_of_mem _ (List.mem_cons_of_mem _ e)
section
variable {X : Cx} {K : KT} {M : MS} {H : Hp}
theorem cr_minTE (hc : X.calm = true) (hu : X.A.units + 1 < cLine) : CallR X (.builtin "min") (fun vs H Q => ∃ (a : Addr) (n : Int) (ns : List Int), vs = [V.ref a] ∧ SqT X.K H a ((n :: ns).map V.int) ∧ Q (.int (ns.foldl min n)) H) := by
  intro pins s σ H vs us Q I r h
  obtain ⟨a, n, ns, rfl, hs, q⟩ := h
  obtain ⟨its, rv, hl, _⟩ := I.tuple hs
  rw [Vals.ref1 r]
  obtain ⟨as, hr⟩ := Dp.readsAll I _ _ its (WD.dpInts (n :: ns)) rv
  refine PySem.W.min_tuple_data (x := .int n) (xs := ns.map PyData.int) (as := as) (I.ok.hd hc) hl hr (WD.alike_ints (n :: ns)) (by rw [show PyData.depthAll (.int n :: ns.map PyData.int) = 0 from WD.depth_ints (n :: ns)]; omega) fun i v h' tk bs hv hrd hk => ?_
  rw [PySem.W.minD_ints] at hrd
  cases hrd
  exact ⟨.int _, H, I.kept hk, ⟨_, rfl⟩, q⟩
theorem cr_maxTE (hc : X.calm = true) (hu : X.A.units + 1 < cLine) : CallR X (.builtin "max") (fun vs H Q => ∃ (a : Addr) (n : Int) (ns : List Int), vs = [V.ref a] ∧ SqT X.K H a ((n :: ns).map V.int) ∧ Q (.int (ns.foldl max n)) H) := by
  intro pins s σ H vs us Q I r h
  obtain ⟨a, n, ns, rfl, hs, q⟩ := h
  obtain ⟨its, rv, hl, _⟩ := I.tuple hs
  rw [Vals.ref1 r]
  obtain ⟨as, hr⟩ := Dp.readsAll I _ _ its (WD.dpInts (n :: ns)) rv
  refine PySem.W.max_tuple_data (x := .int n) (xs := ns.map PyData.int) (as := as) (I.ok.hd hc) hl hr (WD.alike_ints (n :: ns)) (by rw [show PyData.depthAll (.int n :: ns.map PyData.int) = 0 from WD.depth_ints (n :: ns)]; omega) fun i v h' tk bs hv hrd hk => ?_
  rw [PySem.W.maxD_ints] at hrd
  cases hrd
  exact ⟨.int _, H, I.kept hk, ⟨_, rfl⟩, q⟩
theorem cr_minV1 (hc : X.calm = true) (hu : X.A.units + 1 < cLine) (hK : X.K = K := by rfl) : CallR X (.builtin "min") (rPN K minV1) := by
  obtain ⟨K, Kt⟩ := K; obtain rfl : X.K = K := hK
  intro pins s σ H xs us Q I r h
  obtain ⟨M, ds, d, hv, fr, e, g⟩ := h
  unfold minV1 at e
  split at e
  · obtain ⟨ns, e1, e2⟩ := Option.bind_eq_some_iff.mp e
    obtain ⟨v, rfl, h1⟩ := vvs1 hv
    obtain ⟨p, vs, rfl, g1, r1⟩ := h1
    have z := ints_vals r1 e1
    subst z
    cases ns with
    | nil => cases e2
    | cons n ns =>
      cases e2
      refine cr_min hc pins s σ H _ us Q I r ⟨p, n :: ns, rfl, SqL.of g1, Nat.succ_pos _, fun m hm hle => ?_⟩
      have h1 := hle _ (foldl_min_mem n ns)
      have h2 := foldl_min_le n ns m hm
      rw [show m = ns.foldl min n by omega]
      exact g.int
  · obtain ⟨ns, e1, e2⟩ := Option.bind_eq_some_iff.mp e
    obtain ⟨v, rfl, h1⟩ := vvs1 hv
    obtain ⟨p, vs, rfl, _, g1, r1⟩ := vv_tup h1
    have z := ints_vals r1 e1
    subst z
    cases ns with
    | nil => cases e2
    | cons n ns =>
      cases e2
      exact cr_minTE hc hu pins s σ H _ us Q I r ⟨p, n, ns, rfl, SqT.of g1, g.int⟩
  · cases e
theorem cr_maxV1 (hc : X.calm = true) (hu : X.A.units + 1 < cLine) (hK : X.K = K := by rfl) : CallR X (.builtin "max") (rPN K maxV1) := by
  obtain ⟨K, Kt⟩ := K; obtain rfl : X.K = K := hK
  intro pins s σ H xs us Q I r h
  obtain ⟨M, ds, d, hv, fr, e, g⟩ := h
  unfold maxV1 at e
  split at e
  · obtain ⟨ns, e1, e2⟩ := Option.bind_eq_some_iff.mp e
    obtain ⟨v, rfl, h1⟩ := vvs1 hv
    obtain ⟨p, vs, rfl, g1, r1⟩ := h1
    have z := ints_vals r1 e1
    subst z
    cases ns with
    | nil => cases e2
    | cons n ns =>
      cases e2
      refine cr_max hc pins s σ H _ us Q I r ⟨p, n :: ns, rfl, SqL.of g1, Nat.succ_pos _, fun m hm hle => ?_⟩
      have h1 := hle _ (foldl_max_mem n ns)
      have h2 := foldl_max_le n ns m hm
      rw [show m = ns.foldl max n by omega]
      exact g.int
  · obtain ⟨ns, e1, e2⟩ := Option.bind_eq_some_iff.mp e
    obtain ⟨v, rfl, h1⟩ := vvs1 hv
    obtain ⟨p, vs, rfl, _, g1, r1⟩ := vv_tup h1
    have z := ints_vals r1 e1
    subst z
    cases ns with
    | nil => cases e2
    | cons n ns =>
      cases e2
      exact cr_maxTE hc hu pins s σ H _ us Q I r ⟨p, n, ns, rfl, SqT.of g1, g.int⟩
  · cases e
end
end PM
/-! d[k] = v, list(d.values()), dict(d) -/
namespace PM
open PySem PySem.Spec PyProof.Rows L2
open WD (MS upd_none)
def dicAt (μ : Store) : Val → Option (Nat × Bool × List PV × List PV)
  | .c k => match μ[k]? with
    | some (some (.dic b ks vs)) => some (k, b, ks, vs)
    | _ => none
  | _ => none
def gDPut (w u z : Val) (μ : Store) : Option Store := match w, dicAt μ u, z with
  | .t d, some (k, b, ks, vs), .t y => if keyB b y && Nat.blt ks.length 16777216 then some (μ.set k (some (.dic b (dput ks vs y d).1 (dput ks vs y d).2))) else none
  | _, _, _ => none
def sDPut (fe fo fi : ME) : MSt := fun σ μ => (fe σ μ).st σ fun w μ1 => (fo σ μ1).st σ fun u μ2 => (fi σ μ2).st σ fun z μ3 => match gDPut w u z μ3 with
  | some μ4 => .nx σ μ4
  | none => .stuck
def gVals (w : Val) (μ : Store) : R (List PV) := match view μ w with
  | some (.dic false _ vs) => .ok vs μ
  | _ => .stuck
section
variable {X : Cx} {K : KT} {ξ : Xi} {W : WX} {N : MS} {ζ : List Addr} {μ : Store} {M : MS} {H : Hp} {σr : L2.St} {σ : Sl} {e o : Expr} {fa fo : ME} {st : Stmt} {p pos apos cpos : Pos}
theorem dicAt_ok {w : Val} {k : Nat} {b : Bool} {ks ds : List PV} {v : V} (wd : Wd K N ζ μ H) (r : RV K ξ ζ (MM N ζ μ) H v w) (e : dicAt μ w = some (k, b, ks, ds)) : ∃ a vs, w = .c k ∧ v = .ref a ∧ ζ[k]? = some a ∧ μ[k]? = some (some (.dic b ks ds)) ∧ DicR b H a ks vs ∧ rvs K (MM N ζ μ) H vs ds := by
  cases w with
  | c j =>
    obtain ⟨a, ha, rfl⟩ := r
    simp only [dicAt] at e
    split at e
    · rename_i b' ks' ds' hk
      cases e
      obtain ⟨vs, h1, h2⟩ := wd.cell k _ a hk ha
      exact ⟨a, vs, rfl, rfl, ha, hk, h1, h2⟩
    · cases e
  | _ => cases e
theorem sizeLine_ge : 16777216 ≤ sizeLine := by rw [sizeLine_eq]; decide
theorem read_dput {w1 w2 w3 : Val} {x y z : V} {μ' : Store} (wd : Wd K N ζ μ H) (r1 : RV K ξ ζ (MM N ζ μ) H x w1) (r2 : RV K ξ ζ (MM N ζ μ) H y w2) (r3 : RV K ξ ζ (MM N ζ μ) H z w3) (e : gDPut w1 w2 w3 μ = some μ') : ∃ a H', y = .ref a ∧ DPut H a z x H' ∧ Ev K.tb ζ μ H ζ μ' H' ∧ Wd K N ζ μ' H' := by
  unfold gDPut at e
  split at e
  · rename_i d k b ks ds yk e1
    split at e
    · rename_i hc
      cases e
      rw [Bool.and_eq_true] at hc
      obtain ⟨a, vs, ew, rfl, ha, hk, h1, h2⟩ := dicAt_ok wd r2 e1
      have hz : ks.length < sizeLine := Nat.lt_of_lt_of_le (Nat.le_of_ble_eq_true hc.2) sizeLine_ge
      obtain ⟨H', o', vs', q1, rfl, q2, q3⟩ := dput_rel h1 h2 (vv_of r3) hc.1 r1 hz
      exact ⟨a, _, rfl, q1, ev_set hk ha (by obtain ⟨o, e, n, _⟩ := q2.ob; rw [upd_same] at e; cases e; exact n), wd.setC hk ha ⟨vs', q2, rvs_mutN (.inl ⟨k, _, ha, hk⟩) q3⟩⟩
    · cases e
  · cases e
theorem s_dput {fe fi : ME} (h : PS X st (L2.sDPut (tE K ξ W fo) (tE K ξ W fi) (tE K ξ W fe))) : IS K ξ W X st (sDPut fe fo fi) := PS.of h fun D σr H q => by
  obtain ⟨N, ζ, μ, σ, wd, so, q⟩ := q
  refine (stE wd so q).mono fun x H1 ⟨ζ1, μ1, w1, ev1, wd1, so1, r1, q1⟩ => ?_
  refine (stE wd1 so1 q1).mono fun y H2 ⟨ζ2, μ2, w2, ev2, wd2, so2, r2, q2⟩ => ?_
  refine (stE wd2 so2 q2).mono fun z H3 ⟨ζ3, μ3, w3, ev3, wd3, so3, r3, q3⟩ => ?_
  cases e : gDPut w1 w2 w3 μ3 with
  | none => rw [e] at q3; exact q3.elim
  | some μ4 =>
    rw [e] at q3
    obtain ⟨a, H', rfl, h1, ev, wd'⟩ := read_dput wd3 ((r1.ev ev2).ev ev3) (r2.ev ev3) r3 e
    exact ⟨a, H', rfl, h1, q3 ζ3 H' σr ev wd' (so3.ev ev)⟩
/-- list(e.values()) -/
theorem f_listVals (hc : X.calm = true) (hg : Gl X "list") (hm : X.mg "list" = none) (he : IE K ξ W X e fa) (hbase : attributeBase e "values" X.env (eval e X.env) = eval e X.env := by rfl) (hline : (apos.endLine == cpos.line) = true := by rfl)
    (hs : starEach [.Call (.Attribute e "values" apos) [] [] cpos] X.env = (false, eval (.Call (.Attribute e "values" apos) [] [] cpos) X.env) :: starEach [] X.env := by rfl) :
    IF K ξ W X (.Call (.Name "list" p) [.Call (.Attribute e "values" apos) [] [] cpos] [] pos) (e1 gVals fa) := PE.of (WD.pe_listVals hc hg hm he hbase hline hs) fun σr H Q q => by
  obtain ⟨N, ζ, μ, σ, wd, so, q⟩ := q
  refine (then1F wd so q).mono fun x H1 ⟨ζ1, μ1, w1, ev1, wd1, so1, r1, q1⟩ => ?_
  unfold gVals at q1
  split at q1
  · rename_i ks ds e1
    obtain ⟨a, vs, rfl, ⟨kl, h1, h2, h3, h4⟩, r2⟩ := r1.view wd1 e1
    refine ⟨a, _, rfl, h4, fun q hq => ?_⟩
    rw [List.map_snd_zip (by omega)]
    exact (postF_p wd1 q1).lst r2 hq
  · exact q1.elim
end
end PM
/-! instances of own classes: made, asked -/
namespace PM
open PySem PySem.Spec PyProof.Rows L2
open WD (MS upd_none)
/-- __init__: a block, then the fields -/
abbrev MI := Sl → Store → R (List Val)
def iNil : MI := fun _ μ => .ok [] μ
def isSelf : Option (Option Val) → Bool
  | some (some .self) => true
  | _ => false
def iFld (i : Nat) (f : ME) (r : MI) : MI := fun σ μ => if isSelf σ[i]? then (f σ μ).noex.bind fun w μ1 => (r σ μ1).noex.bind fun ws μ2 => .ok (w :: ws) μ2 else .stuck
def iPre (A : MSt) (r : MI) : MI := fun σ μ => match A σ μ with
  | .nx σ1 μ1 => r σ1 μ1
  | .ex c f _ μ1 => .ex c f μ1
  | _ => .stuck
abbrev FnI := List Val → Store → R (List Val)
def isT : Val → Bool
  | .t _ => true
  | _ => false
def finI (n : Nat) : R (List Val) → R (List Val)
  | .ok ws μ => if ws.all isT then .ok ws (μ.take n) else if ws.all Val.plain then .ok ws μ else .stuck
  | .ex c f μ => .ex c f (μ.take n)
  | .stuck => .stuck
def iniOf (n : Nat) (F : MI) : FnI := fun ws μ => finI μ.length (F (startM n (.self :: ws)) μ)
def flsOf : List Val → Option (List Fl)
  | [] => some []
  | .t d :: ws => (flsOf ws).map (.t d :: ·)
  | .c k :: ws => (flsOf ws).map (.c k :: ·)
  | _ :: _ => none
def mkOb (C : Str) (ns : List Str) (ws : List Val) (μ : Store) : R Val := if ws.length = ns.length then match asT ws with
    | some ds => .ok (.t (.obj C ns ds)) μ
    | none => match flsOf ws with
      | some fs => .ok (.g (.ob C ns) fs) μ
      | none => .stuck
  else .stuck
def eMake (C : Str) (ns : List Str) (n : Nat) (fn : FnI) (as : Sl → Store → R (List Val)) : ME := fun σ μ => (as σ μ).bind fun ws μ1 => if ws.all Val.plain && decide (ws.length = n) then (fn ws μ1).bind (mkOb C ns) else .stuck
section
variable {X : Cx} {K : KT} {ξ : Xi} {W : WX} {N : MS} {ζ : List Addr} {μ : Store} {M : MS} {H : Hp} {σr : L2.St} {σ : Sl} {e o : Expr} {es : List Expr} {fa fo : ME} {st : Stmt} {ss : List Stmt} {p pos apos cpos : Pos} {C : Str} {ns ns0 : List Str} {a dx : Addr} {F : MI}
def PostIn (K : KT) (ξ : Xi) (W : WX) (N : MS) (ζ : List Addr) (μ : Store) (H : Hp) (C : Str) (a dx : Addr) (ns0 ns : List Str) (vs0 : List V) (D : Ends) : R (List Val) → Prop
  | .ok ws μ' => ∀ ζ' H1 σr' vs, Ev K.tb ζ μ H ζ' μ' H1 → Wd K N ζ' μ' H1 → RVs K ξ ζ' (MM N ζ' μ') H1 vs ws → vs.length = ns.length → D.nx σr' (upd H1 a (.ins (He.ga K C) dx ((ns0 ++ ns).zip (vs0 ++ vs))))
  | .ex c f μ' => ∀ ζ' H' d σr', Ev K.tb ζ μ H ζ' μ' H' → Wd K N ζ' μ' H' → XR K (MM N ζ' μ') H' d f → W (.ref (He.ga K c)) d σr' H'
  | .stuck => False
def tIn (K : KT) (ξ : Xi) (W : WX) (C : Str) (ns0 ns : List Str) (F : MI) : TS := fun D σr H => ∃ N ζ μ σ a cv d dx vs0, ξ = some (a, cv, d) ∧ N a ∧ H a = some (.ins (He.ga K C) dx (ns0.zip vs0)) ∧ vs0.length = ns0.length ∧ Wd K N ζ μ H ∧ Sok K ξ ζ (MM N ζ μ) H σr σ ∧ PostIn K ξ W N ζ μ H C a dx ns0 ns vs0 D (F σ μ)
abbrev IN (K : KT) (ξ : Xi) (W : WX) (X : Cx) (C : Str) (ns0 ns : List Str) (ss : List Stmt) (F : MI) : Prop := PSs X ss (tIn K ξ W C ns0 ns F)
theorem PostIn.ev {ζ1 : List Addr} {μ1 : Store} {H1 : Hp} {vs0 : List V} {D : Ends} (e : Ev K.tb ζ μ H ζ1 μ1 H1) : ∀ {r : R (List Val)}, PostIn K ξ W N ζ μ H C a dx ns0 ns vs0 D r → PostIn K ξ W N ζ1 μ1 H1 C a dx ns0 ns vs0 D r
  | .ok _ _, h => fun ζ' H' s v a b c => h ζ' H' s v (e.trans a) b c
  | .ex _ _ _, h => fun ζ' H' d s a b c => h ζ' H' d s (e.trans a) b c
  | .stuck, h => h
theorem in_nil : IN K ξ W X C ns0 [] [] iNil := PSs.of pss_nil fun D σr H q => by
  obtain ⟨N, ζ, μ, σ, a, cv, d, dx, vs0, e1, na, ha, hl, wd, so, q⟩ := q
  have h := q ζ H σr [] Ev.refl wd trivial rfl
  rw [List.append_nil, List.append_nil] at h
  have e2 : upd H a (.ins (He.ga K C) dx (ns0.zip vs0)) = H := by
    funext b
    by_cases hb : b = a
    · rw [hb, upd_same, ha]
    · rw [upd_ne hb]
  rw [e2] at h
  exact h
theorem in_pre {A : MSt} (ha : IS K ξ W X st A) (hb : IN K ξ W X C ns0 ns ss F) : IN K ξ W X C ns0 ns (st :: ss) (iPre A F) := PSs.of (pss_cons ha hb) fun D σr H q => by
  obtain ⟨N, ζ, μ, σ, a, cv, d, dx, vs0, e1, na, ha, hl, wd, so, q⟩ := q
  refine ⟨N, ζ, μ, σ, wd, so, ?_⟩
  unfold iPre at q
  cases e : A σ μ with
  | nx σ1 μ1 =>
    rw [e] at q
    intro ζ' H' σr' ev wd' so'
    exact ⟨N, ζ', μ1, σ1, a, cv, d, dx, vs0, e1, na, ev.fr.keep a _ rfl (fun z => (wd.nd a na).1 z) ha, hl, wd', so', PostIn.ev ev q⟩
  | ex c f σ1 μ1 => rw [e] at q; exact fun ζ' H' d' σr' ev wd' xr so' => q ζ' H' d' σr' ev wd' xr
  | _ => rw [e] at q; exact q.elim
theorem putF_zip {f : Str} {v : V} : ∀ {ns : List Str} {vs : List V}, vs.length = ns.length → f ∉ ns → putF f v (ns.zip vs) = (ns ++ [f]).zip (vs ++ [v])
  | [], [], _, _ => rfl
  | n :: ns, u :: vs, hl, hn => by
    have h1 : ¬ n = f := fun e => hn (by rw [e]; exact List.mem_cons_self)
    show (if n = f then (n, v) :: ns.zip vs else (n, u) :: putF f v (ns.zip vs)) = (n, u) :: (ns ++ [f]).zip (vs ++ [v])
    rw [if_neg h1, putF_zip (Nat.succ.inj hl) fun m => hn (List.mem_cons_of_mem _ m)]
  | [], _ :: _, hl, _ => by cases hl
  | _ :: _, [], hl, _ => by cases hl
/-- self.f = e -/
theorem in_fld {f x : Str} {i : Nat} (h : ∀ {ta tv : TE}, PE X (.Name x p) ta → PE X e tv → PS X st (L2.sFld K ta tv f)) (ho : PE X (.Name x p) (tVar i)) (he : IE K ξ W X e fa) (hb : IN K ξ W X C (ns0 ++ [f]) ns ss F)
    (hc : Cls K (He.ga K C)) (hn : NoAttr K (He.ga K C) f) (hf : f ∉ ns0) (hz : ns0.length < 1000) : IN K ξ W X C ns0 (f :: ns) (st :: ss) (iFld i fa F) := PSs.of (pss_cons (h ho he) hb) fun D σr H q => by
  obtain ⟨N, ζ, μ, σ, a, cv, d, dx, vs0, e1, na, ha, hl, wd, so, q⟩ := q
  refine ⟨N, ζ, μ, σ, wd, so, ?_⟩
  unfold iFld at q
  split at q
  case isFalse => exact q.elim
  rename_i hself
  have hself : σ[i]? = some (some .self) := by
    unfold isSelf at hself
    split at hself
    · assumption
    · cases hself
  cases ea : fa σ μ with
  | stuck => rw [ea] at q; exact q.elim
  | ex c f μ1 => rw [ea] at q; exact q.elim
  | ok w μ1 =>
    rw [ea] at q
    have q0 : PostIn K ξ W N ζ μ H C a dx ns0 (f :: ns) vs0 D ((F σ μ1).noex.bind fun ws μ2 => .ok (w :: ws) μ2) := q
    intro ζ1 H1 v ev1 wd1 r1
    have ha1 : H1 a = some (.ins (He.ga K C) dx (ns0.zip vs0)) := ev1.fr.keep a _ rfl (fun z => (wd.nd a na).1 z) ha
    obtain ⟨x, hx, hx2⟩ := so.2 i _ hself
    obtain ⟨a', cv', d', e2, rfl⟩ := hx2
    rw [e1] at e2
    cases e2
    refine ⟨.ref a, hx, ?_⟩
    refine ⟨a, _, dx, _, rfl, ha1, hc, hn, by rw [List.length_zip, hl, Nat.min_self]; exact hz, ?_⟩
    rw [putF_zip hl hf]
    have wd3 : Wd K N ζ1 μ1 (upd H1 a (.ins (He.ga K C) dx ((ns0 ++ [f]).zip (vs0 ++ [v])))) := wd1.mutN na ha1
    have mv : ∀ {ζ' : List Addr} {μ' : Store} {H' : Hp} {o' : HO} {u : V} {w : Val}, RV K ξ ζ' (MM N ζ' μ') H' u w → RV K ξ ζ' (MM N ζ' μ') (upd H' a o') u w := fun r => r.st (fun _ _ h => h) (fun _ n _ => n) (fun b o _ n e => by rw [upd_ne fun z => n (by rw [z]; exact .inr na)]; exact e)
    have mvs : ∀ {ζ' : List Addr} {μ' : Store} {H' : Hp} {o' : HO} {us : List V} {ws : List Val}, RVs K ξ ζ' (MM N ζ' μ') H' us ws → RVs K ξ ζ' (MM N ζ' μ') (upd H' a o') us ws := by
      intro ζ' μ' H' o' us
      induction us with
      | nil => intro ws r; cases ws with
        | nil => trivial
        | cons _ _ => exact r.elim
      | cons u us ih => intro ws r; cases ws with
        | nil => exact r.elim
        | cons w ws => exact ⟨mv r.1, ih r.2⟩
    have so3 : Sok K ξ ζ1 (MM N ζ1 μ1) (upd H1 a (.ins (He.ga K C) dx ((ns0 ++ [f]).zip (vs0 ++ [v])))) σr σ := ⟨so.1, fun i w hw => by
      obtain ⟨u, h1, h2⟩ := (so.ev ev1).2 i w hw
      exact ⟨u, h1, mv h2⟩⟩
    refine ⟨N, ζ1, μ1, σ, a, cv, d, dx, vs0 ++ [v], e1, na, upd_same, by simp [hl], wd3, so3, ?_⟩
    cases eF : F σ μ1 with
    | stuck => rw [eF] at q0; exact q0.elim
    | ex c f μ2 => rw [eF] at q0; exact q0.elim
    | ok ws μ2 =>
      rw [eF] at q0
      intro ζ3 H3 σr' vs ev3 wd4 r4 hlen
      have q1 : PostIn K ξ W N ζ μ H C a dx ns0 (f :: ns) vs0 D (.ok (w :: ws) μ2) := q0
      have ev4 : Ev K.tb ζ1 μ1 H1 ζ3 μ2 (upd H3 a (.ins (He.ga K C) dx (ns0.zip vs0))) := by
        refine ⟨ev3.pre, ⟨fun b o t n hb => ?_, fun b hb => ?_⟩, fun b hb => ?_⟩
        · by_cases e : b = a
          · rw [e, upd_same, ← ha1, ← e]; exact hb
          · rw [upd_ne e]
            exact ev3.fr.keep b o t n (by rw [upd_ne e]; exact hb)
        · by_cases e : b = a
          · rw [e, upd_same] at hb; exact (hb _ rfl rfl).elim
          · rw [upd_ne e] at hb
            have := ev3.fr.dom b hb
            rw [upd_ne e] at this
            exact this
        · rcases ev3.ml b hb with z | z
          · exact .inl z
          · by_cases e : b = a
            · rw [e, upd_same] at z; exact (z _ rfl rfl).elim
            · rw [upd_ne e] at z; exact .inr z
      have hv : RV K ξ ζ3 (MM N ζ3 μ2) (upd H3 a (.ins (He.ga K C) dx (ns0.zip vs0))) v w := r1.ev ev4
      have h := q1 ζ3 (upd H3 a (.ins (He.ga K C) dx (ns0.zip vs0))) σr' (v :: vs) (ev1.trans ev4) (wd4.mutN na (ev3.fr.keep a _ rfl (fun z => (wd3.nd a na).1 z) upd_same)) ⟨hv, mvs r4⟩ (congrArg Nat.succ hlen)
      have e5 : upd (upd H3 a (.ins (He.ga K C) dx (ns0.zip vs0))) a (.ins (He.ga K C) dx ((ns0 ++ f :: ns).zip (vs0 ++ v :: vs))) = upd H3 a (.ins (He.ga K C) dx ((ns0 ++ [f] ++ ns).zip (vs0 ++ [v] ++ vs))) := by
        funext b
        by_cases hb : b = a
        · rw [hb, upd_same, upd_same, List.append_assoc, List.append_assoc]; rfl
        · rw [upd_ne hb, upd_ne hb, upd_ne hb]
      rw [e5] at h
      exact h
end
end PM
namespace PM
open PySem PySem.Spec PyProof.Rows L2
open WD (MS upd_none)
/-- ghost: the name's thing becomes a datum -/
theorem in_frz {X : Cx} {K : KT} {ξ : Xi} {W : WX} {C : Str} {ns ns0 : List Str} {i : Nat} {ss : List Stmt} {F : MI} (hb : IN K ξ W X C ns0 ns ss F) : IN K ξ W X C ns0 ns ss (iPre (sFrz i) F) := PSs.of hb fun D σr H q => by
  obtain ⟨N, ζ, μ, σ, a, cv, d, dx, vs0, e1, na, ha, hl, wd, so, q⟩ := q
  unfold iPre sFrz at q
  split at q
  · rename_i σ1 μ1 e
    split at e
    · rename_i w hw
      split at e
      · rename_i w' μ' e2
        cases e
        obtain ⟨v, h1, h2⟩ := so.2 i w hw
        obtain ⟨ev, wd', r'⟩ := frz1_ok wd h2 e2
        exact ⟨N, ζ, _, σ.set i (some w'), a, cv, d, dx, vs0, e1, na, ha, hl, wd', (so.ev ev).same h1 r', PostIn.ev ev q⟩
      · cases e
    · cases e
      exact ⟨N, ζ, μ, σ, a, cv, d, dx, vs0, e1, na, ha, hl, wd, so, q⟩
  · rename_i c f σ1 μ1 e
    split at e
    · split at e <;> cases e
    · cases e
  · exact q.elim
end PM
namespace PM
open PySem PySem.Spec PyProof.Rows L2
open WD (MS upd_none)
def PostCI (K : KT) (N : MS) (ζ : List Addr) (μ : Store) (H : Hp) (C : Str) (a dx : Addr) (ns : List Str) (Q : VK) (E : XK) : R (List Val) → Prop
  | .ok ws μ' => ∀ ζ' H1 vs, Ev K.tb ζ μ H ζ' μ' H1 → Wd K N ζ' μ' H1 → RVs K none ζ' (MM N ζ' μ') H1 vs ws → vs.length = ns.length → Q .non (upd H1 a (.ins (He.ga K C) dx (ns.zip vs)))
  | .ex c f μ' => ∀ ζ' H' d, Ev K.tb ζ μ H ζ' μ' H' → Wd K N ζ' μ' H' → XR K (MM N ζ' μ') H' d f → E (.ref (He.ga K c)) d H'
  | .stuck => False
def SpI (K : KT) (C : Str) (ns : List Str) (n : Nat) (fn : FnI) : Sp := fun vs H Q E => ∃ N ζ μ ws a dx rest, vs = .ref a :: rest ∧ N a ∧ H a = some (.ins (He.ga K C) dx []) ∧ Wd K N ζ μ H ∧ RVs K none ζ (MM N ζ μ) H rest ws ∧ ws.length = n ∧ PostCI K N ζ μ H C a dx ns Q E (fn ws μ)
section
variable {K : KT} {ξ : Xi} {N : MS} {ζ : List Addr} {μ : Store} {M : MS} {H : Hp}
theorem RVs.none_to : ∀ {vs : List V} {ws : List Val}, RVs K none ζ M H vs ws → RVs K ξ ζ M H vs ws
  | [], [], _ => trivial
  | _ :: _, _ :: _, h => ⟨h.1.none_to, RVs.none_to h.2⟩
  | [], _ :: _, h => h.elim
  | _ :: _, [], h => h.elim
theorem RVs.cutT {ζ' : List Addr} {M' : MS} (sub : ∀ x, M' x → M x) : ∀ {vs : List V} {ws : List Val}, ws.all isT = true → RVs K ξ ζ M H vs ws → RVs K none ζ' M' H vs ws
  | [], [], _, _ => trivial
  | v :: vs, w :: ws, hb, h => by
    rw [List.all_cons, Bool.and_eq_true] at hb
    refine ⟨?_, RVs.cutT sub hb.2 h.2⟩
    cases w with
    | t d => exact rv_wk sub h.1
    | _ => cases hb.1
  | [], _ :: _, _, h => h.elim
  | _ :: _, [], _, h => h.elim
end
section
variable {P : Program} {w : World} {K : KT} {mg : Str → Option Value} {base : Heap} {x qual : Str} {params : Arguments} {body : List Stmt} {scope : Scope} {f : Addr} {fd : FuncData} {Nm ps : List Str} {k n : Nat} {F : MI} {C : Str} {ns : List Str}
theorem ini_read {N : MS} {ζ : List Addr} {μ : Store} {H : Hp} {a dx : Addr} {vs : List V} {ws : List Val} {Q : VK} {E : XK} (na : N a) (ha : H a = some (.ins (He.ga K C) dx [])) (wd : Wd K N ζ μ H) (r : RVs K none ζ (MM N ζ μ) H vs ws) (h : PostCI K N ζ μ H C a dx ns Q E (iniOf Nm.length F ws μ)) :
    tIn K (some (a, .none, none)) (fun cls d _ H => E cls d H) C [] ns F { nx := fun _ H' => Q .non H', rt := Q } (L2.start Nm (.ref a :: vs)) H := by
  have r' : RVs K (some (a, .none, none)) ζ (MM N ζ μ) H (.ref a :: vs) (.self :: ws) := ⟨⟨a, .none, none, rfl, rfl⟩, r.none_to⟩
  refine ⟨N, ζ, μ, startM Nm.length (.self :: ws), a, .none, none, dx, [], rfl, na, ha, rfl, wd, start_ok r', ?_⟩
  unfold iniOf at h
  cases e : F (startM Nm.length (.self :: ws)) μ with
  | ok us μ' =>
    rw [e] at h
    intro ζ' H1 σr' vs' ev wd' r2 hl
    obtain ⟨ev', wd2, sub⟩ := cut_ok ev wd' wd.len
    unfold finI at h
    dsimp only at h
    split at h
    · rename_i hT
      exact h _ _ vs' ev' wd2 (RVs.cutT sub hT r2) hl
    · split at h
      · rename_i hp
        exact h _ _ vs' ev wd' (r2.to_none hp) hl
      · exact h.elim
  | ex c f μ' =>
    rw [e] at h
    intro ζ' H' d σr' ev wd' xr
    obtain ⟨ev', wd2, sub⟩ := cut_ok ev wd' wd.len
    exact h _ _ d ev' wd2 (xr.st (fun a n _ z => n (sub a z)) (fun _ _ _ _ e => e))
  | stuck => rw [e] at h; exact h.elim
theorem ini_ok (F0 : FunD K x qual params body scope [] [] f fd) (S : FnScope Nm ps scope) (hps : ps.length = n + 1)
    (bind : ∀ (kV doc pm : Value) (an : Option Addr) (cdv ct : Value) (us : List Value), us.length = ps.length → bindArgs (PySem.W.fnOf x qual params body scope .none kV doc pm an cdv ct) ⟨us, []⟩ = pure (ps.zip us))
    (hb : ∀ (cdv : Value) (A : Around) (outer : List Env) (s : Shared) (H : Hp) (E : XK) (a : Addr), Room k (A.deeper (envOfC qual scope s.heap.objs.size f cdv)) → IN K (some (a, .none, none)) (fun cls d _ H => E cls d H) (cxOf (L2.CX P w) P w K mg base Nm qual scope f cdv A outer s H E) C [] ns body F) :
    ∃ (fd : FuncData) (ps' : List Str) (ds : List Value), FnOk P w K mg base (L2.CX P w) (k + 1) f fd ps' (SpI K C ns n (iniOf Nm.length F)) ∧ Binds K fd ps' ds ∧ Vals [] ds :=
  WD.fnX_of F0 S (fun vs H Q E ⟨N, ζ, μ, ws, a, dx, rest, e, _, _, _, r, hl, _⟩ => by rw [e, hps]; exact congrArg Nat.succ (r.len.trans hl)) bind fun cdv A outer s H vs Q E hr ⟨N, ζ, μ, ws, a, dx, rest, e, na, ha, wd, r, hl, h⟩ => by
    subst e
    exact ⟨_, hb cdv A outer s H E a hr, ini_read na ha wd r h⟩
end
/-! ### C(..) that may raise -/
section
variable {X : Cx} {CX : CXT} {k : Nat} {f C : Addr} {fd : FuncData} {ps : List Str} {sp : Sp} {E : L2.St → XK} {x m : Str} {p pos apos : Pos} {e o : Expr} {es : List Expr} {ta : TE} {t : TA} {W : WX} {ds : List Value} {dvs : List V}
theorem run_makeS {pins : List (Addr × Obj)} {σ : L2.St} {H : Hp} {s : Shared} {Q : VK} {us : List Value} {vs : List V} (M : Mk X.K C f) (F : FnOk X.prog X.w X.K X.mg X.base CX k f fd ps sp) (hr : Room (k + 1) X.A) (hb : Binds X.K fd ps ds) (hd : Vals dvs ds)
    (hx : PassesAt CX X σ (E σ)) (I : Inv X pins σ H s) (r : Vals vs us)
    (h : ∀ x dx, H x = none → H dx = none → dx ≠ x → sp (.ref x :: (vs ++ dvs)) (upd (upd H dx (.own x)) x (.ins C dx [])) (fun v H2 => v = .non ∧ Q (.ref x) H2) (E σ)) :
    wpAny (model X.prog X.w) X.A (call (.ref C) us) (EP X pins σ Q) X.xe s := by
  have hq := h (s.heap.objs.size + 1) s.heap.objs.size (I.hok.fresh (Nat.le_succ _)) (I.hok.fresh (Nat.le_refl _)) (Nat.ne_of_lt (Nat.lt_succ_self _))
  have I2 := Inv.made (C := C) I
  have r2 : Vals (V.ref (s.heap.objs.size + 1) :: (vs ++ dvs)) (Value.ref (s.heap.objs.size + 1) :: (us ++ ds)) := .cons rfl (r.append hd)
  have hl : (Value.ref (s.heap.objs.size + 1) :: us ++ ds).length = ps.length := by
    have e := r2.length
    rw [F.len _ _ _ _ hq] at e
    exact e.symm
  refine wpAny_call (make_map (f := f) I.kIn M.makes M.init (beq_iff_eq.mp M.fn) (codeAny_mono (F.run _ X.stack _ _ ⟨Value.ref (s.heap.objs.size + 1) :: us, []⟩ (Value.ref (s.heap.objs.size + 1) :: (us ++ ds)) _ _ (E σ) (hr.make C us [])
    (I2.env0.make C us []) (hb _ (Value.ref (s.heap.objs.size + 1) :: us) I2.kIn hl) r2 hq) fun r s' hq' => ?_))
  cases r with
  | error e => exact hx pins _ _ e s' I2 hq'
  | ok fl =>
    cases fl with
    | ret u =>
      obtain ⟨v, H', I3, rv, ev, q3⟩ := I2.after hq'
      subst ev
      exact ⟨rv, ⟨V.ref (s.heap.objs.size + 1), H', I3, rfl, q3⟩⟩
    | next => exact False.elim hq'
    | brk => exact False.elim hq'
    | cont => exact False.elim hq'
def tMakeS (C : Addr) (sp : Sp) (E : L2.St → XK) (t : TA) : TE := fun σ H Q => t σ H fun vs H1 => ∀ x dx, H1 x = none → H1 dx = none → dx ≠ x →
  sp (.ref x :: (vs ++ [])) (upd (upd H1 dx (.own x)) x (.ins C dx [])) (fun v H2 => v = .non ∧ Q (.ref x) H2) (E σ)
theorem pe_makX (c : WD.Mak X.prog X.w X.K X.mg X.base (L2.CX X.prog X.w) k x C f sp []) (tk : Takes X W) (hr : Room (k + 1) X.A) (hg : Gl X x) (ha : PA X (e :: es) t) (hdb : (x == ("__debug__" : Str)) = false := by decide)
    (he : starEach (e :: es) X.env = (false, eval e X.env) :: starEach es X.env := by rfl) (hpl : (backTo pos (starEach es X.env)).any (·.1) = false := by rfl) : PE X (.Call (.Name x p) (e :: es) [] pos) (tMakeS C sp (WE W) t) := by
  obtain ⟨fd, ps, ds, h1, h2, h3⟩ := c.ex
  refine ⟨fun pins s σ H Q I h => ?_⟩
  refine wpAny_Call_Name_kw (ld_glob I hg c.g ?_ hdb)
  refine PySem.W.callWith_K (h₀ := X.base) I.ok.mod.kin c.made.kp (thn (ha.run pos pins s σ H _ I h) fun us s1 ⟨vs, H1, I1, r, q⟩ => ⟨I1.kIn, ?_⟩) he hpl
  exact run_makeS (E := WE W) c.made h1 hr h2 h3 (passAt tk σ) I1 r q
theorem pe_metX0 {pl : Sem Bool} (c : WD.Met X.prog X.w X.K X.mg X.base (L2.CX X.prog X.w) k C m f sp []) (tk : Takes X W) (hr : Room k X.A) (he : PE X o ta)
    (ht : eval (.Call (.Attribute o m apos) [] [] pos) X.env = (do
      let ov ← eval o X.env
      standAt apos.atName
      let (f, first) ← holding [ov] (getMethod ov m pl)
      callWith pos f first (backTo pos (starEach [] X.env)) (backToKw pos (keywordEach [] X.env))) := by rfl) : PE X (.Call (.Attribute o m apos) [] [] pos) (WD.tMethS C m sp (WE W) ta tNil) := by
  obtain ⟨fd, ps, ds, h1, h2, h3⟩ := c.ex
  have hb := WD.binds0 h2 h3
  refine ⟨fun pins s σ H Q I h => ?_⟩
  refine PySem.W.methodCall_KW (pl := pl) (thn (he.run pins s σ H _ I h) fun u s1 hh => ?_) ht
  obtain ⟨x, H1, I1, rx, a, dx, fs, ex, ea, l, q⟩ := hh
  subst ex
  cases (show u = Value.ref a from rx)
  refine getmeth_ok I1 ea c.cl c.mt l (PySem.W.callWith_K0 (first := [.ref a]) I1.kIn c.mt.kp (run_fnS (us := [.ref a]) (vs := [.ref a]) (E := WE W) h1 hr hb (passAt tk σ) I1 (.cons rfl .nil) q))
end
/-! ### in the machine -/
def isObj (C m : Str) : Val → Bool
  | .t (.obj D ns _) => decide (D = C) && !decide (m ∈ ns)
  | .g (.ob D ns) _ => decide (D = C) && !decide (m ∈ ns)
  | _ => false
def eMeth (C m : Str) (n : Nat) (fn : Fn) (o : ME) (as : Sl → Store → R (List Val)) : ME := fun σ μ => (o σ μ).bind fun w μ1 => if isObj C m w then (as σ μ1).bind fun ws μ2 => gCall n fn (w :: ws) μ2 else .stuck
def gFld (cs : List Str) (f : Str) (w : Val) (μ : Store) : R Val := match w with
  | .t (.obj C ns ds) => if C ∈ cs then OR.ok μ (((ns.zip ds).lookup f).map .t) else .stuck
  | .g (.ob C ns) fs => if C ∈ cs then OR.ok μ (((ns.zip fs).lookup f).map Fl.v) else .stuck
  | _ => .stuck
section
variable {X : Cx} {K : KT} {ξ : Xi} {W : WX} {N : MS} {ζ : List Addr} {μ : Store} {M : MS} {H : Hp} {σr : L2.St} {σ : Sl} {e o : Expr} {es : List Expr} {fa fo : ME} {fs : Sl → Store → R (List Val)} {p pos apos cpos : Pos} {C m x : Str} {ns : List Str} {a dx f : Addr} {k n : Nat}
theorem flsOf_FRs : ∀ {vs : List V} {ws : List Val} {fs : List Fl}, RVs K ξ ζ M H vs ws → flsOf ws = some fs → FRs K ζ M H vs fs
  | [], [], _, _, e => by cases e; trivial
  | v :: vs, .t d :: ws, _, h, e => by
    obtain ⟨fs', e1, rfl⟩ := Option.map_eq_some_iff.mp e
    exact ⟨h.1, flsOf_FRs h.2 e1⟩
  | v :: vs, .c d :: ws, _, h, e => by
    obtain ⟨fs', e1, rfl⟩ := Option.map_eq_some_iff.mp e
    exact ⟨h.1, flsOf_FRs h.2 e1⟩
  | _ :: _, .x _ _ :: _, _, _, e => by cases e
  | _ :: _, .s _ :: _, _, _, e => by cases e
  | _ :: _, .g _ _ :: _, _, _, e => by cases e
  | _ :: _, .self :: _, _, _, e => by cases e
  | [], _ :: _, _, h, _ => h.elim
  | _ :: _, [], _, h, _ => h.elim
/-- C(e, ..) -/
theorem i_make {fn : FnI} (c : WD.Mak X.prog X.w X.K X.mg X.base (L2.CX X.prog X.w) k C (He.ga K C) f (SpI K C ns n fn) []) (tk : Takes X W) (hr : Room (k + 1) X.A) (hg : Gl X C) (ha : IA K ξ W X (e :: es) fs) (hdb : (C == ("__debug__" : Str)) = false := by decide)
    (he : starEach (e :: es) X.env = (false, eval e X.env) :: starEach es X.env := by rfl) (hpl : (backTo pos (starEach es X.env)).any (·.1) = false := by rfl) : IE K ξ W X (.Call (.Name C p) (e :: es) [] pos) (eMake C ns n fn fs) := PE.of (pe_makX c tk hr hg ha hdb he hpl) fun σr H Q q => by
  obtain ⟨N, ζ, μ, σ, wd, so, q⟩ := q
  refine (thenN wd so q).mono fun vs H1 ⟨ζ1, μ1, ws, ev1, wd1, so1, r1, q1⟩ => ?_
  intro x dx hx hdx hne
  split at q1
  case isFalse => exact q1.elim
  rename_i hc
  rw [Bool.and_eq_true] at hc
  rw [List.append_nil]
  have hx1 : upd H1 dx (.own x) x = none := by rw [upd_ne (fun z => hne z.symm)]; exact hx
  have g1 : Grow H1 (upd H1 dx (.own x)) := Grow.upd hdx
  have g2 : Grow H1 (upd (upd H1 dx (.own x)) x (.ins (He.ga K C) dx [])) := g1.trans (Grow.upd hx1)
  have wd2 : Wd K (WD.plus N x) ζ1 μ1 (upd (upd H1 dx (.own x)) x (.ins (He.ga K C) dx [])) := wd1.aside g2 hx ⟨_, upd_same, rfl, rfl⟩
  have nx : ∀ b, ¬ MM N ζ1 μ1 b → ¬ nn K.tb (H1 b) → ¬ MM (WD.plus N x) ζ1 μ1 b := fun b nb ne z => by
    rcases z with z | z | z
    · exact nb (.inl z)
    · exact nb (.inr z)
    · exact ne (nn_none (by rw [z]; exact hx))
  have up : ∀ {us : List V} {zs : List Val}, RVs K ξ ζ1 (MM N ζ1 μ1) H1 us zs → RVs K ξ ζ1 (MM (WD.plus N x) ζ1 μ1) (upd (upd H1 dx (.own x)) x (.ins (He.ga K C) dx [])) us zs := by
    intro us
    induction us with
    | nil => intro zs r; cases zs with
      | nil => trivial
      | cons _ _ => exact r.elim
    | cons u us ih => intro zs r; cases zs with
      | nil => exact r.elim
      | cons z zs => exact ⟨r.1.st (fun _ _ h => h) nx (fun b o _ _ h => g2 b o h), ih r.2⟩
  refine ⟨WD.plus N x, ζ1, μ1, ws, x, dx, vs, rfl, .inr rfl, upd_same, wd2, (up r1).to_none hc.1, of_decide_eq_true hc.2, ?_⟩
  have nN : ¬ N x := fun z => (wd1.nd x z).2.ne hx
  have e0 : (upd (upd H1 dx (.own x)) x (.ins (He.ga K C) dx [])) dx = some (.own x) := by rw [upd_ne hne, upd_same]
  cases er : fn ws μ1 with
  | stuck => rw [er] at q1; exact q1.elim
  | ex c f μ2 =>
    rw [er] at q1
    intro ζ' H' d ev wd' xr
    have ev' : Ev K.tb ζ1 μ1 H1 ζ' μ2 H' := g2.ev.trans ev
    exact q1 ζ' H' d ev' wd'.unside (xr.st (fun b nb _ z => nb (z.elim .inl fun z => .inr (.inl z))) (fun _ _ _ _ e => e))
  | ok us μ2 =>
    rw [er] at q1
    intro ζ' H3 vs' ev wd' r2 hl
    refine ⟨rfl, ?_⟩
    have q2 : PostE K ξ W N ζ1 μ1 H1 σr Q (mkOb C ns us μ2) := q1
    unfold mkOb at q2
    split at q2
    case isFalse => exact q2.elim
    have evx : Ev K.tb ζ1 μ1 H1 ζ' μ2 (upd H3 x (.ins (He.ga K C) dx (ns.zip vs'))) := (g2.ev.trans ev).mutNew (nn_none hx)
    have wdx : Wd K N ζ' μ2 (upd H3 x (.ins (He.ga K C) dx (ns.zip vs'))) := (wd'.mutN (.inr rfl) (ev.fr.keep x _ rfl (fun z => (wd2.nd x (.inr rfl)).1 z) upd_same)).unside
    have n1 : ¬ MM N ζ' μ2 x := fun z => z.elim (fun z => (wd'.nd x (.inr rfl)).1 z) nN
    have nd1 : ¬ MM N ζ1 μ1 dx := wd1.no hdx
    have n2 : ¬ MM N ζ' μ2 dx := fun z => by
      rcases z with z | z
      · rcases ev.ml dx z with z | z
        · exact nd1 (.inl z)
        · exact (z _ e0 rfl).elim
      · exact nd1 (.inr z)
    have hdx3 : H3 dx = some (.own x) := ev.fr.keep dx _ rfl (fun z => nd1 (.inl z)) e0
    have h1 : (upd H3 x (.ins (He.ga K C) dx (ns.zip vs'))) dx = some (.own x) := by rw [upd_ne hne]; exact hdx3
    have mv : ∀ b o, nt K.tb o → ¬ MM (WD.plus N x) ζ' μ2 b → H3 b = some o → (upd H3 x (.ins (He.ga K C) dx (ns.zip vs'))) b = some o := fun b o _ nb hb => by
      rw [upd_ne fun z => nb (.inr (.inr z))]; exact hb
    have mn : ∀ b, ¬ MM (WD.plus N x) ζ' μ2 b → ¬ nn K.tb (H3 b) → ¬ MM N ζ' μ2 b := fun b nb _ z => nb (z.elim .inl fun z => .inr (.inl z))
    split at q2
    · rename_i ds e1
      exact q2 ζ' _ _ evx wdx (rv_obj.mpr ⟨x, dx, vs', rfl, n1, n2, upd_same, h1, hl, rvs_st mn mv ds vs' (asT_rvs r2 e1)⟩)
    · split at q2
      · rename_i fs' e1
        exact q2 ζ' _ _ evx wdx ⟨x, dx, vs', rfl, n1, n2, upd_same, h1, hl, FRs.st (fun _ _ h => h) mn mv (flsOf_FRs r2 e1)⟩
      · exact q2.elim
theorem isObj_ok {w : Val} {v : V} (r : RV K ξ ζ M H v w) (h : isObj C m w = true) : ∃ a dx fs, v = .ref a ∧ H a = some (.ins (He.ga K C) dx fs) ∧ fs.lookup m = none := by
  have lk : ∀ {ns : List Str} {vs : List V}, m ∉ ns → (ns.zip vs).lookup m = none := by
    intro ns
    induction ns with
    | nil => intro vs _; rfl
    | cons n ns ih =>
      intro vs hn
      cases vs with
      | nil => rfl
      | cons v vs =>
        show ((n, v) :: ns.zip vs).lookup m = none
        have h1 : (m == n) = false := by
          rw [beq_eq_false_iff_ne]; exact fun e => hn (by rw [e]; exact List.mem_cons_self)
        rw [List.lookup_cons, h1]
        exact ih fun z => hn (List.mem_cons_of_mem _ z)
  unfold isObj at h
  split at h
  · rename_i D ns ds
    rw [Bool.and_eq_true, Bool.not_eq_true', decide_eq_true_eq, decide_eq_false_iff_not] at h
    obtain ⟨a, dx, vs, h1, _, _, h4, _⟩ := rv_obj.mp (show rv K M H v (.obj D ns ds) from r)
    rw [h.1] at h4
    exact ⟨a, dx, _, h1, h4, lk h.2⟩
  · rename_i D ns fs
    rw [Bool.and_eq_true, Bool.not_eq_true', decide_eq_true_eq, decide_eq_false_iff_not] at h
    obtain ⟨a, dx, vs, h1, _, _, h4, _⟩ := r
    rw [h.1] at h4
    exact ⟨a, dx, _, h1, h4, lk h.2⟩
  · cases h
theorem i_meth0 {fn : Fn} {mf : Addr} {pl : Sem Bool} (c : WD.Met X.prog X.w X.K X.mg X.base (L2.CX X.prog X.w) k (He.ga K C) m mf (SpF K n fn) []) (tk : Takes X W) (hr : Room k X.A) (ho : IE K ξ W X o fo)
    (ht : eval (.Call (.Attribute o m apos) [] [] pos) X.env = (do
      let ov ← eval o X.env
      standAt apos.atName
      let (f, first) ← holding [ov] (getMethod ov m pl)
      callWith pos f first (backTo pos (starEach [] X.env)) (backToKw pos (keywordEach [] X.env))) := by rfl) : IE K ξ W X (.Call (.Attribute o m apos) [] [] pos) (eMeth C m n fn fo aNil) := PE.of (pe_metX0 c tk hr ho ht) fun σr H Q q => by
  obtain ⟨N, ζ, μ, σ, wd, so, q⟩ := q
  refine (then1 wd so q).mono fun x H1 ⟨ζ1, μ1, w1, ev1, wd1, so1, r1, q1⟩ => ?_
  split at q1
  case isFalse => exact q1.elim
  rename_i hc
  obtain ⟨a, dx, fl, rfl, h1, h2⟩ := isObj_ok r1 hc
  refine ⟨a, dx, fl, rfl, h1, h2, ?_⟩
  exact read_call (ws := [w1]) wd1 ⟨r1, trivial⟩ q1
theorem lookup_rvs {f : Str} {d : PV} : ∀ {ns : List Str} {vs : List V} {ds : List PV}, rvs K M H vs ds → (ns.zip ds).lookup f = some d → ∃ v, (ns.zip vs).lookup f = some v ∧ rv K M H v d
  | [], _, _, _, e => by cases e
  | n :: ns, [], [], _, e => by cases e
  | n :: ns, v :: vs, z :: ds, r, e => by
    rw [rvs_cons] at r
    have e : ((n, z) :: ns.zip ds).lookup f = some d := e
    show ∃ v', ((n, v) :: ns.zip vs).lookup f = some v' ∧ rv K M H v' d
    rw [List.lookup_cons] at e ⊢
    split at e
    · cases e; exact ⟨v, rfl, r.1⟩
    · exact lookup_rvs r.2 e
  | _ :: _, [], _ :: _, r, _ => by unfold rvs at r; exact r.elim
  | _ :: _, _ :: _, [], r, _ => by unfold rvs at r; exact r.elim
theorem lookup_FRs {f : Str} {d : Fl} : ∀ {ns : List Str} {vs : List V} {ds : List Fl}, FRs K ζ M H vs ds → (ns.zip ds).lookup f = some d → ∃ v, (ns.zip vs).lookup f = some v ∧ FR K ζ M H v d
  | [], _, _, _, e => by cases e
  | n :: ns, [], [], _, e => by cases e
  | n :: ns, v :: vs, z :: ds, r, e => by
    have e : ((n, z) :: ns.zip ds).lookup f = some d := e
    show ∃ v', ((n, v) :: ns.zip vs).lookup f = some v' ∧ FR K ζ M H v' d
    rw [List.lookup_cons] at e ⊢
    split at e
    · cases e; exact ⟨v, rfl, r.1⟩
    · exact lookup_FRs r.2 e
  | _ :: _, [], _ :: _, r, _ => r.elim
  | _ :: _, _ :: _, [], r, _ => r.elim
/-- e.f -/
theorem i_fld {f : Str} {cs : List Str} (he : IE K ξ W X e fa) (hx : ∀ c ∈ cs, Cls K (He.ga K c) ∧ NoAttr K (He.ga K c) f) (hb : attributeBase e f X.env (eval e X.env) = eval e X.env := by rfl) (hK : X.K = K := by rfl) : IE K ξ W X (.Attribute e f pos) (e1 (gFld cs f) fa) := PE.of (WD.k_pe_fld K he hb hK) fun σr H Q q => by
  obtain ⟨N, ζ, μ, σ, wd, so, q⟩ := q
  refine (then1 wd so q).mono fun x H1 ⟨ζ1, μ1, w1, ev1, wd1, so1, r1, q1⟩ => ?_
  unfold gFld at q1
  split at q1
  · rename_i C ns ds
    split at q1
    case isFalse => exact q1.elim
    rename_i hc
    obtain ⟨a, dx, vs, h1, _, _, h4, _, _, h5⟩ := rv_obj.mp (show rv K (MM N ζ1 μ1) H1 x (.obj C ns ds) from r1)
    cases el : (ns.zip ds).lookup f with
    | none => rw [el] at q1; exact q1.elim
    | some d =>
      rw [el] at q1
      obtain ⟨v, g1, g2⟩ := lookup_rvs h5 el
      exact ⟨a, _, dx, _, v, h1, h4, (hx C hc).1, (hx C hc).2, g1, q1 ζ1 H1 v Ev.refl wd1 g2⟩
  · rename_i C ns fs
    split at q1
    case isFalse => exact q1.elim
    rename_i hc
    obtain ⟨a, dx, vs, h1, _, _, h4, _, _, h5⟩ := r1
    cases el : (ns.zip fs).lookup f with
    | none => rw [el] at q1; exact q1.elim
    | some d =>
      rw [el] at q1
      obtain ⟨v, g1, g2⟩ := lookup_FRs h5 el
      exact ⟨a, _, dx, _, v, h1, h4, (hx C hc).1, (hx C hc).2, g1, q1 ζ1 H1 v Ev.refl wd1 g2.RV⟩
  · exact q1.elim
end
end PM
/-! own ==, isinstance of own classes, str(int), {} != {} -/
namespace PM
open PySem PySem.Spec PyProof.Rows L2
open WD (MS upd_none)
def retTrue : R Val → Bool
  | .ok (.t (.bl true)) [] => true
  | _ => false
def gIsC (C : Str) (w : Val) (μ : Store) : R Val := match w with
  | .t (.obj D _ _) => if D = C then .ok (.t (.bl true)) μ else .stuck
  | .g (.ob D _) _ => if D = C then .ok (.t (.bl true)) μ else .stuck
  | _ => .stuck
section
variable {X : Cx} {K : KT} {ξ : Xi} {W : WX} {N : MS} {ζ : List Addr} {μ : Store} {M : MS} {H : Hp} {σr : L2.St} {σ : Sl} {e o a b : Expr} {es : List Expr} {fa fb : ME} {p pos : Pos} {C : Str} {k : Nat} {f : Addr}
/-- the fragment, no table -/
abbrev k0 (K : KT) : KT := ⟨K.fr, []⟩
mutual
theorem rv_k0 : ∀ (d : PV) (v : V), rv K M H v d → rv (k0 K) M H v d
  | .non, v, h => by rw [rv_non] at h ⊢; exact h
  | .bl b, v, h => by rw [rv_bl] at h ⊢; exact h
  | .int i, v, h => by rw [rv_int] at h ⊢; exact h
  | .str x, v, h => by rw [rv_str] at h ⊢; exact h
  | .tup l, v, h => by
    rw [rv_tup] at h ⊢
    obtain ⟨a, vs, h1, h2, h3, h4⟩ := h
    exact ⟨a, vs, h1, h2, h3, rvs_k0 l vs h4⟩
  | .lst l, v, h => by
    rw [rv_lst] at h ⊢
    obtain ⟨a, vs, h1, h2, h3, h4⟩ := h
    exact ⟨a, vs, h1, h2, h3, rvs_k0 l vs h4⟩
  | .dic b ks l, v, h => by
    rw [rv_dic] at h ⊢
    obtain ⟨a, vs, h1, h2, h3, h4⟩ := h
    exact ⟨a, vs, h1, h2, h3, rvs_k0 l vs h4⟩
  | .obj C ns l, v, h => by
    rw [rv_obj] at h ⊢
    obtain ⟨a, dx, vs, h1, h2, h3, h4, h5, h6, h7⟩ := h
    exact ⟨a, dx, vs, h1, h2, h3, h4, h5, h6, rvs_k0 l vs h7⟩
theorem rvs_k0 : ∀ (ds : List PV) (vs : List V), rvs K M H vs ds → rvs (k0 K) M H vs ds
  | [], [], _ => rvs_nil
  | d :: ds, v :: vs, h => by
    rw [rvs_cons] at h ⊢
    exact ⟨rv_k0 d v h.1, rvs_k0 ds vs h.2⟩
  | [], _ :: _, h => by unfold rvs at h; exact h.elim
  | _ :: _, [], h => by unfold rvs at h; exact h.elim
end
theorem wd0 : Wd (k0 K) WD.M0 [] [] H := ⟨rfl, fun i j a c c' h => by simp at h, fun k c a h => by simp at h, fun a h => h.elim, fun _ h => nomatch h⟩
theorem no0 : ∀ x, ¬ MM WD.M0 [] [] x := fun x z => z.elim (fun ⟨k, c, h1, _⟩ => by simp at h1) fun z => z
theorem ev0 {ζ' : List Addr} {μ' : Store} {H' : Hp} (ev : Ev [] [] [] H ζ' μ' H') : Grow H H' := fun a o h => ev.fr.keep a o nt_nil (fun ⟨k, c, h1, _⟩ => by simp at h1) h
def ROb (K : KT) (fn : Fn) (a b : Addr) (H : Hp) : Prop := ∃ d d', rv (k0 K) WD.M0 H (.ref a) d ∧ rv (k0 K) WD.M0 H (.ref b) d' ∧ retTrue (fn [.t d, .t d'] []) = true
theorem sp_eq {fn : Fn} {vs : List V} {Q : VK} {E : XK} (h : spEq (ROb K fn) vs H Q E) : SpF (k0 K) 2 fn vs H Q E := by
  obtain ⟨a, b, rfl, ⟨d, d', r1, r2, h3⟩, q⟩ := h
  refine ⟨WD.M0, [], [], [.t d, .t d'], wd0, ⟨rv_wk (fun x z => (no0 x z).elim) r1, rv_wk (fun x z => (no0 x z).elim) r2, trivial⟩, rfl, ?_⟩
  have e : fn [.t d, .t d'] [] = .ok (.t (.bl true)) [] := by
    unfold retTrue at h3
    split at h3
    · assumption
    · cases h3
  rw [e]
  intro ζ' H' v ev wd r
  rw [rv_bl.mp (show rv (k0 K) (MM WD.M0 ζ' []) H' v (.bl true) from r)]
  exact q H' (ev0 ev)
/-- isinstance(e, C), an instance of C -/
theorem i_isC {c2 : Expr} (he : IE K ξ W X e fa) (h2 : PE X c2 (tC (.ref (He.ga K C)))) (hc : C8.InsC K (He.ga K C)) (hg : Gl X "isinstance") (hm : X.mg "isinstance" = none)
    (hs : starEach [e, c2] X.env = (false, eval e X.env) :: starEach [c2] X.env := by rfl) (hs2 : starEach [c2] X.env = (false, eval c2 X.env) :: starEach [] X.env := by rfl) (hp : ((backTo pos (starEach [c2] X.env)).any (·.1)) = false := by rfl) (hK : X.K = K := by rfl) :
    IE K ξ W X (.Call (.Name "isinstance" p) [e, c2] [] pos) (e1 (gIsC C) fa) := by
  obtain ⟨K, Kt⟩ := K; obtain rfl : X.K = K := hK
  refine PE.of (pe_callB (C8.call_isC hc) hg hm WD.bt_isinstance (pa_cons he (pa_c h2 pa_c0 hs2) hs) (by decide) (by decide) hs hp) fun σr H Q q => ?_
  obtain ⟨N, ζ, μ, σ, wd, so, q⟩ := q
  refine (then1 wd so q).mono fun x H1 ⟨ζ1, μ1, w1, ev1, wd1, so1, r1, q1⟩ => ?_
  unfold gIsC at q1
  split at q1
  · split at q1
    · rename_i D ns ds hD
      subst hD
      obtain ⟨a, dx, vs, rfl, _, _, h4, _⟩ := rv_obj.mp (show rv ⟨X.K, Kt⟩ (MM N ζ1 μ1) H1 x (.obj D ns ds) from r1)
      exact ⟨a, dx, _, rfl, h4, q1 ζ1 H1 _ Ev.refl wd1 RV.blI⟩
    · exact q1.elim
  · split at q1
    · rename_i D ns ds hD
      subst hD
      obtain ⟨a, dx, vs, rfl, _, _, h4, _⟩ := r1
      exact ⟨a, dx, _, rfl, h4, q1 ζ1 H1 _ Ev.refl wd1 RV.blI⟩
    · exact q1.elim
  · exact q1.elim
end
end PM
/-! PM22: a lambda without parameters, handed to a def that calls it in a try suite -/
namespace PM
open PySem PySem.Spec PyProof.Rows L2
open WD (MS upd_none)
open Classical in
open Classical in
section
variable {X : Cx} {K : KT} {ξ : Xi} {W : WX} {N : MS} {ζ : List Addr} {μ : Store} {M : MS} {H H1 : Hp} {σr : L2.St} {σ : Sl} {ss : List Stmt} {F : MSt} {n : Nat}
theorem Wd.lam (wd : Wd K N ζ μ H) (en : LamX.ExtN H H1) (hT : LamX.Tabs K.tb H1) (ne : K.tb.isEmpty = false) : Ev K.tb ζ μ H ζ μ H1 ∧ Wd K N ζ μ H1 := by
  have kp : ∀ a o, nt K.tb o → H a = some o → H1 a = some o := fun a o t h => en a o h (nt_ne (by
    have t' : (isTb o && !K.tb.isEmpty) = false := t
    rw [ne] at t'
    simpa using t'))
  refine ⟨⟨fun _ _ h => h, ⟨fun a o t _ h => kp a o t h, fun a z o e n => z o (kp a o n e) n⟩, fun _ h => .inl h⟩, wd.len, wd.inj, fun k c a h1 h2 => (wd.cell k c a h1 h2).st (fun _ _ h => h) (fun _ n _ => n) (fun a o t _ h => kp a o t h) (fun o t h => kp a o t h), fun a h => ⟨(wd.nd a h).1, ?_⟩, hT⟩
  obtain ⟨o, e, r⟩ := (wd.nd a h).2
  exact ⟨o, kp a o (nt_of r.1) e, r⟩
end
end PM
/-! PM23: those that make lambdas: their code objects and tables -/
namespace PM
open PySem PySem.Spec PyProof.Rows L2
open WD (MS upd_none)
section
variable {P : Program} {w : World} {K : KT} {mg : Str → Option Value} {base : Heap} {x qual : Str} {params : Arguments} {body : List Stmt} {scope : Scope} {f C : Addr} {fd : FuncData} {Nm ps : List Str} {k : Nat} {b : MSt}
end
end PM
namespace PM
open PySem PySem.Spec PyProof.Rows L2
end PM
/-! PM24: for .. in a list that may change (by index, as the list stands at each turn) -/
namespace PM
open PySem PySem.Spec PyProof.Rows L2
open WD (MS upd_none)
section
variable {X : Cx} {K : KT} {ξ : Xi} {W : WX} {tg : Expr} {T : Tgt} {B : MSt} {fa : ME} {pos : Pos}
end
end PM
/-! PM25: zip of three tuples of one length, the items kept by a name -/
namespace PM
open PySem PySem.Spec PyProof.Rows L2
open WD (MS upd_none)
section
variable {X : Cx} {K : KT} {ξ : Xi} {W : WX} {N : MS} {ζ : List Addr} {μ : Store} {M : MS} {H : Hp} {σr : L2.St} {σ : Sl} {tg it e : Expr} {es : List Expr} {fa : ME} {fs : Sl → Store → R (List Val)} {pos : Pos}
end
end PM
/-! PM26: a comprehension over a list that may change, but does not while it is walked: the list is lent -/
namespace PM
open PySem PySem.Spec PyProof.Rows L2
open WD (MS upd_none)
def gLent (T : Tgt) (test : Sl → Store → R Bool) (elt : ME) (σ : Sl) (w : Val) (μ : Store) : R (List PV) := match w with
  | .c k => (match μ[k]? with
    | some (some (.lst items)) => (lcL T test elt items (wipeM σ T.sl) (μ.set k none)).bind fun ys μ2 => szF ys (μ2.set k (some (.lst items)))
    | _ => .stuck)
  | .t (.lst items) => (lcL T test elt items (wipeM σ T.sl) μ).bind szF
  | _ => .stuck
def lcC (fi : ME) (T : Tgt) (test : Sl → Store → R Bool) (elt : ME) : Sl → Store → R (List PV) := fun σ μ => (fi σ μ).bind fun w μ1 => gLent T test elt σ w μ1
section
variable {X : Cx} {K : KT} {ξ : Xi} {W : WX} {N : MS} {ζ ζ1 : List Addr} {μ μ1 : Store} {M : MS} {H H1 : Hp} {σr : L2.St} {σ : Sl} {tg it e : Expr} {T : Tgt} {fi : ME} {test : Sl → Store → R Bool} {elt : ME}
theorem lent_sub {k : Nat} {a : Addr} {c : Cell} (hk : μ[k]? = some (some c)) (ha : ζ[k]? = some a) : ∀ x, MM (WD.plus N a) ζ (μ.set k none) x → MM N ζ μ x := fun x z => by
  rcases z with z | z | z
  · exact .inl (Mof_dead x z)
  · exact .inr z
  · exact .inl ⟨k, c, by rw [z]; exact ha, hk⟩
/-- a list is lent: it is set aside -/
theorem Wd.lend {k : Nat} {a : Addr} {c : Cell} (wd : Wd K N ζ μ H) (hk : μ[k]? = some (some c)) (ha : ζ[k]? = some a) : Wd K (WD.plus N a) ζ (μ.set k none) H :=
  ⟨by rw [List.length_set]; exact wd.len, fun i j b c c' h1 h2 h3 h4 => wd.inj i j b c c' h1 h2 (dead_live h3).1 (dead_live h4).1,
   fun j c' b h1 h2 => (wd.cell j c' b (dead_live h1).1 h2).st (fun _ _ h => h) (fun x n _ z => n (lent_sub hk ha x z)) (fun _ _ _ _ e => e) (fun _ _ e => e),
   fun b hb => by
    rcases hb with hb | hb
    · exact ⟨fun z => (wd.nd b hb).1 (Mof_dead b z), (wd.nd b hb).2⟩
    · rw [hb]
      refine ⟨fun ⟨j, d, h1, h2⟩ => ?_, (wd.cell k c a hk ha).obj⟩
      obtain ⟨h3, h4⟩ := dead_live h2
      exact h4 (wd.inj j k a d c h1 ha h3 hk), wd.tb⟩
theorem back_sub {k : Nat} {a : Addr} {c : Cell} (ha : ζ[k]? = some a) : ∀ x, MM N ζ (μ.set k (some c)) x → MM (WD.plus N a) ζ μ x := fun x z => by
  rcases z with ⟨j, d, h1, h2⟩ | z
  · by_cases e : k = j
    · subst e
      rw [ha] at h1
      exact .inr (.inr (Option.some.inj h1).symm)
    · exact .inl ⟨j, d, h1, by rw [List.getElem?_set_ne e] at h2; exact h2⟩
  · exact .inr (.inl z)
/-- what was lent comes back -/
theorem Wd.back {k : Nat} {a : Addr} {c : Cell} (wd : Wd K (WD.plus N a) ζ μ H) (ha : ζ[k]? = some a) (nN : ¬ N a) (hc : cellR K (ζ.take k) (MM (WD.plus N a) ζ μ) H a c) : Wd K N ζ (μ.set k (some c)) H := by
  have na : ¬ Mof ζ μ a := (wd.nd a (.inr rfl)).1
  have live : ∀ {j : Nat} {d : Cell} {b : Addr}, ζ[j]? = some b → (μ.set k (some c))[j]? = some (some d) → (j = k ∧ b = a ∧ d = c) ∨ (j ≠ k ∧ μ[j]? = some (some d)) := fun {j d b} h1 h2 => by
    by_cases e : k = j
    · subst e
      refine .inl ⟨rfl, by rw [ha] at h1; exact (Option.some.inj h1).symm, ?_⟩
      have hk : k < μ.length := by rw [← wd.len]; exact (List.getElem?_eq_some_iff.mp ha).1
      rw [List.getElem?_set_self hk] at h2
      exact (Option.some.inj (Option.some.inj h2)).symm
    · exact .inr ⟨fun z => e z.symm, by rw [List.getElem?_set_ne e] at h2; exact h2⟩
  refine ⟨by rw [List.length_set]; exact wd.len, fun i j b c1 c2 h1 h2 h3 h4 => ?_, fun j c' b h1 h2 => ?_, fun b hb => ⟨fun ⟨j, d, h1, h2⟩ => ?_, (wd.nd b (.inl hb)).2⟩, wd.tb⟩
  · rcases live h1 h3 with ⟨i1, b1, _⟩ | ⟨i1, g1⟩ <;> rcases live h2 h4 with ⟨j1, b2, _⟩ | ⟨j1, g2⟩
    · omega
    · exact absurd ⟨j, c2, by rw [← b1]; exact h2, g2⟩ na
    · exact absurd ⟨i, c1, by rw [← b2]; exact h1, g1⟩ na
    · exact wd.inj i j b c1 c2 h1 h2 g1 g2
  · rcases live h2 h1 with ⟨rfl, rfl, rfl⟩ | ⟨_, g⟩
    · exact hc.st (fun _ _ h => h) (fun x n _ z => n (back_sub ha x z)) (fun _ _ _ _ e => e) (fun _ _ e => e)
    · exact (wd.cell j c' b g h2).st (fun _ _ h => h) (fun x n _ z => n (back_sub ha x z)) (fun _ _ _ _ e => e) (fun _ _ e => e)
  · rcases live h1 h2 with ⟨_, e, _⟩ | ⟨_, g⟩
    · exact nN (e ▸ hb)
    · exact (wd.nd b (.inl hb)).1 ⟨j, d, h1, g⟩
/-- a comprehension's turns -/
theorem lc_run {D : Addr} {Q : VK} {J : It} {items ys : List PV} {μ4 : Store} (wd1 : Wd K N ζ1 μ1 H1) (so1 : Sok K ξ ζ1 (MM N ζ1 μ1) H1 σr σ) (hD : H1 D = none)
    (ok : ∀ ζ' μ' H', Ev K.tb ζ1 μ1 H1 ζ' μ' H' → Wd K (WD.plus N D) ζ' μ' H' → (∀ (i : Nat) d, items[i]? = some d → J.go i H' ∧ ∀ x H2, J.yld i H' x H2 → Grow H' H2 ∧ rv K (MM (WD.plus N D) ζ' μ') H2 x d) ∧ J.stop items.length H')
    (hl : lcL T test elt items (wipeM σ T.sl) μ1 = .ok ys μ4) (hz : ys.length ≤ sizeLine)
    (post : ∀ ζ' H' vs, Ev K.tb ζ1 μ1 H1 ζ' μ4 H' → Wd K (WD.plus N D) ζ' μ4 H' → H' D = some (.lst vs) → rvs K (MM (WD.plus N D) ζ' μ4) H' vs ys → Q (.ref D) H') :
    ∃ Wi : Nat → Nat → Hp → Prop, (∃ m, Wi 0 m (upd H1 D (.lst []))) ∧ ∀ i m H, Wi i m H →
      (J.stop i H ∧ Q (.ref D) H) ∨ (J.go i H ∧ ∃ Nx : Hp → Prop, (∀ H', Nx H' → ∃ m', m' < m ∧ Wi (i + 1) m' H') ∧ ∀ x H', J.yld i H x H' → tG K ξ T x (L2.wipe σr T.sl) H' fun σ2 H2 => L2.wipe σ2 T.sl = L2.wipe σr T.sl ∧ tT K ξ W0 test σ2 H2 fun b H3 =>
        if b = true then tE K ξ W0 elt σ2 H3 fun y H4 => ∃ acc, H4 D = some (.lst acc) ∧ acc.length < sizeLine ∧ Nx (upd H4 D (.lst (acc ++ [y]))) else Nx H3) := by
  refine ⟨fun i m H' => ∃ ζ' μ' acc vs zs, i ≤ items.length ∧ m = items.length - i ∧ Ev K.tb ζ1 μ1 H1 ζ' μ' H' ∧ Wd K (WD.plus N D) ζ' μ' H' ∧ H' D = some (.lst vs) ∧ rvs K (MM (WD.plus N D) ζ' μ') H' vs acc ∧ lcL T test elt (items.drop i) (wipeM σ T.sl) μ' = .ok zs μ4 ∧ acc ++ zs = ys,
    ⟨_, ζ1, μ1, [], [], ys, Nat.zero_le _, rfl, Ev.new hD, wd1.aside (Grow.upd hD) hD ⟨_, upd_same, rfl, rfl⟩, upd_same, rvs_nil, hl, rfl⟩, ?_⟩
  rintro i m H' ⟨ζ', μ', acc, vs, zs, hi, hm, ev', wd', hD', ra, q', hys⟩
  have na : ∀ a, ¬ MM N ζ1 μ1 a → ¬ nn K.tb (H1 a) → ¬ MM (WD.plus N D) ζ' μ' a := fun a n ne z => by
    rcases z with z | z | z
    · exact (ev'.ml a z).elim (fun z => n (.inl z)) ne
    · exact n (.inr z)
    · exact ne (nn_none (by rw [z]; exact hD))
  obtain ⟨k1, k2⟩ := ok ζ' μ' H' ev' wd'
  have hDM : MM (WD.plus N D) ζ' μ' D := .inr (.inr rfl)
  have hlen := rvs_len ra
  by_cases hlt : i < items.length
  · refine .inr ?_
    have hd : items.drop i = items[i] :: items.drop (i + 1) := List.drop_eq_getElem_cons hlt
    obtain ⟨kgo, ky⟩ := k1 i _ (List.getElem?_eq_getElem hlt)
    refine ⟨kgo, fun H2 => ∃ ζ2 μ2 acc2 vs2 zs2, i + 1 ≤ items.length ∧ Ev K.tb ζ1 μ1 H1 ζ2 μ2 H2 ∧ Wd K (WD.plus N D) ζ2 μ2 H2 ∧ H2 D = some (.lst vs2) ∧ rvs K (MM (WD.plus N D) ζ2 μ2) H2 vs2 acc2 ∧ lcL T test elt (items.drop (i + 1)) (wipeM σ T.sl) μ2 = .ok zs2 μ4 ∧ acc2 ++ zs2 = ys,
      fun H2 ⟨ζ2, μ2, acc2, vs2, zs2, a1, a2, a3, a4, a5, a6, a7⟩ => ⟨items.length - (i + 1), by omega, ζ2, μ2, acc2, vs2, zs2, a1, rfl, a2, a3, a4, a5, a6, a7⟩, fun x Hy hy => ?_⟩
    obtain ⟨gr, rx⟩ := ky x Hy hy
    rw [hd] at q'
    unfold lcL at q'
    cases ea : asg T (.t items[i]) (wipeM σ T.sl) with
    | none => rw [ea] at q'; cases q'
    | some σ1 =>
      rw [ea] at q'
      dsimp only at q'
      have wdy := wd'.fr0 gr
      have evy : Ev K.tb ζ1 μ1 H1 ζ' μ' Hy := ev'.trans gr.ev
      have soy : Sok K ξ ζ' (MM (WD.plus N D) ζ' μ') Hy (L2.wipe σr T.sl) (wipeM σ T.sl) := (so1.wipe T.sl).aside ev'.pre na (fun a o t n h => gr a o (ev'.keep a o t n h))
      refine ⟨WD.plus N D, ζ', μ', wipeM σ T.sl, .t items[i], σ1, wdy, soy, rx, ea, fun σr1 so1 ag => ⟨?_, WD.plus N D, ζ', μ', σ1, wdy, so1, ?_⟩⟩
      · have h1 := ag.wipe
        rw [h1]
        refine List.ext_getElem? fun j => ?_
        rw [wipe_get, wipe_get]
        by_cases hj : j ∈ T.sl
        · rw [if_pos hj, if_pos hj, wipe_length]
        · rw [if_neg hj, if_neg hj]
      · cases et : test σ1 μ' with
        | stuck => rw [et] at q'; cases q'
        | ex c f μ2 => rw [et] at q'; cases q'
        | ok b μ2 =>
          rw [et] at q'
          intro ζ2 H2 ev2 wd2
          cases b with
          | false =>
            refine iteF ⟨ζ2, μ2, acc, vs, zs, hlt, evy.trans ev2, wd2, ?_, ?_, q', hys⟩
            · exact ev2.fr.keep _ _ rfl (fun z => (wdy.nd D (.inr rfl)).1 z) (gr _ _ hD')
            · exact ev2.rvs (gr.rvs ra)
          | true =>
            refine iteT ⟨WD.plus N D, ζ2, μ2, σ1, wd2, so1.ev ev2, ?_⟩
            have q2 : ((elt σ1 μ2).noex.bind fun w μ2 => (gT w μ2).bind fun y μ3 => (lcL T test elt (items.drop (i + 1)) (wipeM σ T.sl) μ3).bind fun ys μ4 => R.ok (y :: ys) μ4) = .ok zs μ4 := q'
            cases ee : elt σ1 μ2 with
            | stuck => rw [ee] at q2; cases q2
            | ex c f μ3 => rw [ee] at q2; cases q2
            | ok w μ3 =>
              rw [ee] at q2
              intro ζ3 H3 y ev3 wd3 r3
              cases w with
              | c _ => cases q2
              | x _ _ => cases q2
              | s _ => cases q2
              | g _ _ => cases q2
              | self => cases q2
              | lam _ _ => cases q2
              | t y' =>
                have q3 : ((lcL T test elt (items.drop (i + 1)) (wipeM σ T.sl) μ3).bind fun ys μ4 => R.ok (y' :: ys) μ4) = .ok zs μ4 := q2
                have hD3 : H3 D = some (.lst vs) := ev3.fr.keep _ _ rfl (fun z => (wd2.nd D (.inr rfl)).1 z) (ev2.fr.keep _ _ rfl (fun z => (wdy.nd D (.inr rfl)).1 z) (gr _ _ hD'))
                have hDM3 : MM (WD.plus N D) ζ3 μ3 D := .inr (.inr rfl)
                cases el : lcL T test elt (items.drop (i + 1)) (wipeM σ T.sl) μ3 with
                | stuck => rw [el] at q3; cases q3
                | ex c f μ4 => exact (lcL_noex el).elim
                | ok ws μ5 =>
                  rw [el] at q3
                  have q4 : R.ok (y' :: ws) μ5 = .ok zs μ4 := q3
                  obtain ⟨rfl, rfl⟩ : y' :: ws = zs ∧ μ5 = μ4 := by cases q4; exact ⟨rfl, rfl⟩
                  have hsz : vs.length < sizeLine := by
                    rw [← hys, List.length_append, List.length_cons] at hz
                    omega
                  exact ⟨vs, hD3, hsz, ζ3, μ3, acc ++ [y'], vs ++ [y], ws, hlt, ((evy.trans ev2).trans ev3).mutNew (nn_none hD), wd3.mutN (.inr rfl) hD3, upd_same, rvs_app (rvs_mutN hDM3 (ev3.rvs (ev2.rvs (gr.rvs ra)))) (rvs_cons.mpr ⟨rv_mutN hDM3 r3, rvs_nil⟩), el, by rw [List.append_assoc]; exact hys⟩
  · refine .inl ?_
    have hi2 : i = items.length := by omega
    subst hi2
    rw [List.drop_length] at q'
    have q2 : R.ok ([] : List PV) μ' = .ok zs μ4 := q'
    obtain ⟨rfl, rfl⟩ : [] = zs ∧ μ' = μ4 := by cases q2; exact ⟨rfl, rfl⟩
    rw [List.append_nil] at hys
    subst hys
    exact ⟨k2, post ζ' H' vs ev' wd' hD' ra⟩
theorem rd_lcC {Q : VK} (q : tF K ξ W (lcC fi T test elt) σr H Q) : tLc (iList K.fr (tE K ξ W fi)) (tG K ξ T) (tT K ξ W0 test) (tE K ξ W0 elt) T.sl σr H Q := by
  obtain ⟨N, ζ, μ, σ, wd, so, q⟩ := q
  refine ⟨N, ζ, μ, σ, wd, so, ?_⟩
  unfold lcC at q
  cases e : fi σ μ with
  | stuck => rw [e] at q; exact q
  | ex c f μ1 => rw [e] at q; exact q
  | ok w μ1 =>
    rw [e] at q
    intro ζ1 H1 v ev1 wd1 r1
    have q1 : PostF K W N ζ1 μ1 H1 σr Q (gLent T test elt σ w μ1) := PostF.ev ev1 q
    have so1 := so.ev ev1
    cases w with
    | c k =>
      obtain ⟨a, ha, rfl⟩ := r1
      simp only [gLent] at q1
      split at q1
      · rename_i items hk
        obtain ⟨vs0, hv0, rv0⟩ := wd1.cell k _ a hk ha
        refine ⟨a, rfl, ⟨vs0, SqL.of hv0⟩, fun D hD => ?_⟩
        have nN : ¬ N a := fun z => (wd1.nd a z).1 ⟨k, _, ha, hk⟩
        have wdL := wd1.lend hk ha
        have soL : Sok K ξ ζ1 (MM (WD.plus N a) ζ1 (μ1.set k none)) H1 σr σ := so1.aside (fun _ _ h => h) (fun x n _ z => n (lent_sub hk ha x z)) (fun _ _ _ _ h => h)
        cases el : lcL T test elt items (wipeM σ T.sl) (μ1.set k none) with
        | stuck => rw [el] at q1; exact q1.elim
        | ex c f μ4 => exact (lcL_noex el).elim
        | ok ys μ4 =>
          rw [el] at q1
          have q2 : PostF K W N ζ1 μ1 H1 σr Q (szF ys (μ4.set k (some (.lst items)))) := q1
          unfold szF at q2
          split at q2
          · rename_i hz
            have keepA : ∀ {ζ' : List Addr} {μ' : Store} {H' : Hp}, Ev K.tb ζ1 (μ1.set k none) H1 ζ' μ' H' → H' a = some (.lst vs0) := fun {ζ' μ' H'} ev => ev.fr.keep a _ rfl (wdL.nd a (.inr rfl)).1 hv0
            have keepI : ∀ {ζ' : List Addr} {μ' : Store} {H' : Hp}, Ev K.tb ζ1 (μ1.set k none) H1 ζ' μ' H' → rvs K (MM (WD.plus N a) ζ' μ') H' vs0 items := fun {ζ' μ' H'} ev => ev.rvs (rvs_wk (lent_sub hk ha) rv0)
            refine lc_run (N := WD.plus N a) (ys := ys) (μ4 := μ4) wdL soL hD (fun ζ' μ' H' ev' wd' => ?_) el hz fun ζ' H' vs ev' wd' hD' rD => ?_
            · have rI : rvs K (MM (WD.plus (WD.plus N a) D) ζ' μ') H' vs0 items := rvs_st (fun x n ne z => by
                rcases z with z | z | z
                · exact (ev'.ml x z).elim (fun z => n (.inl (Mof_dead x z))) ne
                · rcases z with z | z
                  · exact n (.inr z)
                  · exact n (.inl ⟨k, _, by rw [z]; exact ha, hk⟩)
                · exact ne (nn_none (by rw [z]; exact hD))) (fun x o t n h => ev'.fr.keep x o t (fun z => n (.inl (Mof_dead x z))) h) items vs0 rv0
              have hA := keepA ev'
              have hlen := rvs_len rI
              refine ⟨fun i d hi => ?_, ⟨vs0, SqL.of hA, by rw [hlen]; exact Nat.le_refl _⟩⟩
              obtain ⟨x, hx, rx⟩ := rvs_at rI hi
              refine ⟨⟨vs0, x, SqL.of hA, hx⟩, fun y H2 hy => ?_⟩
              obtain ⟨rfl, hy2⟩ := hy
              have hyx := hy2 vs0 (SqL.of hA)
              rw [hx] at hyx
              cases hyx
              exact ⟨fun _ _ h => h, rx⟩
            · have haz : ζ'[k]? = some a := ev'.pre k a ha
              have hA := keepA ev'
              have nNa : ¬ WD.plus N D a := fun z => z.elim nN fun z => by rw [z, hD] at hv0; cases hv0
              have wdS : Wd K (WD.plus (WD.plus N D) a) ζ' μ4 H' :=
                ⟨wd'.len, wd'.inj, fun j c b h1 h2 => (wd'.cell j c b h1 h2).st (fun _ _ h => h) (fun x n _ z => n (by
                  rcases z with z | (z | z) | z
                  · exact .inl z
                  · exact .inr (.inl (.inl z))
                  · exact .inr (.inr z)
                  · exact .inr (.inl (.inr z)))) (fun _ _ _ _ e => e) (fun _ _ e => e), fun b hb => wd'.nd b (by
                  rcases hb with (z | z) | z
                  · exact .inl (.inl z)
                  · exact .inr z
                  · exact .inl (.inr z)), wd'.tb⟩
              have rI : rvs K (MM (WD.plus (WD.plus N D) a) ζ' μ4) H' vs0 items := rvs_st (fun x n ne z => by
                rcases z with z | (z | z) | z
                · exact (ev'.ml x z).elim (fun z => n (.inl (Mof_dead x z))) ne
                · exact n (.inr z)
                · exact ne (nn_none (by rw [z]; exact hD))
                · exact n (.inl ⟨k, _, by rw [z]; exact ha, hk⟩)) (fun x o t n h => ev'.fr.keep x o t (fun z => n (.inl (Mof_dead x z))) h) items vs0 rv0
              have wdB : Wd K (WD.plus N D) ζ' (μ4.set k (some (.lst items))) H' := wdS.back haz nNa ⟨vs0, hA, rI⟩
              refine q2 ζ' H' D vs ⟨ev'.pre, ⟨fun x o t n h => ev'.fr.keep x o t (fun z => n (Mof_dead x z)) h, ev'.fr.dom⟩, fun x hx => ?_⟩ wdB (nn_none hD) hD' (rvs_st (fun x n ne z => n (by
                rcases back_sub haz x z with z | (z | z) | z
                · exact .inl z
                · exact .inr (.inl (.inl z))
                · exact .inr (.inr z)
                · exact .inr (.inl (.inr z)))) (fun _ _ _ _ h => h) ys vs rD)
              obtain ⟨j, d, h1, h2⟩ := hx
              by_cases e : k = j
              · subst e
                rw [haz] at h1
                exact .inl ⟨k, _, by rw [← Option.some.inj h1]; exact ha, hk⟩
              · rw [List.getElem?_set_ne e] at h2
                exact (ev'.ml x ⟨j, d, h1, h2⟩).elim (fun z => .inl (Mof_dead x z)) .inr
          · exact q2.elim
      · exact q1.elim
    | t d =>
      cases d with
      | lst items =>
        obtain ⟨a, vs0, rfl, nM, hv0, rv0⟩ := rv_lst.mp (show rv K (MM N ζ1 μ1) H1 v (.lst items) from r1)
        refine ⟨a, rfl, ⟨vs0, SqL.of hv0⟩, fun D hD => ?_⟩
        cases el : lcL T test elt items (wipeM σ T.sl) μ1 with
        | stuck =>
          have q2 : PostF K W N ζ1 μ1 H1 σr Q ((lcL T test elt items (wipeM σ T.sl) μ1).bind szF) := q1
          rw [el] at q2; exact q2.elim
        | ex c f μ4 => exact (lcL_noex el).elim
        | ok ys μ4 =>
          have q2 : PostF K W N ζ1 μ1 H1 σr Q ((lcL T test elt items (wipeM σ T.sl) μ1).bind szF) := q1
          rw [el] at q2
          have q3 : PostF K W N ζ1 μ1 H1 σr Q (szF ys μ4) := q2
          unfold szF at q3
          split at q3
          · rename_i hz
            refine lc_run (N := N) (ys := ys) (μ4 := μ4) wd1 so1 hD (fun ζ' μ' H' ev' wd' => ?_) el hz fun ζ' H' vs ev' wd' hD' rD => q3 ζ' H' D vs ev' wd' (nn_none hD) hD' rD
            have rI : rvs K (MM (WD.plus N D) ζ' μ') H' vs0 items := rvs_st (fun x n ne z => by
              rcases z with z | z | z
              · exact (ev'.ml x z).elim (fun z => n (.inl z)) ne
              · exact n (.inr z)
              · exact ne (nn_none (by rw [z]; exact hD))) (fun x o t n h => ev'.fr.keep x o t (fun z => n (.inl z)) h) items vs0 rv0
            have hA : H' a = some (.lst vs0) := ev'.fr.keep a _ rfl (fun z => nM (.inl z)) hv0
            have hlen := rvs_len rI
            refine ⟨fun i d hi => ?_, ⟨vs0, SqL.of hA, by rw [hlen]; exact Nat.le_refl _⟩⟩
            obtain ⟨x, hx, rx⟩ := rvs_at rI hi
            refine ⟨⟨vs0, x, SqL.of hA, hx⟩, fun y H2 hy => ?_⟩
            obtain ⟨rfl, hy2⟩ := hy
            have hyx := hy2 vs0 (SqL.of hA)
            rw [hx] at hyx
            cases hyx
            exact ⟨fun _ _ h => h, rx⟩
          · exact q3.elim
      | _ => exact q1.elim
    | x _ _ => exact q1.elim
    | s _ => exact q1.elim
    | g _ _ => exact q1.elim
    | self => exact q1.elim
    | lam _ _ => exact q1.elim
theorem f_lcC (h : PE X e (tLc (iList K.fr (tE K ξ W fi)) (tG K ξ T) (tT K ξ W0 test) (tE K ξ W0 elt) T.sl)) : IF K ξ W X e (lcC fi T test elt) := PE.of h fun _ _ _ q => rd_lcC q
end
end PM
/-! PM27: what a law never reaches; a law that makes lambdas itself -/
namespace PM
open PySem PySem.Spec PyProof.Rows L2
open WD (MS upd_none)
section
variable {X : Cx} {K : KT} {ξ : Xi} {W : WX} {e : Expr} {st : Stmt} {ss : List Stmt}
end
section
variable {P : Program} {w : World} {K : KT} {mg : Str → Option Value} {base : Heap} {x qual : Str} {params : Arguments} {body : List Stmt} {scope : Scope} {f : Addr} {fd : FuncData} {Nm : List Str} {k : Nat} {b : MSt}
end
end PM
/-! PM28: calls with keywords, with defaults -/
namespace WD
open PySem PySem.Spec PyProof.Rows L2
/-- where a parameter's value comes from: a place, a keyword, a default -/
inductive Pk where
  | pos (i : Nat)
  | kw (i : Nat)
  | df (i : Nat)
def Pk.get {α : Type} (us its ws : List α) : Pk → Option α
  | .pos i => us[i]?
  | .kw i => ws[i]?
  | .df i => its[i]?
def pickG {α : Type} (l : List Pk) (us its ws : List α) : List α := match l with
  | [] => []
  | p :: l => (p.get us its ws).toList ++ pickG l us its ws
section
variable {K : PySem.W.Frag} {x qual : Str} {params : Arguments} {body : List Stmt} {scope : Scope} {dvs : List V} {kws : List (Str × V)} {f : Addr} {fd : FuncData} {ps : List Str}
end
section
variable {X : Cx} {CX : CXT} {k n : Nat} {f : Addr} {fd : FuncData} {ps ks : List Str} {sp : Sp} {E : L2.St → XK} {x : Str} {p pos : Pos} {e : Expr} {es : List Expr} {kws : List Keyword} {t tk : TA} {g : List Value → List Value → List Value} {gV : List V → List V → List V} {W : WX}
end
end WD
namespace PM
open PySem PySem.Spec PyProof.Rows L2
open WD (MS upd_none Pk pickG)
section
variable {X : Cx} {K : KT} {ξ : Xi} {W : WX} {N : MS} {ζ : List Addr} {μ : Store} {M : MS} {H : Hp} {σr : L2.St} {σ : Sl} {e a : Expr} {es : List Expr} {kws : List Keyword} {fa : ME} {fs fk : Sl → Store → R (List Val)} {pos kpos : Pos} {nm : Option Str}
theorem PK.of {t t' : TA} (h : PK X kws t) (k : ∀ σ H Q, t' σ H Q → t σ H Q) : PK X kws t' := ⟨fun pos pins s σ H Q I q => h.run pos pins s σ H Q I (k σ H Q q)⟩
theorem RVs.at : ∀ {vs : List V} {ws : List Val} (i : Nat), RVs K ξ ζ M H vs ws → (vs[i]? = none ∧ ws[i]? = none) ∨ ∃ v w, vs[i]? = some v ∧ ws[i]? = some w ∧ RV K ξ ζ M H v w
  | [], [], i, _ => .inl ⟨rfl, rfl⟩
  | v :: vs, w :: ws, 0, h => .inr ⟨v, w, rfl, rfl, h.1⟩
  | v :: vs, w :: ws, i + 1, h => by simpa using RVs.at i h.2
  | [], _ :: _, _, h => h.elim
  | _ :: _, [], _, h => h.elim
end
section
variable {P : Program} {w : World} {K : KT} {mg : Str → Option Value} {base : Heap} {x qual : Str} {params : Arguments} {body : List Stmt} {scope : Scope} {f : Addr} {fd : FuncData} {Nm ps : List Str} {k : Nat} {b : MSt} {dvs : List V} {kws : List (Str × V)}
end
end PM
/-! PM29: tuple(range(n)), list(range(a, b)); what is rising -/
namespace PM
open PySem PySem.Spec PyProof.Rows L2
open WD (MS upd_none)
section
variable {X : Cx} {K : KT} {ξ : Xi} {W : WX} {N : MS} {ζ : List Addr} {μ : Store} {M : MS} {H : Hp} {σr : L2.St} {σ : Sl} {e e2' : Expr} {es : List Expr} {fa fb : ME} {fs : Sl → Store → R (List Val)} {pos : Pos}
end
end PM
/-! PM31: dict(pairs), whole-number or text keys -/
namespace PM
open PySem PySem.Spec PyProof.Rows L2
open WD (MS upd_none)
section
variable {X : Cx} {K : KT} {ξ : Xi} {W : WX} {N : MS} {ζ : List Addr} {μ : Store} {M : MS} {H : Hp} {σr : L2.St} {σ : Sl} {e : Expr} {fa : ME} {p pos : Pos}
end
end PM
/-! PM32: dict(pairs), keys that are tuples -/
namespace PM
open PySem PySem.Spec PyProof.Rows L2
open WD (MS upd_none putsT)
def dmergeT : List PV → List PV → List PV → Option (List PV × List PV)
  | [], ks, vs => some (ks, vs)
  | .tup [.tup k, d] :: l, ks, vs => if (keysOf k).isSome then dmergeT l (dput ks vs (.tup k) d).1 (dput ks vs (.tup k) d).2 else none
  | _, _, _ => none
def gDictT (w : Val) (μ : Store) : R Val := match view μ w with
  | some (.lst l) => (match dmergeT l [] [] with
    | some (ks, vs) => .ok (.c μ.length) (μ ++ [some (.dic true ks vs)])
    | none => .stuck)
  | _ => .stuck
section
variable {X : Cx} {K : KT} {ξ : Xi} {W : WX} {N : MS} {ζ : List Addr} {μ : Store} {M : MS} {H : Hp} {σr : L2.St} {σ : Sl} {e : Expr} {fa : ME} {p pos : Pos}
abbrev ktPV : List Key → PV := fun k => PV.tup (k.map kPV)
theorem mergeT_ok : ∀ {l : List PV} {us : List V} {kl : List (List Key)} {vs : List V} {ds ks' ds' : List PV}, kl.length = vs.length → rvs K M H vs ds → (∀ k ∈ kl, ∀ z ∈ k, kOk z) → dmergeT l (kl.map ktPV) ds = some (ks', ds') → rvs K M H us l →
    ∃ (ps : List Addr) (kvs : List (List Key × Addr × V)) (kl' : List (List Key)) (vs' : List V), us = ps.map V.ref ∧ Paired (fun p q => SqT K.fr H p [.ref q.2.1, q.2.2] ∧ H q.2.1 = some (.tup (q.1.map kV))) ps kvs ∧ putsT (kl.zip vs) kvs = kl'.zip vs' ∧ ks' = kl'.map ktPV ∧ kl'.length = vs'.length ∧ rvs K M H vs' ds' ∧ ∀ k ∈ kl', ∀ z ∈ k, kOk z
  | [], us, kl, vs, ds, ks', ds', hl, r, ho, e, ru => by
    have e' : some (kl.map ktPV, ds) = some (ks', ds') := by rw [← e]; unfold dmergeT; rfl
    cases e'
    have hu : us = [] := List.length_eq_zero_iff.mp (rvs_len ru)
    subst hu
    exact ⟨[], [], kl, vs, rfl, .nil, rfl, rfl, hl, r, ho⟩
  | x :: l, us, kl, vs, ds, ks', ds', hl, r, ho, e, ru => by
    cases us with
    | nil => unfold rvs at ru; exact ru.elim
    | cons u us =>
      rw [rvs_cons] at ru
      cases x with
      | tup t =>
        match t, e, ru with
        | [], e, _ => simp [dmergeT] at e
        | [_], e, _ => simp [dmergeT] at e
        | _ :: _ :: _ :: _, e, _ => simp [dmergeT] at e
        | [k0, d], e, ru =>
          cases k0 with
          | tup k =>
            rw [dmergeT] at e
            split at e
            · rename_i hk
              obtain ⟨key, hkey⟩ := Option.isSome_iff_exists.mp hk
              have ek := keysOf_some hkey
              subst ek
              obtain ⟨p0, ws, rfl, _, h2, h3⟩ := rv_tup.mp ru.1
              obtain ⟨kv, dv, rfl, hkv, hdv⟩ : ∃ kv dv, ws = [kv, dv] ∧ rv K M H kv (.tup (key.map kPV)) ∧ rv K M H dv d := by
                match ws, rvs_len h3, h3 with
                | [a, b], _, h3 =>
                  rw [rvs_cons, rvs_cons] at h3
                  exact ⟨a, b, rfl, h3.1, h3.2.1⟩
              obtain ⟨ka, kws, rfl, _, k2, k3⟩ := rv_tup.mp hkv
              obtain ⟨rfl, hko⟩ := kVs_of k3
              obtain ⟨kl1, vs1, g1, g2, g3, g4, g5⟩ := dput_ok (κ := List Key) (φ := ktPV) (P := fun k => ∀ z ∈ k, kOk z) keyEq_t (k := key) hdv hl r ho hko
              have g2' : (dput (kl.map ktPV) ds (.tup (key.map kPV)) d).1 = kl1.map ktPV := g2
              rw [g2'] at e
              obtain ⟨ps, kvs, kl', vs', f1, f2, f3, f4, f5, f6, f7⟩ := mergeT_ok g3 g4 g5 e ru.2
              refine ⟨p0 :: ps, (key, ka, dv) :: kvs, kl', vs', by rw [f1]; rfl, .cons ⟨SqT.of h2, k2⟩ f2, ?_, f4, f5, f6, f7⟩
              show putsT (putK (kl.zip vs) key dv) kvs = _
              rw [g1]
              exact f3
            · cases e
          | _ => simp [dmergeT] at e
      | _ => simp [dmergeT] at e
theorem i_dictT (hc : X.calm = true) (hu : X.A.units + 64 < cLine) (hg : Gl X "dict") (hm : X.mg "dict" = none) (he : IE K ξ W X e fa) (hK : X.K = K := by rfl) (hs : starEach [e] X.env = (false, eval e X.env) :: starEach [] X.env := by rfl) :
    IE K ξ W X (.Call (.Name "dict" p) [e] [] pos) (e1 gDictT fa) := by
  obtain ⟨K, Kt⟩ := K; obtain rfl : X.K = K := hK
  refine PE.of (pe_callTy (WD.call_dictT hc hu) hg hm WD.bt_dict (pa_cons he pa_nil hs) (by decide) (by decide) hs (by rfl)) fun σr H Q q => ?_
  obtain ⟨N, ζ, μ, σ, wd, so, q⟩ := q
  refine (then1 wd so q).mono fun x H1 ⟨ζ1, μ1, w1, ev1, wd1, so1, r1, q1⟩ => ?_
  unfold gDictT at q1
  split at q1
  · rename_i l e1
    split at q1
    · rename_i ks ds e2
      obtain ⟨a, us, rfl, ha, ru⟩ := r1.view wd1 e1
      obtain ⟨ps, kvs, kl, vs, rfl, pr, em, rfl, hl, r2, ho⟩ := mergeT_ok (kl := []) (vs := []) (ds := []) rfl rvs_nil (fun _ z => nomatch z) e2 ru
      refine ⟨a, ps, kvs, rfl, SqL.of ha, pr, fun q hq => ?_⟩
      have em' : putsT [] kvs = kl.zip vs := em
      rw [em']
      have hd : DicR true (upd H1 q (.dT (kl.zip vs))) q (kl.map ktPV) vs := ⟨kl, rfl, hl, ho, upd_same⟩
      have w := wd1.aside (a := q) (H' := upd H1 q (.dT (kl.zip vs))) (Grow.upd hq) hq ⟨_, upd_same, rfl, rfl⟩
      have r3 : rvs ⟨X.K, Kt⟩ (MM (WD.plus N q) ζ1 μ1) (upd H1 q (.dT (kl.zip vs))) vs ds := rvs_st (fun b nb ne z => by
        rcases z with z | z | z
        · exact nb (.inl z)
        · exact nb (.inr z)
        · exact ne (nn_none (by rw [z]; exact hq))) (fun b o _ _ e => Grow.upd hq b o e) ds vs r2
      refine q1 (ζ1 ++ [q]) _ _ ⟨fun k b hb => ?_, Fr.new hq, fun b hb => ?_⟩ (w.push (fun z => (wd1.nd q z).2.ne hq) ⟨vs, hd, r3⟩) ⟨q, by rw [← wd1.len, List.getElem?_append_right (Nat.le_refl _), Nat.sub_self]; rfl, rfl⟩
      · rw [List.getElem?_append_left (List.getElem?_eq_some_iff.mp hb).1]
        exact hb
      · rcases (Mof_snoc wd1.len b).mp hb with z | z
        · exact .inl z
        · exact .inr (nn_none (by rw [z]; exact hq))
    · exact q1.elim
  · exact q1.elim
end
end PM
/-! PM45: (an instance, rows of numbers) == the like, by the class's own == -/
namespace PM
open PySem PySem.Spec PyProof.Rows L2
open WD (MS upd_none)
def rowsQ : List PV → Option (List (List Int))
  | [] => some []
  | .tup l :: ds => (numsOf l).bind fun k => (rowsQ ds).map (k :: ·)
  | _ => none
def gEqP (C : Str) (fn : Fn) (w u : Val) (μ : Store) : R Val := match w, u with
  | .t (.tup [.obj D ns ds, .lst a]), .t (.tup [.obj D' ns' ds', .lst b]) => if D = C ∧ D' = C ∧ retTrue (fn [.t (.obj D ns ds), .t (.obj D' ns' ds')] []) = true ∧ (rowsQ a).isSome = true ∧ rowsQ a = rowsQ b then .ok (.t (.bl true)) μ else .stuck
  | _, _ => .stuck
section
variable {X : Cx} {K : KT} {ξ : Xi} {W : WX} {N : MS} {ζ : List Addr} {μ : Store} {M : MS} {H : Hp} {σr : L2.St} {σ : Sl} {e o a b : Expr} {es : List Expr} {fa fb : ME} {p pos : Pos} {C : Str} {k : Nat} {f : Addr}
theorem numsQ_inv : ∀ {l : List PV} {k : List Int}, numsOf l = some k → l = k.map .int
  | [], k, e => by cases e; rfl
  | .int x :: l, k, e => by
    have e' : (numsOf l).map (x :: ·) = some k := e
    obtain ⟨k', h1, rfl⟩ := Option.map_eq_some_iff.mp e'
    rw [numsQ_inv h1]
    rfl
  | .non :: l, k, e => by cases e
  | .bl _ :: l, k, e => by cases e
  | .str _ :: l, k, e => by cases e
  | .tup _ :: l, k, e => by cases e
  | .lst _ :: l, k, e => by cases e
  | .dic _ _ _ :: l, k, e => by cases e
  | .obj _ _ _ :: l, k, e => by cases e
theorem prs_ints {vs us : List V} : ∀ {ns : List Int}, rvs K M H vs (ns.map .int) → rvs K M H us (ns.map .int) → ∀ {vs' us'}, vs' = vs → us' = us → Prs DFlat vs' us' H := by
  intro ns
  induction ns generalizing vs us with
  | nil =>
    intro h1 h2 vs' us' e1 e2
    subst e1 e2
    cases vs' with
    | nil =>
      cases us' with
      | nil => exact Prs.nil
      | cons _ _ => unfold rvs at h2; exact h2.elim
    | cons _ _ => unfold rvs at h1; exact h1.elim
  | cons n ns ih =>
    intro h1 h2 vs' us' e1 e2
    subst e1 e2
    cases vs' with
    | nil => rw [List.map_cons] at h1; unfold rvs at h1; exact h1.elim
    | cons v vs =>
      cases us' with
      | nil => rw [List.map_cons] at h2; unfold rvs at h2; exact h2.elim
      | cons u us =>
        rw [List.map_cons] at h1 h2
        obtain ⟨a1, a2⟩ := rvs_cons.mp h1
        obtain ⟨b1, b2⟩ := rvs_cons.mp h2
        rw [rv_int.mp a1, rv_int.mp b1]
        exact Prs.cons ⟨rfl, rfl, by simp [L2.eqV]⟩ (ih a2 b2 rfl rfl)
theorem prs_rows : ∀ {a b : List PV} {R : List (List Int)} {vs us : List V}, rowsQ a = some R → rowsQ b = some R → rvs K M H vs a → rvs K M H us b → Prs (DTup X.K DFlat) vs us H
  | [], b, R, vs, us, h1, h2, r1, r2 => by
    cases h1
    cases b with
    | nil =>
      cases vs with
      | nil =>
        cases us with
        | nil => exact Prs.nil
        | cons _ _ => unfold rvs at r2; exact r2.elim
      | cons _ _ => unfold rvs at r1; exact r1.elim
    | cons y b =>
      cases y with
      | tup l =>
        have e : (numsOf l).bind (fun k => (rowsQ b).map (k :: ·)) = some [] := h2
        obtain ⟨k, _, e2⟩ := Option.bind_eq_some_iff.mp e
        obtain ⟨_, _, e3⟩ := Option.map_eq_some_iff.mp e2
        cases e3
      | _ => cases h2
  | x :: a, b, R, vs, us, h1, h2, r1, r2 => by
    cases x with
    | tup l =>
      have e : (numsOf l).bind (fun k => (rowsQ a).map (k :: ·)) = some R := h1
      obtain ⟨k, ek, e2⟩ := Option.bind_eq_some_iff.mp e
      obtain ⟨R1, eR, rfl⟩ := Option.map_eq_some_iff.mp e2
      cases b with
      | nil => cases h2
      | cons y b =>
        cases y with
        | tup m =>
          have e' : (numsOf m).bind (fun k => (rowsQ b).map (k :: ·)) = some (k :: R1) := h2
          obtain ⟨k', ek', e2'⟩ := Option.bind_eq_some_iff.mp e'
          obtain ⟨R2, eR2, e3⟩ := Option.map_eq_some_iff.mp e2'
          cases e3
          cases vs with
          | nil => unfold rvs at r1; exact r1.elim
          | cons v vs =>
            cases us with
            | nil => unfold rvs at r2; exact r2.elim
            | cons u us =>
              obtain ⟨a1, a2⟩ := rvs_cons.mp r1
              obtain ⟨b1, b2⟩ := rvs_cons.mp r2
              obtain ⟨p1, ps, rfl, _, g1, i1⟩ := rv_tup.mp a1
              obtain ⟨p2, qs, rfl, _, g2, i2⟩ := rv_tup.mp b1
              rw [numsQ_inv ek] at i1
              rw [numsQ_inv ek'] at i2
              exact Prs.cons ⟨p1, p2, ps, qs, rfl, rfl, SqT.of g1, SqT.of g2, prs_ints i1 i2 rfl rfl⟩ (prs_rows eR eR2 a2 b2)
        | _ => cases h2
    | _ => cases h1
abbrev DPair (X : Cx) (K : KT) (C : Str) (fn : Fn) : Eqv := DTup X.K fun x y H => DIns (He.ga K C) (ROb K fn) x y H ∨ DList (DTup X.K DFlat) x y H
theorem op_eqPair {fn : Fn} (c : WD.Met X.prog X.w X.K X.mg X.base (L2.CX X.prog X.w) k (He.ga K C) "__eq__" f (SpF (k0 K) 2 fn) []) (t0 : Takes X W0) (hr : Room (k + 3) X.A) : OpR X (compareOp .Eq) (rEqG (DPair X K C fn)) := by
  obtain ⟨fd, ps, ds, h1, h2, h3⟩ := c.ex
  have e1 : EqG X k (DIns (He.ga K C) (ROb K fn)) := eqG_ins (E := fun _ _ _ => False) (h1.imp fun vs H Q E h => sp_eq h) c.mt.at_ c.mt.fn (WD.binds0 h2 h3) (fun pins σ H s e s' I z => passAt t0 σ pins H s e s' I z)
  have e2 : EqG X 2 (DList (DTup X.K DFlat)) := eqG_list (mon_tup mon_flat) (eqG_tup mon_flat eqG_flat)
  have mR : ∀ a b H H', Ext H H' → ROb K fn a b H → ROb K fn a b H' := fun a b H H' g ⟨d, d', r1, r2, h⟩ => ⟨d, d', Grow.rv g r1, Grow.rv g r2, h⟩
  exact op_eqG (rcG_tup (Mon.or (mon_ins mR) (mon_list (mon_tup mon_flat))) ((e1.mono (show k ≤ k + 2 by omega)).or (e2.mono (show 2 ≤ k + 2 by omega)))) hr
theorem read_eqPair {fn : Fn} {x y : V} {w u : Val} {Q : VK} (wd : Wd K N ζ μ H) (r : RV K ξ ζ (MM N ζ μ) H x w) (r' : RV K ξ ζ (MM N ζ μ) H y u) (h : PostE K ξ W N ζ μ H σr Q (gEqP C fn w u μ)) : rEqG (DPair X K C fn) x y H Q := by
  unfold gEqP at h
  split at h
  · rename_i D ns ds a D' ns' ds' b
    split at h
    · rename_i hc
      obtain ⟨rfl, rfl, hc, hq, he⟩ := hc
      obtain ⟨R, hR⟩ := Option.isSome_iff_exists.mp hq
      have r1 : rv K WD.M0 H x (.tup [.obj D' ns ds, .lst a]) := rv_wk (fun x z => z.elim) (show rv K (MM N ζ μ) H x (.tup [.obj D' ns ds, .lst a]) from r)
      have r2 : rv K WD.M0 H y (.tup [.obj D' ns' ds', .lst b]) := rv_wk (fun x z => z.elim) (show rv K (MM N ζ μ) H y (.tup [.obj D' ns' ds', .lst b]) from r')
      obtain ⟨p1, vs, rfl, _, g1, i1⟩ := rv_tup.mp r1
      obtain ⟨p2, us, rfl, _, g2, i2⟩ := rv_tup.mp r2
      match vs, us, i1, i2 with
      | [v1, v2], [u1, u2], i1, i2 =>
        obtain ⟨o1, i1⟩ := rvs_cons.mp i1
        obtain ⟨l1, _⟩ := rvs_cons.mp i1
        obtain ⟨o2, i2⟩ := rvs_cons.mp i2
        obtain ⟨l2, _⟩ := rvs_cons.mp i2
        obtain ⟨a1, dx, vs1, rfl, _, _, h4, _⟩ := rv_obj.mp o1
        obtain ⟨b1, dy, us1, rfl, _, _, h5, _⟩ := rv_obj.mp o2
        obtain ⟨a2, ws1, rfl, _, k1, j1⟩ := rv_lst.mp l1
        obtain ⟨b2, ws2, rfl, _, k2, j2⟩ := rv_lst.mp l2
        refine ⟨⟨p1, p2, _, _, rfl, rfl, SqT.of g1, SqT.of g2, Prs.cons (.inl ⟨a1, b1, dx, dy, _, _, rfl, rfl, h4, h5, _, _, rv_k0 _ _ o1, rv_k0 _ _ o2, hc⟩) (Prs.cons (.inr ⟨a2, b2, ws1, ws2, rfl, rfl, k1, k2, prs_rows hR (by rw [← he]; exact hR) j1 j2⟩) Prs.nil)⟩, fun H' g => h ζ H' _ (Grow.ev g) (wd.fr0 g) RV.blI⟩
      | [], _, i1, _ => unfold rvs at i1; exact i1.elim
      | [_], _, i1, _ => rw [rvs_cons] at i1; have := i1.2; unfold rvs at this; exact this.elim
      | _ :: _ :: _ :: _, _, i1, _ => rw [rvs_cons, rvs_cons] at i1; have := i1.2.2; unfold rvs at this; exact this.elim
      | [_, _], [], _, i2 => unfold rvs at i2; exact i2.elim
      | [_, _], [_], _, i2 => rw [rvs_cons] at i2; have := i2.2; unfold rvs at this; exact this.elim
      | [_, _], _ :: _ :: _ :: _, _, i2 => rw [rvs_cons, rvs_cons] at i2; have := i2.2.2; unfold rvs at this; exact this.elim
    · exact h.elim
  · exact h.elim
/-- a == b of such pairs, equal -/
theorem i_eqPair {fn : Fn} (c : WD.Met X.prog X.w X.K X.mg X.base (L2.CX X.prog X.w) k (He.ga K C) "__eq__" f (SpF (k0 K) 2 fn) []) (t0 : Takes X W0) (hr : Room (k + 3) X.A) (ha : IE K ξ W X a fa) (hb : IE K ξ W X b fb) (hm : behindInMarks .Eq b = false) : IE K ξ W X (.Compare a [.Eq] [b] pos) (e2 (gEqP C fn) fa fb) := PE.of (pe_cmpR (op_eqPair c t0 hr) ha hb hm) fun σr H Q q => by
  obtain ⟨N, ζ, μ, σ, wd, so, q⟩ := q
  refine (then1 wd so q).mono fun x H1 ⟨ζ1, μ1, w1, ev1, wd1, so1, r1, q1⟩ => ?_
  refine (then1 wd1 so1 q1).mono fun y H2 ⟨ζ2, μ2, w2, ev2, wd2, so2, r2, q2⟩ => ?_
  exact read_eqPair wd2 (r1.ev ev2) r2 q2
end
end PM
/-! PM39: for .. in enumerate(a list that may change, but that is walked as it stands at each turn; or a datum) -/
namespace PM
open PySem PySem.Spec PyProof.Rows L2
open WD (MS upd_none)
theorem PS.pick {X : Cx} {s : Stmt} {t' : TS} (k : ∀ D σ H, t' D σ H → ∃ t, PS X s t ∧ t D σ H) : PS X s t' := ⟨fun pins s σ H D I q => let ⟨_, h, q'⟩ := k D σ H q; h.run pins s σ H D I q'⟩
section
variable {X : Cx} {K : KT} {ξ : Xi} {W : WX} {tg e : Expr} {T : Tgt} {B : MSt} {fs : Sl → Store → R (List Val)} {pos : Pos}
end
section
variable {T : Tgt} {B : MSt} {n k : Nat} {fs : Sl → Store → R (List Val)} {σ : Sl} {μ : Store} {d : PV}
@[simp] theorem gCall_3tc {fn : Fn} {j : Nat} {e f : PV} : gCall 3 fn [.t e, .c j, .t f] μ = fn [.t e, .c j, .t f] μ := (rfl)
@[simp] theorem gCall_4tc {fn : Fn} {j : Nat} {e f g : PV} : gCall 4 fn [.t e, .c j, .t f, .t g] μ = fn [.t e, .c j, .t f, .t g] μ := (rfl)
end
end PM
/-! PM43: a list that changes is lent as a datum to an expression that tells no list; tuples that hold things that change -/
namespace PM
open PySem PySem.Spec PyProof.Rows L2
open WD (MS upd_none)
mutual
/-- no list is within -/
def lfree : PV → Bool
  | .lst _ => false
  | .tup l => lfrees l
  | .dic _ _ vs => lfrees vs
  | .obj _ _ vs => lfrees vs
  | .non => true
  | .bl _ => true
  | .int _ => true
  | .str _ => true
def lfrees : List PV → Bool
  | [] => true
  | d :: ds => lfree d && lfrees ds
end
def lfFl : Fl → Bool
  | .t d => lfree d
  | .c _ => true
def lfCell : Cell → Bool
  | .lst ds => lfrees ds
  | .dic _ _ vs => lfrees vs
  | .ob _ _ fs => fs.all lfFl
def lfStore (μ : Store) : Bool := μ.all fun x => match x with
  | none => true
  | some c => lfCell c
def lfVal : Val → Bool
  | .t d => lfree d
  | .c _ => true
  | .g _ fs => fs.all lfFl
  | _ => false
def lfExc : Option (Str × PV) → Bool
  | none => true
  | some (_, d) => lfree d
section
variable {K : KT} {M M' : MS} {H : Hp} {a : Addr} {vs0 : List V}
mutual
theorem lfree_rv (ha : H a = some (.lst vs0)) (hM : ∀ b, M' b → M b ∨ b = a) : ∀ (d : PV) (v : V), lfree d = true → rv K M H v d → rv K M' H v d
  | .non, v, _, h => by rw [rv_non] at h ⊢; exact h
  | .bl b, v, _, h => by rw [rv_bl] at h ⊢; exact h
  | .int i, v, _, h => by rw [rv_int] at h ⊢; exact h
  | .str x, v, _, h => by rw [rv_str] at h ⊢; exact h
  | .lst l, v, e, h => by unfold lfree at e; cases e
  | .tup l, v, e, h => by
    unfold lfree at e
    rw [rv_tup] at h ⊢
    obtain ⟨b, vs, h1, h2, h3, h4⟩ := h
    exact ⟨b, vs, h1, fun z => (hM b z).elim h2 fun z => (by rw [z, ha] at h3; cases h3), h3, lfree_rvs ha hM l vs e h4⟩
  | .dic k ks l, v, e, h => by
    unfold lfree at e
    rw [rv_dic] at h ⊢
    obtain ⟨b, vs, h1, h2, h3, h4⟩ := h
    refine ⟨b, vs, h1, fun z => (hM b z).elim h2 fun z => ?_, h3, lfree_rvs ha hM l vs e h4⟩
    cases k <;> obtain ⟨_, _, _, _, g⟩ := h3 <;> (rw [z, ha] at g; cases g)
  | .obj C ns l, v, e, h => by
    unfold lfree at e
    rw [rv_obj] at h ⊢
    obtain ⟨b, dx, vs, h1, h2, h3, h4, h5, h6, h7⟩ := h
    exact ⟨b, dx, vs, h1, fun z => (hM b z).elim h2 fun z => (by rw [z, ha] at h4; cases h4), fun z => (hM dx z).elim h3 fun z => (by rw [z, ha] at h5; cases h5), h4, h5, h6, lfree_rvs ha hM l vs e h7⟩
theorem lfree_rvs (ha : H a = some (.lst vs0)) (hM : ∀ b, M' b → M b ∨ b = a) : ∀ (ds : List PV) (vs : List V), lfrees ds = true → rvs K M H vs ds → rvs K M' H vs ds
  | [], [], _, _ => rvs_nil
  | d :: ds, v :: vs, e, h => by
    unfold lfrees at e
    rw [Bool.and_eq_true] at e
    rw [rvs_cons] at h ⊢
    exact ⟨lfree_rv ha hM d v e.1 h.1, lfree_rvs ha hM ds vs e.2 h.2⟩
  | [], _ :: _, _, h => by unfold rvs at h; exact h.elim
  | _ :: _, [], _, h => by unfold rvs at h; exact h.elim
end
theorem lfFl_FRs {ζ : List Addr} (ha : H a = some (.lst vs0)) (hM : ∀ b, M' b → M b ∨ b = a) : ∀ {fs : List Fl} {vs : List V}, fs.all lfFl = true → FRs K ζ M H vs fs → FRs K ζ M' H vs fs
  | [], [], _, _ => trivial
  | .t d :: fs, v :: vs, e, h => by
    rw [List.all_cons, Bool.and_eq_true] at e
    exact ⟨lfree_rv ha hM d v e.1 h.1, lfFl_FRs ha hM e.2 h.2⟩
  | .c k :: fs, v :: vs, e, h => by
    rw [List.all_cons, Bool.and_eq_true] at e
    exact ⟨h.1, lfFl_FRs ha hM e.2 h.2⟩
  | [], _ :: _, _, h => h.elim
  | _ :: _, [], _, h => h.elim
theorem lfCell_R {ζ : List Addr} {b : Addr} {c : Cell} (ha : H a = some (.lst vs0)) (hM : ∀ b, M' b → M b ∨ b = a) (e : lfCell c = true) (h : cellR K ζ M H b c) : cellR K ζ M' H b c := by
  cases c with
  | lst ds => obtain ⟨vs, g, r⟩ := h; exact ⟨vs, g, lfree_rvs ha hM _ _ e r⟩
  | dic k ks ds => obtain ⟨vs, g, r⟩ := h; exact ⟨vs, g, lfree_rvs ha hM _ _ e r⟩
  | ob C ns fs => obtain ⟨dx, vs, nd, g, g2, l, r⟩ := h; exact ⟨dx, vs, fun z => (hM dx z).elim nd fun z => (by rw [z, ha] at g2; cases g2), g, g2, l, lfFl_FRs ha hM e r⟩
theorem lfVal_RV {ζ : List Addr} {ξ : Xi} {v : V} : ∀ {w : Val}, H a = some (.lst vs0) → (∀ b, M' b → M b ∨ b = a) → lfVal w = true → RV K ξ ζ M H v w → RV K ξ ζ M' H v w
  | .t d, ha, hM, e, h => lfree_rv ha hM d v e h
  | .c _, _, _, _, h => h
  | .g .tup fs, ha, hM, e, ⟨b, vs, h1, h2, h3, h4⟩ => ⟨b, vs, h1, fun z => (hM b z).elim h2 fun z => (by rw [z, ha] at h3; cases h3), h3, lfFl_FRs ha hM e h4⟩
  | .g (.ob C ns) fs, ha, hM, e, ⟨b, dx, vs, h1, h2, h3, h4, h5, h6, h7⟩ => ⟨b, dx, vs, h1, fun z => (hM b z).elim h2 fun z => (by rw [z, ha] at h4; cases h4), fun z => (hM dx z).elim h3 fun z => (by rw [z, ha] at h5; cases h5), h4, h5, h6, lfFl_FRs ha hM e h7⟩
  | .x _ _, _, _, e, _ => by cases e
  | .s _, _, _, e, _ => by cases e
  | .self, _, _, e, _ => by cases e
  | .lam _ _, _, _, e, _ => by cases e
theorem lfExc_XR {d : Option Addr} : ∀ {f : Option (Str × PV)}, H a = some (.lst vs0) → (∀ b, M' b → M b ∨ b = a) → lfExc f = true → XR K M H d f → XR K M' H d f
  | none, _, _, _, h => h
  | some (n, p), ha, hM, e, ⟨dd, v, h1, h2, h3, h4⟩ => ⟨dd, v, h1, fun z => (hM dd z).elim h2 fun z => (by rw [z, ha] at h3; cases h3), h3, lfree_rv ha hM p v e h4⟩
end

/-! ### lending -/
/-- the cell that a tuple holds -/
def cellOf : List Fl → Option Nat
  | [] => none
  | .t _ :: fs => cellOf fs
  | .c k :: _ => some k
def fillC (k : Nat) (items : List PV) : List Fl → Option (List PV)
  | [] => some []
  | .t d :: fs => (fillC k items fs).map (d :: ·)
  | .c j :: fs => if j = k then (fillC k items fs).map (.lst items :: ·) else none
def lendV (μ : Store) : Val → Option (PV × Nat × List PV)
  | .c k => (match μ[k]? with
    | some (some (.lst items)) => some (.lst items, k, items)
    | _ => none)
  | .g .tup fs => (cellOf fs).bind fun k => match μ[k]? with
    | some (some (.lst items)) => (fillC k items fs).map fun l => (.tup l, k, items)
    | _ => none
  | _ => none
def backE (k : Nat) (items : List PV) : R Val → R Val
  | .ok w μ => if lfVal w && lfStore μ then .ok w (μ.set k (some (.lst items))) else .stuck
  | .ex c f μ => if lfExc f && lfStore μ then .ex c f (μ.set k (some (.lst items))) else .stuck
  | .stuck => .stuck
def eLend (j : Nat) (f : ME) : ME := fun σ μ => match σ[j]? with
  | some (some (.t _)) => f σ μ
  | some (some w) => (match lendV μ w with
    | some (d, k, items) => backE k items (f (σ.set j (some (.t d))) (μ.set k none))
    | none => .stuck)
  | _ => .stuck
section
variable {X : Cx} {K : KT} {ξ : Xi} {W : WX} {N : MS} {ζ ζ1 : List Addr} {μ μ1 : Store} {H H1 : Hp} {σr : L2.St} {σ : Sl} {e : Expr} {f : ME} {v : V}
theorem dead_sub {k : Nat} : ∀ x, MM N ζ (μ.set k none) x → MM N ζ μ x := fun x z => z.elim (fun z => .inl (Mof_dead x z)) .inr
/-- a thing that changes is let go -/
theorem Wd.kill {k : Nat} (wd : Wd K N ζ μ H) : Wd K N ζ (μ.set k none) H :=
  ⟨by rw [List.length_set]; exact wd.len, fun i j b c c' h1 h2 h3 h4 => wd.inj i j b c c' h1 h2 (dead_live h3).1 (dead_live h4).1,
   fun j c' b h1 h2 => (wd.cell j c' b (dead_live h1).1 h2).st (fun _ _ h => h) (fun x n _ z => n (dead_sub x z)) (fun _ _ _ _ e => e) (fun _ _ e => e),
   fun b hb => ⟨fun z => (wd.nd b hb).1 (Mof_dead b z), (wd.nd b hb).2⟩, wd.tb⟩
theorem dead_not {k : Nat} {a : Addr} {c : Cell} (wd : Wd K N ζ μ H) (hk : μ[k]? = some (some c)) (ha : ζ[k]? = some a) : ¬ MM N ζ (μ.set k none) a := fun z => by
  rcases z with ⟨j, d, h1, h2⟩ | z
  · obtain ⟨h3, h4⟩ := dead_live h2
    exact h4 (wd.inj j k a d c h1 ha h3 hk)
  · exact (wd.nd a z).1 ⟨k, c, ha, hk⟩
theorem fill_rvs {k : Nat} {a : Addr} {items : List PV} {vs0 : List V} {M M' : MS} (sub : ∀ x, M' x → M x) (ha : ζ[k]? = some a) (nM : ¬ M' a) (hv : H a = some (.lst vs0)) (r0 : rvs K M' H vs0 items) : ∀ {fs : List Fl} {vs : List V} {l : List PV}, FRs K ζ M H vs fs → fillC k items fs = some l → rvs K M' H vs l
  | [], [], l, _, e => by cases e; exact rvs_nil
  | .t d :: fs, v :: vs, l, h, e => by
    obtain ⟨l', e1, rfl⟩ := Option.map_eq_some_iff.mp e
    exact rvs_cons.mpr ⟨rv_wk sub h.1, fill_rvs sub ha nM hv r0 h.2 e1⟩
  | .c j :: fs, v :: vs, l, h, e => by
    unfold fillC at e
    split at e
    · rename_i hj
      obtain ⟨l', e1, rfl⟩ := Option.map_eq_some_iff.mp e
      obtain ⟨⟨b, h1, h2⟩, h3⟩ := h
      rw [hj, ha] at h1
      cases h1
      exact rvs_cons.mpr ⟨rv_lst.mpr ⟨a, vs0, h2, nM, hv, r0⟩, fill_rvs sub ha nM hv r0 h3 e1⟩
    · cases e
  | [], _ :: _, _, h, _ => h.elim
  | _ :: _, [], _, h, _ => h.elim
theorem lend_rv {w : Val} {d : PV} {k : Nat} {items : List PV} (wd : Wd K N ζ μ H) (r : RV K ξ ζ (MM N ζ μ) H v w) (e : lendV μ w = some (d, k, items)) :
    μ[k]? = some (some (.lst items)) ∧ ∃ a, ζ[k]? = some a ∧ rv K (MM N ζ (μ.set k none)) H v d := by
  have key : ∀ {k : Nat} {items : List PV} {a : Addr}, μ[k]? = some (some (.lst items)) → ζ[k]? = some a → ∃ vs0, H a = some (.lst vs0) ∧ ¬ MM N ζ (μ.set k none) a ∧ rvs K (MM N ζ (μ.set k none)) H vs0 items := fun {k items a} hk ha => by
    obtain ⟨vs0, g1, g2⟩ := wd.cell k _ a hk ha
    exact ⟨vs0, g1, dead_not wd hk ha, rvs_wk dead_sub g2⟩
  unfold lendV at e
  split at e
  · rename_i k'
    split at e
    · rename_i items' hk
      cases e
      obtain ⟨a, ha, rfl⟩ := r
      obtain ⟨vs0, g1, g2, g3⟩ := key hk ha
      exact ⟨hk, a, ha, rv_lst.mpr ⟨a, vs0, rfl, g2, g1, g3⟩⟩
    · cases e
  · rename_i fs
    obtain ⟨k', ek, e⟩ := Option.bind_eq_some_iff.mp e
    split at e
    · rename_i items' hk
      obtain ⟨l, el, e⟩ := Option.map_eq_some_iff.mp e
      cases e
      obtain ⟨b, vs, h1, h2, h3, h4⟩ := r
      have cm : ∀ {fs : List Fl}, cellOf fs = some k → Fl.c k ∈ fs := fun {fs} => by
        induction fs with
        | nil => intro e; cases e
        | cons f fs ih =>
          intro e
          cases f with
          | t d => exact List.mem_cons_of_mem _ (ih e)
          | c j => cases e; exact List.mem_cons_self
      obtain ⟨a, ha⟩ := h4.c_at (cm ek)
      obtain ⟨vs0, g1, g2, g3⟩ := key hk ha
      exact ⟨hk, a, ha, rv_tup.mpr ⟨b, vs, h1, fun z => h2 (dead_sub b z), h3, fill_rvs dead_sub ha g2 g1 g3 h4 el⟩⟩
    · cases e
  · cases e
theorem lfStore_at {k : Nat} {c : Cell} (h : lfStore μ = true) (hk : μ[k]? = some (some c)) : lfCell c = true := List.all_eq_true.mp h _ (List.mem_of_getElem? hk)
/-- what was lent comes back -/
theorem lend_back {k : Nat} {a : Addr} {items : List PV} (wd : Wd K N ζ μ H) (hk : μ[k]? = some (some (.lst items))) (ha : ζ[k]? = some a) (ev : Ev K.tb ζ (μ.set k none) H ζ1 μ1 H1) (wd1 : Wd K N ζ1 μ1 H1) (lf : lfStore μ1 = true) :
    (∃ vs0, H1 a = some (.lst vs0)) ∧ (∀ b, MM N ζ1 (μ1.set k (some (.lst items))) b → MM N ζ1 μ1 b ∨ b = a) ∧ Ev K.tb ζ μ H ζ1 (μ1.set k (some (.lst items))) H1 ∧ Wd K N ζ1 (μ1.set k (some (.lst items))) H1 := by
  obtain ⟨vs0, g1, g2⟩ := wd.cell k _ a hk ha
  have nd := dead_not wd hk ha
  have ha1 := ev.pre k a ha
  have hkl : k < μ1.length := by rw [← wd1.len]; exact (List.getElem?_eq_some_iff.mp ha1).1
  have g3 : H1 a = some (.lst vs0) := ev.fr.keep a _ rfl (fun z => nd (.inl z)) g1
  have nM1 : ¬ Mof ζ1 μ1 a := fun z => (ev.ml a z).elim (fun z => nd (.inl z)) fun z => (nnn (T := K.tb) g1) z
  have nN : ¬ N a := fun z => nd (.inr z)
  have live : ∀ {j : Nat} {d : Cell} {b : Addr}, ζ1[j]? = some b → (μ1.set k (some (.lst items)))[j]? = some (some d) → (j = k ∧ b = a ∧ d = .lst items) ∨ (j ≠ k ∧ μ1[j]? = some (some d)) := fun {j d b} h1 h2 => by
    by_cases e : k = j
    · subst e
      refine .inl ⟨rfl, by rw [ha1] at h1; exact (Option.some.inj h1).symm, ?_⟩
      rw [List.getElem?_set_self hkl] at h2
      exact (Option.some.inj (Option.some.inj h2)).symm
    · exact .inr ⟨fun z => e z.symm, by rw [List.getElem?_set_ne e] at h2; exact h2⟩
  have sub : ∀ b, MM N ζ1 (μ1.set k (some (.lst items))) b → MM N ζ1 μ1 b ∨ b = a := fun b z => by
    rcases z with ⟨j, d, h1, h2⟩ | z
    · rcases live h1 h2 with ⟨_, e, _⟩ | ⟨_, h3⟩
      · exact .inr e
      · exact .inl (.inl ⟨j, d, h1, h3⟩)
    · exact .inl (.inr z)
  have evB : Ev K.tb ζ μ H ζ1 (μ1.set k (some (.lst items))) H1 := by
    refine ⟨ev.pre, ⟨fun b o t n h => ev.fr.keep b o t (fun z => n (Mof_dead b z)) h, ev.fr.dom⟩, fun b h => ?_⟩
    obtain ⟨j, d, h1, h2⟩ := h
    rcases live h1 h2 with ⟨_, e, _⟩ | ⟨_, h3⟩
    · exact .inl ⟨k, _, by rw [e]; exact ha, hk⟩
    · exact (ev.ml b ⟨j, d, h1, h3⟩).imp (Mof_dead b) id
  refine ⟨⟨vs0, g3⟩, sub, evB, by rw [List.length_set]; exact wd1.len, fun i j b c1 c2 h1 h2 h3 h4 => ?_, fun j c b h1 h2 => ?_, fun b hb => ⟨fun ⟨j, d, h1, h2⟩ => ?_, (wd1.nd b hb).2⟩, wd1.tb⟩
  · rcases live h1 h3 with ⟨i1, b1, _⟩ | ⟨i1, q1⟩ <;> rcases live h2 h4 with ⟨j1, b2, _⟩ | ⟨j1, q2⟩
    · omega
    · exact absurd ⟨j, c2, by rw [← b1]; exact h2, q2⟩ nM1
    · exact absurd ⟨i, c1, by rw [← b2]; exact h1, q1⟩ nM1
    · exact wd1.inj i j b c1 c2 h1 h2 q1 q2
  · rcases live h2 h1 with ⟨rfl, rfl, rfl⟩ | ⟨_, q⟩
    · refine ⟨vs0, g3, ?_⟩
      exact evB.rvs (N := N) g2
    · exact lfCell_R g3 sub (lfStore_at lf q) (wd1.cell j c b q h2)
  · rcases live h1 h2 with ⟨_, e, _⟩ | ⟨_, q⟩
    · exact nN (e ▸ hb)
    · exact (wd1.nd b hb).1 ⟨j, d, h1, q⟩
theorem Sok.setR {M M' : MS} {j : Nat} {w w' : Val} (so : Sok K ξ ζ M H σr σ) (wk : ∀ {v : V} {w : Val}, RV K ξ ζ M H v w → RV K ξ ζ M' H v w) (hj : σ[j]? = some (some w)) (hr : ∀ v, RV K ξ ζ M H v w → RV K ξ ζ M' H v w') : Sok K ξ ζ M' H σr (σ.set j (some w')) := by
  refine ⟨by rw [List.length_set]; exact so.1, fun i u hu => ?_⟩
  by_cases e : j = i
  · subst e
    rw [List.getElem?_set_self (List.getElem?_eq_some_iff.mp hj).1] at hu
    cases hu
    obtain ⟨v, h1, h2⟩ := so.2 j w hj
    exact ⟨v, h1, hr v h2⟩
  · rw [List.getElem?_set_ne e] at hu
    obtain ⟨v, h1, h2⟩ := so.2 i u hu
    exact ⟨v, h1, wk h2⟩
theorem i_lend {j : Nat} (h : IE K ξ W X e f) : IE K ξ W X e (eLend j f) := PE.of h fun σr H Q q => by
  obtain ⟨N, ζ, μ, σ, wd, so, q⟩ := q
  unfold eLend at q
  split at q
  · exact ⟨N, ζ, μ, σ, wd, so, q⟩
  · rename_i w _ hw
    split at q
    · rename_i d k items el
      obtain ⟨v0, hv0, r0⟩ := so.2 j w hw
      obtain ⟨hk, a, ha, rd⟩ := lend_rv wd r0 el
      have wd' : Wd K N ζ (μ.set k none) H := wd.kill
      have so' : Sok K ξ ζ (MM N ζ (μ.set k none)) H σr (σ.set j (some (.t d))) := so.setR (fun r => r.st (fun _ _ h => h) (fun x n _ z => n (dead_sub x z)) (fun _ _ _ _ e => e)) hw fun v r => (lend_rv wd r el).2.elim fun _ z => z.2
      refine ⟨N, ζ, μ.set k none, σ.set j (some (.t d)), wd', so', ?_⟩
      cases ef : f (σ.set j (some (.t d))) (μ.set k none) with
      | stuck => rw [ef] at q; exact q
      | ok w2 μ2 =>
        rw [ef] at q
        simp only [backE] at q
        split at q
        · rename_i hc
          rw [Bool.and_eq_true] at hc
          intro ζ2 H2 v2 ev2 wd2 r2
          obtain ⟨⟨vs0, g⟩, sub, evB, wdB⟩ := lend_back wd hk ha ev2 wd2 hc.2
          exact q ζ2 H2 v2 evB wdB (lfVal_RV g sub hc.1 r2)
        · exact q.elim
      | ex c x μ2 =>
        rw [ef] at q
        simp only [backE] at q
        split at q
        · rename_i hc
          rw [Bool.and_eq_true] at hc
          intro ζ2 H2 d2 ev2 wd2 xr
          obtain ⟨⟨vs0, g⟩, sub, evB, wdB⟩ := lend_back wd hk ha ev2 wd2 hc.2
          exact q ζ2 H2 d2 evB wdB (lfExc_XR g sub hc.1 xr)
        · exact q.elim
    · exact q.elim
  · exact q.elim
end

/-- a tuple that holds a thing that changes, made a datum for good -/
def frzG (w : Val) (μ : Store) : R Val := match w with
  | .t d => .ok (.t d) μ
  | w => match lendV μ w with
    | some (d, k, _) => .ok (.t d) (μ.set k none)
    | none => .stuck
def eFrzG (f : ME) : ME := e1 frzG f
section
variable {X : Cx} {K : KT} {ξ : Xi} {W : WX} {e : Expr} {f : ME}
theorem i_frzG (h : IE K ξ W X e f) : IE K ξ W X e (eFrzG f) := PE.of h fun σr H Q q => by
  obtain ⟨N, ζ, μ, σ, wd, so, q⟩ := q
  refine (then1 wd so q).mono fun x H1 ⟨ζ1, μ1, w1, ev1, wd1, so1, r1, q1⟩ => ?_
  have key : ∀ w1, RV K ξ ζ1 (MM N ζ1 μ1) H1 x w1 → PostE K ξ W N ζ1 μ1 H1 σr Q (match lendV μ1 w1 with
      | some (d, k, _) => .ok (.t d) (μ1.set k none)
      | none => .stuck) → Q x H1 := fun w1 r1 q2 => by
    split at q2
    · rename_i d k items el
      obtain ⟨hk, a, ha, rd⟩ := lend_rv wd1 r1 el
      have ev : Ev K.tb ζ1 μ1 H1 ζ1 (μ1.set k none) H1 := ⟨fun _ _ h => h, ⟨fun _ _ _ _ h => h, fun _ h => h⟩, fun b hb => .inl (Mof_dead b hb)⟩
      exact q2 ζ1 H1 x ev wd1.kill rd
    · exact q2.elim
  unfold frzG at q1
  split at q1
  · exact q1 ζ1 H1 x Ev.refl wd1 r1
  · exact key _ r1 q1
end

/-! ### tuples that hold things that change -/
def gTupG (ws : List Val) (μ : Store) : R Val := if ws.length ≤ sizeLine then (match flsOf ws with
  | some fs => .ok (.g .tup fs) μ
  | none => .stuck) else .stuck
section
variable {X : Cx} {K : KT} {ξ : Xi} {W : WX} {N : MS} {ζ : List Addr} {μ : Store} {H : Hp} {σr : L2.St} {σ : Sl} {e : Expr} {es : List Expr} {fs : Sl → Store → R (List Val)} {pos : Pos}
theorem i_tupG {x1 : Nat} (hs : IA K ξ W X es fs) : IE K ξ W X (.Tuple es x1 pos) (eN gTupG fs) := PE.of (pe_tup hs) fun σr H Q q => by
  obtain ⟨N, ζ, μ, σ, wd, so, q⟩ := q
  refine (thenN wd so q).mono fun xs H1 ⟨ζ1, μ1, ws, ev1, wd1, so1, r1, q1⟩ => ?_
  unfold gTupG at q1
  split at q1
  · rename_i hl
    split at q1
    · rename_i gs eg
      refine ⟨by rw [r1.len]; exact hl, fun p hp => ?_⟩
      have wdn := wd1.new (o := .tup xs) hp
      have evn : Ev K.tb ζ1 μ1 H1 ζ1 μ1 (upd H1 p (.tup xs)) := Ev.new hp
      have nM : ¬ MM N ζ1 μ1 p := wd1.no hp
      have r2 := flsOf_FRs r1 eg
      exact q1 ζ1 _ _ evn wdn ⟨p, xs, rfl, nM, upd_same, FRs.st (fun _ _ h => h) (fun _ n _ => n) (fun b o _ _ h => by rw [upd_ne (ne_of_none h hp)]; exact h) r2⟩
    · exact q1.elim
  · exact q1.elim
end
section
variable {X : Cx} {K : KT} {ξ : Xi} {W : WX} {M : MS} {H : Hp} {a b : Expr} {fa fb : ME} {pos : Pos}
theorem FRs.at {ζ : List Addr} {f : Fl} : ∀ {vs : List V} {fs : List Fl} {i : Nat}, FRs K ζ M H vs fs → fs[i]? = some f → ∃ v, vs[i]? = some v ∧ FR K ζ M H v f
  | [], [], _, _, e => by simp at e
  | v :: _, g :: _, 0, h, e => by
    obtain rfl : g = f := Option.some.inj e
    exact ⟨v, rfl, h.1⟩
  | _ :: _, _ :: _, i + 1, h, e => FRs.at (i := i) h.2 e
  | [], _ :: _, _, h, _ => h.elim
  | _ :: _, [], _, h, _ => h.elim
end
section
variable {μ : Store} {σ : Sl} {f : ME} {j : Nat}
theorem eLend_t {d : PV} (h : σ[j]? = some (some (.t d))) : eLend j f σ μ = f σ μ := by unfold eLend; rw [h]
theorem eLend_c {k : Nat} {items : List PV} (h : σ[j]? = some (some (.c k))) (hk : μ[k]? = some (some (.lst items))) : eLend j f σ μ = backE k items (f (σ.set j (some (.t (.lst items)))) (μ.set k none)) := by
  unfold eLend
  rw [h]
  simp only [lendV, hk]
theorem backE_ok {k : Nat} {items : List PV} {w : Val} (h : lfVal w = true) (hs : lfStore μ = true) : backE k items (.ok w μ) = .ok w (μ.set k (some (.lst items))) := by
  show (if (lfVal w && lfStore μ) = true then _ else _) = _
  rw [h, hs]; rfl
theorem backE_ex {k : Nat} {items : List PV} {c : Str} {x : Option (Str × PV)} (h : lfExc x = true) (hs : lfStore μ = true) : backE k items (.ex c x μ) = .ex c x (μ.set k (some (.lst items))) := by
  show (if (lfExc x && lfStore μ) = true then _ else _) = _
  rw [h, hs]; rfl
end
end PM
namespace PM
open PySem PySem.Spec PyProof.Rows L2
section
variable {α β : Type} {μ : Store} {σ : Sl} {fa fb fc : ME} {ta tb : Sl → Store → R Bool} {fs : Sl → Store → R (List Val)} {A B : MSt}
@[simp] theorem bind_ok {a : α} {k : α → Store → R β} : (R.ok a μ).bind k = k a μ := (rfl)
@[simp] theorem bind_ex {c f} {k : α → Store → R β} : (R.ex c f μ).bind k = .ex c f μ := (rfl)
@[simp] theorem bind_stuck {k : α → Store → R β} : (R.stuck).bind k = .stuck := (rfl)
@[simp] theorem st_ok {a : α} {k : α → Store → RS} : (R.ok a μ).st σ k = k a μ := (rfl)
@[simp] theorem st_ex {c f} {k : α → Store → RS} : (R.ex c f μ).st σ k = .ex c f σ μ := (rfl)
@[simp] theorem seq_nx {k : Sl → Store → RS} : (RS.nx σ μ).seq k = k σ μ := (rfl)
@[simp] theorem seq_rt {w : Val} {k : Sl → Store → RS} : (RS.rt w μ).seq k = .rt w μ := (rfl)
@[simp] theorem seq_ct {k : Sl → Store → RS} : (RS.ct σ μ).seq k = .ct σ μ := (rfl)
@[simp] theorem seq_bk {k : Sl → Store → RS} : (RS.bk σ μ).seq k = .bk σ μ := (rfl)
@[simp] theorem seq_ex {c f} {k : Sl → Store → RS} : (RS.ex c f σ μ).seq k = .ex c f σ μ := (rfl)
@[simp] theorem noex_ok {a : α} : (R.ok a μ).noex = .ok a μ := (rfl)
@[simp] theorem sSeq_eq : sSeq A B σ μ = (A σ μ).seq B := (rfl)
@[simp] theorem sIf_eq : sIf ta A B σ μ = (ta σ μ).st σ fun k μ1 => if k then A σ μ1 else B σ μ1 := (rfl)
@[simp] theorem sRet_eq : sRet fa σ μ = (fa σ μ).st σ fun w μ1 => .rt w μ1 := (rfl)
@[simp] theorem sExp_eq : sExp fa σ μ = (fa σ μ).st σ fun _ μ1 => .nx σ μ1 := (rfl)
@[simp] theorem sPass_eq : sPass σ μ = .nx σ μ := (rfl)
@[simp] theorem sAsg_nm {i : Nat} : sAsg (.nm i) fa σ μ = (fa σ μ).st σ fun w μ1 => .nx (σ.set i (some w)) μ1 := by
  unfold sAsg
  cases fa σ μ <;> first | rfl | (show RS.seq _ _ = _; rfl) | simp [asg]
theorem sAsg_tp {ts : List Tgt} : sAsg (.tp ts) fa σ μ = (fa σ μ).st σ fun w μ1 => match asg (.tp ts) w σ with
  | some σ1 => .nx σ1 μ1
  | none => .stuck := (rfl)
@[simp] theorem sFor_eq {it : Sl → Store → R (List PV)} {T : Tgt} : sFor it T B σ μ = (it σ μ).st σ fun items μ1 => forL T B items σ μ1 := (rfl)
@[simp] theorem eV_eq {i : Nat} : eV i σ μ = match σ[i]? with
  | some (some w) => .ok w μ
  | _ => .stuck := (rfl)
@[simp] theorem eC_eq {d : PV} : eC d σ μ = .ok (.t d) μ := (rfl)
@[simp] theorem e1_eq {g : Val → Store → R α} : e1 g fa σ μ = (fa σ μ).bind g := (rfl)
@[simp] theorem e2_eq {g : Val → Val → Store → R α} : e2 g fa fb σ μ = (fa σ μ).bind fun w μ1 => (fb σ μ1).bind fun u μ2 => g w u μ2 := (rfl)
@[simp] theorem eN_eq {g : List Val → Store → R α} : eN g fs σ μ = (fs σ μ).bind g := (rfl)
@[simp] theorem aNil_eq : aNil σ μ = .ok [] μ := (rfl)
@[simp] theorem aCons_eq : aCons fa fs σ μ = (fa σ μ).bind fun w μ1 => (fs σ μ1).bind fun ws μ2 => .ok (w :: ws) μ2 := (rfl)
@[simp] theorem eAnd_eq : eAnd fa fb σ μ = (fa σ μ).bind (gBl fun c μ1 => if c then fb σ μ1 else .ok (.t (.bl false)) μ1) := (rfl)
@[simp] theorem eNot_eq : eNot fa σ μ = (fa σ μ).bind (gBl fun c μ1 => .ok (.t (.bl (!c))) μ1) := (rfl)
@[simp] theorem tVal_eq : tVal fa σ μ = (fa σ μ).bind (gBl fun c μ1 => .ok c μ1) := (rfl)
@[simp] theorem tAnd_eq : tAnd' ta tb σ μ = (ta σ μ).bind fun k μ1 => if k then tb σ μ1 else .ok false μ1 := (rfl)
@[simp] theorem tOr_eq : tOr' ta tb σ μ = (ta σ μ).bind fun k μ1 => if k then .ok true μ1 else tb σ μ1 := (rfl)
@[simp] theorem tNot_eq : tNot' ta σ μ = (ta σ μ).bind fun k μ1 => .ok (!k) μ1 := (rfl)
@[simp] theorem tYes_eq : tYes' σ μ = .ok true μ := (rfl)
@[simp] theorem gBl_bl {b : Bool} {k : Bool → Store → R α} : gBl k (.t (.bl b)) μ = k b μ := (rfl)
@[simp] theorem eOfF_eq {f : Sl → Store → R (List PV)} : eOfF f σ μ = (f σ μ).bind fun ds μ1 => .ok (.t (.lst ds)) μ1 := (rfl)
@[simp] theorem eCellF_eq {f : Sl → Store → R (List PV)} : eCellF f σ μ = (f σ μ).bind fun ds μ1 => .ok (.c μ1.length) (μ1 ++ [some (.lst ds)]) := (rfl)
@[simp] theorem lcF_eq {it : Sl → Store → R (List PV)} {T : Tgt} : lcF it T ta fa σ μ = (it σ μ).bind fun items μ1 => (lcL T ta fa items (wipeM σ T.sl) μ1).bind szF := (rfl)
@[simp] theorem view_t {d : PV} : view μ (.t d) = some d := (rfl)
@[simp] theorem p1_t {g : PV → Option PV} {d : PV} : p1 g (.t d) μ = OR.ok μ ((g d).map .t) := (rfl)
@[simp] theorem p2_t {g : PV → PV → Option PV} {d e : PV} : p2 g (.t d) (.t e) μ = OR.ok μ ((g d e).map .t) := (rfl)
@[simp] theorem pf1_t {g : PV → Option (List PV)} {d : PV} : pf1 g (.t d) μ = OR.ok μ (g d) := (rfl)
@[simp] theorem pf2_t {g : PV → PV → Option (List PV)} {d e : PV} : pf2 g (.t d) (.t e) μ = OR.ok μ (g d e) := (rfl)
@[simp] theorem pN_1 {g : List PV → Option PV} {d : PV} : pN g [.t d] μ = OR.ok μ ((g [d]).map .t) := (rfl)
@[simp] theorem pN_2 {g : List PV → Option PV} {d e : PV} : pN g [.t d, .t e] μ = OR.ok μ ((g [d, e]).map .t) := (rfl)
@[simp] theorem pfN_1 {g : List PV → Option (List PV)} {d : PV} : pfN g [.t d] μ = OR.ok μ (g [d]) := (rfl)
@[simp] theorem orok_some {a : α} : OR.ok μ (some a) = .ok a μ := (rfl)
@[simp] theorem orok_none : OR.ok μ (none : Option α) = .stuck := (rfl)
@[simp] theorem gIt_lst {l : List PV} : gIt (.t (.lst l)) μ = .ok l μ := (rfl)
@[simp] theorem gIt_tup {l : List PV} : gIt (.t (.tup l)) μ = .ok l μ := (rfl)
@[simp] theorem gEnum_lst {l : List PV} : gEnum [.t (.lst l)] μ = .ok (enumP l) μ := (rfl)
@[simp] theorem gEnum_tup {l : List PV} : gEnum [.t (.tup l)] μ = .ok (enumP l) μ := (rfl)
@[simp] theorem lenV_lst {l : List PV} : lenV [.lst l] = some (.int l.length) := (rfl)
@[simp] theorem lenV_tup {l : List PV} : lenV [.tup l] = some (.int l.length) := (rfl)
@[simp] theorem tupleV_lst {l : List PV} : tupleV [.lst l] = some (.tup l) := (rfl)
@[simp] theorem tupleV_tup {l : List PV} : tupleV [.tup l] = some (.tup l) := (rfl)
@[simp] theorem listF_lst {l : List PV} : listF [.lst l] = some l := (rfl)
@[simp] theorem listF_tup {l : List PV} : listF [.tup l] = some l := (rfl)
@[simp] theorem addV_int {i j : Int} : addV (.int i) (.int j) = some (.int (i + j)) := (rfl)
@[simp] theorem negV_int {i : Int} : negV (.int i) = some (.int (-i)) := (rfl)
@[simp] theorem ltV_int {i j : Int} : ltV (.int i) (.int j) = some (.bl (decide (i < j))) := (rfl)
@[simp] theorem leV_int {i j : Int} : leV (.int i) (.int j) = some (.bl (decide (i ≤ j))) := (rfl)
@[simp] theorem gtV_int {i j : Int} : gtV (.int i) (.int j) = some (.bl (decide (j < i))) := (rfl)
@[simp] theorem geV_int {i j : Int} : geV (.int i) (.int j) = some (.bl (decide (j ≤ i))) := (rfl)
@[simp] theorem intV_bl {b : Bool} : intV [.bl b] = some (.int (if b then 1 else 0)) := (rfl)
@[simp] theorem intV_int {i : Int} : intV [.int i] = some (.int i) := (rfl)
@[simp] theorem atV_lst {l : List PV} {i : Int} : atV (.lst l) (.int i) = atI l i := (rfl)
@[simp] theorem atV_tup {l : List PV} {i : Int} : atV (.tup l) (.int i) = atI l i := (rfl)
@[simp] theorem slV_lst {l : List PV} {lo hi : Option Int} : slV lo hi (.lst l) = some (.lst (cutG l lo hi)) := (rfl)
@[simp] theorem slV_tup {l : List PV} {lo hi : Option Int} : slV lo hi (.tup l) = some (.tup (cutG l lo hi)) := (rfl)
@[simp] theorem slF_lst {l : List PV} {lo hi : Option Int} : slF lo hi (.lst l) = some (cutG l lo hi) := (rfl)
@[simp] theorem revV_lst {l : List PV} : revV (.lst l) = some (.lst l.reverse) := (rfl)
@[simp] theorem revV_tup {l : List PV} : revV (.tup l) = some (.tup l.reverse) := (rfl)
@[simp] theorem eSl_eq {g : Option Int → Option Int → Val → Store → R α} {lo hi : MO} : eSl g fa lo hi σ μ = (fa σ μ).bind fun w μ1 => (lo σ μ1).bind fun l μ2 => (hi σ μ2).bind fun h μ3 => g l h w μ3 := (rfl)
@[simp] theorem oNone_eq : oNone σ μ = .ok none μ := (rfl)
@[simp] theorem gOpt_int {i : Int} : gOpt (.t (.int i)) μ = .ok (some i) μ := (rfl)
@[simp] theorem oSome_eq : oSome fa σ μ = (fa σ μ).bind gOpt := (rfl)
theorem mod_ok {i j : Int} (h : 0 < j) : modV (.int i) (.int j) = some (.int (i % j)) := if_pos h
theorem fdiv_ok {i j : Int} (h : 0 < j) (h2 : j < 1073741824) : fdivV (.int i) (.int j) = some (.int (i / j)) := if_pos (by rw [Bool.and_eq_true]; exact ⟨Nat.ble_eq_true_of_le (by omega), Nat.ble_eq_true_of_le (by omega)⟩)
theorem gTup_ok {ws : List Val} {ds : List PV} (h : asT ws = some ds) (hl : ws.length ≤ sizeLine) : gTup ws μ = .ok (.t (.tup ds)) μ := by unfold gTup; rw [if_pos hl, h]; rfl
theorem gLst_ok {ws : List Val} {ds : List PV} (h : asT ws = some ds) (hl : ws.length ≤ sizeLine) : gLst ws μ = .ok ds μ := by unfold gLst; rw [if_pos hl, h]; rfl
end
end PM
namespace PM
open PySem PySem.Spec PyProof.Rows L2
/-! ### walking in the machine -/
section
variable {T : Tgt} {test : Sl → Store → R Bool} {elt : ME} {B : MSt}
theorem lcL_map {items : List PV} {σ : Sl} {μ : Store} (f : PV → PV) (h : ∀ d ∈ items, ∃ σ1, asg T (.t d) σ = some σ1 ∧ test σ1 μ = .ok true μ ∧ elt σ1 μ = .ok (.t (f d)) μ) : lcL T test elt items σ μ = .ok (items.map f) μ := by
  induction items with
  | nil => rfl
  | cons d ds ih =>
    obtain ⟨σ1, h1, h2, h3⟩ := h d List.mem_cons_self
    unfold lcL
    rw [h1]
    simp only [h2, h3, noex_ok, bind_ok, if_true, gT]
    rw [ih fun d hd => h d (List.mem_cons_of_mem _ hd)]
    rfl
/-- a loop, by what is kept -/
theorem forL_inv {items : List PV} {σ : Sl} {μ : Store} (I : Nat → Sl → Store → Prop) (Post : RS → Prop) (h0 : I 0 σ μ)
    (step : ∀ (i : Nat) d σ μ, items[i]? = some d → I i σ μ → ∃ σ1, asg T (.t d) σ = some σ1 ∧ ((∃ σ2 μ2, (B σ1 μ = .nx σ2 μ2 ∨ B σ1 μ = .ct σ2 μ2) ∧ I (i + 1) σ2 μ2) ∨ (∃ w μ2, B σ1 μ = .rt w μ2 ∧ Post (.rt w μ2)) ∨ (∃ c f σ2 μ2, B σ1 μ = .ex c f σ2 μ2 ∧ Post (.ex c f σ2 μ2))))
    (last : ∀ σ μ, I items.length σ μ → Post (.nx σ μ)) : Post (forL T B items σ μ) := by
  induction items generalizing σ μ I with
  | nil => exact last σ μ h0
  | cons d ds ih =>
    obtain ⟨σ1, h1, h2⟩ := step 0 d σ μ rfl h0
    unfold forL
    rw [h1]
    rcases h2 with ⟨σ2, μ2, h2, h3⟩ | ⟨w, μ2, h2, h3⟩ | ⟨c, f, σ2, μ2, h2, h3⟩
    · have k := ih (fun i => I (i + 1)) h3 (fun i d σ μ hd hi => step (i + 1) d σ μ hd hi) last
      rcases h2 with h2 | h2 <;> simp only [h2] <;> exact k
    · simp only [h2]; exact h3
    · simp only [h2]; exact h3
end
/-! ### what is flat and not deep -/
def SD : Nat → PV → Prop
  | _, .non => True
  | _, .bl _ => True
  | _, .int _ => True
  | _, .str _ => True
  | n + 1, .tup l => l.length ≤ 100000 ∧ ∀ x ∈ l, SD n x
  | n + 1, .lst l => l.length ≤ 100000 ∧ ∀ x ∈ l, SD n x
  | _, _ => False
theorem flats_iff {l : List PV} : flats l = true ↔ ∀ x ∈ l, x.flat = true := by
  induction l with
  | nil => simp [flats]
  | cons a l ih => simp [flats, ih]
theorem datas_map (l : List PV) : datas l = l.map PV.data := by
  induction l with
  | nil => simp [datas]
  | cons a l ih => simp [datas, ih]
theorem depthAll_le {l : List PyData} {n : Nat} : PyData.depthAll l ≤ n ↔ ∀ x ∈ l, x.depth ≤ n := by
  induction l with
  | nil => simp [PyData.depthAll]
  | cons a l ih =>
    show max a.depth (PyData.depthAll l) ≤ n ↔ _
    rw [Nat.max_le, ih]
    simp
theorem SD_tup {n : Nat} {l : List PV} : SD (n + 1) (.tup l) ↔ l.length ≤ 100000 ∧ ∀ x ∈ l, SD n x := by rw [SD]
theorem SD_lst {n : Nat} {l : List PV} : SD (n + 1) (.lst l) ↔ l.length ≤ 100000 ∧ ∀ x ∈ l, SD n x := by rw [SD]
@[simp] theorem SD_int {n : Nat} {i : Int} : SD n (.int i) := by rw [SD]; trivial
@[simp] theorem SD_bl {n : Nat} {i : Bool} : SD n (.bl i) := by rw [SD]; trivial
@[simp] theorem SD_str {n : Nat} {i : Str} : SD n (.str i) := by rw [SD]; trivial
@[simp] theorem SD_non {n : Nat} : SD n .non := by rw [SD]; trivial
theorem SD_0t {l : List PV} : ¬ SD 0 (.tup l) := by rw [SD] <;> simp
theorem SD_0l {l : List PV} : ¬ SD 0 (.lst l) := by rw [SD] <;> simp
theorem SD_dic {n : Nat} {b : Bool} {k l : List PV} : ¬ SD n (.dic b k l) := by cases n <;> (rw [SD] <;> simp)
theorem SD_obj {n : Nat} {C : Str} {k : List Str} {l : List PV} : ¬ SD n (.obj C k l) := by cases n <;> (rw [SD] <;> simp)
theorem SD.tupE {n : Nat} {l : List PV} (h : SD n (.tup l)) : ∃ m, n = m + 1 ∧ l.length ≤ 100000 ∧ ∀ x ∈ l, SD m x := by
  cases n with
  | zero => exact absurd h SD_0t
  | succ m => exact ⟨m, rfl, SD_tup.mp h⟩
theorem SD.lstE {n : Nat} {l : List PV} (h : SD n (.lst l)) : ∃ m, n = m + 1 ∧ l.length ≤ 100000 ∧ ∀ x ∈ l, SD m x := by
  cases n with
  | zero => exact absurd h SD_0l
  | succ m => exact ⟨m, rfl, SD_lst.mp h⟩
theorem SD.fd {n : Nat} : ∀ {d : PV}, SD n d → d.flat = true ∧ d.data.depth ≤ n := by
  induction n with
  | zero =>
    intro d h
    cases d with
    | tup l => exact absurd h SD_0t
    | lst l => exact absurd h SD_0l
    | dic k l => exact absurd h SD_dic
    | obj C k l => exact absurd h SD_obj
    | _ => exact ⟨rfl, by simp only [PV.data]; exact Nat.zero_le _⟩
  | succ n ih =>
    intro d h
    cases d with
    | tup l =>
      have hl := (SD_tup.mp h).2
      refine ⟨by simp only [PV.flat]; exact flats_iff.mpr fun x hx => (ih (hl x hx)).1, ?_⟩
      have e : (PV.tup l).data.depth = PyData.depthAll (datas l) + 1 := by simp only [PV.data]; rfl
      rw [e, Nat.add_le_add_iff_right, depthAll_le, datas_map]
      intro x hx
      obtain ⟨y, hy, rfl⟩ := List.mem_map.mp hx
      exact (ih (hl y hy)).2
    | lst l =>
      have hl := (SD_lst.mp h).2
      refine ⟨by simp only [PV.flat]; exact flats_iff.mpr fun x hx => (ih (hl x hx)).1, ?_⟩
      have e : (PV.lst l).data.depth = PyData.depthAll (datas l) + 1 := by simp only [PV.data]; rfl
      rw [e, Nat.add_le_add_iff_right, depthAll_le, datas_map]
      intro x hx
      obtain ⟨y, hy, rfl⟩ := List.mem_map.mp hx
      exact (ih (hl y hy)).2
    | dic k l => exact absurd h SD_dic
    | obj C k l => exact absurd h SD_obj
    | _ => exact ⟨rfl, by simp only [PV.data]; exact Nat.zero_le _⟩
theorem SD.up {n m : Nat} {d : PV} (h : SD n d) (k : n ≤ m) : SD m d := by
  induction n generalizing m d with
  | zero => cases d <;> first | simp | exact absurd h SD_0t | exact absurd h SD_0l | exact absurd h SD_dic | exact absurd h SD_obj
  | succ n ih =>
    cases m with
    | zero => omega
    | succ m =>
      cases d with
      | tup l => rw [SD_tup] at h ⊢; exact ⟨h.1, fun x hx => ih (h.2 x hx) (by omega)⟩
      | lst l => rw [SD_lst] at h ⊢; exact ⟨h.1, fun x hx => ih (h.2 x hx) (by omega)⟩
      | dic k l => exact absurd h SD_dic
      | obj C k l => exact absurd h SD_obj
      | _ => simp
theorem SD.ok {n : Nat} {d : PV} (h : SD n d) (k : n ≤ 64 := by decide) : okD d = true := by
  unfold okD
  rw [h.fd.1, decide_eq_true (Nat.le_trans h.fd.2 k)]; rfl
theorem SD.ty {n : Nat} {d : PV} (h : SD n d) : tyN d ≠ none := by
  cases d <;> first | (intro z; cases z; done) | exact absurd h SD_obj
theorem SD_ints {n : Nat} {l : List Int} : ∀ x ∈ l.map PV.int, SD n x := fun x hx => by
  obtain ⟨i, _, rfl⟩ := List.mem_map.mp hx
  exact SD_int
theorem eq_ok {x y : PV} (hx : okD x = true) (hy : okD y = true) : eqV x y = some (.bl (eqB x y)) := by unfold eqV; rw [hx, hy]; rfl
theorem ne_ok {x y : PV} (hx : okD x = true) (hy : okD y = true) : neV x y = some (.bl (!eqB x y)) := by unfold neV; rw [hx, hy]; rfl
@[simp] theorem eqV_int {i j : Int} : eqV (.int i) (.int j) = some (.bl (decide (i = j))) := by
  rw [eq_ok (SD_int (n := 0)).ok (SD_int (n := 0)).ok]
  simp only [eqB, PV.data, PyData.eqv, Bool.beq_eq_decide_eq]
@[simp] theorem neV_int {i j : Int} : neV (.int i) (.int j) = some (.bl (!decide (i = j))) := by
  rw [ne_ok (SD_int (n := 0)).ok (SD_int (n := 0)).ok]
  simp only [eqB, PV.data, PyData.eqv, Bool.beq_eq_decide_eq]
/-! ### lists of ints -/
abbrev tupI (l : List Int) : PV := .tup (l.map .int)
abbrev lstI (l : List Int) : PV := .lst (l.map .int)
theorem atI_nat' {α : Type} {l : List α} {i : Nat} (h : i < l.length) : atI l (i : Int) = some l[i] := by
  have := WD.atI_ok (xs := l) (i := (i : Int)) (by omega) (by simpa using h)
  simpa using this
theorem at_int {l : List Int} {i : Nat} (h : i < l.length) : atI (l.map PV.int) (i : Int) = some (.int (l.getD i 0)) := by
  rw [atI_nat' (by rw [List.length_map]; exact h), List.getElem_map, List.getD_eq_getElem?_getD, List.getElem?_eq_getElem h]; rfl
/-! ### the well -/
abbrev wl (a b c : Int) : Option Cell := some (.lst [.int a, .int b, .int c])
def isThingB (n : Int) : PV → Bool
  | .int i => decide (0 ≤ i) && decide (i < n)
  | _ => false
end PM
namespace PM
open PySem PySem.Spec PyProof.Rows L2
@[simp] theorem plain_t {d : PV} : (Val.t d).plain = true := (rfl)
@[simp] theorem plain_c {k : Nat} : (Val.c k).plain = true := (rfl)
@[simp] theorem gCall_1 {fn : Fn} {d : PV} {μ : Store} : gCall 1 fn [.t d] μ = fn [.t d] μ := (rfl)
@[simp] theorem gCall_1c {fn : Fn} {k : Nat} {μ : Store} : gCall 1 fn [.c k] μ = fn [.c k] μ := (rfl)
@[simp] theorem gCall_2 {fn : Fn} {d e : PV} {μ : Store} : gCall 2 fn [.t d, .t e] μ = fn [.t d, .t e] μ := (rfl)
@[simp] theorem gCall_2c {fn : Fn} {k : Nat} {e : PV} {μ : Store} : gCall 2 fn [.c k, .t e] μ = fn [.c k, .t e] μ := (rfl)
@[simp] theorem gCall_3 {fn : Fn} {d e f : PV} {μ : Store} : gCall 3 fn [.t d, .t e, .t f] μ = fn [.t d, .t e, .t f] μ := (rfl)
@[simp] theorem gCall_3c {fn : Fn} {k : Nat} {e f : PV} {μ : Store} : gCall 3 fn [.c k, .t e, .t f] μ = fn [.c k, .t e, .t f] μ := (rfl)
@[simp] theorem gCall_4 {fn : Fn} {d e f g : PV} {μ : Store} : gCall 4 fn [.t d, .t e, .t f, .t g] μ = fn [.t d, .t e, .t f, .t g] μ := (rfl)
@[simp] theorem gCall_4c {fn : Fn} {k : Nat} {e f g : PV} {μ : Store} : gCall 4 fn [.c k, .t e, .t f, .t g] μ = fn [.c k, .t e, .t f, .t g] μ := (rfl)
@[simp] theorem endM_rt {n : Nat} {d : PV} {μ : Store} : endM n (.rt (.t d) μ) = .ok (.t d) (μ.take n) := (rfl)
@[simp] theorem endM_nx {n : Nat} {σ : Sl} {μ : Store} : endM n (.nx σ μ) = .ok (.t .non) (μ.take n) := (rfl)
@[simp] theorem endM_ex {n : Nat} {c : Str} {f} {σ : Sl} {μ : Store} : endM n (.ex c f σ μ) = .ex c f (μ.take n) := (rfl)
@[simp] theorem endM_rc {n k : Nat} {μ : Store} : endM n (.rt (.c k) μ) = fin n (.c k) μ := (rfl)
@[simp] theorem isTy_non {T : String} : isTy T .non = some (.bl (subT "NoneType" T)) := (rfl)
@[simp] theorem isTy_bl {T : String} {b : Bool} : isTy T (.bl b) = some (.bl (subT "bool" T)) := (rfl)
@[simp] theorem isTy_int {T : String} {b : Int} : isTy T (.int b) = some (.bl (subT "int" T)) := (rfl)
@[simp] theorem isTy_str {T : String} {b : Str} : isTy T (.str b) = some (.bl (subT "str" T)) := (rfl)
@[simp] theorem isTy_tup {T : String} {b : List PV} : isTy T (.tup b) = some (.bl (subT "tuple" T)) := (rfl)
@[simp] theorem isTy_lst {T : String} {b : List PV} : isTy T (.lst b) = some (.bl (subT "list" T)) := (rfl)
@[simp] theorem isTy_dic {T : String} {k : Bool} {b c : List PV} : isTy T (.dic k b c) = some (.bl (subT "dict" T)) := (rfl)
@[simp] theorem asg_nm {i : Nat} {w : Val} {σ : Sl} : asg (.nm i) w σ = some (σ.set i (some w)) := by unfold asg; rfl
@[simp] theorem asg_tp {ts : List Tgt} {ds : List PV} {σ : Sl} : asg (.tp ts) (.t (.tup ds)) σ = asgs ts (ds.map .t) σ := by
  rw [asg]
@[simp] theorem asgs_nil {σ : Sl} : asgs [] [] σ = some σ := by unfold asgs; rfl
@[simp] theorem asgs_cons {t : Tgt} {ts : List Tgt} {d : Val} {ds : List Val} {σ : Sl} : asgs (t :: ts) (d :: ds) σ = match asg t d σ with
    | some σ1 => asgs ts ds σ1
    | none => none := by first | (rw [asgs]; rfl) | rw [asgs]
@[simp] theorem sl_nm {i : Nat} : (Tgt.nm i).sl = [i] := by unfold Tgt.sl; rfl
@[simp] theorem sl_tp {ts : List Tgt} : (Tgt.tp ts).sl = sls ts := by unfold Tgt.sl; rfl
@[simp] theorem sls_nil : sls [] = [] := by unfold sls; rfl
@[simp] theorem sls_cons {t : Tgt} {ts : List Tgt} : sls (t :: ts) = t.sl ++ sls ts := by rw [sls]
@[simp] theorem asT_nil : asT [] = some [] := (rfl)
@[simp] theorem asT_cons {d : PV} {ws : List Val} : asT (.t d :: ws) = (asT ws).map (d :: ·) := (rfl)
theorem szL (n : Nat) (h : n ≤ 1000000 := by decide) : n ≤ sizeLine := by
  have := sizeLine_eq
  omega
@[simp] theorem gTup_0 {μ : Store} : gTup [] μ = .ok (.t (.tup [])) μ := (rfl)
@[simp] theorem gTup_1 {a : PV} {μ : Store} : gTup [.t a] μ = .ok (.t (.tup [a])) μ := gTup_ok rfl (szL 1)
@[simp] theorem gTup_2 {a b : PV} {μ : Store} : gTup [.t a, .t b] μ = .ok (.t (.tup [a, b])) μ := gTup_ok rfl (szL 2)
@[simp] theorem gTup_3 {a b c : PV} {μ : Store} : gTup [.t a, .t b, .t c] μ = .ok (.t (.tup [a, b, c])) μ := gTup_ok rfl (szL 3)
@[simp] theorem gTup_4 {a b c d : PV} {μ : Store} : gTup [.t a, .t b, .t c, .t d] μ = .ok (.t (.tup [a, b, c, d])) μ := gTup_ok rfl (szL 4)
@[simp] theorem gLst_0 {μ : Store} : gLst [] μ = .ok [] μ := (rfl)
@[simp] theorem gLst_1 {a : PV} {μ : Store} : gLst [.t a] μ = .ok [a] μ := gLst_ok rfl (szL 1)
@[simp] theorem gLst_2 {a b : PV} {μ : Store} : gLst [.t a, .t b] μ = .ok [a, b] μ := gLst_ok rfl (szL 2)
@[simp] theorem gLst_3 {a b c : PV} {μ : Store} : gLst [.t a, .t b, .t c] μ = .ok [a, b, c] μ := gLst_ok rfl (szL 3)
@[simp] theorem gLst_4 {a b c d : PV} {μ : Store} : gLst [.t a, .t b, .t c, .t d] μ = .ok [a, b, c, d] μ := gLst_ok rfl (szL 4)
@[simp] theorem gLst_5 {a b c d e : PV} {μ : Store} : gLst [.t a, .t b, .t c, .t d, .t e] μ = .ok [a, b, c, d, e] μ := gLst_ok rfl (szL 5)
@[simp] theorem gLst_6 {a b c d e f : PV} {μ : Store} : gLst [.t a, .t b, .t c, .t d, .t e, .t f] μ = .ok [a, b, c, d, e, f] μ := gLst_ok rfl (szL 6)
@[simp] theorem gLst_7 {a b c d e f g : PV} {μ : Store} : gLst [.t a, .t b, .t c, .t d, .t e, .t f, .t g] μ = .ok [a, b, c, d, e, f, g] μ := gLst_ok rfl (szL 7)
@[simp] theorem gLst_8 {a b c d e f g h : PV} {μ : Store} : gLst [.t a, .t b, .t c, .t d, .t e, .t f, .t g, .t h] μ = .ok [a, b, c, d, e, f, g, h] μ := gLst_ok rfl (szL 8)
theorem szF_ok {ds : List PV} {μ : Store} (h : ds.length ≤ sizeLine) : szF ds μ = .ok ds μ := if_pos h
theorem allV_map {α : Type} (l : List α) (f : α → Bool) : allV [.lst (l.map fun d => .bl (f d))] = some (.bl (l.all f)) := by
  have e : (l.map fun d => PV.bl (f d)) = (l.map f).map .bl := by rw [List.map_map]; rfl
  show (blsOf _).map _ = _
  rw [e, blsOf_map]
  simp [List.all_map]
def isIntB : PV → Bool
  | .int _ => true
  | _ => false
def isRowB (d : PV) (w n : Int) : Bool := match d with
  | .tup l => decide ((l.length : Int) = w) && l.all (isThingB n)
  | _ => false
theorem range1_ok {n : Nat} {μ : Store} (h : n ≤ 1000000) : gRange1 [.t (.int (n : Int))] μ = .ok (rgI 0 n) μ := by
  simp only [gRange1]
  rw [if_pos (bnd_of (by omega) (by omega)), Int.toNat_natCast]
theorem rgI_nat (n : Nat) : rgI 0 n = (List.range n).map fun (k : Nat) => .int (k : Int) := by
  unfold rgI
  simp only [Int.zero_add]
end PM
namespace PM
open PySem PySem.Spec PyProof.Rows L2
/-! ### lists of numbers: plain facts -/
theorem getD_mem {l : List Int} {i : Nat} (h : i < l.length) : l.getD i 0 ∈ l := by
  rw [List.getD_eq_getElem?_getD, List.getElem?_eq_getElem h]; exact List.getElem_mem h
theorem row_all {l : List Int} {n : Nat} (h : ∀ x ∈ l, 0 ≤ x ∧ x < (n : Int)) : (l.map PV.int).all (isThingB n) = true := by
  rw [List.all_map, List.all_eq_true]
  intro x hx
  have := h x hx
  simp [isThingB, this.1, this.2]
theorem SD_tupI {l : List Int} {k : Nat} (h : l.length ≤ 100000) : SD (k + 1) (tupI l) := SD_tup.mpr ⟨by rw [List.length_map]; exact h, SD_ints⟩
theorem addF_ok {a b : List PV} (h : a.length + b.length ≤ 1000000) : addF (.lst a) (.lst b) = some (a ++ b) := if_pos (szL _ h)
theorem addV_tup {a b : List PV} (h : a.length + b.length ≤ 1000000) : addV (.tup a) (.tup b) = some (.tup (a ++ b)) := if_pos (szL _ h)
theorem extF_ok {μ : Store} {k : Nat} {ds es : List PV} (h : μ[k]? = some (some (.lst ds))) (hl : ds.length + es.length ≤ 1000000) : gExt (.c k) [.t (.lst es)] μ = .ok (.t .non) (μ.set k (some (.lst (ds ++ es)))) := by
  simp only [gExt, lstAt, h, views, view]
  rw [if_pos (szL _ hl)]
theorem range_at {n i : Nat} {d : PV} (h : (rgI 0 n)[i]? = some d) : i < n ∧ d = .int (i : Int) := by
  rw [rgI_nat, List.getElem?_map] at h
  obtain ⟨b, hb, rfl⟩ := Option.map_eq_some_iff.mp h
  have hi : i < n := by
    have := (List.getElem?_eq_some_iff.mp hb).1
    simpa using this
  rw [List.getElem?_range hi] at hb
  cases hb
  exact ⟨hi, rfl⟩
theorem rgI_len (n : Nat) : (rgI 0 n).length = n := by unfold rgI; simp
theorem enumP_at {l : List PV} {i : Nat} {d : PV} (h : (enumP l)[i]? = some d) : ∃ z, l[i]? = some z ∧ d = .tup [.int (i : Int), z] := enum_at h
theorem inW_mod (x : Int) : inW (x % 2147483647) = true := by
  have h1 := Int.emod_nonneg x (b := 2147483647) (by decide)
  have h2 := Int.emod_lt_of_pos x (b := 2147483647) (by decide)
  exact Nat.ble_eq_true_of_le (by omega)
section
variable {T : Tgt} {B : MSt} {d : PV} {ds : List PV} {σ σ1 σ2 : Sl} {μ μ2 : Store}
theorem forL_nx (h1 : asg T (.t d) σ = some σ1) (h2 : B σ1 μ = .nx σ2 μ2) : forL T B (d :: ds) σ μ = forL T B ds σ2 μ2 := by rw [forL, h1]; simp only [h2]
theorem forL_ex {c : Str} {f : Option (Str × PV)} (h1 : asg T (.t d) σ = some σ1) (h2 : B σ1 μ = .ex c f σ2 μ2) : forL T B (d :: ds) σ μ = .ex c f σ2 μ2 := by rw [forL, h1]; simp only [h2]
end
end PM
namespace PM
open PySem PySem.Spec PyProof.Rows L2
section
variable {μ : Store} {σ : Sl} {fa fb fc : ME} {fs : Sl → Store → R (List Val)}
@[simp] theorem eMeth_eq {C m : Str} {n : Nat} {fn : Fn} : eMeth C m n fn fa fs σ μ = (fa σ μ).bind fun w μ1 => if isObj C m w then (fs σ μ1).bind fun ws μ2 => gCall n fn (w :: ws) μ2 else .stuck := (rfl)
@[simp] theorem eMake_eq {C : Str} {ns : List Str} {n : Nat} {fn : FnI} : eMake C ns n fn fs σ μ = (fs σ μ).bind fun ws μ1 => if ws.all Val.plain && decide (ws.length = n) then (fn ws μ1).bind (mkOb C ns) else .stuck := (rfl)
@[simp] theorem eDNew_eq {b : Bool} : eDNew b σ μ = .ok (.c μ.length) (μ ++ [some (.dic b [] [])]) := (rfl)
@[simp] theorem eFrz_eq : eFrz fa σ μ = (fa σ μ).bind fun w μ => match frz1 μ w with
  | some (w', μ') => .ok w' μ'
  | none => .stuck := (rfl)
theorem frz_lst {k : Nat} {ds : List PV} (h : μ[k]? = some (some (.lst ds))) : frz1 μ (.c k) = some (.t (.lst ds), μ.set k none) := by simp [frz1, h]
theorem frz_dic {k : Nat} {b : Bool} {ks ds : List PV} (h : μ[k]? = some (some (.dic b ks ds))) : frz1 μ (.c k) = some (.t (.dic b ks ds), μ.set k none) := by simp [frz1, h]
@[simp] theorem frz_t {d : PV} : frz1 μ (.t d) = some (.t d, μ) := (rfl)
@[simp] theorem gVals_t {ks vs : List PV} : gVals (.t (.dic false ks vs)) μ = .ok vs μ := (rfl)
@[simp] theorem listF_dic {ks vs : List PV} : listF [.dic false ks vs] = some ks := (rfl)
@[simp] theorem lenV_dic {b : Bool} {ks vs : List PV} : lenV [.dic b ks vs] = some (.int ks.length) := (rfl)
@[simp] theorem at_snoc {α : Type} {l : List α} {x : α} : (l ++ [x])[l.length]? = some x := by simp
@[simp] theorem set_snoc {α : Type} {l : List α} {x y : α} : (l ++ [x]).set l.length y = l ++ [y] := by
  rw [List.set_append_right _ _ (Nat.le_refl _), Nat.sub_self]; rfl
@[simp] theorem take_snoc {α : Type} {l : List α} {x : α} : (l ++ [x]).take l.length = l := by simp
end
/-! ### enumerate, from a place on -/
def enumF : Nat → List PV → List PV
  | _, [] => []
  | k, d :: ds => .tup [.int (k : Int), d] :: enumF (k + 1) ds
theorem enumP_F (l : List PV) : enumP l = enumF 0 l := by
  have key : ∀ (l : List PV) (k : Nat), ((List.range l.length).map (· + k)).zipWith (fun (k : Nat) d => PV.tup [.int (k : Int), d]) l = enumF k l := by
    intro l
    induction l with
    | nil => intro k; rfl
    | cons d ds ih =>
      intro k
      rw [List.length_cons, List.range_succ_eq_map, List.map_cons, List.zipWith_cons_cons, enumF, List.map_map, ← ih (k + 1)]
      congr 1
      · simp
      · congr 1
        exact List.map_congr_left fun a _ => by simp; omega
  have := key l 0
  simpa [enumP] using this
/-! ### small flat data, the texts too -/
def SB : Nat → PV → Prop
  | _, .non => True
  | _, .bl _ => True
  | _, .int _ => True
  | _, .str x => x.length ≤ 1000
  | n + 1, .tup l => l.length ≤ 100000 ∧ ∀ x ∈ l, SB n x
  | n + 1, .lst l => l.length ≤ 100000 ∧ ∀ x ∈ l, SB n x
  | _, _ => False
theorem SB_tup {n : Nat} {l : List PV} : SB (n + 1) (.tup l) ↔ l.length ≤ 100000 ∧ ∀ x ∈ l, SB n x := by rw [SB]
theorem SB_lst {n : Nat} {l : List PV} : SB (n + 1) (.lst l) ↔ l.length ≤ 100000 ∧ ∀ x ∈ l, SB n x := by rw [SB]
@[simp] theorem SB_int {n : Nat} {i : Int} : SB n (.int i) := by rw [SB]; trivial
@[simp] theorem SB_bl {n : Nat} {i : Bool} : SB n (.bl i) := by rw [SB]; trivial
theorem SB_str {n : Nat} {i : Str} : SB n (.str i) ↔ i.length ≤ 1000 := by rw [SB]
@[simp] theorem SB_non {n : Nat} : SB n .non := by rw [SB]; trivial
theorem SB_0t {l : List PV} : ¬ SB 0 (.tup l) := by rw [SB] <;> simp
theorem SB_0l {l : List PV} : ¬ SB 0 (.lst l) := by rw [SB] <;> simp
theorem SB_nodic {n : Nat} {b : Bool} {k l : List PV} : ¬ SB n (.dic b k l) := by cases n <;> (rw [SB] <;> simp)
theorem SB_noobj {n : Nat} {C : Str} {k : List Str} {l : List PV} : ¬ SB n (.obj C k l) := by cases n <;> (rw [SB] <;> simp)
theorem SB.sd {n : Nat} : ∀ {d : PV}, SB n d → SD n d := by
  induction n with
  | zero =>
    intro d h
    cases d <;> first | simp | exact absurd h SB_0t | exact absurd h SB_0l | exact absurd h SB_nodic | exact absurd h SB_noobj
  | succ n ih =>
    intro d h
    cases d with
    | tup l => rw [SB_tup] at h; exact SD_tup.mpr ⟨h.1, fun x hx => ih (h.2 x hx)⟩
    | lst l => rw [SB_lst] at h; exact SD_lst.mpr ⟨h.1, fun x hx => ih (h.2 x hx)⟩
    | dic b k l => exact absurd h SB_nodic
    | obj C k l => exact absurd h SB_noobj
    | _ => simp
theorem SB.up {n m : Nat} {d : PV} (h : SB n d) (k : n ≤ m) : SB m d := by
  induction n generalizing m d with
  | zero => cases d <;> first | simp | (rw [SB_str] at h ⊢; exact h) | exact absurd h SB_0t | exact absurd h SB_0l | exact absurd h SB_nodic | exact absurd h SB_noobj
  | succ n ih =>
    cases m with
    | zero => omega
    | succ m =>
      cases d with
      | tup l => rw [SB_tup] at h ⊢; exact ⟨h.1, fun x hx => ih (h.2 x hx) (by omega)⟩
      | lst l => rw [SB_lst] at h ⊢; exact ⟨h.1, fun x hx => ih (h.2 x hx) (by omega)⟩
      | dic b k l => exact absurd h SB_nodic
      | obj C k l => exact absurd h SB_noobj
      | str x => rw [SB_str] at h ⊢; exact h
      | _ => simp
theorem SB.tupE {n : Nat} {l : List PV} (h : SB n (.tup l)) : ∃ m, n = m + 1 ∧ l.length ≤ 100000 ∧ ∀ x ∈ l, SB m x := by
  cases n with
  | zero => exact absurd h SB_0t
  | succ m => exact ⟨m, rfl, SB_tup.mp h⟩
theorem SB.lstE {n : Nat} {l : List PV} (h : SB n (.lst l)) : ∃ m, n = m + 1 ∧ l.length ≤ 100000 ∧ ∀ x ∈ l, SB m x := by
  cases n with
  | zero => exact absurd h SB_0l
  | succ m => exact ⟨m, rfl, SB_lst.mp h⟩
theorem SB.ty {n : Nat} {d : PV} (h : SB n d) : tyN d ≠ none := h.sd.ty
theorem SB.ok {n : Nat} {d : PV} (h : SB n d) (k : n ≤ 64 := by decide) : okD d = true := h.sd.ok k
theorem SB_ints {n : Nat} {l : List Int} : ∀ x ∈ l.map PV.int, SB n x := fun x hx => by
  obtain ⟨i, _, rfl⟩ := List.mem_map.mp hx
  exact SB_int
theorem SB_tupI {l : List Int} {k : Nat} (h : l.length ≤ 100000) : SB (k + 1) (tupI l) := SB_tup.mpr ⟨by rw [List.length_map]; exact h, SB_ints⟩
/-! ### texts -/
@[simp] theorem gIt_str {z : Str} {μ : Store} : gIt (.t (.str z)) μ = .ok (z.cps.toList.map fun c => .str ⟨#[c]⟩) μ := (rfl)
theorem inPV_sign {c : Nat} {z : Str} : inPV (.str ⟨#[c]⟩) (.str z) = some (.bl (decide (c ∈ z.cps.toList))) := (rfl)
theorem lenV_str {z : Str} (h : z.length ≤ 1000) : lenV [.str z] = some (.int z.length) := if_pos (szL _ (by omega))
theorem str_len (z : Str) : z.length = z.cps.toList.length := by rw [Array.length_toList]; rfl
theorem inW_small {i : Int} (h1 : -1000000 ≤ i) (h2 : i ≤ 1000000) : inW i = true := Nat.ble_eq_true_of_le (by omega)
theorem mulV_ok {i j : Int} (h1 : -1000000 ≤ j) (h2 : j ≤ 1000000) : mulV (.int i) (.int j) = some (.int (i * j)) := by
  simp [mulV, inW_small h1 h2]
theorem mulV_ok' {i j : Int} (h1 : -1000000 ≤ i) (h2 : i ≤ 1000000) : mulV (.int i) (.int j) = some (.int (i * j)) := by
  simp [mulV, inW_small h1 h2]
/-! ### dicts -/
theorem dfind_some {k : PV} : ∀ {ks vs : List PV}, ks.length = vs.length → (dfind ks vs k).isSome = ks.any (keyEq · k)
  | [], [], _ => rfl
  | x :: ks, v :: vs, h => by
    show (if keyEq x k then some v else dfind ks vs k).isSome = (keyEq x k || ks.any (keyEq · k))
    cases keyEq x k
    · simpa using dfind_some (Nat.succ.inj h)
    · rfl
  | [], _ :: _, h => by cases h
  | _ :: _, [], h => by cases h
theorem dput_new {ks vs : List PV} {k d : PV} (h : ks.any (keyEq · k) = false) : dput ks vs k d = (ks ++ [k], vs ++ [d]) := by
  unfold dput; rw [h]; rfl
@[simp] theorem keyEq_str {x y : Str} : keyEq (.str x) (.str y) = decide (x = y) := (rfl)
theorem eqB_str {x y : Str} : eqB (.str x) (.str y) = decide (x = y) := by simp only [eqB, PV.data, PyData.eqv, Bool.beq_eq_decide_eq]
@[simp] theorem keyB_str {x : Str} : keyB false (.str x) = true := (rfl)
theorem inPV_dic {b : Bool} {ks vs : List PV} {k : PV} (h : keyB b k = true) : inPV k (.dic b ks vs) = some (.bl (dfind ks vs k).isSome) := by
  unfold inPV inV'
  split <;> first | (cases h; done) | skip
  all_goals first
    | (rename_i h1 h2; cases h2; done)
    | skip
  · rename_i heq; cases heq; simp [h]
  all_goals simp_all
end PM
/-! texts as lists of signs -/
namespace PM
open PySem PySem.Spec PyProof.Rows L2
def sg (l : List Nat) : Str := ⟨l.toArray⟩
@[simp] theorem sg_list (l : List Nat) : (sg l).cps.toList = l := (rfl)
@[simp] theorem sg_len (l : List Nat) : (sg l).length = l.length := by rw [str_len, sg_list]
@[simp] theorem sg_inj {l m : List Nat} : sg l = sg m ↔ l = m := by
  refine ⟨fun h => ?_, fun h => by rw [h]⟩
  have := congrArg (fun z : Str => z.cps.toList) h
  simpa using this
theorem sg_app (l m : List Nat) : sg l ++ sg m = sg (l ++ m) := by
  show (⟨l.toArray ++ m.toArray⟩ : Str) = _
  unfold sg
  congr 1
  simp
theorem sg_of (z : Str) : z = sg z.cps.toList := by
  unfold sg
  cases z
  simp
theorem sg_cut (l : List Nat) (lo hi : Option Int) : cutS (sg l) lo hi = sg (cutG l lo hi) := by
  unfold cutS cutG
  rw [sg_len, sg_list]
  rfl
theorem sg_ok {l : List Nat} : PyData.strOk (sg l) = true ↔ ∀ c ∈ l, c < 0x110000 := by
  unfold PyData.strOk sg
  simp
theorem addV_sg {l m : List Nat} (h : l.length + m.length ≤ 1000000) : addV (.str (sg l)) (.str (sg m)) = some (.str (sg (l ++ m))) := by
  show (if (sg l).length + (sg m).length ≤ sizeLine then _ else _) = _
  rw [if_pos (by rw [sg_len, sg_len]; exact szL _ h), sg_app]
theorem slV_sg {l : List Nat} {lo hi : Option Int} (h : l.length ≤ 1000000) : slV lo hi (.str (sg l)) = some (.str (sg (cutG l lo hi))) := by
  show (if (sg l).length ≤ sizeLine then _ else _) = _
  rw [if_pos (by rw [sg_len]; exact szL _ h), sg_cut]
theorem atV_sg {l : List Nat} {i : Nat} (h : l.length ≤ 1000000) (hi : i < l.length) : atV (.str (sg l)) (.int (i : Int)) = some (.str (sg [l[i]])) := by
  show (if (sg l).length ≤ sizeLine then _ else _) = _
  rw [if_pos (by rw [sg_len]; exact szL _ h), sg_list, atI_nat' hi]
  rfl
theorem lenV_sg {l : List Nat} (h : l.length ≤ 1000000) : lenV [.str (sg l)] = some (.int l.length) := by
  show (if (sg l).length ≤ sizeLine then _ else _) = _
  rw [if_pos (by rw [sg_len]; exact szL _ h), sg_len]
theorem joinL_nil : ∀ ls : List (List Nat), TL.joinL [] ls = ls.flatten
  | [] => rfl
  | [l] => by simp [TL.joinL]
  | l :: m :: r => by
    show l ++ ([] ++ TL.joinL [] (m :: r)) = _
    rw [joinL_nil (m :: r)]
    simp
theorem join_sg (s : List Nat) (ls : List (List Nat)) : Txt.join (sg s) (ls.map sg) = sg (TL.joinL s ls) := by
  have h := TL.tl_join (sg s) (ls.map sg)
  rw [TL.join_eq, sg_of (Str.join (sg s) (ls.map sg))]
  congr 1
  have e : (ls.map sg).map TL.tl = ls := by
    rw [List.map_map]
    have : TL.tl ∘ sg = id := by funext l; rfl
    rw [this, List.map_id]
  rw [e] at h
  exact h
theorem strsOf_map (ls : List (List Nat)) : strsOf (ls.map fun l => .str (sg l)) = some (ls.map sg) := by
  induction ls with
  | nil => rfl
  | cons l ls ih => show (strsOf (ls.map fun l => .str (sg l))).map _ = _; rw [ih]; rfl
theorem joinL_mem {s : List Nat} : ∀ {ls : List (List Nat)} {c : Nat}, c ∈ TL.joinL s ls → c ∈ s ∨ ∃ l ∈ ls, c ∈ l
  | [], c, h => by cases h
  | [l], c, h => .inr ⟨l, List.mem_singleton.mpr rfl, h⟩
  | l :: m :: r, c, h => by
    have h : c ∈ l ++ (s ++ TL.joinL s (m :: r)) := h
    rcases List.mem_append.mp h with h | h
    · exact .inr ⟨l, List.mem_cons_self, h⟩
    · rcases List.mem_append.mp h with h | h
      · exact .inl h
      · rcases joinL_mem h with h | ⟨l', h1, h2⟩
        · exact .inl h
        · exact .inr ⟨l', List.mem_cons_of_mem _ h1, h2⟩
theorem gJoin_sg {s : List Nat} {ls : List (List Nat)} {μ : Store} (hl : (ls.map List.length).sum + ls.length * s.length ≤ 1000000) (ho : ∀ c ∈ s, c < 0x110000) (hm : ∀ l ∈ ls, ∀ c ∈ l, c < 0x110000) : gJoin (sg s) (.t (.lst (ls.map fun l => .str (sg l)))) μ = .ok (.t (.str (sg (TL.joinL s ls)))) μ := by
  have hb : joinB (sg s) (ls.map sg) = true := by
    unfold joinB
    rw [Bool.and_eq_true]
    refine ⟨Nat.ble_eq_true_of_le ?_, ?_⟩
    · have e : ((ls.map sg).map (·.length)) = ls.map List.length := by rw [List.map_map]; exact List.map_congr_left fun l _ => sg_len l
      rw [e, List.length_map, sg_len]
      omega
    · rw [join_sg, sg_ok]
      intro c hc
      rcases joinL_mem hc with h | ⟨l, h1, h2⟩
      · exact ho c h
      · exact hm l h1 c h2
  simp only [gJoin, view_t, strsOf_map, hb, if_true, join_sg]
theorem cut_to {α : Type} {l : List α} {k : Nat} (h : k ≤ l.length) : cutG l none (some (k : Int)) = l.take k := by
  unfold cutG
  rw [HT.sIx_none, HT.sIx_nat, List.drop_zero, Nat.sub_zero, Nat.min_eq_left h]
theorem cut_from {α : Type} {l : List α} {k : Nat} (h : k ≤ l.length) : cutG l (some (k : Int)) none = l.drop k := by
  unfold cutG
  rw [HT.sIx_none, HT.sIx_nat, Nat.min_eq_left h]
  exact List.take_of_length_le (by rw [List.length_drop]; exact Nat.le_refl _)
theorem cut_mem {α : Type} {l : List α} {lo hi : Option Int} {x : α} (h : x ∈ cutG l lo hi) : x ∈ l := List.mem_of_mem_drop (List.mem_of_mem_take h)
mutual
theorem data_refl : ∀ x : PV, PyData.eqv x.data x.data = true
  | .non => by simp [PV.data, PyData.eqv]
  | .bl _ => by simp [PV.data, PyData.eqv]
  | .int _ => by simp [PV.data, PyData.eqv]
  | .str _ => by simp [PV.data, PyData.eqv]
  | .tup l => by simp only [PV.data, PyData.eqv]; exact datas_refl l
  | .lst l => by simp only [PV.data, PyData.eqv]; exact datas_refl l
  | .dic _ _ _ => by simp [PV.data, PyData.eqv]
  | .obj _ _ _ => by simp [PV.data, PyData.eqv]
theorem datas_refl : ∀ l : List PV, PyData.eqvAll (datas l) (datas l) = true
  | [] => by simp [datas, PyData.eqvAll]
  | x :: l => by simp only [datas, PyData.eqvAll]; rw [data_refl x, datas_refl l]; rfl
end
theorem eqB_refl (x : PV) : eqB x x = true := data_refl x
/-! ### sums, least, greatest -/
theorem numsOf_map (l : List Int) : numsOf (l.map .int) = some l := by
  induction l with
  | nil => rfl
  | cons a l ih => show (numsOf (l.map .int)).map _ = _; rw [ih]; rfl
theorem sumV_tupI (l : List Int) : sumV [tupI l] = some (.int l.sum) := by
  show (numsOf (l.map .int)).map _ = _
  rw [numsOf_map]; rfl
theorem minV1_tupI {l : List Int} (h : l ≠ []) : ∃ m ∈ l, minV1 [tupI l] = some (.int m) := by
  show ∃ m ∈ l, (intsOf (l.map .int)).bind minOf = _
  rw [intsOf_map]
  cases l with
  | nil => exact absurd rfl h
  | cons n ns => exact ⟨_, foldl_min_mem n ns, rfl⟩
theorem maxV1_tupI {l : List Int} (h : l ≠ []) : ∃ m ∈ l, maxV1 [tupI l] = some (.int m) := by
  show ∃ m ∈ l, (intsOf (l.map .int)).bind maxOf = _
  rw [intsOf_map]
  cases l with
  | nil => exact absurd rfl h
  | cons n ns => exact ⟨_, foldl_max_mem n ns, rfl⟩
end PM
/-! the well as a state: draws as plain functions -/
namespace PM
open PySem PySem.Spec PyProof.Rows L2
abbrev W3 := Int × Int × Int
def wlw (w : W3) : Option Cell := wl w.1 w.2.1 w.2.2
end PM
/-! cells read and changed -/
namespace PM
open PySem PySem.Spec PyProof.Rows L2
section
variable {μ : Store} {k : Nat} {ds : List PV} {d e : PV}
theorem view_cell (h : μ[k]? = some (some (.lst ds))) : view μ (.c k) = some (.lst ds) := by simp [view, h]
theorem pN_cell {g : List PV → Option PV} (h : μ[k]? = some (some (.lst ds))) : pN g [.c k] μ = OR.ok μ ((g [.lst ds]).map .t) := by simp [pN, views, view_cell h]
theorem p2_cell {g : PV → PV → Option PV} (h : μ[k]? = some (some (.lst ds))) : p2 g (.c k) (.t e) μ = OR.ok μ ((g (.lst ds) e).map .t) := by simp [p2, view_cell h]
theorem lstAt_cell (h : μ[k]? = some (some (.lst ds))) : lstAt μ (.c k) = some (k, ds) := by simp [lstAt, h]
theorem app_cell (h : μ[k]? = some (some (.lst ds))) (hl : ds.length < 1000000) : gMut mAppend (.c k) [.t d] μ = .ok (.t .non) (μ.set k (some (.lst (ds ++ [d])))) := by
  have := szL (ds.length + 1) (by omega)
  simp [gMut, lstAt_cell h, mAppend, show ds.length < sizeLine by omega]
end
end PM
namespace PM
open PySem PySem.Spec PyProof.Rows L2
@[simp] theorem gCall_4cc {fn : Fn} {k j : Nat} {e f : PV} {μ : Store} : gCall 4 fn [.c k, .c j, .t e, .t f] μ = fn [.c k, .c j, .t e, .t f] μ := (rfl)
@[simp] theorem gCall_2cc {fn : Fn} {k j : Nat} {μ : Store} : gCall 2 fn [.c k, .c j] μ = fn [.c k, .c j] μ := (rfl)
@[simp] theorem gCall_3cc {fn : Fn} {k j : Nat} {e : PV} {μ : Store} : gCall 3 fn [.c k, .c j, .t e] μ = fn [.c k, .c j, .t e] μ := (rfl)
@[simp] theorem gCall_5 {fn : Fn} {d e f g h : PV} {μ : Store} : gCall 5 fn [.t d, .t e, .t f, .t g, .t h] μ = fn [.t d, .t e, .t f, .t g, .t h] μ := (rfl)
@[simp] theorem gCall_5c {fn : Fn} {k : Nat} {e f g h : PV} {μ : Store} : gCall 5 fn [.c k, .t e, .t f, .t g, .t h] μ = fn [.c k, .t e, .t f, .t g, .t h] μ := (rfl)
end PM
namespace PM
open PySem PySem.Spec PyProof.Rows L2
theorem lcL_cons {T : Tgt} {test : Sl → Store → R Bool} {elt : ME} {d y : PV} {ds ys : List PV} {σ σ1 : Sl} {μ μ2 μ3 : Store} (h1 : asg T (.t d) σ = some σ1) (h2 : test σ1 μ = .ok true μ) (h3 : elt σ1 μ = .ok (.t y) μ2) (h4 : lcL T test elt ds σ μ2 = .ok ys μ3) : lcL T test elt (d :: ds) σ μ = .ok (y :: ys) μ3 := by
  unfold lcL
  rw [h1]
  simp only [h2, h3, noex_ok, bind_ok, if_true, gT, h4]
theorem lcL_skip {T : Tgt} {test : Sl → Store → R Bool} {elt : ME} {d : PV} {ds ys : List PV} {σ σ1 : Sl} {μ μ3 : Store} (h1 : asg T (.t d) σ = some σ1) (h2 : test σ1 μ = .ok false μ) (h4 : lcL T test elt ds σ μ = .ok ys μ3) : lcL T test elt (d :: ds) σ μ = .ok ys μ3 := by
  unfold lcL
  rw [h1]
  simp only [h2, noex_ok, bind_ok, Bool.false_eq_true, if_false, h4]
theorem at_behind {x c : Option Cell} {t : Store} : (x :: (t ++ [c]))[t.length + 1]? = some c := by simp
theorem set_behind {x c c' : Option Cell} {t : Store} : (x :: (t ++ [c])).set (t.length + 1) c' = x :: (t ++ [c']) := by
  rw [List.set_cons_succ, set_snoc]
end PM
namespace PM
open PySem PySem.Spec PyProof.Rows L2
end PM
namespace PM
open PySem PySem.Spec PyProof.Rows L2
@[simp] theorem lcC_eq {fi : ME} {T : Tgt} {test : Sl → Store → R Bool} {elt : ME} {σ : Sl} {μ : Store} : lcC fi T test elt σ μ = (fi σ μ).bind fun w μ1 => gLent T test elt σ w μ1 := (rfl)
@[simp] theorem gCall_6c {fn : Fn} {k : Nat} {e f g h i : PV} {μ : Store} : gCall 6 fn [.c k, .t e, .t f, .t g, .t h, .t i] μ = fn [.c k, .t e, .t f, .t g, .t h, .t i] μ := (rfl)
@[simp] theorem gCall_6 {fn : Fn} {d e f g h i : PV} {μ : Store} : gCall 6 fn [.t d, .t e, .t f, .t g, .t h, .t i] μ = fn [.t d, .t e, .t f, .t g, .t h, .t i] μ := (rfl)
theorem cut_to' {α : Type} {l : List α} {k : Nat} : cutG l none (some (k : Int)) = l.take k := by
  by_cases h : k ≤ l.length
  · exact cut_to h
  · unfold cutG
    rw [HT.sIx_none, HT.sIx_nat, List.drop_zero, Nat.sub_zero, Nat.min_eq_right (by omega), List.take_length, List.take_of_length_le (by omega)]
/-- an item of a list all of whose items are right -/
theorem at_all {P : PV → Prop} {l : List PV} {i : Nat} (h : ∀ x ∈ l, P x) (hi : i < l.length) : ∃ d, atI l (i : Int) = some d ∧ P d := ⟨l[i], atI_nat' hi, h _ (List.getElem_mem hi)⟩
end PM
namespace K71
open PySem PySem.Spec PyProof.Rows L2 PM
def b__law_draw : MSt :=
  (sSeq (sIf (tVal (e2 (p2 gtV) (e2 (p2 atV) (eV 0) (eC (.int 0))) (eC (.int 0))))
      (sSeq (sAsg (.nm 2) (e2 (p2 modV) (e2 (p2 atV) (eV 0) (eC (.int 0))) (eV 1)))
    (sSeq (sSetL (e2 (p2 fdivV) (e2 (p2 atV) (eV 0) (eC (.int 0))) (eV 1)) (eV 0) (eC (.int 0)))
    (sRet (eV 2))))
      sPass)
    (sSeq (sSetL (e2 (p2 addV) (e2 (p2 atV) (eV 0) (eC (.int 2))) (eC (.int 1))) (eV 0) (eC (.int 2)))
    (sSeq (sAsg (.nm 3) (e2 (p2 modV) (e2 (p2 mulV) (e2 (p2 addV) (e2 (p2 addV) (e2 (p2 atV) (eV 0) (eC (.int 1))) (e2 (p2 mulV) (eC (.int 7907)) (e2 (p2 atV) (eV 0) (eC (.int 2))))) (eC (.int 3))) (eC (.int 48271))) (eC (.int 2147483647))))
    (sSeq (sAsg (.nm 3) (e2 (p2 modV) (e2 (p2 mulV) (eV 3) (e2 (p2 addV) (e2 (p2 fdivV) (eV 3) (eC (.int 1013))) (eC (.int 69621)))) (eC (.int 2147483647))))
    (sRet (e2 (p2 modV) (e2 (p2 modV) (e2 (p2 mulV) (eV 3) (e2 (p2 addV) (e2 (p2 fdivV) (eV 3) (eC (.int 2003))) (eC (.int 40692)))) (eC (.int 2147483399))) (eV 1)))))))
def fn__law_draw : Fn := fnOf 4 b__law_draw
def b__law_sizes : MSt :=
  (sSeq (sAsg (.nm 1) (eOfF (eN gLst (aCons (eOfF (eN gLst (aCons (eC (.int 2)) (aCons (eC (.int 2)) aNil)))) (aCons (eOfF (eN gLst (aCons (eC (.int 2)) (aCons (eC (.int 3)) aNil)))) (aCons (eOfF (eN gLst (aCons (eC (.int 3)) (aCons (eC (.int 2)) aNil)))) (aCons (eOfF (eN gLst (aCons (eC (.int 2)) (aCons (eC (.int 4)) aNil)))) (aCons (eOfF (eN gLst (aCons (eC (.int 4)) (aCons (eC (.int 2)) aNil)))) (aCons (eOfF (eN gLst (aCons (eC (.int 3)) (aCons (eC (.int 3)) aNil)))) (aCons (eOfF (eN gLst (aCons (eC (.int 2)) (aCons (eC (.int 2)) (aCons (eC (.int 2)) aNil))))) (aCons (eOfF (eN gLst (aCons (eC (.int 1)) (aCons (eC (.int 3)) aNil)))) (aCons (eOfF (eN gLst (aCons (eC (.int 4)) (aCons (eC (.int 1)) (aCons (eC (.int 2)) aNil))))) (aCons (eOfF (eN gLst (aCons (eC (.int 3)) aNil))) (aCons (eOfF (eN gLst (aCons (eC (.int 4)) aNil))) (aCons (eOfF (eN gLst (aCons (eC (.int 1)) (aCons (eC (.int 1)) (aCons (eC (.int 1)) aNil))))) aNil)))))))))))))))
    (sSeq (sAsg (.nm 1) (eOfF (e2 (pf2 addF) (eV 1) (eOfF (eN gLst (aCons (eOfF (eN gLst (aCons (eC (.int 3)) (aCons (eC (.int 4)) aNil)))) (aCons (eOfF (eN gLst (aCons (eC (.int 2)) (aCons (eC (.int 2)) (aCons (eC (.int 3)) aNil))))) (aCons (eOfF (eN gLst (aCons (eC (.int 4)) (aCons (eC (.int 4)) aNil)))) (aCons (eOfF (eN gLst (aCons (eC (.int 4)) (aCons (eC (.int 1)) (aCons (eC (.int 3)) aNil))))) aNil)))))))))
    (sRet (e2 (p2 atV) (eV 1) (eN (gCall 2 fn__law_draw) (aCons (eV 0) (aCons (eC (.int 16)) aNil)))))))
def fn__law_sizes : Fn := fnOf 2 b__law_sizes
def e1__law_rows : ME :=
  (e2 (p2 addV) (eV 4) (eN gTup (aCons (eV 5) aNil)))
def f1__law_rows : MSt :=
  (sAsg (.nm 3) (eOfF (e2 (pf2 addF) (eV 3) (eOfF (lcF (eN gRange1 (aCons (eV 2) aNil)) (.nm 5) tYes' e1__law_rows)))))
def f2__law_rows : MSt :=
  (sSeq (sAsg (.nm 3) (eOfF (eN gLst aNil)))
    (sSeq (sFor (e1 gIt (eV 1)) (.nm 4) f1__law_rows)
    (sAsg (.nm 1) (eV 3))))
def b__law_rows : MSt :=
  (sSeq (sAsg (.nm 1) (eOfF (eN gLst (aCons (eN gTup aNil) aNil))))
    (sSeq (sFor (e1 gIt (eV 0)) (.nm 2) f2__law_rows)
    (sRet (eV 1))))
def fn__law_rows : Fn := fnOf 6 b__law_rows
def e1__law_names : ME :=
  (e2 (p2 atV) (eV 2) (eN (gCall 2 fn__law_draw) (aCons (eV 0) (aCons (eC (.int 26)) aNil))))
def e2__law_names : ME :=
  (e2 (p2 addV) (e2 (p2 addV) (eSl (fun l h => p1 (slV l h)) (eV 3) oNone (oSome (eV 5))) (e2 (p2 atV) (eV 2) (e2 (p2 modV) (e2 (p2 addV) (eV 4) (e2 (p2 mulV) (eC (.int 9)) (eV 6))) (eC (.int 26))))) (eSl (fun l h => p1 (slV l h)) (eV 3) (oSome (eV 5)) oNone))
def b__law_names : MSt :=
  (sSeq (sAsg (.nm 2) (eC (.str "abcdefghijklmnopqrstuvwxyz")))
    (sSeq (sAsg (.nm 3) (eJoin (eC (.str "")) (eOfF (lcF (eN gRange1 (aCons (e2 (p2 addV) (eC (.int 1)) (eN (gCall 2 fn__law_draw) (aCons (eV 0) (aCons (eC (.int 7)) aNil)))) aNil)) (.nm 6) tYes' e1__law_names))))
    (sSeq (sAsg (.nm 4) (eN (gCall 2 fn__law_draw) (aCons (eV 0) (aCons (eC (.int 26)) aNil))))
    (sSeq (sAsg (.nm 5) (eN (gCall 2 fn__law_draw) (aCons (eV 0) (aCons (e2 (p2 addV) (eN (pN lenV) (aCons (eV 3) aNil)) (eC (.int 1))) aNil))))
    (sRet (eOfF (lcF (eN gRange1 (aCons (eV 1) aNil)) (.nm 6) tYes' e2__law_names)))))))
def fn__law_names : Fn := fnOf 7 b__law_names
def e1__law_over : ME :=
  (e2 (p2 addV) (eV 5) (eN gTup (aCons (eV 6) aNil)))
def f1__law_over : MSt :=
  (sAsg (.nm 4) (eOfF (e2 (pf2 addF) (eV 4) (eOfF (lcF (e1 gIt (eV 0)) (.nm 6) tYes' e1__law_over)))))
def f2__law_over : MSt :=
  (sSeq (sAsg (.nm 4) (eOfF (eN gLst aNil)))
    (sSeq (sFor (e1 gIt (eV 2)) (.nm 5) f1__law_over)
    (sAsg (.nm 2) (eV 4))))
def b__law_over : MSt :=
  (sSeq (sAsg (.nm 2) (eOfF (eN gLst (aCons (eN gTup aNil) aNil))))
    (sSeq (sFor (eN gRange1 (aCons (eV 1) aNil)) (.nm 3) f2__law_over)
    (sRet (eV 2))))
def fn__law_over : Fn := fnOf 7 b__law_over
def f1__law_table : MSt :=
  (sSeq (sAsg (.nm 7) (eOfF (eN gLst (aCons (eN (pN minV1) (aCons (e2 (p2 addV) (eV 6) (eN gTup (aCons (eV 4) aNil))) aNil)) (aCons (eN (pN maxV1) (aCons (e2 (p2 addV) (eV 6) (eN gTup (aCons (eV 4) aNil))) aNil)) (aCons (e2 (p2 modV) (e2 (p2 addV) (eN (pN sumV) (aCons (eV 6) aNil)) (eV 4)) (eV 1)) aNil))))))
    (sSeq (sAsg (.nm 7) (eOfF (e2 (pf2 addF) (eV 7) (eOfF (eN gLst (aCons (e2 (p2 atV) (e2 (p2 addV) (eV 6) (eN gTup (aCons (eV 4) aNil))) (e2 (p2 modV) (eV 4) (e2 (p2 addV) (eV 2) (eC (.int 1))))) (aCons (eV 4) aNil)))))))
    (sSeq (sIf (tVal (e2 (p2 gtV) (eV 3) (eC (.int 4))))
      (sAsg (.nm 7) (eOfF (e2 (pf2 addF) (eV 7) (eOfF (e2 (pf2 mulF) (eOfF (eN gLst (aCons (eN (gCall 2 fn__law_draw) (aCons (eV 0) (aCons (eV 1) aNil))) aNil))) (eC (.int 2)))))))
      sPass)
    (sExp (eMut mAppend (eV 5) (aCons (e2 (p2 atV) (eV 7) (eV 3)) aNil))))))
def b__law_table : MSt :=
  (sSeq (sAsg (.nm 3) (eN (gCall 2 fn__law_draw) (aCons (eV 0) (aCons (eC (.int 7)) aNil))))
    (sSeq (sAsg (.nm 4) (eN (gCall 2 fn__law_draw) (aCons (eV 0) (aCons (eV 1) aNil))))
    (sSeq (sAsg (.nm 5) (eCellF (eN gLst aNil)))
    (sSeq (sFor (e1 gIt (eN (gCall 2 fn__law_over) (aCons (eOfF (e1 gLR1 (eV 1))) (aCons (eV 2) aNil)))) (.nm 6) f1__law_table)
    (sRet (eN (pN tupleV) (aCons (eV 5) aNil)))))))
def fn__law_table : Fn := fnOf 8 b__law_table
def b_is_whole : MSt :=
  (sRet (eAnd (e1 (p1 (isTy "int")) (eV 0)) (eNot (e1 (p1 (isTy "bool")) (eV 0)))))
def fn_is_whole : Fn := fnOf 1 b_is_whole
def e1_is_name : ME :=
  (e2 (p2 inPV) (eV 1) (eC (.str "abcdefghijklmnopqrstuvwxyz")))
def b_is_name : MSt :=
  (sRet (eAnd (e1 (p1 (isTy "str")) (eV 0)) (eAnd (eChain leV leV (eC (.int 2)) (eN (pN lenV) (aCons (eV 0) aNil)) (eC (.int 8))) (eN (pN allV) (aCons (eOfF (lcF (e1 gIt (eV 0)) (.nm 1) tYes' e1_is_name)) aNil)))))
def fn_is_name : Fn := fnOf 2 b_is_name
def b_is_thing : MSt :=
  (sRet (eAnd (eN (gCall 1 fn_is_whole) (aCons (eV 0) aNil)) (eChain leV ltV (eC (.int 0)) (eV 0) (eV 1))))
def fn_is_thing : Fn := fnOf 2 b_is_thing
def e1_is_row : ME :=
  (eN (gCall 2 fn_is_thing) (aCons (eV 3) (aCons (eV 2) aNil)))
def b_is_row : MSt :=
  (sRet (eAnd (e1 (p1 (isTy "tuple")) (eV 0)) (eAnd (e2 (p2 eqV) (eN (pN lenV) (aCons (eV 0) aNil)) (eV 1)) (eN (pN allV) (aCons (eOfF (lcF (e1 gIt (eV 0)) (.nm 3) tYes' e1_is_row)) aNil)))))
def fn_is_row : Fn := fnOf 4 b_is_row
def f1_cells : MSt :=
  (sAsg (.nm 2) (e2 (p2 mulV) (eV 2) (eV 0)))
def b_cells : MSt :=
  (sSeq (sAsg (.nm 2) (eC (.int 1)))
    (sSeq (sFor (eN gRange1 (aCons (eV 1) aNil)) (.nm 3) f1_cells)
    (sRet (eV 2))))
def fn_cells : Fn := fnOf 4 b_cells
def b_is_deed : MSt :=
  (sSeq (sIf (tOr' (tNot' (tVal (e1 (p1 (isTy "tuple")) (eV 0)))) (tOr' (tVal (e2 (p2 neV) (eN (pN lenV) (aCons (eV 0) aNil)) (eC (.int 3)))) (tNot' (tVal (eN (gCall 1 fn_is_name) (aCons (e2 (p2 atV) (eV 0) (eC (.int 0))) aNil))))))
      (sRet (eC (.bl false)))
      sPass)
    (sSeq (sAsg (.tp [(.nm 2), (.nm 3), (.nm 4)]) (eV 0))
    (sSeq (sIf (tOr' (tNot' (tVal (eN (gCall 1 fn_is_whole) (aCons (eV 3) aNil)))) (tNot' (tVal (eChain leV leV (eC (.int 0)) (eV 3) (eC (.int 3))))))
      (sRet (eC (.bl false)))
      sPass)
    (sRet (eN (gCall 3 fn_is_row) (aCons (eV 4) (aCons (eN (gCall 2 fn_cells) (aCons (eV 1) (aCons (eV 3) aNil))) (aCons (eV 1) aNil))))))))
def fn_is_deed : Fn := fnOf 5 b_is_deed
def p1_House_init : MSt :=
  (sIf (tOr' (tNot' (tVal (eN (gCall 1 fn_is_whole) (aCons (eV 1) aNil)))) (tNot' (tVal (eChain leV leV (eC (.int 1)) (eV 1) (eC (.int 9))))))
      (sRaise "NoHouse" "at" (aCons (e1 (p1 negV) (eC (.int 1))) aNil))
      sPass)
def p2_House_init : MSt :=
  (sIf (tOr' (tNot' (tVal (e1 (p1 (isTy "list")) (eV 2)))) (tVal (e2 (p2 gtV) (eN (pN lenV) (aCons (eV 2) aNil)) (eC (.int 6)))))
      (sRaise "NoHouse" "at" (aCons (e1 (p1 negV) (eC (.int 1))) aNil))
      sPass)
def p3_House_init : MSt :=
  (sAsg (.nm 3) (eDNew false))
def f1_House_init : MSt :=
  (sSeq (sIf (tOr' (tNot' (tVal (eN (gCall 2 fn_is_deed) (aCons (eV 5) (aCons (eV 1) aNil))))) (tVal (e2 (p2 inPV) (e2 (p2 atV) (eV 5) (eC (.int 0))) (eV 3))))
      (sRaise "NoHouse" "at" (aCons (eV 4) aNil))
      sPass)
    (sDPut (eV 5) (eV 3) (e2 (p2 atV) (eV 5) (eC (.int 0)))))
def p4_House_init : MSt :=
  (sFor (eN gEnum (aCons (eV 2) aNil)) (.tp [(.nm 4), (.nm 5)]) f1_House_init)
def bi_House : MI :=
  (iPre p1_House_init
    (iPre p2_House_init
    (iPre p3_House_init
    (iPre p4_House_init
    (iFld 0 (eV 1) (iPre (sFrz 3) (iFld 0 (eV 3) iNil)))))))
def fi_House : FnI := iniOf 6 bi_House
def b__law_unfit : MSt :=
  (sSeq (sAsg (.nm 2) (eN (gCall 2 fn__law_draw) (aCons (eV 0) (aCons (eC (.int 4)) aNil))))
    (sSeq (sAsg (.nm 3) (eN gTup (aCons (eC (.str "extra")) (aCons (eC (.int 0)) (aCons (eN gTup (aCons (eC (.int 0)) aNil)) aNil)))))
    (sSeq (sIf (tOr' (tVal (e2 (p2 eqV) (eV 1) (eOfF (eN gLst aNil)))) (tVal (e2 (p2 eqV) (eV 2) (eC (.int 0)))))
      (sRet (eOfF (e2 (pf2 addF) (eV 1) (eOfF (eN gLst (aCons (eV 3) aNil))))))
      sPass)
    (sSeq (sIf (tVal (e2 (p2 eqV) (eV 2) (eC (.int 1))))
      (sRet (eSl (fun l h => p1 (slV l h)) (eV 1) oNone (oSome (e1 (p1 negV) (eC (.int 1))))))
      sPass)
    (sSeq (sIf (tAnd' (tVal (e2 (p2 eqV) (eV 2) (eC (.int 2)))) (tVal (e2 (p2 gtV) (eN (pN lenV) (aCons (eV 1) aNil)) (eC (.int 1)))))
      (sRet (e1 (p1 revV) (eV 1)))
      sPass)
    (sRet (eOfF (e2 (pf2 addF) (eSl (fun l h => p1 (slV l h)) (eV 1) oNone (oSome (e1 (p1 negV) (eC (.int 1))))) (eOfF (eN gLst (aCons (eV 3) aNil)))))))))))
def fn__law_unfit : Fn := fnOf 4 b__law_unfit
def b_House_deeds : MSt :=
  (sRet (eOfF (e1 gVals (e1 (gFld ["House"] "by_name") (eV 0)))))
def fn_House_deeds : Fn := fnOf 1 b_House_deeds
def e1_fits : ME :=
  (eSl (fun l h => p1 (slV l h)) (eV 2) oNone (oSome (eC (.int 2))))
def e2_fits : ME :=
  (eSl (fun l h => p1 (slV l h)) (eV 2) oNone (oSome (eC (.int 2))))
def b_fits : MSt :=
  (sRet (e2 (p2 eqV) (eOfF (lcF (e1 gIt (eMeth "House" "deeds" 1 fn_House_deeds (eV 0) aNil)) (.nm 2) tYes' e1_fits)) (eOfF (lcF (e1 gIt (eMeth "House" "deeds" 1 fn_House_deeds (eV 1) aNil)) (.nm 2) tYes' e2_fits))))
def fn_fits : Fn := fnOf 3 b_fits
def b_House_things : MSt :=
  (sRet (e1 (gFld ["House"] "size") (eV 0)))
def fn_House_things : Fn := fnOf 1 b_House_things
def f1_check_sizes : MSt :=
  (sAsg (.nm 1) (e2 (p2 mulV) (eV 1) (eMeth "House" "things" 1 fn_House_things (eV 2) aNil)))
def b_check_sizes : MSt :=
  (sSeq (sAsg (.nm 1) (eC (.int 1)))
    (sSeq (sFor (e1 gIt (eV 0)) (.nm 2) f1_check_sizes)
    (sIf (tVal (e2 (p2 gtV) (eV 1) (eC (.int 9))))
      (sRaise "TooMany" "many" (aCons (eC (.int 9)) aNil))
      sPass)))
def fn_check_sizes : Fn := fnOf 3 b_check_sizes
def e1_choices : ME :=
  (e2 (p2 addV) (eV 4) (eN gTup (aCons (eV 5) aNil)))
def f1_choices : MSt :=
  (sExp (eExt (eV 3) (aCons (eOfF (lcF (eN gRange1 (aCons (eV 2) aNil)) (.nm 5) tYes' e1_choices)) aNil)))
def f2_choices : MSt :=
  (sSeq (sAsg (.nm 3) (eCellF (eN gLst aNil)))
    (sSeq (sFor (e1 gIt (eV 1)) (.nm 4) f1_choices)
    (sSeq (sFrz 3) (sAsg (.nm 1) (eV 3)))))
def b_choices : MSt :=
  (sSeq (sAsg (.nm 1) (eOfF (eN gLst (aCons (eN gTup aNil) aNil))))
    (sSeq (sFor (e1 gIt (eV 0)) (.nm 2) f2_choices)
    (sRet (eV 1))))
def fn_choices : Fn := fnOf 6 b_choices
def b_House_names : MSt :=
  (sRet (eOfF (eN (pfN listF) (aCons (e1 (gFld ["House"] "by_name") (eV 0)) aNil))))
def fn_House_names : Fn := fnOf 1 b_House_names
def e1_rows_within : ME :=
  (e2 (p2 addV) (eV 5) (eN gTup (aCons (eV 6) aNil)))
def f1_rows_within : MSt :=
  (sExp (eExt (eV 4) (aCons (eOfF (lcF (e1 gIt (eV 0)) (.nm 6) tYes' e1_rows_within)) aNil)))
def f2_rows_within : MSt :=
  (sSeq (sAsg (.nm 4) (eCellF (eN gLst aNil)))
    (sSeq (sFor (e1 gIt (eV 2)) (.nm 5) f1_rows_within)
    (sSeq (sFrz 4) (sAsg (.nm 2) (eV 4)))))
def b_rows_within : MSt :=
  (sSeq (sAsg (.nm 2) (eOfF (eN gLst (aCons (eN gTup aNil) aNil))))
    (sSeq (sFor (eN gRange1 (aCons (eV 1) aNil)) (.nm 3) f2_rows_within)
    (sRet (eV 2))))
def fn_rows_within : Fn := fnOf 7 b_rows_within
def f1_spot_of : MSt :=
  (sAsg (.nm 2) (e2 (p2 addV) (e2 (p2 mulV) (eV 2) (eV 1)) (eV 3)))
def b_spot_of : MSt :=
  (sSeq (sAsg (.nm 2) (eC (.int 0)))
    (sSeq (sFor (e1 gIt (eV 0)) (.nm 3) f1_spot_of)
    (sRet (eV 2))))
def fn_spot_of : Fn := fnOf 4 b_spot_of
def e1_deed_by_rows : ME :=
  (eN gTup (aCons (eV 14) (aCons (eV 13) aNil)))
def e2_deed_by_rows : ME :=
  (e2 (p2 atV) (eV 14) (eV 10))
def f1_deed_by_rows : MSt :=
  (sSeq (sAsg (.nm 12) (eN (gCall 2 fn_spot_of) (aCons (eOfF (lcF (e1 gIt (eV 8)) (.nm 14) tYes' e2_deed_by_rows)) (aCons (eMeth "House" "things" 1 fn_House_things (eV 11) aNil) aNil))))
    (sExp (eMut mAppend (eV 9) (aCons (e2 (p2 atV) (e2 (p2 atV) (e2 (p2 atV) (eMeth "House" "deeds" 1 fn_House_deeds (eV 11) aNil) (eV 0)) (eC (.int 2))) (eV 12)) aNil))))
def f2_deed_by_rows : MSt :=
  (sSeq (sAsg (.nm 9) (eCellF (eN gLst aNil)))
    (sSeq (sFor (eN gEnum (aCons (eV 1) aNil)) (.tp [(.nm 10), (.nm 11)]) f1_deed_by_rows)
    (sExp (eMut mAppend (eV 7) (aCons (e2 (p2 atV) (eV 6) (eN (pN tupleV) (aCons (eV 9) aNil))) aNil)))))
def b_deed_by_rows : MSt :=
  (sSeq (sAsg (.tp [(.nm 3), (.nm 4), (.nm 5)]) (e2 (p2 atV) (eMeth "House" "deeds" 1 fn_House_deeds (e2 (p2 atV) (eV 1) (eC (.int 0))) aNil) (eV 0)))
    (sSeq (sAsg (.nm 6) (eFrz (e1 gDictT (eOfF (lcF (eN gEnum (aCons (eV 2) aNil)) (.tp [(.nm 13), (.nm 14)]) tYes' e1_deed_by_rows)))))
    (sSeq (sAsg (.nm 7) (eCellF (eN gLst aNil)))
    (sSeq (sFor (e1 gIt (eN (gCall 2 fn_rows_within) (aCons (eV 2) (aCons (eV 4) aNil)))) (.nm 8) f2_deed_by_rows)
    (sRet (eN gTup (aCons (eV 3) (aCons (eV 4) (aCons (eN (pN tupleV) (aCons (eV 7) aNil)) aNil)))))))))
def fn_deed_by_rows : Fn := fnOf 15 b_deed_by_rows
def e1_product : ME :=
  (eN (gCall 2 fn_fits) (aCons (e2 (p2 atV) (eV 0) (eC (.int 0))) (aCons (eV 6) aNil)))
def e2_product : ME :=
  (eMeth "House" "things" 1 fn_House_things (eV 6) aNil)
def e3_product : ME :=
  (eLend 0 (eN (gCall 3 fn_deed_by_rows) (aCons (eV 4) (aCons (eV 0) (aCons (eV 1) aNil)))))
def e4_product : ME :=
  (e2 (p2 atV) (eV 7) (eV 5))
def e5_product : ME :=
  (eN (pN tupleV) (aCons (eOfF (lcF (e1 gIt (eV 1)) (.nm 7) tYes' e4_product)) aNil))
def b_product : MSt :=
  (sSeq (sIf (tNot' (tVal (eLend 0 (eN (pN allV) (aCons (eOfF (lcC (eV 0) (.nm 6) tYes' e1_product)) aNil)))))
      (sRaise0 "NoFit")
      sPass)
    (sSeq (sExp (eLend 0 (eN (gCall 1 fn_check_sizes) (aCons (eV 0) aNil))))
    (sSeq (sAsg (.nm 1) (eN (gCall 1 fn_choices) (aCons (eOfF (lcC (eV 0) (.nm 6) tYes' e2_product)) aNil)))
    (sSeq (sAsg (.nm 2) (eOfF (lcF (eN gRange1 (aCons (eN (pN lenV) (aCons (eMeth "House" "names" 1 fn_House_names (e2 (p2 atV) (eV 0) (eC (.int 0))) aNil) aNil)) aNil)) (.nm 4) tYes' e3_product)))
    (sSeq (sAsg (.nm 3) (eCellF (lcF (eN gRange1 (aCons (eN (pN lenV) (aCons (eV 0) aNil)) aNil)) (.nm 5) tYes' e5_product)))
    (sRet (eN gTupG (aCons (eMake "House" ["size", "by_name"] 2 fi_House (aCons (eN (pN lenV) (aCons (eV 1) aNil)) (aCons (eV 2) aNil))) (aCons (eV 3) aNil)))))))))
def fn_product : Fn := fnOf 8 b_product
def b__law_told : MSt :=
  (sSeq (sAsg (.nm 1) (eC .non))
    (sSeq (sTry (sAsg (.nm 1) (eN gTup (aCons (eC (.str "told")) (aCons (eN (gCall 1 fn_product) (aCons (eV 0) aNil)) aNil)))) [⟨"NoFit", ["NoFit"], ["NoHouse", "TooMany"], 2, (sAsg (.nm 1) (eN gTup (aCons (eC (.str "no fit")) (aCons (eAnd (e1 (gIsX [("NoFit", true)]) (eV 2)) (eNot (e1 (gIsX [("NoFit", false)]) (eV 2)))) aNil))))⟩, ⟨"TooMany", ["TooMany"], ["NoFit", "NoHouse"], 2, (sAsg (.nm 1) (eN gTup (aCons (eC (.str "too many")) (aCons (e1 (gXf ["TooMany"] "many") (eV 2)) aNil))))⟩])
    (sRet (eV 1))))
def fn__law_told : Fn := fnOf 3 b__law_told
def f1__law_cell : MSt :=
  (sAsg (.nm 2) (e2 (p2 addV) (e2 (p2 mulV) (eV 2) (eV 1)) (eV 3)))
def b__law_cell : MSt :=
  (sSeq (sAsg (.nm 2) (eC (.int 0)))
    (sSeq (sFor (e1 gIt (eV 0)) (.nm 3) f1__law_cell)
    (sRet (eV 2))))
def fn__law_cell : Fn := fnOf 4 b__law_cell
def e1__law_due : ME :=
  (e2 (p2 atV) (e2 (p2 atV) (eV 2) (eV 11)) (eV 9))
def f1__law_due : MSt :=
  (sExp (eMut mAppend (eV 8) (aCons (e2 (p2 atV) (e2 (p2 atV) (e2 (p2 atV) (e2 (p2 atV) (eV 1) (eV 9)) (eV 4)) (eC (.int 2))) (eN (gCall 2 fn__law_cell) (aCons (eOfF (lcF (e1 gIt (eV 7)) (.nm 11) tYes' e1__law_due)) (aCons (eV 10) aNil)))) aNil)))
def f2__law_due : MSt :=
  (sSeq (sAsg (.nm 8) (eCellF (eN gLst aNil)))
    (sSeq (sFor (eN gEnum (aCons (eV 0) aNil)) (.tp [(.nm 9), (.nm 10)]) f1__law_due)
    (sExp (eMut mAppend (eV 6) (aCons (eIndex (eV 2) (aCons (eN (pN tupleV) (aCons (eV 8) aNil)) aNil)) aNil)))))
def f3__law_due : MSt :=
  (sSeq (sAsg (.nm 6) (eCellF (eN gLst aNil)))
    (sSeq (sFor (e1 gIt (eN (gCall 2 fn__law_over) (aCons (eOfF (e1 gLR1 (eN (pN lenV) (aCons (eV 2) aNil)))) (aCons (e2 (p2 atV) (eV 5) (eC (.int 1))) aNil)))) (.nm 7) f2__law_due)
    (sExp (eMut mAppend (eV 3) (aCons (eN gTup (aCons (e2 (p2 atV) (eV 5) (eC (.int 0))) (aCons (e2 (p2 atV) (eV 5) (eC (.int 1))) (aCons (eN (pN tupleV) (aCons (eV 6) aNil)) aNil)))) aNil)))))
def e2__law_due : ME :=
  (e2 (p2 atV) (eV 8) (eV 9))
def e3__law_due : ME :=
  (eN (pN tupleV) (aCons (eOfF (lcF (e1 gIt (eV 2)) (.nm 8) tYes' e2__law_due)) aNil))
def b__law_due : MSt :=
  (sSeq (sAsg (.nm 2) (eN (gCall 1 fn__law_rows) (aCons (eV 0) aNil)))
    (sSeq (sAsg (.nm 3) (eCellF (eN gLst aNil)))
    (sSeq (sFor (eN gEnum (aCons (e2 (p2 atV) (eV 1) (eC (.int 0))) aNil)) (.tp [(.nm 4), (.nm 5)]) f3__law_due)
    (sSeq (sFrz 3) (sRet (eN gTup (aCons (eV 3) (aCons (eOfF (lcF (eN gRange1 (aCons (eN (pN lenV) (aCons (eV 0) aNil)) aNil)) (.nm 9) tYes' e3__law_due)) aNil))))))))
def fn__law_due : Fn := fnOf 12 b__law_due
def e1__law_right : ME :=
  (eN (pN minV) (aCons (eV 5) (aCons (e2 (p2 atV) (eOfF (eN gLst (aCons (eC (.int 1)) (aCons (eC (.int 2)) (aCons (eC (.int 0)) (aCons (eC (.int 2)) (aCons (eC (.int 3)) aNil))))))) (eN (gCall 2 fn__law_draw) (aCons (eV 0) (aCons (eC (.int 5)) aNil)))) aNil)))
def t1__law_right : Sl → Store → R Bool :=
  (tVal (e2 (p2 ltV) (eN (pN lenV) (aCons (eV 19) aNil)) (eC (.int 8))))
def e2__law_right : ME :=
  (e2 (p2 addV) (eV 19) (eC (.str "x")))
def e3__law_right : ME :=
  (eN gTup (aCons (eV 19) (aCons (eV 22) (aCons (eN (gCall 3 fn__law_table) (aCons (eV 0) (aCons (eV 9) (aCons (eV 22) aNil)))) aNil))))
def f1__law_right : MSt :=
  (sExp (eMut mAppend (eV 8) (aCons (eOfF (lcF (eN gZip (aCons (eV 7) (aCons (eV 6) aNil))) (.tp [(.nm 19), (.nm 22)]) tYes' e3__law_right)) aNil)))
def e4__law_right : ME :=
  (eMake "House" ["size", "by_name"] 2 fi_House (aCons (eV 9) (aCons (eOfF (eN (pfN listF) (aCons (eV 20) aNil))) aNil)))
def f2__law_right : MSt :=
  (sSeq (sAsg (.nm 15) (eCellF (eN (pfN listF) (aCons (eV 10) aNil))))
    (sSeq (sAsg (.tp [(.nm 16), (.nm 17)]) (eN (gCall 1 fn_product) (aCons (eV 15) aNil)))
    (sSeq (sIf (tOr' (tVal (e2 (p2 neV) (eMeth "House" "deeds" 1 fn_House_deeds (eV 16) aNil) (eV 12))) (tOr' (tVal (e2 (p2 neV) (eMeth "House" "things" 1 fn_House_things (eV 16) aNil) (eV 4))) (tOr' (tVal (e2 (p2 neV) (eV 17) (eV 13))) (tNot' (tVal (e1 (p1 (isTy "list")) (eV 17)))))))
      (sRet (eC (.bl false)))
      sPass)
    (sSeq (sExp (eMut mAppend (eV 17) (aCons (eN gTup aNil) aNil)))
    (sExp (eMut mClear (eV 15) aNil))))))
def e5__law_right : ME :=
  (eMeth "House" "deeds" 1 fn_House_deeds (eV 21) aNil)
def b__law_right : MSt :=
  (sSeq (sAsg (.nm 1) (eN (gCall 1 fn__law_sizes) (aCons (eV 0) aNil)))
    (sSeq (sAsg (.nm 2) (e2 (p2 eqV) (eN (gCall 2 fn__law_draw) (aCons (eV 0) (aCons (eC (.int 4)) aNil))) (eC (.int 0))))
    (sSeq (sAsg (.nm 3) (eN (gCall 2 fn__law_draw) (aCons (eV 0) (aCons (eN (pN lenV) (aCons (eV 1) aNil)) aNil))))
    (sSeq (sAsg (.nm 4) (eN (pN lenV) (aCons (eN (gCall 1 fn__law_rows) (aCons (eV 1) aNil)) aNil)))
    (sSeq (sAsg (.nm 5) (e2 (p2 atV) (eOfF (eN gLst (aCons (eC (.int 2)) (aCons (eC (.int 3)) aNil)))) (eN (pN intV) (aCons (e2 (p2 ltV) (eV 4) (eC (.int 5))) aNil))))
    (sSeq (sAsg (.nm 6) (eOfF (lcF (eN gRange1 (aCons (eN (gCall 2 fn__law_draw) (aCons (eV 0) (aCons (eC (.int 4)) aNil))) aNil)) (.nm 18) tYes' e1__law_right)))
    (sSeq (sAsg (.nm 7) (eOfF (lcF (e1 gIt (eN (gCall 2 fn__law_names) (aCons (eV 0) (aCons (eN (pN lenV) (aCons (eV 6) aNil)) aNil)))) (.nm 19) t1__law_right e2__law_right)))
    (sSeq (sAsg (.nm 6) (eSl (fun l h => p1 (slV l h)) (eV 6) oNone (oSome (eN (pN lenV) (aCons (eV 7) aNil)))))
    (sSeq (sAsg (.nm 8) (eCellF (eN gLst aNil)))
    (sSeq (sFor (e1 gIt (eV 1)) (.nm 9) f1__law_right)
    (sSeq (sFrz 8) (sSeq (sAsg (.nm 10) (eOfF (lcF (eN gZip (aCons (eV 1) (aCons (eV 8) aNil))) (.tp [(.nm 9), (.nm 20)]) tYes' e4__law_right)))
    (sSeq (sIf (tAnd' (tVal (eV 2)) (tVal (e2 (p2 gtV) (eN (pN lenV) (aCons (eV 1) aNil)) (eC (.int 1)))))
      (sSeq (sAsg (.nm 11) (eCellF (eN (pfN listF) (aCons (eV 10) aNil))))
    (sSeq (sSetL (eMake "House" ["size", "by_name"] 2 fi_House (aCons (e2 (p2 atV) (eV 1) (eV 3)) (aCons (eN (gCall 2 fn__law_unfit) (aCons (eV 0) (aCons (e2 (p2 atV) (eV 8) (eV 3)) aNil))) aNil))) (eV 11) (eV 3))
    (sSeq (sFrz 11) (sIf (tVal (e2 (p2 neV) (eN (gCall 1 fn__law_told) (aCons (eV 11) aNil)) (eN gTup (aCons (eC (.str "no fit")) (aCons (eC (.bl true)) aNil)))))
      (sRet (eC (.bl false)))
      sPass))))
      sPass)
    (sSeq (sIf (tVal (e2 (p2 gtV) (eV 4) (eC (.int 9))))
      (sRet (e2 (p2 eqV) (eN (gCall 1 fn__law_told) (aCons (eV 10) aNil)) (eN gTup (aCons (eC (.str "too many")) (aCons (eC (.int 9)) aNil)))))
      sPass)
    (sSeq (sFrz 8) (sSeq (sAsg (.tp [(.nm 12), (.nm 13)]) (eN (gCall 2 fn__law_due) (aCons (eV 1) (aCons (eV 8) aNil))))
    (sSeq (sFor (eN gRange1 (aCons (eC (.int 2)) aNil)) (.nm 14) f2__law_right)
    (sRet (e2 (p2 eqV) (eOfF (lcF (e1 gIt (eV 10)) (.nm 21) tYes' e5__law_right)) (eV 8))))))))))))))))))))
def fn__law_right : Fn := fnOf 23 b__law_right
def b_House_eq : MSt :=
  (sRet (eAnd (e1 (gIsC "House") (eV 1)) (eAnd (e2 (p2 eqV) (e1 (gFld ["House"] "size") (eV 0)) (e1 (gFld ["House"] "size") (eV 1))) (e2 (p2 eqV) (eMeth "House" "deeds" 1 fn_House_deeds (eV 0) aNil) (eMeth "House" "deeds" 1 fn_House_deeds (eV 1) aNil)))))
def fn_House_eq : Fn := fnOf 2 b_House_eq
def f1_law : MSt :=
  (sIf (tNot' (tVal (eN (gCall 1 fn__law_right) (aCons (eCellF (eN gLst (aCons (e2 (p2 mulV) (eV 2) (eN (pN intV) (aCons (e2 (p2 geV) (eV 2) (e2 (p2 powV) (eC (.int 10)) (eC (.int 18)))) aNil))) (aCons (e2 (p2 addV) (e2 (p2 modV) (eV 2) (eC (.int 2147483647))) (e2 (p2 mulV) (eC (.int 7919)) (eV 1))) (aCons (eC (.int 0)) aNil))))) aNil))))
      (sRet (eC (.bl false)))
      sPass)
def b_law : MSt :=
  (sSeq (sFor (eN gEnum (aCons (eOfF (eSl (fun l h => pf1 (slF l h)) (eOfF (e2 gScr (eV 0) (eOfF (eN gLst (aCons (eC (.int 0)) aNil))))) oNone (oSome (eC (.int 5))))) aNil)) (.tp [(.nm 1), (.nm 2)]) (sScope f1_law))
    (sRet (e2 (gEqP "House" fn_House_eq) (eFrzG (eN (gCall 1 fn_product) (aCons (eOfF (eN gLst (aCons (eMake "House" ["size", "by_name"] 2 fi_House (aCons (eC (.int 2)) (aCons (eOfF (eN gLst aNil)) aNil))) (aCons (eMake "House" ["size", "by_name"] 2 fi_House (aCons (eC (.int 3)) (aCons (eOfF (eN gLst aNil)) aNil))) aNil)))) aNil))) (eN gTup (aCons (eMake "House" ["size", "by_name"] 2 fi_House (aCons (eC (.int 6)) (aCons (eOfF (eN gLst aNil)) aNil))) (aCons (eOfF (eN gLst (aCons (eN gTup (aCons (eC (.int 0)) (aCons (eC (.int 0)) (aCons (eC (.int 0)) (aCons (eC (.int 1)) (aCons (eC (.int 1)) (aCons (eC (.int 1)) aNil))))))) (aCons (eN gTup (aCons (eC (.int 0)) (aCons (eC (.int 1)) (aCons (eC (.int 2)) (aCons (eC (.int 0)) (aCons (eC (.int 1)) (aCons (eC (.int 2)) aNil))))))) aNil)))) aNil))))))
def fn_law : Fn := fnOf 3 b_law
end K71
namespace K71
open PySem PySem.Spec PyProof.Rows L2 PM
theorem is_whole_ok {d : PV} {μ : Store} (h : tyN d ≠ none) : fn_is_whole [.t d] μ = .ok (.t (.bl (isIntB d))) μ := by
  cases d <;> simp_all [fn_is_whole, b_is_whole, fnOf, startM, subT, isIntB, tyN]
theorem is_thing_ok {d : PV} {n : Int} {μ : Store} (h : tyN d ≠ none) : fn_is_thing [.t d, .t (.int n)] μ = .ok (.t (.bl (isThingB n d))) μ := by
  simp [fn_is_thing, b_is_thing, fnOf, startM, is_whole_ok h, eChain]
  cases d <;> simp [isIntB, isThingB]
  split <;> simp_all <;> omega
theorem is_row_ok {d : PV} {w n : Int} {k : Nat} {μ : Store} (h : SD k d) : fn_is_row [.t d, .t (.int w), .t (.int n)] μ = .ok (.t (.bl (isRowB d w n))) μ := by
  cases d with
  | tup l =>
    obtain ⟨m, rfl, hl, hm⟩ := h.tupE
    have e : lcL (.nm 3) tYes' e1_is_row l [some (.t (.tup l)), some (.t (.int w)), some (.t (.int n)), none] μ = .ok (l.map fun d => .bl (isThingB n d)) μ := lcL_map _ fun d hd => ⟨_, asg_nm, rfl, by simp [e1_is_row, is_thing_ok (hm d hd).ty]⟩
    have z : szF (l.map fun d => PV.bl (isThingB n d)) μ = .ok _ μ := szF_ok (by rw [List.length_map]; exact szL _ (by omega))
    by_cases hw : (l.length : Int) = w
    · simp [fn_is_row, b_is_row, fnOf, startM, subT, isRowB, hw, wipeM, e, z, allV_map]
    · simp [fn_is_row, b_is_row, fnOf, startM, subT, isRowB, hw]
  | obj C a b => exact absurd h SD_obj
  | _ => simp [fn_is_row, b_is_row, fnOf, startM, subT, isRowB]

/-! names, deeds, houses -/
def smallB (c : Nat) : Bool := decide (c ∈ ("abcdefghijklmnopqrstuvwxyz" : Str).cps.toList)
def isNameB : PV → Bool
  | .str z => decide ((2 : Int) ≤ z.length) && (decide ((z.length : Int) ≤ 8) && z.cps.toList.all smallB)
  | _ => false
def isDeedB (n : Int) : PV → Bool
  | .tup [a, .int p, c] => isNameB a && (decide (0 ≤ p) && (decide (p ≤ 3) && isRowB c (n ^ p.toNat) n))
  | _ => false
def nameD : PV → PV
  | .tup (a :: _) => a
  | _ => .non
theorem is_name_ok {d : PV} {k : Nat} {μ : Store} (h : SB k d) : fn_is_name [.t d] μ = .ok (.t (.bl (isNameB d))) μ := by
  cases d with
  | str z =>
    have hz := SB_str.mp h
    have e : lcL (.nm 1) tYes' e1_is_name (z.cps.toList.map fun c => .str ⟨#[c]⟩) [some (.t (.str z)), none] μ = .ok (z.cps.toList.map fun c => .bl (smallB c)) μ := by
      rw [lcL_map (fun d => match d with | .str x => (match x.cps.toList with | [c] => .bl (smallB c) | _ => .non) | _ => .non) ?_, List.map_map]
      · rfl
      · intro d hd
        obtain ⟨c, _, rfl⟩ := List.mem_map.mp hd
        exact ⟨_, asg_nm, rfl, by simp [e1_is_name, inPV_sign, smallB]⟩
    have z1 : szF (z.cps.toList.map fun c => PV.bl (smallB c)) μ = .ok _ μ := szF_ok (by rw [List.length_map, ← str_len]; exact szL _ (by omega))
    have al := allV_map z.cps.toList smallB
    by_cases h1 : (2 : Int) ≤ z.length
    · by_cases h2 : (z.length : Int) ≤ 8
      · simp [fn_is_name, b_is_name, fnOf, startM, subT, isNameB, eChain, lenV_str hz, h1, h2, wipeM, e, z1, al]
      · simp [fn_is_name, b_is_name, fnOf, startM, subT, isNameB, eChain, lenV_str hz, h1, h2]
    · simp [fn_is_name, b_is_name, fnOf, startM, subT, isNameB, eChain, lenV_str hz, h1]
  | obj C a b => exact absurd h SB_noobj
  | _ => simp [fn_is_name, b_is_name, fnOf, startM, subT, isNameB]
theorem cells_ok {n p : Int} {μ : Store} (hn1 : 0 ≤ n) (hn9 : n ≤ 1000) (h0 : 0 ≤ p) (h3 : p ≤ 3) : fn_cells [.t (.int n), .t (.int p)] μ = .ok (.t (.int (n ^ p.toNat))) μ := by
  have hm : ∀ i, mulV (.int i) (.int n) = some (.int (i * n)) := fun i => mulV_ok (by omega) (by omega)
  have hp : p = ((p.toNat : Nat) : Int) := by omega
  have hq : p.toNat = 0 ∨ p.toNat = 1 ∨ p.toNat = 2 ∨ p.toNat = 3 := by omega
  rw [hp, Int.toNat_natCast]
  rcases hq with e | e | e | e <;> rw [e] <;>
    simp [fn_cells, b_cells, fnOf, startM, range1_ok, rgI, List.range, List.range.loop, forL, f1_cells, hm, Int.pow_succ, gRange1, bnd]
theorem is_deed_ok {d : PV} {n : Int} {k : Nat} {μ : Store} (h : SB k d) (hn1 : 0 ≤ n) (hn9 : n ≤ 1000) : fn_is_deed [.t d, .t (.int n)] μ = .ok (.t (.bl (isDeedB n d))) μ := by
  cases d with
  | tup l =>
    obtain ⟨m, rfl, hl, hm⟩ := h.tupE
    match l, hl, hm with
    | [a, b, c], _, hm =>
      have ha := hm a (by simp)
      have hb := hm b (by simp)
      have hc := hm c (by simp)
      have k1 := is_name_ok (μ := μ) ha
      have k2 := is_whole_ok (μ := μ) hb.ty
      have at0 : atI [a, b, c] 0 = some a := rfl
      cases hna : isNameB a with
      | false =>
        rw [hna] at k1
        have e : isDeedB n (.tup [a, b, c]) = false := by
          unfold isDeedB
          split
          · rename_i heq; cases heq; rw [hna]; rfl
          · rfl
        simp [fn_is_deed, b_is_deed, fnOf, startM, subT, at0, k1, e]
      | true =>
        rw [hna] at k1
        cases b with
        | int p =>
          by_cases h0 : 0 ≤ p
          · by_cases h3 : p ≤ 3
            · have k3 := cells_ok (μ := μ) hn1 hn9 h0 h3
              have k4 := is_row_ok (w := n ^ p.toNat) (n := n) (μ := μ) hc.sd
              simp [fn_is_deed, b_is_deed, fnOf, startM, subT, at0, k1, k2, isIntB, sAsg_tp, eChain, h0, h3, k3, k4, isDeedB, hna]
            · simp [fn_is_deed, b_is_deed, fnOf, startM, subT, at0, k1, k2, isIntB, sAsg_tp, eChain, h0, h3, isDeedB, hna]
          · simp [fn_is_deed, b_is_deed, fnOf, startM, subT, at0, k1, k2, isIntB, sAsg_tp, eChain, h0, isDeedB, hna]
        | _ => simp [fn_is_deed, b_is_deed, fnOf, startM, subT, at0, k1, k2, isIntB, sAsg_tp, isDeedB]
    | [], _, _ => simp [fn_is_deed, b_is_deed, fnOf, startM, subT, isDeedB]
    | [_], _, _ => simp [fn_is_deed, b_is_deed, fnOf, startM, subT, isDeedB]
    | [_, _], _, _ => simp [fn_is_deed, b_is_deed, fnOf, startM, subT, isDeedB]
    | a :: b :: c :: d :: r, _, _ =>
      have e : ¬ ((r.length : Int) + 1 + 1 + 1 + 1 = 3) := by omega
      simp [fn_is_deed, b_is_deed, fnOf, startM, subT, isDeedB, e]
  | obj C a b => exact absurd h SB_noobj
  | _ => simp [fn_is_deed, b_is_deed, fnOf, startM, subT, isDeedB]
theorem isDeed_name {n : Int} {d : PV} (h : isDeedB n d = true) : ∃ z p c, d = .tup [.str z, .int p, c] ∧ nameD d = .str z := by
  unfold isDeedB at h
  split at h
  · rename_i a p c
    rw [Bool.and_eq_true] at h
    cases a with
    | str z => exact ⟨z, p, c, rfl, rfl⟩
    | _ => cases h.1
  · cases h
/-- the first deed that is none, or that has a name told ahead -/
def hDue (n : Int) : Nat → List PV → List PV → Option Nat
  | _, _, [] => none
  | k, seen, d :: ds => if isDeedB n d && !(seen.any (keyEq · (nameD d))) then hDue n (k + 1) (seen ++ [nameD d]) ds else some k
/-- what House says of a size and a list -/
def houseDue (s l : PV) : Option Int := match s with
  | .int n => if decide (1 ≤ n) && decide (n ≤ 9) then (match l with
    | .lst ds => if ds.length ≤ 6 then (hDue n 0 [] ds).map fun (k : Nat) => (k : Int) else some (-1)
    | _ => some (-1)) else some (-1)
  | _ => some (-1)
def houseV (n : Int) (ds : List PV) : PV := .obj "House" ["size", "by_name"] [.int n, .dic false (ds.map nameD) ds]
theorem hDue_le {n : Int} {k j : Nat} {seen ds : List PV} (h : hDue n k seen ds = some j) : k ≤ j := by
  induction ds generalizing k seen with
  | nil => unfold hDue at h; cases h
  | cons d ds ih =>
    unfold hDue at h
    split at h
    · have := ih h
      omega
    · cases h; exact Nat.le_refl _
theorem house_loop {n : Int} {s0 : Val} {dl : PV} {m : Nat} {μ : Store} (hn1 : 0 ≤ n) (hn9 : n ≤ 1000) : ∀ (ds : List PV) (k : Nat) (done : List PV) (x y : Option Val), (∀ d ∈ ds, SB m d) → done.length + ds.length ≤ 1000 →
    (∀ j, hDue n k (done.map nameD) ds = some j → ∃ σ, forL (.tp [.nm 4, .nm 5]) f1_House_init (enumF k ds) [some s0, some (.t (.int n)), some (.t dl), some (.c μ.length), x, y] (μ ++ [some (.dic false (done.map nameD) done)]) = .ex "NoHouse" (some ("at", .int (j : Int))) σ (μ ++ [some (.dic false ((done ++ ds.take (j - k)).map nameD) (done ++ ds.take (j - k)))])) ∧
    (hDue n k (done.map nameD) ds = none → ∃ x' y', forL (.tp [.nm 4, .nm 5]) f1_House_init (enumF k ds) [some s0, some (.t (.int n)), some (.t dl), some (.c μ.length), x, y] (μ ++ [some (.dic false (done.map nameD) done)]) = .nx [some s0, some (.t (.int n)), some (.t dl), some (.c μ.length), x', y'] (μ ++ [some (.dic false ((done ++ ds).map nameD) (done ++ ds))]))
  | [], k, done, x, y, _, _ => by
    refine ⟨fun j h => by (unfold hDue at h; cases h), fun _ => ⟨x, y, ?_⟩⟩
    rw [List.append_nil]
    rfl
  | d :: ds, k, done, x, y, hm, hl => by
    have hd := hm d List.mem_cons_self
    have k1 := is_deed_ok (n := n) (μ := μ ++ [some (.dic false (done.map nameD) done)]) hd hn1 hn9
    have hl' : done.length + (ds.length + 1) ≤ 1000 := hl
    unfold hDue
    cases hb : isDeedB n d with
    | false =>
      rw [hb] at k1
      refine ⟨fun j h => ?_, fun h => by simp at h⟩
      have ej : k = j := by simpa using h
      subst ej
      rw [Nat.sub_self, List.take_zero, List.append_nil, enumF]
      exact ⟨_, forL_ex (σ1 := [some s0, some (.t (.int n)), some (.t dl), some (.c μ.length), some (.t (.int k)), some (.t d)]) (σ2 := [some s0, some (.t (.int n)), some (.t dl), some (.c μ.length), some (.t (.int k)), some (.t d)]) (by simp) (by simp [f1_House_init, k1, sRaise])⟩
    | true =>
      rw [hb] at k1
      obtain ⟨z, p, c, rfl, hz⟩ := isDeed_name hb
      have at0 : atI [.str z, .int p, c] 0 = some (.str z) := rfl
      have hin : inPV (.str z) (.dic false (done.map nameD) done) = some (.bl ((done.map nameD).any (keyEq · (.str z)))) := by
        rw [inPV_dic rfl, dfind_some (by rw [List.length_map])]
      have hv : view (μ ++ [some (.dic false (done.map nameD) done)]) (.c μ.length) = some (.dic false (done.map nameD) done) := by simp [view]
      have hp : ∀ w : PV, p2 inPV (.t (.str z)) (.c μ.length) (μ ++ [some (.dic false (done.map nameD) done)]) = .ok (.t (.bl ((done.map nameD).any (keyEq · (.str z))))) (μ ++ [some (.dic false (done.map nameD) done)]) := by
        intro _
        unfold p2
        rw [hv]
        simp only [view_t, hin, Option.map_some, orok_some]
      rw [hz]
      cases hs : (done.map nameD).any (keyEq · (.str z)) with
      | true =>
        rw [hs] at hp
        refine ⟨fun j h => ?_, fun h => by simp at h⟩
        have ej : k = j := by simpa using h
        subst ej
        rw [Nat.sub_self, List.take_zero, List.append_nil, enumF]
        exact ⟨_, forL_ex (σ1 := [some s0, some (.t (.int n)), some (.t dl), some (.c μ.length), some (.t (.int k)), some (.t (.tup [.str z, .int p, c]))]) (σ2 := [some s0, some (.t (.int n)), some (.t dl), some (.c μ.length), some (.t (.int k)), some (.t (.tup [.str z, .int p, c]))]) (by simp) (by simp [f1_House_init, k1, sRaise, at0, hp .non])⟩
      | false =>
        rw [hs] at hp
        have hput : gDPut (.t (.tup [.str z, .int p, c])) (.c μ.length) (.t (.str z)) (μ ++ [some (.dic false (done.map nameD) done)]) = some (μ ++ [some (.dic false ((done ++ [PV.tup [.str z, .int p, c]]).map nameD) (done ++ [PV.tup [.str z, .int p, c]]))]) := by
          have hb2 : Nat.blt (done.map nameD).length 16777216 = true := Nat.ble_eq_true_of_le (by rw [List.length_map]; omega)
          simp [gDPut, dicAt, dput_new hs, hb2, nameD, -List.length_map]
        have hb : f1_House_init [some s0, some (.t (.int n)), some (.t dl), some (.c μ.length), some (.t (.int k)), some (.t (.tup [.str z, .int p, c]))] (μ ++ [some (.dic false (done.map nameD) done)]) = .nx [some s0, some (.t (.int n)), some (.t dl), some (.c μ.length), some (.t (.int k)), some (.t (.tup [.str z, .int p, c]))] (μ ++ [some (.dic false ((done ++ [PV.tup [.str z, .int p, c]]).map nameD) (done ++ [PV.tup [.str z, .int p, c]]))]) := by
          simp only [f1_House_init, sSeq_eq, sIf_eq, tOr_eq, tNot_eq, tVal_eq, eN_eq, aCons_eq, eV_eq, List.getElem?_cons_succ, List.getElem?_cons_zero, bind_ok, aNil_eq, gCall_2, k1, gBl_bl, Bool.not_true, Bool.false_eq_true, if_false, e2_eq, eC_eq, p2_t, atV_tup, at0, Option.map_some, orok_some, hp .non, st_ok, sPass_eq, seq_nx, PM.sDPut, hput]
        have ih' := house_loop (n := n) (s0 := s0) (dl := dl) (m := m) (μ := μ) hn1 hn9 ds (k + 1) (done ++ [PV.tup [.str z, .int p, c]]) (some (.t (.int k))) (some (.t (.tup [.str z, .int p, c]))) (fun d hd => hm d (List.mem_cons_of_mem _ hd)) (by simp; omega)
        have st : forL (.tp [.nm 4, .nm 5]) f1_House_init (enumF k (.tup [.str z, .int p, c] :: ds)) [some s0, some (.t (.int n)), some (.t dl), some (.c μ.length), x, y] (μ ++ [some (.dic false (done.map nameD) done)]) = forL (.tp [.nm 4, .nm 5]) f1_House_init (enumF (k + 1) ds) [some s0, some (.t (.int n)), some (.t dl), some (.c μ.length), some (.t (.int k)), some (.t (.tup [.str z, .int p, c]))] (μ ++ [some (.dic false ((done ++ [PV.tup [.str z, .int p, c]]).map nameD) (done ++ [PV.tup [.str z, .int p, c]]))]) := by
          rw [enumF]
          exact forL_nx (by simp) hb
        have en : (done ++ [PV.tup [.str z, .int p, c]]).map nameD = done.map nameD ++ [.str z] := by rw [List.map_append]; rfl
        rw [st]
        refine ⟨fun j h => ?_, fun h => ?_⟩
        · have hj : hDue n (k + 1) ((done ++ [PV.tup [.str z, .int p, c]]).map nameD) ds = some j := by rw [en]; simpa using h
          obtain ⟨σ, e⟩ := ih'.1 j hj
          have hjk : k + 1 ≤ j := hDue_le hj
          refine ⟨σ, ?_⟩
          rw [e]
          have e2 : j - k = (j - (k + 1)) + 1 := by omega
          rw [e2, List.take_succ_cons, List.append_assoc]
          rfl
        · have hj : hDue n (k + 1) ((done ++ [PV.tup [.str z, .int p, c]]).map nameD) ds = none := by rw [en]; simpa using h
          obtain ⟨x', y', e⟩ := ih'.2 hj
          refine ⟨x', y', ?_⟩
          rw [e, List.append_assoc]
          rfl

theorem iPre_nx {A : MSt} {r : MI} {σ σ1 : Sl} {μ μ1 : Store} (h : A σ μ = .nx σ1 μ1) : iPre A r σ μ = r σ1 μ1 := by unfold iPre; rw [h]
theorem iPre_ex {A : MSt} {r : MI} {σ σ1 : Sl} {μ μ1 : Store} {c : Str} {f} (h : A σ μ = .ex c f σ1 μ1) : iPre A r σ μ = .ex c f μ1 := by unfold iPre; rw [h]
def isLstB : PV → Bool
  | .lst _ => true
  | _ => false
def noInit (s l : PV) : Sl := [some .self, some (.t s), some (.t l), none, none, none]
theorem house_p1 {s l : PV} {μ : Store} (hs : tyN s ≠ none) : p1_House_init (noInit s l) μ = (match s with
    | .int n => if decide (1 ≤ n) && decide (n ≤ 9) then .nx (noInit s l) μ else .ex "NoHouse" (some ("at", .int (-1))) (noInit s l) μ
    | _ => .ex "NoHouse" (some ("at", .int (-1))) (noInit s l) μ) := by
  have kw := is_whole_ok (μ := μ) hs
  cases s with
  | int n =>
    by_cases h1 : 1 ≤ n
    · by_cases h9 : n ≤ 9
      · simp [p1_House_init, noInit, kw, isIntB, eChain, h1, h9]
      · simp [p1_House_init, noInit, kw, isIntB, eChain, h1, h9, sRaise]
    · simp [p1_House_init, noInit, kw, isIntB, eChain, h1, sRaise]
  | _ => simp [p1_House_init, noInit, kw, isIntB, sRaise]
theorem isTy_lstB {l : PV} (h : tyN l ≠ none) : isTy "list" l = some (.bl (isLstB l)) := by
  cases l <;> first | rfl | exact absurd rfl h
theorem house_p2 {s l : PV} {μ : Store} (hl : tyN l ≠ none) : p2_House_init (noInit s l) μ = (match l with
    | .lst ds => if ds.length ≤ 6 then .nx (noInit s l) μ else .ex "NoHouse" (some ("at", .int (-1))) (noInit s l) μ
    | _ => .ex "NoHouse" (some ("at", .int (-1))) (noInit s l) μ) := by
  have kl := isTy_lstB hl
  cases l with
  | lst ds =>
    by_cases h6 : ds.length ≤ 6
    · have c6 : ¬ ((6 : Int) < ds.length) := by omega
      simp [p2_House_init, noInit, kl, isLstB, c6, h6]
    · have c6 : (6 : Int) < ds.length := by omega
      simp [p2_House_init, noInit, kl, isLstB, c6, h6, sRaise]
  | _ => simp [p2_House_init, noInit, kl, isLstB, sRaise]
theorem house_init {s l : PV} {m : Nat} {μ : Store} (hs : SB m s) (hl : SB m l ∨ ∃ ks vs, l = .dic false ks vs) :
    (∀ j, houseDue s l = some j → fi_House [.t s, .t l] μ = .ex "NoHouse" (some ("at", .int j)) μ) ∧
    (houseDue s l = none → ∃ n ds, s = .int n ∧ l = .lst ds ∧ fi_House [.t s, .t l] μ = .ok [.t (.int n), .t (.dic false (ds.map nameD) ds)] μ) := by
  have tl : tyN l ≠ none := by
    rcases hl with hl | ⟨ks, vs, rfl⟩
    · exact hl.ty
    · exact fun z => nomatch z
  have q1 := house_p1 (l := l) (μ := μ) hs.ty
  have q2 := house_p2 (s := s) (μ := μ) tl
  have st : startM 6 [.self, .t s, .t l] = noInit s l := rfl
  unfold fi_House iniOf bi_House houseDue
  rw [st]
  cases s with
  | int n =>
    cases hr : (decide (1 ≤ n) && decide (n ≤ 9)) with
    | false =>
      simp only [hr, Bool.false_eq_true, if_false] at q1 ⊢
      exact ⟨fun j h => by cases h; rw [iPre_ex q1]; simp [finI], fun h => by cases h⟩
    | true =>
      have h1 : 1 ≤ n := by simp at hr; exact hr.1
      have h9 : n ≤ 9 := by simp at hr; exact hr.2
      simp only [hr, if_true] at q1 ⊢
      rw [iPre_nx q1]
      cases l with
      | lst ds =>
        have hm : ∀ d ∈ ds, SB m d := by
          rcases hl with hl | ⟨ks, vs, h⟩
          · obtain ⟨m', rfl, _, hm⟩ := hl.lstE
            exact fun d hd => (hm d hd).up (by omega)
          · cases h
        by_cases h6 : ds.length ≤ 6
        · simp only [h6, if_true] at q2 ⊢
          have q3 : p3_House_init (noInit (.int n) (.lst ds)) μ = .nx [some .self, some (.t (.int n)), some (.t (.lst ds)), some (.c μ.length), none, none] (μ ++ [some (.dic false [] [])]) := by simp [p3_House_init, noInit]
          have q4 : p4_House_init [some .self, some (.t (.int n)), some (.t (.lst ds)), some (.c μ.length), none, none] (μ ++ [some (.dic false [] [])]) = forL (.tp [.nm 4, .nm 5]) f1_House_init (enumF 0 ds) [some .self, some (.t (.int n)), some (.t (.lst ds)), some (.c μ.length), none, none] (μ ++ [some (.dic false [] [])]) := by simp [p4_House_init, enumP_F]
          have L := house_loop (n := n) (s0 := .self) (dl := .lst ds) (m := m) (μ := μ) (by omega) (by omega) ds 0 [] none none hm (by simp; omega)
          rw [iPre_nx q2, iPre_nx q3]
          refine ⟨fun j h => ?_, fun h => ?_⟩
          · obtain ⟨k, hk, rfl⟩ := Option.map_eq_some_iff.mp h
            obtain ⟨σ, e⟩ := L.1 k hk
            rw [iPre_ex (q4.trans e)]
            simp [finI]
          · have hk : hDue n 0 [] ds = none := by simpa using h
            obtain ⟨x', y', e⟩ := L.2 hk
            refine ⟨n, ds, rfl, rfl, ?_⟩
            rw [iPre_nx (q4.trans e)]
            simp [iFld, isSelf, iPre, sFrz, frz1, iNil, finI, isT]
        · simp only [h6, if_false] at q2 ⊢
          exact ⟨fun j h => by cases h; rw [iPre_ex q2]; simp [finI], fun h => by cases h⟩
      | _ => exact ⟨fun j h => by cases h; rw [iPre_ex q2]; simp [finI], fun h => by cases h⟩
  | _ => exact ⟨fun j h => by cases h; rw [iPre_ex q1]; simp [finI], fun h => by cases h⟩
/-- House(s, l) -/
theorem house_make {s l : PV} {m : Nat} {μ : Store} (hs : SB m s) (hl : SB m l ∨ ∃ ks vs, l = .dic false ks vs) :
    (∀ j, houseDue s l = some j → (fi_House [.t s, .t l] μ).bind (mkOb "House" ["size", "by_name"]) = .ex "NoHouse" (some ("at", .int j)) μ) ∧
    (houseDue s l = none → ∃ n ds, s = .int n ∧ l = .lst ds ∧ (fi_House [.t s, .t l] μ).bind (mkOb "House" ["size", "by_name"]) = .ok (.t (houseV n ds)) μ) := by
  obtain ⟨h1, h2⟩ := house_init (μ := μ) hs hl
  refine ⟨fun j h => by rw [h1 j h]; rfl, fun h => ?_⟩
  obtain ⟨n, ds, rfl, rfl, e⟩ := h2 h
  exact ⟨n, ds, rfl, rfl, by rw [e]; rfl⟩

/-! draws, the mixed ones by 7907 -/
def dz7 (w : W3) : Int :=
  let x := (w.2.1 + 7907 * (w.2.2 + 1) + 3) * 48271 % 2147483647
  let y := x * (x / 1013 + 69621) % 2147483647
  y * (y / 2003 + 40692) % 2147483399
def dr7 (m : Nat) (w : W3) : Nat × W3 := if 0 < w.1 then ((w.1 % (m : Int)).toNat, (w.1 / (m : Int), w.2.1, w.2.2)) else ((dz7 w % (m : Int)).toNat, (w.1, w.2.1, w.2.2 + 1))
theorem dr7_lt {m : Nat} {w : W3} (h : 0 < m) : (dr7 m w).1 < m := by
  unfold dr7
  split
  · have h1 := Int.emod_nonneg w.1 (b := (m : Int)) (by omega)
    have h2 := Int.emod_lt_of_pos w.1 (b := (m : Int)) (by omega)
    simp only; omega
  · have h1 := Int.emod_nonneg (dz7 w) (b := (m : Int)) (by omega)
    have h2 := Int.emod_lt_of_pos (dz7 w) (b := (m : Int)) (by omega)
    simp only; omega
theorem draw_7 {w : W3} {t : Store} {m : Nat} (h0 : 0 < m) (h1 : m < 1073741824) : fn__law_draw [.c 0, .t (.int (m : Int))] (wlw w :: t) = .ok (.t (.int ((dr7 m w).1 : Int))) (wlw (dr7 m w).2 :: t) := by
  obtain ⟨a, b, c⟩ := w
  have h0' : (0 : Int) < m := by omega
  have h1' : (m : Int) < 1073741824 := by omega
  have q1 := Int.emod_nonneg a (b := (m : Int)) (by omega)
  have q2 := Int.emod_nonneg (dz7 (a, b, c)) (b := (m : Int)) (by omega)
  unfold dr7
  by_cases ha : 0 < a
  · simp only [ha, if_true, Int.toNat_of_nonneg q1]
    simp [wlw, fn__law_draw, b__law_draw, fnOf, startM, p2, view, atI, ixN, ha, modV, fdiv_ok h0' h1', h0', h0, sSetL, gSetL, lstAt, endM, fin]
  · simp only [ha, if_false, Int.toNat_of_nonneg q2]
    simp [wlw, dz7, fn__law_draw, b__law_draw, fnOf, startM, p2, view, atI, ixN, ha, modV, fdiv_ok (j := 1013) (by decide) (by decide), fdiv_ok (j := 2003) (by decide) (by decide), h0', h0, sSetL, gSetL, lstAt, endM, fin, mulV, inW_mod, show inW 7907 = true by decide, show inW 48271 = true by decide]
theorem drawX (w : W3) (m : Nat) (M : Int) (hM : M = (m : Int) := by rfl) (h0 : 0 < m := by omega) (h1 : m < 1073741824 := by omega) : ∃ (i : Nat) (w1 : W3), i < m ∧ ∀ t, fn__law_draw [.c 0, .t (.int M)] (wlw w :: t) = .ok (.t (.int (i : Int))) (wlw w1 :: t) := ⟨_, _, dr7_lt h0, fun _ => by rw [hM]; exact draw_7 h0 h1⟩

/-! rows of things, names of letters -/
def allR (n : Nat) : Nat → List (List Int)
  | 0 => [[]]
  | p + 1 => (allR n p).flatMap fun r => (List.range n).map fun (t : Nat) => r ++ [(t : Int)]
theorem allR_len (n : Nat) : ∀ p, (allR n p).length = n ^ p
  | 0 => rfl
  | p + 1 => by
    show ((allR n p).flatMap fun r => (List.range n).map fun (t : Nat) => r ++ [(t : Int)]).length = _
    rw [List.length_flatMap]
    simp only [List.length_map, List.length_range]
    rw [List.map_const', List.sum_replicate_nat, allR_len n p, Nat.pow_succ]
theorem allR_mem {n : Nat} : ∀ {p : Nat} {r : List Int}, r ∈ allR n p → r.length = p ∧ ∀ x ∈ r, 0 ≤ x ∧ x < n
  | 0, r, h => by
    rw [List.mem_singleton.mp h]
    exact ⟨rfl, fun x hx => nomatch hx⟩
  | p + 1, r, h => by
    obtain ⟨q, hq, hr⟩ := List.mem_flatMap.mp h
    obtain ⟨t, ht, rfl⟩ := List.mem_map.mp hr
    have ht := List.mem_range.mp ht
    obtain ⟨h1, h2⟩ := allR_mem hq
    refine ⟨by simp [h1], fun x hx => ?_⟩
    rcases List.mem_append.mp hx with hx | hx
    · exact h2 x hx
    · rw [List.mem_singleton.mp hx]; omega
theorem pow_le_729 {n p : Nat} (hn : n ≤ 9) (hp : p ≤ 3) : n ^ p ≤ 729 :=
  Nat.le_trans (Nat.pow_le_pow_left hn p) (Nat.le_trans (Nat.pow_le_pow_right (by decide) hp) (by decide))
def inR (n : Nat) (l : List Int) : Prop := ∀ x ∈ l, 0 ≤ x ∧ x < (n : Int)
theorem at_inR {n : Nat} {l : List Int} {i : Nat} (h : inR n l) (hi : i < l.length) : ∃ x : Int, atI (l.map PV.int) (i : Int) = some (.int x) ∧ 0 ≤ x ∧ x < n := by
  rw [at_int hi]
  exact ⟨_, rfl, h _ (PM.getD_mem hi)⟩
def abcL : List Nat := (List.range 26).map (· + 97)
theorem abc_eq : ("abcdefghijklmnopqrstuvwxyz" : Str) = sg abcL := by decide +kernel
theorem nil_eq : ("" : Str) = sg [] := by decide +kernel
theorem abc_at {i : Nat} (h : i < 26) : atV (.str (sg abcL)) (.int (i : Int)) = some (.str (sg [97 + i])) := by
  rw [atV_sg (by decide) (by simpa [abcL] using h)]
  simp [abcL, Nat.add_comm]
theorem small_of {c : Nat} (h1 : 97 ≤ c) (h2 : c < 123) : smallB c = true := by
  unfold smallB
  rw [abc_eq, sg_list, decide_eq_true_eq]
  exact List.mem_map.mpr ⟨c - 97, List.mem_range.mpr (by omega), by omega⟩
def goodL (l : List Nat) : Prop := 2 ≤ l.length ∧ l.length ≤ 8 ∧ ∀ c ∈ l, 97 ≤ c ∧ c < 123
theorem isName_sg {l : List Nat} (h : goodL l) : isNameB (.str (sg l)) = true := by
  obtain ⟨h1, h2, h3⟩ := h
  have e : l.all smallB = true := List.all_eq_true.mpr fun c hc => small_of (h3 c hc).1 (h3 c hc).2
  have c1 : (2 : Int) ≤ l.length := by omega
  have c2 : (l.length : Int) ≤ 8 := by omega
  simp [isNameB, e, c1, c2]
theorem flat_singles (rs : List Nat) : TL.joinL [] (rs.map fun r => [97 + r]) = rs.map (97 + ·) := by
  rw [joinL_nil]
  induction rs with
  | nil => rfl
  | cons r rs ih => simp [ih]

/-! names by steps of nine -/
def nameL9 (S : List Nat) (i f k : Nat) : List Nat := S.take i ++ (97 + (f + 9 * k) % 26) :: S.drop i
theorem names7 (w : W3) {m : Nat} (hm : m ≤ 6) : ∃ (nms : List (List Nat)) (w' : W3), nms.length = m ∧ (∀ l ∈ nms, goodL l) ∧ nms.Nodup ∧ ∀ t, fn__law_names [.c 0, .t (.int (m : Int))] (wlw w :: t) = .ok (.t (.lst (nms.map fun l => .str (sg l)))) (wlw w' :: t) := by
  obtain ⟨n7, w1, h7, e1⟩ := drawX w 7 7
  have st2 : ∃ (rs : List Nat) (w2 : W3), rs.length = 1 + n7 ∧ (∀ r ∈ rs, r < 26) ∧ ∀ t, lcL (.nm 6) tYes' e1__law_names (rgI 0 (1 + n7)) [some (.c 0), some (.t (.int (m : Int))), some (.t (.str (sg abcL))), none, none, none, none] (wlw w1 :: t) = .ok ((rs.map fun r => [97 + r]).map fun l => .str (sg l)) (wlw w2 :: t) := by
    have go : ∀ (k : Nat) (o : Int) (w1 : W3), ∃ (rs : List Nat) (w2 : W3), rs.length = k ∧ (∀ r ∈ rs, r < 26) ∧ ∀ t, lcL (.nm 6) tYes' e1__law_names ((List.range k).map fun (j : Nat) => .int (o + (j : Int))) [some (.c 0), some (.t (.int (m : Int))), some (.t (.str (sg abcL))), none, none, none, none] (wlw w1 :: t) = .ok ((rs.map fun r => [97 + r]).map fun l => .str (sg l)) (wlw w2 :: t) := by
      intro k
      induction k with
      | zero => exact fun o w1 => ⟨[], w1, rfl, fun r hr => (nomatch hr), fun t => rfl⟩
      | succ k ih =>
        intro o w1
        obtain ⟨r, w3, hr, er⟩ := drawX w1 26 26
        obtain ⟨rs, w2, h1, h2, h3⟩ := ih (o + 1) w3
        refine ⟨r :: rs, w2, by simp [h1], fun z hz => ?_, fun t => ?_⟩
        · rcases List.mem_cons.mp hz with e | e
          · rw [e]; exact hr
          · exact h2 z e
        · have el : ((List.range (k + 1)).map fun (j : Nat) => PV.int (o + (j : Int))) = .int (o + 0) :: (List.range k).map fun (j : Nat) => .int (o + 1 + (j : Int)) := by
            rw [List.range_succ_eq_map, List.map_cons, List.map_map]
            congr 1
            refine List.map_congr_left fun j _ => ?_
            simp only [Function.comp]
            congr 1
            omega
          rw [el]
          exact lcL_cons (σ1 := [some (.c 0), some (.t (.int (m : Int))), some (.t (.str (sg abcL))), none, none, none, some (.t (.int (o + 0)))]) (μ2 := wlw w3 :: t) asg_nm rfl (by simp [e1__law_names, er, abc_at hr]) (h3 t)
    exact go (1 + n7) 0 w1
  obtain ⟨rs, w2, hrl2, hrs, es⟩ := st2
  have hsum : ∀ rs : List Nat, ((rs.map fun r => [97 + r]).map List.length).sum = rs.length := by
    intro rs
    induction rs with
    | nil => rfl
    | cons r rs ih => simp at ih ⊢; omega
  have ej : ∀ t, _ := fun t => gJoin_sg (s := []) (ls := rs.map fun r => [97 + r]) (μ := wlw w2 :: t) (by rw [hsum]; simp; omega) (fun c hc => nomatch hc) (fun l hl c hc => by
    obtain ⟨r, hr, rfl⟩ := List.mem_map.mp hl
    rw [List.mem_singleton.mp hc]
    have := hrs r hr
    omega)
  simp only [flat_singles] at ej
  obtain ⟨f, w3, hf, e3⟩ := drawX w2 26 26
  obtain ⟨i, w4, hi, e4⟩ := drawX w3 (rs.length + 1) ((rs.length : Int) + 1)
  generalize hS : rs.map (97 + ·) = S at ej
  have hSl : S.length = rs.length := by rw [← hS, List.length_map]
  have hSc : ∀ c ∈ S, 97 ≤ c ∧ c < 123 := by
    intro c hc
    rw [← hS] at hc
    obtain ⟨r, hr, rfl⟩ := List.mem_map.mp hc
    have := hrs r hr
    omega
  refine ⟨(List.range m).map (nameL9 S i f), w4, by simp, ?_, ?_, fun t => ?_⟩
  · intro l hl
    obtain ⟨k, hk, rfl⟩ := List.mem_map.mp hl
    refine ⟨by simp [nameL9]; omega, by simp [nameL9]; omega, fun c hc => ?_⟩
    rcases List.mem_append.mp hc with hc | hc
    · exact hSc c (List.mem_of_mem_take hc)
    · rcases List.mem_cons.mp hc with e | hc
      · have := Nat.mod_lt (f + 9 * k) (show 0 < 26 by decide)
        omega
      · exact hSc c (List.mem_of_mem_drop hc)
  · rw [List.Nodup, List.pairwise_map]
    refine List.Pairwise.imp_of_mem ?_ (List.nodup_range (n := m))
    intro x y hx hy hxy e
    have hx := List.mem_range.mp hx
    have hy := List.mem_range.mp hy
    have e2 := List.append_cancel_left e
    have e3 : (f + 9 * x) % 26 = (f + 9 * y) % 26 := by
      have := List.cons.inj e2
      omega
    exact hxy (by omega)
  · have el : lcL (.nm 6) tYes' e2__law_names (rgI 0 m) [some (.c 0), some (.t (.int (m : Int))), some (.t (.str (sg abcL))), some (.t (.str (sg S))), some (.t (.int (f : Int))), some (.t (.int (i : Int))), none] (wlw w4 :: t) = .ok ((rgI 0 m).map fun d => match d with | .int k => .str (sg (nameL9 S i f k.toNat)) | _ => .non) (wlw w4 :: t) := by
      refine lcL_map _ fun d hd => ?_
      rw [rgI_nat] at hd
      obtain ⟨k, hk, rfl⟩ := List.mem_map.mp hd
      have hk := List.mem_range.mp hk
      refine ⟨_, asg_nm, rfl, ?_⟩
      have s1 : slV none (some (i : Int)) (.str (sg S)) = some (.str (sg (S.take i))) := by rw [slV_sg (by omega), cut_to (by omega)]
      have s2 : slV (some (i : Int)) none (.str (sg S)) = some (.str (sg (S.drop i))) := by rw [slV_sg (by omega), cut_from (by omega)]
      have m1 : mulV (.int 9) (.int (k : Int)) = some (.int (9 * (k : Int))) := mulV_ok' (by decide) (by decide)
      have m2 : modV (.int ((f : Int) + 9 * (k : Int))) (.int 26) = some (.int (((f + 9 * k) % 26 : Nat) : Int)) := by
        rw [mod_ok (by decide)]
        congr 2
      have at1 := abc_at (i := (f + 9 * k) % 26) (Nat.mod_lt _ (by decide))
      have d1 := addV_sg (l := S.take i) (m := [97 + (f + 9 * k) % 26]) (by simp; omega)
      have d2 := addV_sg (l := S.take i ++ [97 + (f + 9 * k) % 26]) (m := S.drop i) (by simp; omega)
      have fin2 : S.take i ++ [97 + (f + 9 * k) % 26] ++ S.drop i = nameL9 S i f k := by simp [nameL9]
      rw [fin2] at d2
      simp only [e2__law_names, e2_eq, eSl_eq, eV_eq, List.getElem?_set, List.getElem?_cons_succ, List.getElem?_cons_zero, List.set_cons_succ, List.set_cons_zero, bind_ok, oNone_eq, oSome_eq, gOpt_int, p1_t, s1, s2, Option.map_some, orok_some, p2_t, eC_eq, m1, addV_int, m2, at1, d1, d2, Int.toNat_natCast]
    have ke : ((rgI 0 m).map fun d => match d with | .int k => .str (sg (nameL9 S i f k.toNat)) | _ => .non) = ((List.range m).map (nameL9 S i f)).map fun l => PV.str (sg l) := by
      rw [rgI_nat, List.map_map, List.map_map]; rfl
    rw [ke] at el
    have z2 := szF_ok (ds := ((List.range m).map (nameL9 S i f)).map fun l => PV.str (sg l)) (μ := wlw w4 :: t) (szL _ (by simp; omega))
    have z1 : szF ((rs.map fun r => [97 + r]).map fun l => .str (sg l)) (wlw w2 :: t) = .ok _ _ := szF_ok (szL _ (by simp; omega))
    have ln := lenV_sg (l := S) (by omega)
    rw [hSl] at ln
    have r1 : gRange1 [.t (.int (1 + (n7 : Int)))] (wlw w1 :: t) = .ok (rgI 0 (1 + n7)) (wlw w1 :: t) := by
      have := range1_ok (n := 1 + n7) (μ := wlw w1 :: t) (by omega)
      simpa using this
    have r2 := range1_ok (n := m) (μ := wlw w4 :: t) (by omega)
    have es' := es t
    have ej' := ej t
    have e1' := e1 t
    have e3' := e3 t
    have e4' := e4 t
    generalize ((List.range m).map (nameL9 S i f)).map (fun l => PV.str (sg l)) = NN at el z2 ⊢
    simp only [fn__law_names, b__law_names, fnOf, startM, List.map_cons, List.map_nil, List.length_cons, List.length_nil, List.cons_append, List.nil_append, List.replicate, abc_eq, nil_eq]
    simp only [sSeq_eq, sAsg_nm, eC_eq, st_ok, List.set_cons_succ, List.set_cons_zero, seq_nx, eJoin, bind_ok, eOfF_eq, lcF_eq, eN_eq, aCons_eq, aNil_eq, e2_eq, eV_eq, List.getElem?_cons_succ, List.getElem?_cons_zero, gCall_2c, e1', p2_t, addV_int, Option.map_some, orok_some, r1, sl_nm, wipeM, es', z1, ej', pN_1, ln, e3', e4', sRet_eq, r2, el, z2, endM_rt]
    simp

/-! all rows of some things -/
def overL (xs : List Int) : Nat → List (List Int)
  | 0 => [[]]
  | p + 1 => (overL xs p).flatMap fun r => xs.map fun x => r ++ [x]
abbrev rgL (n : Nat) : List Int := (List.range n).map fun (k : Nat) => (k : Int)
theorem over_rg (n : Nat) : ∀ p, overL (rgL n) p = allR n p
  | 0 => rfl
  | p + 1 => by
    show (overL (rgL n) p).flatMap _ = (allR n p).flatMap _
    rw [over_rg n p]
    simp [rgL, List.map_map, Function.comp_def]
theorem over_len (xs : List Int) : ∀ p, (overL xs p).length = xs.length ^ p
  | 0 => rfl
  | p + 1 => by
    show ((overL xs p).flatMap fun r => xs.map fun x => r ++ [x]).length = _
    rw [List.length_flatMap]
    simp only [List.length_map]
    rw [List.map_const', List.sum_replicate_nat, over_len xs p, Nat.pow_succ]
theorem over_mem {xs : List Int} : ∀ {p : Nat} {r : List Int}, r ∈ overL xs p → r.length = p ∧ ∀ x ∈ r, x ∈ xs
  | 0, r, h => by
    rw [List.mem_singleton.mp h]
    exact ⟨rfl, fun x hx => nomatch hx⟩
  | p + 1, r, h => by
    obtain ⟨q, hq, hr⟩ := List.mem_flatMap.mp h
    obtain ⟨t, ht, rfl⟩ := List.mem_map.mp hr
    obtain ⟨h1, h2⟩ := over_mem hq
    refine ⟨by simp [h1], fun x hx => ?_⟩
    rcases List.mem_append.mp hx with hx | hx
    · exact h2 x hx
    · rw [List.mem_singleton.mp hx]; exact ht
theorem over_in {xs : List Int} {s1 s2 s3 : Option Val} {μ : Store} (hx : xs.length ≤ 9) : ∀ (rs acc : List (List Int)) (y : Option Val), (∀ r ∈ rs, r.length ≤ 3) → acc.length + rs.length * xs.length ≤ 10000 →
    ∃ y', forL (.nm 5) f1__law_over (rs.map tupI) [some (.t (lstI xs)), s1, s2, s3, some (.t (.lst (acc.map tupI))), y, none] μ = .nx [some (.t (lstI xs)), s1, s2, s3, some (.t (.lst ((acc ++ rs.flatMap fun r => xs.map fun x => r ++ [x]).map tupI))), y', none] μ
  | [], acc, y, _, _ => ⟨y, by simp [forL]⟩
  | r :: rs, acc, y, hr, hl => by
    have hl1 : acc.length + (rs.length + 1) * xs.length ≤ 10000 := hl
    rw [Nat.add_mul, Nat.one_mul] at hl1
    have hr3 := hr r List.mem_cons_self
    have k : lcL (.nm 6) tYes' e1__law_over (xs.map .int) [some (.t (lstI xs)), s1, s2, s3, some (.t (.lst (acc.map tupI))), some (.t (tupI r)), none] μ = .ok ((xs.map fun x => r ++ [x]).map tupI) μ := by
      rw [lcL_map (fun d => match d with | .int t => tupI (r ++ [t]) | _ => .non) fun d hd => ?_, List.map_map, List.map_map]
      · rfl
      · obtain ⟨x, _, rfl⟩ := List.mem_map.mp hd
        refine ⟨_, asg_nm, rfl, ?_⟩
        have ad := addV_tup (a := r.map .int) (b := [.int x]) (by simp; omega)
        simp [e1__law_over, ad]
    have z := szF_ok (ds := (xs.map fun x => r ++ [x]).map tupI) (μ := μ) (szL _ (by simp; omega))
    have ad := addF_ok (a := acc.map tupI) (b := (xs.map fun x => r ++ [x]).map tupI) (by simp; omega)
    rw [← List.map_append] at ad
    have g : gIt (.t (lstI xs)) μ = .ok (xs.map .int) μ := rfl
    have hb : f1__law_over [some (.t (lstI xs)), s1, s2, s3, some (.t (.lst (acc.map tupI))), some (.t (tupI r)), none] μ = .nx [some (.t (lstI xs)), s1, s2, s3, some (.t (.lst ((acc ++ xs.map fun x => r ++ [x]).map tupI))), some (.t (tupI r)), none] μ := by
      generalize (acc ++ xs.map fun x => r ++ [x]).map tupI = A2 at ad ⊢
      generalize (xs.map fun x => r ++ [x]).map tupI = A1 at k z ad
      generalize acc.map tupI = A0 at k ad ⊢
      generalize xs.map PV.int = XI at k g
      generalize lstI xs = LX at k g ⊢
      generalize tupI r = TR at k ⊢
      simp only [f1__law_over, sAsg_nm, eOfF_eq, e2_eq, eV_eq, List.getElem?_cons_succ, List.getElem?_cons_zero, bind_ok, lcF_eq, e1_eq, g, sl_nm, wipeM, List.set_cons_succ, List.set_cons_zero, k, z, pf2_t, ad, orok_some, st_ok]
    obtain ⟨y', e⟩ := over_in (s1 := s1) (s2 := s2) (s3 := s3) (μ := μ) hx rs (acc ++ xs.map fun x => r ++ [x]) (some (.t (tupI r))) (fun r hr' => hr r (List.mem_cons_of_mem _ hr')) (by simp; omega)
    refine ⟨y', ?_⟩
    rw [List.map_cons, forL_nx (by simp) hb, e, List.flatMap_cons, List.append_assoc]
theorem over_ok {xs : List Int} {p : Nat} {μ : Store} (hx : xs.length ≤ 9) (hp : p ≤ 3) : fn__law_over [.t (lstI xs), .t (.int (p : Int))] μ = .ok (.t (.lst ((overL xs p).map tupI))) μ := by
  have step : ∀ (k : Nat) (d x y : Option Val), k < 3 → ∃ x' y', f2__law_over [some (.t (lstI xs)), some (.t (.int (p : Int))), some (.t (.lst ((overL xs k).map tupI))), d, x, y, none] μ = .nx [some (.t (lstI xs)), some (.t (.int (p : Int))), some (.t (.lst ((overL xs (k + 1)).map tupI))), d, x', y', none] μ := by
    intro k d x y hk
    have hlen := over_len xs k
    have h7 := pow_le_729 (p := k) hx (by omega)
    obtain ⟨y', e⟩ := over_in (xs := xs) (s1 := some (.t (.int (p : Int)))) (s2 := some (.t (.lst ((overL xs k).map tupI)))) (s3 := d) (μ := μ) hx (overL xs k) [] y (fun r hr => by rw [(over_mem hr).1]; omega) (by
      rw [hlen]
      have : xs.length ^ k * xs.length ≤ 729 * 9 := Nat.mul_le_mul h7 hx
      simp; omega)
    refine ⟨some (.t (.lst ((overL xs (k + 1)).map tupI))), y', ?_⟩
    have e' : forL (.nm 5) f1__law_over ((overL xs k).map tupI) [some (.t (lstI xs)), some (.t (.int (p : Int))), some (.t (.lst ((overL xs k).map tupI))), d, some (.t (.lst [])), y, none] μ = .nx [some (.t (lstI xs)), some (.t (.int (p : Int))), some (.t (.lst ((overL xs k).map tupI))), d, some (.t (.lst ((overL xs (k + 1)).map tupI))), y', none] μ := e
    have g : gIt (.t (.lst ((overL xs k).map tupI))) μ = .ok ((overL xs k).map tupI) μ := rfl
    generalize (overL xs (k + 1)).map tupI = A1 at e' ⊢
    generalize (overL xs k).map tupI = A0 at e' g ⊢
    generalize lstI xs = LX at e' ⊢
    simp only [f2__law_over, sSeq_eq, sAsg_nm, eOfF_eq, eN_eq, aNil_eq, bind_ok, gLst_0, st_ok, List.set_cons_succ, List.set_cons_zero, seq_nx, sFor_eq, e1_eq, eV_eq, List.getElem?_cons_succ, List.getElem?_cons_zero, g, e']
  have loop : ∃ σx σy σz, forL (.nm 3) f2__law_over (rgI 0 p) [some (.t (lstI xs)), some (.t (.int (p : Int))), some (.t (.lst ((overL xs 0).map tupI))), none, none, none, none] μ = .nx [some (.t (lstI xs)), some (.t (.int (p : Int))), some (.t (.lst ((overL xs p).map tupI))), σx, σy, σz, none] μ := by
    refine forL_inv (fun i σ μ' => μ' = μ ∧ ∃ σx σy σz, σ = [some (.t (lstI xs)), some (.t (.int (p : Int))), some (.t (.lst ((overL xs i).map tupI))), σx, σy, σz, none]) (fun r => ∃ σx σy σz, r = .nx [some (.t (lstI xs)), some (.t (.int (p : Int))), some (.t (.lst ((overL xs p).map tupI))), σx, σy, σz, none] μ) ⟨rfl, none, none, none, rfl⟩ ?_ ?_
    · rintro i d σ μ' hd ⟨rfl, σx, σy, σz, rfl⟩
      obtain ⟨hi, rfl⟩ := range_at hd
      obtain ⟨x', y', e⟩ := step i (some (.t (.int i))) σy σz (by omega)
      exact ⟨_, asg_nm, .inl ⟨_, _, .inl e, rfl, _, _, _, rfl⟩⟩
    · rintro σ μ' ⟨rfl, σx, σy, σz, rfl⟩
      rw [rgI_len]
      exact ⟨_, _, _, rfl⟩
  obtain ⟨σx, σy, σz, e⟩ := loop
  have e0 : ((overL xs 0).map tupI) = [.tup []] := rfl
  rw [e0] at e
  generalize (overL xs p).map tupI = A1 at e ⊢
  generalize lstI xs = LX at e ⊢
  simp [fn__law_over, b__law_over, fnOf, startM, range1_ok (n := p) (by omega), e]

/-! tables: the plain ones -/
theorem plain_told {n p k : Nat} {r : List Int} {σa σd σh : Option Val} {f : Val} {ν : Store} (hn1 : 1 ≤ n) (hn : n ≤ 9) (hr : r.length = p) (hi : inR n r) (hk : k < n) (hp : p ≤ 3) : ∃ L : List Int, inR n L ∧ L.length = 5 ∧ ∀ C : MSt,
    (sSeq (sAsg (.nm 7) (eOfF (eN gLst (aCons (eN (pN minV1) (aCons (e2 (p2 addV) (eV 6) (eN gTup (aCons (eV 4) aNil))) aNil)) (aCons (eN (pN maxV1) (aCons (e2 (p2 addV) (eV 6) (eN gTup (aCons (eV 4) aNil))) aNil)) (aCons (e2 (p2 modV) (e2 (p2 addV) (eN (pN sumV) (aCons (eV 6) aNil)) (eV 4)) (eV 1)) aNil))))))
    (sSeq (sAsg (.nm 7) (eOfF (e2 (pf2 addF) (eV 7) (eOfF (eN gLst (aCons (e2 (p2 atV) (e2 (p2 addV) (eV 6) (eN gTup (aCons (eV 4) aNil))) (e2 (p2 modV) (eV 4) (e2 (p2 addV) (eV 2) (eC (.int 1))))) (aCons (eV 4) aNil))))))) C)) [σa, some (.t (.int (n : Int))), some (.t (.int (p : Int))), σd, some (.t (.int (k : Int))), some f, some (.t (tupI r)), σh] ν = C [σa, some (.t (.int (n : Int))), some (.t (.int (p : Int))), σd, some (.t (.int (k : Int))), some f, some (.t (tupI r)), some (.t (lstI L))] ν := by
  have e0 : (r.map PV.int) ++ [.int (k : Int)] = (r ++ [(k : Int)]).map .int := by simp
  have hi2 : inR n (r ++ [(k : Int)]) := fun x hx => by
    rcases List.mem_append.mp hx with hx | hx
    · exact hi x hx
    · rw [List.mem_singleton.mp hx]; omega
  have ne : r ++ [(k : Int)] ≠ [] := by simp
  obtain ⟨m1, hm1, em1⟩ := minV1_tupI ne
  obtain ⟨m2, hm2, em2⟩ := maxV1_tupI ne
  have ad := addV_tup (a := r.map .int) (b := [.int (k : Int)]) (by simp; omega)
  rw [e0] at ad
  have es := sumV_tupI r
  have q1 := Int.emod_nonneg (r.sum + (k : Int)) (b := (n : Int)) (by omega)
  have q2 := Int.emod_lt_of_pos (r.sum + (k : Int)) (b := (n : Int)) (by omega)
  have md := mod_ok (i := r.sum + (k : Int)) (j := (n : Int)) (by omega)
  have md2 : modV (.int (k : Int)) (.int ((p : Int) + 1)) = some (.int ((k % (p + 1) : Nat) : Int)) := by
    rw [mod_ok (by omega)]
    congr 2
  obtain ⟨x, ex, hx1, hx2⟩ := at_inR (i := k % (p + 1)) hi2 (by simp [hr]; exact Nat.mod_lt _ (by omega))
  refine ⟨[m1, m2, (r.sum + (k : Int)) % (n : Int), x, (k : Int)], ?_, rfl, fun C => ?_⟩
  · intro y hy
    simp only [List.mem_cons, List.not_mem_nil, or_false] at hy
    rcases hy with rfl | rfl | rfl | rfl | rfl
    · exact hi2 _ hm1
    · exact hi2 _ hm2
    · exact ⟨q1, q2⟩
    · exact ⟨hx1, hx2⟩
    · omega
  · have ad2 := addF_ok (a := [PV.int m1, .int m2, .int ((r.sum + (k : Int)) % (n : Int))]) (b := [.int x, .int (k : Int)]) (by simp)
    simp only [sSeq_eq, sAsg_nm, eOfF_eq, eN_eq, aCons_eq, eV_eq, List.getElem?_cons_succ, List.getElem?_cons_zero, bind_ok, aNil_eq, e2_eq, p2_t, pN_1, es, Option.map_some, orok_some, addV_int, md, gTup_1, ad, em1, em2, gLst_3, st_ok, List.set_cons_succ, List.set_cons_zero, seq_nx, eC_eq, md2, atV_tup, ex, gLst_2, pf2_t, ad2]
    rfl
theorem plain_loop {n p k w : Nat} {t : Store} (hn1 : 1 ≤ n) (hn : n ≤ 9) (hk : k < n) (hp : p ≤ 3) (hw : w < 7) : ∀ (rs : List (List Int)) (acc : List Int) (v0 : W3) (y6 y7 : Option Val), (∀ r ∈ rs, r.length = p ∧ inR n r) → inR n acc → acc.length + rs.length ≤ 1000 →
    ∃ (acc' : List Int) (v1 : W3) (y6' y7' : Option Val), forL (.nm 6) f1__law_table (rs.map tupI) [some (.c 0), some (.t (.int (n : Int))), some (.t (.int (p : Int))), some (.t (.int (w : Int))), some (.t (.int (k : Int))), some (.c (t.length + 1)), y6, y7] (wlw v0 :: (t ++ [some (.lst (acc.map .int))])) = .nx [some (.c 0), some (.t (.int (n : Int))), some (.t (.int (p : Int))), some (.t (.int (w : Int))), some (.t (.int (k : Int))), some (.c (t.length + 1)), y6', y7'] (wlw v1 :: (t ++ [some (.lst (acc'.map .int))])) ∧ acc'.length = acc.length + rs.length ∧ inR n acc'
  | [], acc, v0, y6, y7, _, ha, _ => ⟨acc, v0, y6, y7, rfl, rfl, ha⟩
  | r :: rs, acc, v0, y6, y7, hr, ha, hl => by
    obtain ⟨hr1, hr2⟩ := hr r List.mem_cons_self
    have hl' : acc.length + (rs.length + 1) ≤ 1000 := hl
    obtain ⟨L, hL, hL5, et⟩ := plain_told (n := n) (p := p) (k := k) (r := r) (σa := some (.c 0)) (σd := some (.t (.int (w : Int)))) (σh := y7) (f := .c (t.length + 1)) (ν := (wlw v0 :: (t ++ [some (.lst (acc.map .int))]))) hn1 hn hr1 hr2 hk hp
    obtain ⟨q, v1, hq, ed⟩ := drawX v0 n (n : Int)
    have hap : ∀ (v : Int) (v' : W3), gMut mAppend (.c (t.length + 1)) [.t (.int v)] (wlw v' :: (t ++ [some (.lst (acc.map .int))])) = .ok (.t .non) (wlw v' :: (t ++ [some (.lst ((acc ++ [v]).map .int))])) := fun v v' => by
      rw [app_cell (ds := acc.map .int) at_behind (by rw [List.length_map]; omega), set_behind, List.map_append]
      rfl
    have hla : ∀ v' : W3, lstAt (wlw v' :: (t ++ [some (.lst (acc.map .int))])) (.c (t.length + 1)) = some (t.length + 1, acc.map .int) := fun v' => lstAt_cell at_behind
    have hb : ∃ (v : Int) (v' : W3) (y : Option Val), (0 ≤ v ∧ v < (n : Int)) ∧ f1__law_table [some (.c 0), some (.t (.int (n : Int))), some (.t (.int (p : Int))), some (.t (.int (w : Int))), some (.t (.int (k : Int))), some (.c (t.length + 1)), some (.t (tupI r)), y7] (wlw v0 :: (t ++ [some (.lst (acc.map .int))])) = .nx [some (.c 0), some (.t (.int (n : Int))), some (.t (.int (p : Int))), some (.t (.int (w : Int))), some (.t (.int (k : Int))), some (.c (t.length + 1)), some (.t (tupI r)), y] (wlw v' :: (t ++ [some (.lst ((acc ++ [v]).map .int))])) := by
      unfold f1__law_table
      rw [et]
      by_cases h4 : (4 : Int) < (w : Int)
      · have hLq : inR n (L ++ [(q : Int), (q : Int)]) := fun z hz => by
          rcases List.mem_append.mp hz with hz | hz
          · exact hL z hz
          · have hz' : z = (q : Int) := by simpa using hz
            rw [hz']; omega
        obtain ⟨v, ev, hv1, hv2⟩ := at_inR (i := w) hLq (by simp [hL5]; omega)
        have av : atV (lstI (L ++ [(q : Int), (q : Int)])) (.int (w : Int)) = some (.int v) := ev
        have mf : mulF (.lst [.int (q : Int)]) (.int 2) = some [.int (q : Int), .int (q : Int)] := rfl
        have af : addF (lstI L) (.lst [.int (q : Int), .int (q : Int)]) = some ((L ++ [(q : Int), (q : Int)]).map .int) := by
          have := addF_ok (a := L.map .int) (b := [.int (q : Int), .int (q : Int)]) (by simp; omega)
          rw [List.map_append]
          exact this
        refine ⟨v, v1, some (.t (lstI (L ++ [(q : Int), (q : Int)]))), ⟨hv1, hv2⟩, ?_⟩
        have hap' := hap v v1
        have el : lstI (L ++ [(q : Int), (q : Int)]) = .lst ((L ++ [(q : Int), (q : Int)]).map .int) := rfl
        have ed' := ed (t ++ [some (.lst (acc.map .int))])
        have hla' := hla v1
        generalize t ++ [some (.lst ((acc ++ [v]).map .int))] = S2 at hap' ⊢
        generalize t ++ [some (.lst (acc.map .int))] = S1 at hap' ed' hla' ⊢
        rw [el] at av ⊢
        generalize (L ++ [(q : Int), (q : Int)]).map PV.int = LQ at af av ⊢
        generalize lstI L = LL at af ⊢
        generalize tupI r = TR
        simp only [sSeq_eq, sIf_eq, tVal_eq, e2_eq, eV_eq, List.getElem?_cons_succ, List.getElem?_cons_zero, bind_ok, eC_eq, p2_t, gtV_int, decide_eq_true h4, Option.map_some, orok_some, gBl_bl, if_true, sAsg_nm, eOfF_eq, eN_eq, aCons_eq, aNil_eq, gCall_2c, ed', gLst_1, pf2_t, mf, af, st_ok, List.set_cons_succ, List.set_cons_zero, seq_nx, sExp_eq, eMutG, hla', av, hap']
      · obtain ⟨v, ev, hv1, hv2⟩ := at_inR (i := w) hL (by omega)
        have av : atV (lstI L) (.int (w : Int)) = some (.int v) := ev
        refine ⟨v, v0, some (.t (lstI L)), ⟨hv1, hv2⟩, ?_⟩
        have hap' := hap v v0
        have hla' := hla v0
        generalize t ++ [some (.lst ((acc ++ [v]).map .int))] = S2 at hap' ⊢
        generalize t ++ [some (.lst (acc.map .int))] = S1 at hap' hla' ⊢
        generalize lstI L = LL at av ⊢
        generalize tupI r = TR
        simp only [sSeq_eq, sIf_eq, tVal_eq, e2_eq, eV_eq, List.getElem?_cons_succ, List.getElem?_cons_zero, bind_ok, eC_eq, p2_t, gtV_int, decide_eq_false h4, Option.map_some, orok_some, gBl_bl, Bool.false_eq_true, if_false, sPass_eq, aCons_eq, aNil_eq, st_ok, List.set_cons_succ, List.set_cons_zero, seq_nx, sExp_eq, eMutG, hla', av, hap']
    obtain ⟨v, v', y, hv, hb⟩ := hb
    obtain ⟨acc', v2, z6, z7, e, hl2, hi2⟩ := plain_loop (n := n) (p := p) (k := k) (w := w) (t := t) hn1 hn hk hp hw rs (acc ++ [v]) v' (some (.t (tupI r))) y (fun r hr' => hr r (List.mem_cons_of_mem _ hr')) (fun z hz => by
      rcases List.mem_append.mp hz with hz | hz
      · exact ha z hz
      · rw [List.mem_singleton.mp hz]; exact hv) (by simp; omega)
    refine ⟨acc', v2, z6, z7, ?_, by simp at hl2 ⊢; omega, hi2⟩
    rw [List.map_cons, forL_nx (by simp) hb, e]
theorem gLR1_rg {n : Nat} {μ : Store} (h : n ≤ 1000) : gLR1 (.t (.int (n : Int))) μ = .ok ((rgL n).map .int) μ := by
  have b1 : bnd (0 : Int) = true := by decide
  have b2 : bnd (n : Int) = true := Nat.ble_eq_true_of_le (by omega)
  have b3 : Nat.ble ((n : Int) - 0).toNat 16777216 = true := Nat.ble_eq_true_of_le (by omega)
  have e : ((n : Int) - 0).toNat = n := by omega
  show gRg 0 (n : Int) μ = _
  unfold gRg
  rw [b1, b2, b3, e, rgI_nat, List.map_map]
  rfl
theorem plain_w {n p : Nat} (w : W3) (t : Store) (hn1 : 1 ≤ n) (hn : n ≤ 9) (hp : p ≤ 3) : ∃ (row : List Int) (w' : W3), row.length = n ^ p ∧ inR n row ∧ fn__law_table [.c 0, .t (.int (n : Int)), .t (.int (p : Int))] (wlw w :: t) = .ok (.t (tupI row)) (wlw w' :: t) := by
  obtain ⟨v, w1, hv, e1⟩ := drawX w 7 7
  obtain ⟨k, w2, hk, e2'⟩ := drawX w1 n (n : Int)
  have h7 := pow_le_729 (n := n) (p := p) hn hp
  have hlen := allR_len n p
  obtain ⟨acc', w3, z6, z7, e3, hl, hi⟩ := plain_loop (n := n) (p := p) (k := k) (w := v) (t := t) hn1 hn hk hp hv (allR n p) [] w2 none none (fun r hr => allR_mem hr) (fun z hz => nomatch hz) (by rw [hlen]; simp; omega)
  have ea := over_ok (xs := rgL n) (p := p) (μ := (wlw w2 :: (t ++ [some (.lst [])]))) (by simpa using hn) hp
  rw [over_rg] at ea
  have lr := gLR1_rg (n := n) (μ := (wlw w2 :: (t ++ [some (.lst [])]))) (by omega)
  have e1' := e1 t
  have e2'' := e2' t
  refine ⟨acc', w3, by rw [hl, hlen]; simp, hi, ?_⟩
  have e3' := e3
  simp only [List.map_nil] at e3'
  have g : gIt (.t (.lst ((allR n p).map tupI))) (wlw w2 :: (t ++ [some (.lst [])])) = .ok ((allR n p).map tupI) (wlw w2 :: (t ++ [some (.lst [])])) := rfl
  generalize (allR n p).map tupI = AA at ea e3' g
  have ell : ∀ μ, (R.ok ((rgL n).map PV.int) μ).bind (fun ds μ => R.ok (Val.t (.lst ds)) μ) = .ok (.t (lstI (rgL n))) μ := fun μ => rfl
  simp only [fn__law_table, b__law_table, fnOf, startM, List.map_cons, List.map_nil, List.length_cons, List.length_nil, List.cons_append, List.nil_append]
  simp only [sSeq_eq, sAsg_nm, eN_eq, aCons_eq, eV_eq, List.getElem?_cons_succ, List.getElem?_cons_zero, bind_ok, aNil_eq, eC_eq, gCall_2c, e1', st_ok, List.replicate, List.set_cons_succ, List.set_cons_zero, seq_nx, e2'', eCellF_eq, gLst_0, List.length_cons, List.length_nil, List.cons_append, List.nil_append, sFor_eq, e1_eq, eOfF_eq, lr, gCall_2, ea, g, e3']
  simp [pN, views, view, endM, fin]

/-! deeds as data; the methods of House -/
theorem by_ne' : ((("by_name" : Str) == ("size" : Str)) = false) := by decide +kernel
abbrev Dd := List Nat × Nat × List Int
def dV (d : Dd) : PV := .tup [.str (sg d.1), .int (d.2.1 : Int), tupI d.2.2]
def okD (n : Nat) (d : Dd) : Prop := goodL d.1 ∧ d.2.1 ≤ 3 ∧ d.2.2.length = n ^ d.2.1 ∧ inR n d.2.2
structure okDs (n : Nat) (ds : List Dd) : Prop where
  ok : ∀ d ∈ ds, okD n d
  nd : (ds.map (·.1)).Nodup
  len : ds.length ≤ 6
abbrev hV (n : Nat) (ds : List Dd) : PV := houseV (n : Int) (ds.map dV)
@[simp] theorem nameD_dV (d : Dd) : nameD (dV d) = .str (sg d.1) := rfl
theorem m_size {n : Int} {ds : List PV} {μ : Store} : gFld ["House"] "size" (.t (houseV n ds)) μ = .ok (.t (.int n)) μ := by
  simp [houseV, gFld, List.lookup, by_ne']
theorem m_by {n : Int} {ds : List PV} {μ : Store} : gFld ["House"] "by_name" (.t (houseV n ds)) μ = .ok (.t (.dic false (ds.map nameD) ds)) μ := by
  simp [houseV, gFld, List.lookup, by_ne']
theorem m_obj {n : Int} {ds : List PV} {m : Str} (h : m ∉ [("size" : Str), "by_name"]) : PM.isObj "House" m (.t (houseV n ds)) = true := by
  simp [PM.isObj, houseV]
  simpa using h
theorem m_things {n : Int} {ds : List PV} {μ : Store} : fn_House_things [.t (houseV n ds)] μ = .ok (.t (.int n)) μ := by
  simp [fn_House_things, b_House_things, fnOf, startM, m_size]
theorem m_deeds {n : Int} {ds : List PV} {μ : Store} : fn_House_deeds [.t (houseV n ds)] μ = .ok (.t (.lst ds)) μ := by
  simp [fn_House_deeds, b_House_deeds, fnOf, startM, m_by]
/-- the cell of things -/
def spotI (n : Int) (r : List Int) : Int := r.foldl (fun a x => a * n + x) 0
theorem spot_loop {n : Int} {s0 : Option Val} {μ : Store} (hn1 : 0 ≤ n) (hn : n ≤ 1000) : ∀ (r : List Int) (acc : Int) (x : Option Val), ∃ x', forL (.nm 3) f1_spot_of (r.map .int) [s0, some (.t (.int n)), some (.t (.int acc)), x] μ = .nx [s0, some (.t (.int n)), some (.t (.int (r.foldl (fun a x => a * n + x) acc))), x'] μ
  | [], acc, x => ⟨x, rfl⟩
  | y :: r, acc, x => by
    have hm : mulV (.int acc) (.int n) = some (.int (acc * n)) := mulV_ok (by omega) (by omega)
    obtain ⟨x', e⟩ := spot_loop (s0 := s0) (μ := μ) hn1 hn r (acc * n + y) (some (.t (.int y)))
    refine ⟨x', ?_⟩
    rw [List.map_cons, forL_nx (σ1 := [s0, some (.t (.int n)), some (.t (.int acc)), some (.t (.int y))]) (σ2 := [s0, some (.t (.int n)), some (.t (.int (acc * n + y))), some (.t (.int y))]) (μ2 := μ) (by simp) (by simp [f1_spot_of, hm]), e]
    rfl
theorem spot_lt {n : Nat} : ∀ (r : List Int) (acc : Int) (m : Nat), 0 ≤ acc → acc < (m : Int) → inR n r → 0 ≤ r.foldl (fun a x => a * (n : Int) + x) acc ∧ r.foldl (fun a x => a * (n : Int) + x) acc < ((m * n ^ r.length : Nat) : Int)
  | [], acc, m, h0, h1, _ => by simpa using ⟨h0, h1⟩
  | y :: r, acc, m, h0, h1, hi => by
    obtain ⟨y0, y1⟩ := hi y List.mem_cons_self
    have q0 : 0 ≤ acc * (n : Int) + y := Int.add_nonneg (Int.mul_nonneg h0 (by omega)) y0
    have q1 : acc * (n : Int) + y < ((m * n : Nat) : Int) := by
      have : (acc + 1) * (n : Int) ≤ (m : Int) * (n : Int) := Int.mul_le_mul_of_nonneg_right (by omega) (by omega)
      rw [Int.add_mul, Int.one_mul] at this
      push_cast
      omega
    have := spot_lt (n := n) r (acc * (n : Int) + y) (m * n) q0 q1 (fun z hz => hi z (List.mem_cons_of_mem _ hz))
    rw [List.foldl_cons, List.length_cons, Nat.pow_succ, Nat.mul_comm (n ^ r.length) n, ← Nat.mul_assoc]
    exact this
theorem spotI_lt {n : Nat} {r : List Int} (hi : inR n r) : 0 ≤ spotI n r ∧ spotI n r < ((n ^ r.length : Nat) : Int) := by
  have := spot_lt (n := n) r 0 1 (by omega) (by omega) hi
  rw [Nat.one_mul] at this
  exact this
theorem SD_tupI {r : List Int} (h : r.length ≤ 1000) : SD 2 (tupI r) := by
  refine SD_tup.mpr ⟨by rw [List.length_map]; omega, fun x hx => ?_⟩
  obtain ⟨i, _, rfl⟩ := List.mem_map.mp hx
  exact SD_int
theorem tab_at {n : Nat} {d : Dd} {r : List Int} (hd : okD n d) (hl : r.length = d.2.1) (hi : inR n r) : atV (tupI d.2.2) (.int (spotI n r)) = some (.int (d.2.2.getD (spotI n r).toNat 0)) := by
  obtain ⟨_, hp, hlen, _⟩ := hd
  obtain ⟨s0, s1⟩ := spotI_lt hi
  rw [hl, ← hlen] at s1
  have h1 : (spotI n r).toNat < d.2.2.length := by omega
  have e := at_int h1
  rw [Int.toNat_of_nonneg s0] at e
  exact e
theorem isRow_ok {n w : Nat} {r : List Int} (h : r.length = w) (hi : inR n r) : isRowB (tupI r) (w : Int) n = true := by
  unfold isRowB
  simp only [List.length_map, h, decide_true, Bool.true_and]
  exact row_all hi
theorem hDue_none' {n : Int} : ∀ (ds seen : List PV) (k : Nat), (∀ d ∈ ds, isDeedB n d = true) → (seen ++ ds.map nameD).Pairwise (fun x y => keyEq x y = false) → hDue n k seen ds = none
  | [], _, _, _, _ => by unfold hDue; rfl
  | d :: ds, seen, k, hd, hp => by
    have e : seen.any (keyEq · (nameD d)) = false := by
      rw [List.any_eq_false]
      intro x hx
      have := (List.pairwise_append.mp hp).2.2 x hx (nameD d) (by simp)
      simp [this]
    unfold hDue
    rw [hd d List.mem_cons_self, e]
    simp only [Bool.not_false, Bool.and_self, if_true]
    refine hDue_none' ds (seen ++ [nameD d]) (k + 1) (fun x hx => hd x (List.mem_cons_of_mem _ hx)) ?_
    rw [List.append_assoc]
    exact hp
theorem okD.deed {n : Nat} {d : Dd} (h : okD n d) : isDeedB n (dV d) = true := by
  obtain ⟨h1, h2, h3, h4⟩ := h
  have hrow : isRowB (tupI d.2.2) ((n : Int) ^ d.2.1) n = true := by
    have := isRow_ok h3 h4
    simpa using this
  have h5 : (d.2.1 : Int) ≤ 3 := by omega
  simp [dV, isDeedB, isName_sg h1, h5, hrow]
theorem okD.sb {n : Nat} {d : Dd} (hn : n ≤ 9) (h : okD n d) : SB 2 (dV d) := by
  obtain ⟨h1, h2, h3, h4⟩ := h
  have h5 := pow_le_729 (n := n) (p := d.2.1) hn h2
  refine (SB_tup (n := 1)).mpr ⟨by simp, fun x hx => ?_⟩
  simp only [List.mem_cons, List.not_mem_nil, or_false] at hx
  rcases hx with rfl | rfl | rfl
  · exact SB_str.mpr (by have := h1.2.1; rw [sg_len]; omega)
  · exact SB_int
  · exact SB_tupI (k := 0) (by omega)
theorem okDs.sb {n : Nat} {ds : List Dd} (hn : n ≤ 9) (h : okDs n ds) : SB 3 (.lst (ds.map dV)) := (SB_lst (n := 2)).mpr ⟨by have := h.len; rw [List.length_map]; omega, fun x hx => by
  obtain ⟨d, hd, rfl⟩ := List.mem_map.mp hx
  exact (h.ok d hd).sb hn⟩
theorem okDs.due {n : Nat} {ds : List Dd} (h : okDs n ds) : hDue n 0 [] (ds.map dV) = none := by
  refine hDue_none' (ds.map dV) [] 0 (fun d hd => ?_) ?_
  · obtain ⟨d', hd', rfl⟩ := List.mem_map.mp hd
    exact (h.ok d' hd').deed
  · rw [List.nil_append, List.map_map, List.pairwise_map]
    have := h.nd
    rw [List.Nodup, List.pairwise_map] at this
    refine this.imp fun {x y} hxy => ?_
    show keyEq (.str (sg x.1)) (.str (sg y.1)) = false
    rw [keyEq_str, decide_eq_false_iff_not, sg_inj]
    exact hxy
theorem m_make {n : Nat} {ds : List Dd} {μ : Store} (hn1 : 1 ≤ n) (hn : n ≤ 9) (h : okDs n ds) : (fi_House [.t (.int (n : Int)), .t (.lst (ds.map dV))] μ).bind (mkOb "House" ["size", "by_name"]) = .ok (.t (hV n ds)) μ := by
  have hd : houseDue (.int (n : Int)) (.lst (ds.map dV)) = none := by
    have h1 : (1 : Int) ≤ n := by omega
    have h2 : (n : Int) ≤ 9 := by omega
    have h3 := h.len
    simp [houseDue, h1, h2, h3, h.due]
  obtain ⟨m, es, e1, e2, e3⟩ := (house_make (μ := μ) (m := 3) (s := .int (n : Int)) (l := .lst (ds.map dV)) SB_int (.inl (h.sb hn))).2 hd
  cases e1
  cases e2
  exact e3

theorem eqB_sg {l m : List Nat} : eqB (.str (sg l)) (.str (sg m)) = decide (l = m) := by rw [eqB_str]; simp
theorem eqV_self {x : PV} {k : Nat} (h : SD k x) (hk : k ≤ 64 := by decide) : PM.eqV x x = some (.bl true) := by rw [eq_ok (h.ok hk) (h.ok hk), eqB_refl]
theorem neV_self {x : PV} {k : Nat} (h : SD k x) (hk : k ≤ 64 := by decide) : neV x x = some (.bl false) := by rw [ne_ok (h.ok hk) (h.ok hk), eqB_refl]; rfl
theorem SD_2 {a b : PV} {k : Nat} (ha : SD k a) (hb : SD k b) : SD (k + 1) (.tup [a, b]) := SD_tup.mpr ⟨by simp, fun x hx => by
  simp only [List.mem_cons, List.not_mem_nil, or_false] at hx
  rcases hx with rfl | rfl <;> assumption⟩
theorem nodup_at {ds : List Dd} {i j : Nat} (h : (ds.map (·.1)).Nodup) (hi : i < ds.length) (hj : j < ds.length) (e : ds[i].1 = ds[j].1) : i = j :=
  (List.getElem_inj (h₀ := by simpa using hi) (h₁ := by simpa using hj) h).mp (by simp only [List.getElem_map]; exact e)
theorem nat_list {l : List Int} {m : Nat} (h : ∀ x ∈ l, 0 ≤ x ∧ x < (m : Int)) : ∃ ps : List Nat, l.map PV.int = ps.map (fun (p : Nat) => PV.int (p : Int)) ∧ ps.length = l.length ∧ ∀ p ∈ ps, p < m := by
  refine ⟨l.map Int.toNat, ?_, by simp, fun p hp => ?_⟩
  · rw [List.map_map]
    refine List.map_congr_left fun x hx => ?_
    have := h x hx
    simp only [Function.comp]
    rw [Int.toNat_of_nonneg this.1]
  · obtain ⟨x, hx, rfl⟩ := List.mem_map.mp hp
    have := h x hx
    omega

theorem m_names {n : Int} {ds : List Dd} {μ : Store} : fn_House_names [.t (houseV n (ds.map dV))] μ = .ok (.t (.lst (ds.map fun d => .str (sg d.1)))) μ := by
  have e : (ds.map dV).map nameD = ds.map fun d => .str (sg d.1) := by rw [List.map_map]; rfl
  simp [-List.map_map, fn_House_names, b_House_names, fnOf, startM, m_by, e]

/-! rows_within -/
def overP (xs : List PV) : Nat → List (List PV)
  | 0 => [[]]
  | p + 1 => (overP xs p).flatMap fun r => xs.map fun x => r ++ [x]
theorem overP_len (xs : List PV) : ∀ p, (overP xs p).length = xs.length ^ p
  | 0 => rfl
  | p + 1 => by
    show ((overP xs p).flatMap fun r => xs.map fun x => r ++ [x]).length = _
    rw [List.length_flatMap]
    simp only [List.length_map]
    rw [List.map_const', List.sum_replicate_nat, overP_len xs p, Nat.pow_succ]
theorem overP_rl {xs : List PV} : ∀ {p : Nat} {r : List PV}, r ∈ overP xs p → r.length = p
  | 0, r, h => by rw [List.mem_singleton.mp h]; rfl
  | p + 1, r, h => by
    obtain ⟨q, hq, hr⟩ := List.mem_flatMap.mp h
    obtain ⟨t, ht, rfl⟩ := List.mem_map.mp hr
    simp [overP_rl hq]
theorem rwi_in {xs : List PV} {s1 s2 s3 : Option Val} {ν : Store} (hx : xs.length ≤ 1000) : ∀ (rs acc : List (List PV)) (y : Option Val), (∀ r ∈ rs, r.length ≤ 3) → acc.length + rs.length * xs.length ≤ 100000 →
    ∃ y', forL (.nm 5) f1_rows_within (rs.map .tup) [some (.t (.lst xs)), s1, s2, s3, some (.c ν.length), y, none] (ν ++ [some (.lst (acc.map .tup))]) = .nx [some (.t (.lst xs)), s1, s2, s3, some (.c ν.length), y', none] (ν ++ [some (.lst ((acc ++ rs.flatMap fun r => xs.map fun x => r ++ [x]).map .tup))])
  | [], acc, y, _, _ => ⟨y, by simp [forL]⟩
  | r :: rs, acc, y, hr, hl => by
    have hl1 : acc.length + (rs.length + 1) * xs.length ≤ 100000 := hl
    rw [Nat.add_mul, Nat.one_mul] at hl1
    have hr3 := hr r List.mem_cons_self
    have k : lcL (.nm 6) tYes' e1_rows_within xs [some (.t (.lst xs)), s1, s2, s3, some (.c ν.length), some (.t (.tup r)), none] (ν ++ [some (.lst (acc.map .tup))]) = .ok ((xs.map fun x => r ++ [x]).map .tup) (ν ++ [some (.lst (acc.map .tup))]) := by
      rw [lcL_map (fun d => .tup (r ++ [d])) fun d hd => ?_, List.map_map]
      · rfl
      · refine ⟨_, asg_nm, rfl, ?_⟩
        have ad := addV_tup (a := r) (b := [d]) (by simp; omega)
        simp [e1_rows_within, ad]
    have z := szF_ok (ds := (xs.map fun x => r ++ [x]).map .tup) (μ := ν ++ [some (.lst (acc.map .tup))]) (szL _ (by simp; omega))
    have ex := extF_ok (μ := ν ++ [some (.lst (acc.map .tup))]) (k := ν.length) (ds := acc.map .tup) (es := (xs.map fun x => r ++ [x]).map .tup) (by simp) (by simp; omega)
    rw [set_snoc, ← List.map_append] at ex
    have hb : f1_rows_within [some (.t (.lst xs)), s1, s2, s3, some (.c ν.length), some (.t (.tup r)), none] (ν ++ [some (.lst (acc.map .tup))]) = .nx [some (.t (.lst xs)), s1, s2, s3, some (.c ν.length), some (.t (.tup r)), none] (ν ++ [some (.lst ((acc ++ xs.map fun x => r ++ [x]).map .tup))]) := by
      simp only [f1_rows_within, sExp_eq, eMutG, eV_eq, List.getElem?_cons_succ, List.getElem?_cons_zero, bind_ok, lstAt, at_snoc, aCons_eq, eOfF_eq, lcF_eq, e1_eq, gIt_lst, aNil_eq, sl_nm, wipeM, List.set_cons_succ, List.set_cons_zero, k, z, ex, st_ok]
    obtain ⟨y', e⟩ := rwi_in (s1 := s1) (s2 := s2) (s3 := s3) (ν := ν) hx rs (acc ++ xs.map fun x => r ++ [x]) (some (.t (.tup r))) (fun r hr' => hr r (List.mem_cons_of_mem _ hr')) (by simp; omega)
    refine ⟨y', ?_⟩
    rw [List.map_cons, forL_nx (by simp) hb, e, List.flatMap_cons, List.append_assoc]
theorem rwi_ok {xs : List PV} {p : Nat} {μ : Store} (hx : xs.length ≤ 9) (hp : p ≤ 3) : fn_rows_within [.t (.lst xs), .t (.int (p : Int))] μ = .ok (.t (.lst ((overP xs p).map .tup))) μ := by
  have step : ∀ (k : Nat) (d x y : Option Val) (ν : Store), k < 3 → ∃ x' y', f2_rows_within [some (.t (.lst xs)), some (.t (.int (p : Int))), some (.t (.lst ((overP xs k).map .tup))), d, x, y, none] ν = .nx [some (.t (.lst xs)), some (.t (.int (p : Int))), some (.t (.lst ((overP xs (k + 1)).map .tup))), d, x', y', none] (ν ++ [none]) := by
    intro k d x y ν hk
    have hlen := overP_len xs k
    have h7 := pow_le_729 (p := k) hx (by omega)
    obtain ⟨y', e⟩ := rwi_in (s1 := some (.t (.int (p : Int)))) (s2 := some (.t (.lst ((overP xs k).map .tup)))) (s3 := d) (ν := ν) (show xs.length ≤ 1000 by omega) (overP xs k) [] y (fun r hr => by rw [overP_rl hr]; omega) (by
      rw [hlen]
      have : xs.length ^ k * xs.length ≤ 729 * 9 := Nat.mul_le_mul h7 hx
      simp; omega)
    refine ⟨some (.t (.lst ((overP xs (k + 1)).map .tup))), y', ?_⟩
    simp only [f2_rows_within, sSeq_eq, sAsg_nm, eCellF_eq, eN_eq, aNil_eq, bind_ok, gLst_0, st_ok, List.set_cons_succ, List.set_cons_zero, seq_nx, sFor_eq, e1_eq, eV_eq, List.getElem?_cons_succ, List.getElem?_cons_zero, gIt_lst]
    have e' := e
    simp only [List.map_nil, List.nil_append] at e'
    rw [e']
    simp only [seq_nx, sSeq_eq, sFrz, List.getElem?_cons_succ, List.getElem?_cons_zero]
    rw [frz_lst at_snoc]
    simp only [set_snoc, seq_nx, sAsg_nm, eV_eq, List.set_cons_succ, List.set_cons_zero, List.getElem?_cons_succ, List.getElem?_cons_zero, st_ok]
    rfl
  have loop : ∃ σx σy σz, forL (.nm 3) f2_rows_within (rgI 0 p) [some (.t (.lst xs)), some (.t (.int (p : Int))), some (.t (.lst ((overP xs 0).map .tup))), none, none, none, none] μ = .nx [some (.t (.lst xs)), some (.t (.int (p : Int))), some (.t (.lst ((overP xs p).map .tup))), σx, σy, σz, none] (μ ++ List.replicate p none) := by
    refine forL_inv (fun i σ μ' => μ' = μ ++ List.replicate i none ∧ ∃ σx σy σz, σ = [some (.t (.lst xs)), some (.t (.int (p : Int))), some (.t (.lst ((overP xs i).map .tup))), σx, σy, σz, none]) (fun r => ∃ σx σy σz, r = .nx [some (.t (.lst xs)), some (.t (.int (p : Int))), some (.t (.lst ((overP xs p).map .tup))), σx, σy, σz, none] (μ ++ List.replicate p none)) ⟨by simp, none, none, none, rfl⟩ ?_ ?_
    · rintro i d σ μ' hd ⟨rfl, σx, σy, σz, rfl⟩
      obtain ⟨hi, rfl⟩ := range_at hd
      obtain ⟨x', y', e⟩ := step i (some (.t (.int i))) σy σz (μ ++ List.replicate i none) (by omega)
      exact ⟨_, asg_nm, .inl ⟨_, _, .inl e, by rw [List.append_assoc, ← List.replicate_succ'], _, _, _, rfl⟩⟩
    · rintro σ μ' ⟨rfl, σx, σy, σz, rfl⟩
      rw [rgI_len]
      exact ⟨_, _, _, rfl⟩
  obtain ⟨σx, σy, σz, e⟩ := loop
  have e0 : ((overP xs 0).map PV.tup) = [.tup []] := rfl
  rw [e0] at e
  simp [fn_rows_within, b_rows_within, fnOf, startM, range1_ok (n := p) (by omega), e]
/-! all rows of a thing of each -/
def extR (A : List (List Int)) (c : Nat) : List (List Int) := A.flatMap fun r => (List.range c).map fun (t : Nat) => r ++ [(t : Int)]
def chL : List (List Int) → List Nat → List (List Int)
  | A, [] => A
  | A, c :: cs => chL (extR A c) cs
def pcL : List Nat → Nat
  | [] => 1
  | c :: cs => c * pcL cs
def natL (cs : List Nat) : List PV := cs.map fun (c : Nat) => .int (c : Int)
theorem extR_len {A : List (List Int)} {c : Nat} : (extR A c).length = A.length * c := by
  unfold extR
  rw [List.length_flatMap]
  simp only [List.length_map, List.length_range]
  rw [List.map_const', List.sum_replicate_nat]
theorem chL_len : ∀ {cs : List Nat} {A : List (List Int)}, (chL A cs).length = A.length * pcL cs
  | [], A => by simp [chL, pcL]
  | c :: cs, A => by
    show (chL (extR A c) cs).length = _
    rw [chL_len, extR_len, Nat.mul_assoc]; rfl
theorem pc_pos : ∀ {cs : List Nat}, (∀ c ∈ cs, 1 ≤ c) → 1 ≤ pcL cs
  | [], _ => Nat.le_refl _
  | c :: cs, h => Nat.mul_pos (h c List.mem_cons_self) (pc_pos fun x hx => h x (List.mem_cons_of_mem _ hx))
theorem extR_row {A : List (List Int)} {c l : Nat} (h : ∀ r ∈ A, r.length = l) : ∀ r ∈ extR A c, r.length = l + 1 := fun r hr => by
  obtain ⟨q, hq, hr⟩ := List.mem_flatMap.mp hr
  obtain ⟨t, ht, rfl⟩ := List.mem_map.mp hr
  simp [h q hq]
section
variable {μ : Store}
theorem lrows_in {c : Nat} {s0 s1 s2 : Option Val} (hc : c ≤ 9) : ∀ (rs acc : List (List Int)) (y : Option Val), (∀ r ∈ rs, r.length ≤ 10) → acc.length + rs.length * c ≤ 10000 →
    ∃ y', forL (.nm 4) f1__law_rows (rs.map tupI) [s0, s1, some (.t (.int (c : Int))), some (.t (.lst (acc.map tupI))), y, none] μ = .nx [s0, s1, some (.t (.int (c : Int))), some (.t (.lst ((acc ++ extR rs c).map tupI))), y', none] μ
  | [], acc, y, _, _ => ⟨y, by simp [forL, extR]⟩
  | r :: rs, acc, y, hr, hl => by
    have hl1 : acc.length + (rs.length + 1) * c ≤ 10000 := hl
    rw [Nat.add_mul, Nat.one_mul] at hl1
    have hr3 := hr r List.mem_cons_self
    have k : lcL (.nm 5) tYes' e1__law_rows (rgI 0 c) [s0, s1, some (.t (.int (c : Int))), some (.t (.lst (acc.map tupI))), some (.t (tupI r)), none] μ = .ok (((List.range c).map fun (t : Nat) => r ++ [(t : Int)]).map tupI) μ := by
      rw [rgI_nat, lcL_map (fun d => match d with | .int t => tupI (r ++ [t]) | _ => .non) fun d hd => ?_, List.map_map, List.map_map]
      · rfl
      · obtain ⟨t, ht, rfl⟩ := List.mem_map.mp hd
        refine ⟨_, asg_nm, rfl, ?_⟩
        have ad := addV_tup (a := r.map .int) (b := [.int (t : Int)]) (by simp; omega)
        simp [e1__law_rows, ad]
    have z := szF_ok (ds := ((List.range c).map fun (t : Nat) => r ++ [(t : Int)]).map tupI) (μ := μ) (szL _ (by simp; omega))
    have ad := addF_ok (a := acc.map tupI) (b := ((List.range c).map fun (t : Nat) => r ++ [(t : Int)]).map tupI) (by simp; omega)
    rw [← List.map_append] at ad
    have r1 := range1_ok (n := c) (μ := μ) (by omega)
    have hb : f1__law_rows [s0, s1, some (.t (.int (c : Int))), some (.t (.lst (acc.map tupI))), some (.t (tupI r)), none] μ = .nx [s0, s1, some (.t (.int (c : Int))), some (.t (.lst ((acc ++ (List.range c).map fun (t : Nat) => r ++ [(t : Int)]).map tupI))), some (.t (tupI r)), none] μ := by
      generalize (acc ++ (List.range c).map fun (t : Nat) => r ++ [(t : Int)]).map tupI = A2 at ad ⊢
      generalize ((List.range c).map fun (t : Nat) => r ++ [(t : Int)]).map tupI = A1 at k z ad
      generalize acc.map tupI = A0 at k ad ⊢
      generalize tupI r = TR at k ⊢
      simp only [f1__law_rows, sAsg_nm, eOfF_eq, e2_eq, eV_eq, List.getElem?_cons_succ, List.getElem?_cons_zero, bind_ok, lcF_eq, eN_eq, aCons_eq, aNil_eq, r1, sl_nm, wipeM, List.set_cons_succ, List.set_cons_zero, k, z, pf2_t, ad, orok_some, st_ok]
    obtain ⟨y', e⟩ := lrows_in (s0 := s0) (s1 := s1) (s2 := s2) hc rs (acc ++ (List.range c).map fun (t : Nat) => r ++ [(t : Int)]) (some (.t (tupI r))) (fun r hr' => hr r (List.mem_cons_of_mem _ hr')) (by simp; omega)
    refine ⟨y', ?_⟩
    rw [List.map_cons, forL_nx (by simp) hb, e, List.append_assoc]
    rfl
theorem lrows_loop {s0 : Option Val} : ∀ (cs : List Nat) (A : List (List Int)) (l : Nat) (x y z : Option Val), (∀ c ∈ cs, 1 ≤ c ∧ c ≤ 9) → (∀ r ∈ A, r.length = l) → l + cs.length ≤ 10 → A.length * pcL cs ≤ 1000 →
    ∃ x' y' z', forL (.nm 2) f2__law_rows (natL cs) [s0, some (.t (.lst (A.map tupI))), x, y, z, none] μ = .nx [s0, some (.t (.lst ((chL A cs).map tupI))), x', y', z', none] μ
  | [], A, l, x, y, z, _, _, _, _ => ⟨x, y, z, rfl⟩
  | c :: cs, A, l, x, y, z, hc, hA, hl, hp => by
    have hl' : l + (cs.length + 1) ≤ 10 := hl
    have hc1 := hc c List.mem_cons_self
    have pp := pc_pos fun x hx => (hc x (List.mem_cons_of_mem _ hx)).1
    have hp' : A.length * (c * pcL cs) ≤ 1000 := hp
    have hac : A.length * c ≤ 1000 := Nat.le_trans (Nat.mul_le_mul_left _ (Nat.le_mul_of_pos_right c pp)) hp'
    obtain ⟨y', e⟩ := lrows_in (μ := μ) (s0 := s0) (s1 := some (.t (.lst (A.map tupI)))) (s2 := none) hc1.2 A [] z (fun r hr => by rw [hA r hr]; omega) (by simp; omega)
    obtain ⟨x2, y2, z2, e2⟩ := lrows_loop (s0 := s0) cs (extR A c) (l + 1) (some (.t (.int (c : Int)))) (some (.t (.lst ((extR A c).map tupI)))) y' (fun x hx => hc x (List.mem_cons_of_mem _ hx)) (extR_row hA) (by omega) (by rw [extR_len, Nat.mul_assoc]; exact hp')
    refine ⟨x2, y2, z2, ?_⟩
    have hb : f2__law_rows [s0, some (.t (.lst (A.map tupI))), some (.t (.int (c : Int))), y, z, none] μ = .nx [s0, some (.t (.lst ((extR A c).map tupI))), some (.t (.int (c : Int))), some (.t (.lst ((extR A c).map tupI))), y', none] μ := by
      have g : gIt (.t (.lst (A.map tupI))) μ = .ok (A.map tupI) μ := rfl
      have e' : forL (.nm 4) f1__law_rows (A.map tupI) [s0, some (.t (.lst (A.map tupI))), some (.t (.int (c : Int))), some (.t (.lst [])), z, none] μ = .nx [s0, some (.t (.lst (A.map tupI))), some (.t (.int (c : Int))), some (.t (.lst ((extR A c).map tupI))), y', none] μ := e
      generalize (extR A c).map tupI = A1 at e' ⊢
      generalize A.map tupI = A0 at e' g ⊢
      simp only [f2__law_rows, sSeq_eq, sAsg_nm, eOfF_eq, eN_eq, aNil_eq, bind_ok, gLst_0, st_ok, List.set_cons_succ, List.set_cons_zero, seq_nx, sFor_eq, e1_eq, eV_eq, List.getElem?_cons_succ, List.getElem?_cons_zero, g, e']
    show forL (.nm 2) f2__law_rows (.int (c : Int) :: natL cs) _ μ = _
    rw [forL_nx (σ1 := [s0, some (.t (.lst (A.map tupI))), some (.t (.int (c : Int))), y, z, none]) (by simp) hb, e2]
    rfl
abbrev rowsL (cs : List Nat) : List (List Int) := chL [[]] cs
theorem lrows_ok {cs : List Nat} (hc : ∀ c ∈ cs, 1 ≤ c ∧ c ≤ 9) (hl : cs.length ≤ 9) (hp : pcL cs ≤ 1000) : fn__law_rows [.t (.lst (natL cs))] μ = .ok (.t (.lst ((rowsL cs).map tupI))) μ := by
  obtain ⟨x, y, z, e⟩ := lrows_loop (μ := μ) (s0 := some (.t (.lst (natL cs)))) cs [[]] 0 none none none hc (fun r hr => by rw [List.mem_singleton.mp hr]; rfl) (by omega) (by simpa using hp)
  have e' : forL (.nm 2) f2__law_rows (natL cs) [some (.t (.lst (natL cs))), some (.t (.lst [.tup []])), none, none, none, none] μ = .nx [some (.t (.lst (natL cs))), some (.t (.lst ((rowsL cs).map tupI))), x, y, z, none] μ := e
  generalize (rowsL cs).map tupI = A1 at e' ⊢
  generalize natL cs = NC at *
  simp [fn__law_rows, b__law_rows, fnOf, startM, e']
theorem ch_in {c : Nat} {s0 s1 : Option Val} {ν : Store} (hc : c ≤ 9) : ∀ (rs acc : List (List Int)) (y : Option Val), (∀ r ∈ rs, r.length ≤ 10) → acc.length + rs.length * c ≤ 10000 →
    ∃ y', forL (.nm 4) f1_choices (rs.map tupI) [s0, s1, some (.t (.int (c : Int))), some (.c ν.length), y, none] (ν ++ [some (.lst (acc.map tupI))]) = .nx [s0, s1, some (.t (.int (c : Int))), some (.c ν.length), y', none] (ν ++ [some (.lst ((acc ++ extR rs c).map tupI))])
  | [], acc, y, _, _ => ⟨y, by simp [forL, extR]⟩
  | r :: rs, acc, y, hr, hl => by
    have hl1 : acc.length + (rs.length + 1) * c ≤ 10000 := hl
    rw [Nat.add_mul, Nat.one_mul] at hl1
    have hr3 := hr r List.mem_cons_self
    have k : lcL (.nm 5) tYes' e1_choices (rgI 0 c) [s0, s1, some (.t (.int (c : Int))), some (.c ν.length), some (.t (tupI r)), none] (ν ++ [some (.lst (acc.map tupI))]) = .ok (((List.range c).map fun (t : Nat) => r ++ [(t : Int)]).map tupI) (ν ++ [some (.lst (acc.map tupI))]) := by
      rw [rgI_nat, lcL_map (fun d => match d with | .int t => tupI (r ++ [t]) | _ => .non) fun d hd => ?_, List.map_map, List.map_map]
      · rfl
      · obtain ⟨t, ht, rfl⟩ := List.mem_map.mp hd
        refine ⟨_, asg_nm, rfl, ?_⟩
        have ad := addV_tup (a := r.map .int) (b := [.int (t : Int)]) (by simp; omega)
        simp [e1_choices, ad]
    have z := szF_ok (ds := ((List.range c).map fun (t : Nat) => r ++ [(t : Int)]).map tupI) (μ := ν ++ [some (.lst (acc.map tupI))]) (szL _ (by simp; omega))
    have ex := extF_ok (μ := ν ++ [some (.lst (acc.map tupI))]) (k := ν.length) (ds := acc.map tupI) (es := ((List.range c).map fun (t : Nat) => r ++ [(t : Int)]).map tupI) (by simp) (by simp; omega)
    rw [set_snoc, ← List.map_append] at ex
    have r1 := range1_ok (n := c) (μ := ν ++ [some (.lst (acc.map tupI))]) (by omega)
    have la : lstAt (ν ++ [some (.lst (acc.map tupI))]) (.c ν.length) = some (ν.length, acc.map tupI) := lstAt_cell (by simp)
    have hb : f1_choices [s0, s1, some (.t (.int (c : Int))), some (.c ν.length), some (.t (tupI r)), none] (ν ++ [some (.lst (acc.map tupI))]) = .nx [s0, s1, some (.t (.int (c : Int))), some (.c ν.length), some (.t (tupI r)), none] (ν ++ [some (.lst ((acc ++ (List.range c).map fun (t : Nat) => r ++ [(t : Int)]).map tupI))]) := by
      generalize ν ++ [some (Cell.lst ((acc ++ (List.range c).map fun (t : Nat) => r ++ [(t : Int)]).map tupI))] = S2 at *
      generalize ν ++ [some (Cell.lst (acc.map tupI))] = S1 at *
      generalize ((List.range c).map fun (t : Nat) => r ++ [(t : Int)]).map tupI = A1 at *
      generalize tupI r = TR at *
      simp only [f1_choices, sExp_eq, eMutG, eV_eq, List.getElem?_cons_succ, List.getElem?_cons_zero, bind_ok, la, aCons_eq, eOfF_eq, lcF_eq, eN_eq, aNil_eq, r1, sl_nm, wipeM, List.set_cons_succ, List.set_cons_zero, k, z, ex, st_ok]
    obtain ⟨y', e⟩ := ch_in (s0 := s0) (s1 := s1) (ν := ν) hc rs (acc ++ (List.range c).map fun (t : Nat) => r ++ [(t : Int)]) (some (.t (tupI r))) (fun r hr' => hr r (List.mem_cons_of_mem _ hr')) (by simp; omega)
    refine ⟨y', ?_⟩
    rw [List.map_cons, forL_nx (by simp) hb, e, List.append_assoc]
    rfl
theorem ch_loop {s0 : Option Val} : ∀ (cs : List Nat) (A : List (List Int)) (l : Nat) (x y z : Option Val) (ν : Store), (∀ c ∈ cs, 1 ≤ c ∧ c ≤ 9) → (∀ r ∈ A, r.length = l) → l + cs.length ≤ 10 → A.length * pcL cs ≤ 1000 →
    ∃ x' y' z' τ, forL (.nm 2) f2_choices (natL cs) [s0, some (.t (.lst (A.map tupI))), x, y, z, none] ν = .nx [s0, some (.t (.lst ((chL A cs).map tupI))), x', y', z', none] (ν ++ τ)
  | [], A, l, x, y, z, ν, _, _, _, _ => ⟨x, y, z, [], by rw [List.append_nil]; rfl⟩
  | c :: cs, A, l, x, y, z, ν, hc, hA, hl, hp => by
    have hl' : l + (cs.length + 1) ≤ 10 := hl
    have hc1 := hc c List.mem_cons_self
    have pp := pc_pos fun x hx => (hc x (List.mem_cons_of_mem _ hx)).1
    have hp' : A.length * (c * pcL cs) ≤ 1000 := hp
    have hac : A.length * c ≤ 1000 := Nat.le_trans (Nat.mul_le_mul_left _ (Nat.le_mul_of_pos_right c pp)) hp'
    obtain ⟨y', e⟩ := ch_in (ν := ν) (s0 := s0) (s1 := some (.t (.lst (A.map tupI)))) hc1.2 A [] z (fun r hr => by rw [hA r hr]; omega) (by simp; omega)
    obtain ⟨x2, y2, z2, τ, e2⟩ := ch_loop (s0 := s0) cs (extR A c) (l + 1) (some (.t (.int (c : Int)))) (some (.t (.lst ((extR A c).map tupI)))) y' (ν ++ [none]) (fun x hx => hc x (List.mem_cons_of_mem _ hx)) (extR_row hA) (by omega) (by rw [extR_len, Nat.mul_assoc]; exact hp')
    refine ⟨x2, y2, z2, none :: τ, ?_⟩
    have hb : f2_choices [s0, some (.t (.lst (A.map tupI))), some (.t (.int (c : Int))), y, z, none] ν = .nx [s0, some (.t (.lst ((extR A c).map tupI))), some (.t (.int (c : Int))), some (.t (.lst ((extR A c).map tupI))), y', none] (ν ++ [none]) := by
      have g : gIt (.t (.lst (A.map tupI))) (ν ++ [some (.lst [])]) = .ok (A.map tupI) _ := rfl
      have e' : forL (.nm 4) f1_choices (A.map tupI) [s0, some (.t (.lst (A.map tupI))), some (.t (.int (c : Int))), some (.c ν.length), z, none] (ν ++ [some (.lst [])]) = .nx [s0, some (.t (.lst (A.map tupI))), some (.t (.int (c : Int))), some (.c ν.length), y', none] (ν ++ [some (.lst ((extR A c).map tupI))]) := e
      have fz : frz1 (ν ++ [some (Cell.lst ((extR A c).map tupI))]) (.c ν.length) = some (.t (.lst ((extR A c).map tupI)), ν ++ [none]) := by rw [frz_lst at_snoc, set_snoc]
      generalize (extR A c).map tupI = A1 at *
      generalize A.map tupI = A0 at *
      simp only [f2_choices, sSeq_eq, sAsg_nm, eCellF_eq, eN_eq, aNil_eq, bind_ok, gLst_0, st_ok, List.set_cons_succ, List.set_cons_zero, seq_nx, sFor_eq, e1_eq, eV_eq, List.getElem?_cons_succ, List.getElem?_cons_zero, g, e', sFrz, fz]
    show forL (.nm 2) f2_choices (.int (c : Int) :: natL cs) _ ν = _
    rw [forL_nx (σ1 := [s0, some (.t (.lst (A.map tupI))), some (.t (.int (c : Int))), y, z, none]) (by simp) hb, e2, List.append_assoc]
    rfl
theorem choices_ok {cs : List Nat} (hc : ∀ c ∈ cs, 1 ≤ c ∧ c ≤ 9) (hl : cs.length ≤ 9) (hp : pcL cs ≤ 1000) : fn_choices [.t (.lst (natL cs))] μ = .ok (.t (.lst ((rowsL cs).map tupI))) μ := by
  obtain ⟨x, y, z, τ, e⟩ := ch_loop (s0 := some (.t (.lst (natL cs)))) cs [[]] 0 none none none μ hc (fun r hr => by rw [List.mem_singleton.mp hr]; rfl) (by omega) (by simpa using hp)
  have e' : forL (.nm 2) f2_choices (natL cs) [some (.t (.lst (natL cs))), some (.t (.lst [.tup []])), none, none, none, none] μ = .nx [some (.t (.lst (natL cs))), some (.t (.lst ((rowsL cs).map tupI))), x, y, z, none] (μ ++ τ) := e
  generalize (rowsL cs).map tupI = A1 at e' ⊢
  generalize natL cs = NC at *
  simp [fn_choices, b_choices, fnOf, startM, e', fin]
end
/-! like lists of whole numbers -/
theorem eqB_tupc {x y : PV} {a b : List PV} : eqB (.tup (x :: a)) (.tup (y :: b)) = (eqB x y && eqB (.tup a) (.tup b)) := by
  simp only [eqB, PV.data, datas, PyData.eqv, PyData.eqvAll]
theorem eqB_lstc {x y : PV} {a b : List PV} : eqB (.lst (x :: a)) (.lst (y :: b)) = (eqB x y && eqB (.lst a) (.lst b)) := by
  simp only [eqB, PV.data, datas, PyData.eqv, PyData.eqvAll]
theorem eqB_int' {i j : Int} : eqB (.int i) (.int j) = decide (i = j) := by simp only [eqB, PV.data, PyData.eqv, Bool.beq_eq_decide_eq]
theorem eqB_row : ∀ a b : List Int, eqB (tupI a) (tupI b) = decide (a = b)
  | [], [] => rfl
  | [], _ :: _ => rfl
  | _ :: _, [] => rfl
  | x :: a, y :: b => by
    have ih := eqB_row a b
    show eqB (.tup (.int x :: a.map .int)) (.tup (.int y :: b.map .int)) = _
    rw [eqB_tupc, eqB_int', show eqB (.tup (a.map .int)) (.tup (b.map .int)) = _ from ih]
    by_cases h1 : x = y <;> by_cases h2 : a = b <;> simp [h1, h2]
/-! houses that fit, sizes, what stands where -/
abbrev Hs := List (Nat × List Dd)
def housesV (hs : Hs) : List PV := hs.map fun h => hV h.1 h.2
def sigD (ds : List Dd) : List (List Nat × Nat) := ds.map fun d => (d.1, d.2.1)
def sigV (s : List (List Nat × Nat)) : List PV := s.map fun p => .tup [.str (sg p.1), .int (p.2 : Int)]
section
variable {n m : Nat} {ds es : List Dd} {μ : Store}
theorem sig_lc {σ : Sl} {elt : ME} (he : elt = (eSl (fun l h => p1 (slV l h)) (eV 2) oNone (oSome (eC (.int 2))))) (hσ : σ.length = 3) : ∀ ds : List Dd, lcL (.nm 2) tYes' elt (ds.map dV) σ μ = .ok (sigV (sigD ds)) μ
  | [] => rfl
  | d :: ds => by
    refine lcL_cons (σ1 := σ.set 2 (some (.t (dV d)))) (μ2 := μ) asg_nm rfl ?_ (sig_lc he hσ ds)
    have s : slV none (some 2) (dV d) = some (.tup [.str (sg d.1), .int (d.2.1 : Int)]) := rfl
    have hg : (σ.set 2 (some (.t (dV d))))[2]? = some (some (.t (dV d))) := List.getElem?_set_self (by omega)
    rw [he]
    generalize dV d = DV at *
    simp [hg, s]
theorem eqB_sigs : ∀ a b : List (List Nat × Nat), eqB (.lst (sigV a)) (.lst (sigV b)) = decide (a = b)
  | [], [] => rfl
  | [], _ :: _ => rfl
  | _ :: _, [] => rfl
  | x :: a, y :: b => by
    have ih := eqB_sigs a b
    show eqB (.lst (.tup [.str (sg x.1), .int (x.2 : Int)] :: sigV a)) (.lst (.tup [.str (sg y.1), .int (y.2 : Int)] :: sigV b)) = _
    rw [eqB_lstc, eqB_tupc, eqB_tupc, ih, eqB_sg, eqB_int', show eqB (.tup []) (.tup []) = true from rfl, Bool.and_true]
    obtain ⟨x1, x2⟩ := x
    obtain ⟨y1, y2⟩ := y
    have hc : ((x2 : Int) = (y2 : Int)) = (x2 = y2) := propext ⟨fun h => by omega, fun h => by omega⟩
    simp only [hc]
    by_cases h1 : x1 = y1 <;> by_cases h2 : x2 = y2 <;> by_cases h3 : a = b <;> simp [h1, h2, h3]
theorem SD_sigs {a : List (List Nat × Nat)} (h : a.length ≤ 1000) : SD 3 (.lst (sigV a)) := SD_lst.mpr ⟨by simp [sigV]; omega, fun x hx => by
  obtain ⟨p, _, rfl⟩ := List.mem_map.mp hx
  exact SD_2 SD_str SD_int⟩
theorem fits_ok (h1 : ds.length ≤ 1000) (h2 : es.length ≤ 1000) : fn_fits [.t (hV n ds), .t (hV m es)] μ = .ok (.t (.bl (decide (sigD ds = sigD es)))) μ := by
  have o1 : ∀ (n : Nat) (ds : List Dd), PM.isObj "House" "deeds" (.t (hV n ds)) = true := fun n ds => m_obj (by decide +kernel)
  have mt : ∀ (n : Nat) (ds : List Dd), fn_House_deeds [.t (hV n ds)] μ = .ok (.t (.lst (ds.map dV))) μ := fun n ds => m_deeds
  have g : ∀ ds : List Dd, gIt (.t (.lst (ds.map dV))) μ = .ok (ds.map dV) μ := fun ds => rfl
  have l1 := sig_lc (μ := μ) (σ := [some (.t (hV n ds)), some (.t (hV m es)), none]) (elt := e1_fits) rfl rfl ds
  have l2 := sig_lc (μ := μ) (σ := [some (.t (hV n ds)), some (.t (hV m es)), none]) (elt := e2_fits) rfl rfl es
  have z : ∀ ds : List Dd, ds.length ≤ 1000 → szF (sigV (sigD ds)) μ = .ok (sigV (sigD ds)) μ := fun ds h => szF_ok (szL _ (by simp [sigV, sigD]; omega))
  have z1 := z ds h1
  have z2 := z es h2
  have ev : PM.eqV (.lst (sigV (sigD ds))) (.lst (sigV (sigD es))) = some (.bl (decide (sigD ds = sigD es))) := by
    rw [eq_ok ((SD_sigs (by simp [sigD]; omega)).ok (by decide)) ((SD_sigs (by simp [sigD]; omega)).ok (by decide)), eqB_sigs]
  have o1a := o1 n ds
  have o1b := o1 m es
  have mta := mt n ds
  have mtb := mt m es
  have ga := g ds
  have gb := g es
  generalize sigV (sigD ds) = S1 at *
  generalize sigV (sigD es) = S2 at *
  generalize hV n ds = H1 at *
  generalize hV m es = H2 at *
  generalize ds.map dV = D1 at *
  generalize es.map dV = D2 at *
  simp [fn_fits, b_fits, fnOf, startM, o1a, o1b, mta, mtb, ga, gb, wipeM, l1, l2, z1, z2, ev]
def sizesL (hs : Hs) : List Nat := hs.map (·.1)
theorem sizes_loop {s0 : Option Val} : ∀ (hs : Hs) (a : Nat) (y : Option Val), (∀ h ∈ hs, h.1 ≤ 9) → ∃ y', forL (.nm 2) f1_check_sizes (housesV hs) [s0, some (.t (.int (a : Int))), y] μ = .nx [s0, some (.t (.int ((a * pcL (sizesL hs) : Nat) : Int))), y'] μ
  | [], a, y, _ => ⟨y, by simp [housesV, sizesL, pcL, forL]⟩
  | h :: hs, a, y, hh => by
    have h9 := hh h List.mem_cons_self
    have o1 : PM.isObj "House" "things" (.t (hV h.1 h.2)) = true := m_obj (by decide +kernel)
    have mt : fn_House_things [.t (hV h.1 h.2)] μ = .ok (.t (.int (h.1 : Int))) μ := m_things
    have mu : mulV (.int (a : Int)) (.int (h.1 : Int)) = some (.int ((a * h.1 : Nat) : Int)) := by
      rw [mulV_ok (by omega) (by omega)]
      push_cast; rfl
    have hb : f1_check_sizes [s0, some (.t (.int (a : Int))), some (.t (hV h.1 h.2))] μ = .nx [s0, some (.t (.int ((a * h.1 : Nat) : Int))), some (.t (hV h.1 h.2))] μ := by
      generalize hV h.1 h.2 = HV at *
      generalize ((a * h.1 : Nat) : Int) = AH at *
      simp [f1_check_sizes, o1, mt, mu]
    obtain ⟨y', e⟩ := sizes_loop (s0 := s0) hs (a * h.1) (some (.t (hV h.1 h.2))) fun x hx => hh x (List.mem_cons_of_mem _ hx)
    refine ⟨y', ?_⟩
    show forL (.nm 2) f1_check_sizes (hV h.1 h.2 :: housesV hs) _ μ = _
    rw [forL_nx (by simp) hb, e, Nat.mul_assoc]
    rfl
theorem check_sizes_ok {hs : Hs} (hh : ∀ h ∈ hs, h.1 ≤ 9) : fn_check_sizes [.t (.lst (housesV hs))] μ = if 9 < pcL (sizesL hs) then .ex "TooMany" (some ("many", .int 9)) μ else .ok (.t .non) μ := by
  obtain ⟨y, e⟩ := sizes_loop (μ := μ) (s0 := some (.t (.lst (housesV hs)))) hs 1 none hh
  rw [Nat.one_mul] at e
  generalize pcL (sizesL hs) = P at *
  generalize housesV hs = HV at *
  have e' : forL (.nm 2) f1_check_sizes HV [some (.t (.lst HV)), some (.t (.int 1)), none] μ = .nx [some (.t (.lst HV)), some (.t (.int (P : Int))), y] μ := e
  by_cases h : 9 < P
  · have hi : (9 : Int) < (P : Int) := by omega
    rw [if_pos h]
    simp [fn_check_sizes, b_check_sizes, fnOf, startM, e', hi, sRaise]
  · have hi : ¬ (9 : Int) < (P : Int) := by omega
    rw [if_neg h]
    simp [fn_check_sizes, b_check_sizes, fnOf, startM, e', hi]
end
theorem keysOf_int : ∀ r : List Int, keysOf (r.map .int) = some (r.map Sum.inl)
  | [] => rfl
  | x :: r => by
    show (match keyOf (.int x), keysOf (r.map .int) with | some k, some ks => some (k :: ks) | _, _ => none) = _
    rw [keysOf_int r]
    rfl
theorem keyB_tupI {r : List Int} : keyB true (tupI r) = true := by
  show (keysOf (r.map .int)).isSome = true
  rw [keysOf_int]
  rfl
theorem keyEq_tupI (a b : List Int) : keyEq (tupI a) (tupI b) = decide (a = b) := by
  have h := keyEq_t (a.map Sum.inl) (b.map Sum.inl)
  have e : ∀ l : List Int, (l.map (Sum.inl : Int → Key)).map kPV = l.map .int := fun l => by rw [List.map_map]; rfl
  rw [e, e] at h
  show keyEq (.tup (a.map .int)) (.tup (b.map .int)) = _
  rw [h]
  have inj : ∀ {x y : List Int}, x.map (Sum.inl : Int → Key) = y.map Sum.inl ↔ x = y := fun {x y} => by
    constructor
    · intro h
      exact (List.map_inj_right (fun _ _ h => Sum.inl.inj h)).mp h
    · intro h; rw [h]
  by_cases hab : a = b
  · simp [hab]
  · rw [decide_eq_false hab, decide_eq_false (fun z => hab (inj.mp z))]
theorem any_tupI (ks : List (List Int)) (k : List Int) : (ks.map tupI).any (keyEq · (tupI k)) = decide (k ∈ ks) := by
  rw [List.any_map]
  induction ks with
  | nil => simp
  | cons x ks ih =>
    rw [List.any_cons, ih]
    simp only [Function.comp, keyEq_tupI]
    by_cases h : x = k
    · simp [h]
    · have h' : ¬ k = x := fun z => h z.symm
      simp [h, h']

/-! rows of things: which they are, their numbers -/
def fitR : List Nat → List Int → Prop
  | [], [] => True
  | c :: cs, x :: r => (0 ≤ x ∧ x < (c : Int)) ∧ fitR cs r
  | _, _ => False
theorem chL_mem : ∀ {cs : List Nat} {A : List (List Int)} {q r : List Int}, q ∈ A → fitR cs r → q ++ r ∈ chL A cs
  | [], A, q, [], hq, _ => by rw [List.append_nil]; exact hq
  | [], A, q, _ :: _, hq, h => h.elim
  | c :: cs, A, q, [], hq, h => h.elim
  | c :: cs, A, q, x :: r, hq, h => by
    have := chL_mem (A := extR A c) (q := q ++ [x]) (List.mem_flatMap.mpr ⟨q, hq, List.mem_map.mpr ⟨x.toNat, List.mem_range.mpr (by have := h.1; omega), by rw [Int.toNat_of_nonneg h.1.1]⟩⟩) h.2
    rw [List.append_assoc] at this
    exact this
theorem chL_inv : ∀ {cs : List Nat} {A : List (List Int)} {r : List Int}, r ∈ chL A cs → ∃ q ∈ A, ∃ s, r = q ++ s ∧ fitR cs s
  | [], A, r, h => ⟨r, h, [], by simp, trivial⟩
  | c :: cs, A, r, h => by
    obtain ⟨q, hq, s, rfl, hs⟩ := chL_inv (A := extR A c) h
    obtain ⟨q0, hq0, hq⟩ := List.mem_flatMap.mp hq
    obtain ⟨t, ht, rfl⟩ := List.mem_map.mp hq
    have ht := List.mem_range.mp ht
    exact ⟨q0, hq0, (t : Int) :: s, by simp, ⟨by omega, by omega⟩, hs⟩
theorem rowsL_mem {cs : List Nat} {r : List Int} : r ∈ rowsL cs ↔ fitR cs r := by
  constructor
  · intro h
    obtain ⟨q, hq, s, rfl, hs⟩ := chL_inv h
    rw [List.mem_singleton.mp hq]
    exact hs
  · intro h
    exact chL_mem (q := []) (by simp) h
theorem extR_nodup {A : List (List Int)} {c l : Nat} (hn : A.Nodup) (hl : ∀ r ∈ A, r.length = l) : (extR A c).Nodup := by
  unfold extR
  rw [List.Nodup, List.pairwise_flatMap]
  refine ⟨fun r hr => ?_, ?_⟩
  · rw [List.pairwise_map]
    refine (List.nodup_range (n := c)).imp fun hab e => hab ?_
    have := List.append_cancel_left e
    simp at this
    omega
  · refine List.Pairwise.imp_of_mem ?_ hn
    intro a b ha hb hab x hx y hy e
    obtain ⟨t, _, rfl⟩ := List.mem_map.mp hx
    obtain ⟨u, _, rfl⟩ := List.mem_map.mp hy
    exact hab (List.append_inj e (by rw [hl a ha, hl b hb])).1
theorem chL_nodup : ∀ {cs : List Nat} {A : List (List Int)} {l : Nat}, A.Nodup → (∀ r ∈ A, r.length = l) → (chL A cs).Nodup
  | [], A, l, hn, _ => hn
  | c :: cs, A, l, hn, hl => chL_nodup (A := extR A c) (l := l + 1) (extR_nodup hn hl) (extR_row hl)
theorem rowsL_nodup {cs : List Nat} : (rowsL cs).Nodup := chL_nodup (l := 0) (by simp) (fun r hr => by rw [List.mem_singleton.mp hr]; rfl)
theorem fitR_len : ∀ {cs : List Nat} {r : List Int}, fitR cs r → r.length = cs.length
  | [], [], _ => rfl
  | [], _ :: _, h => h.elim
  | _ :: _, [], h => h.elim
  | c :: cs, x :: r, h => by rw [List.length_cons, List.length_cons, fitR_len h.2]
theorem drop_cons {r : List Int} {k : Nat} {c : Nat} {cs : List Nat} (h : fitR (c :: cs) (r.drop k)) : k < r.length ∧ (0 ≤ r.getD k 0 ∧ r.getD k 0 < (c : Int)) ∧ fitR cs (r.drop (k + 1)) := by
  have hk : k < r.length := by
    refine Classical.byContradiction fun hn => ?_
    rw [List.drop_of_length_le (by omega)] at h
    exact h
  rw [List.drop_eq_getElem_cons hk] at h
  refine ⟨hk, ?_, h.2⟩
  rw [List.getD_eq_getElem?_getD, List.getElem?_eq_getElem hk]
  exact h.1
def prE : Nat → List (List Int) → List PV
  | _, [] => []
  | k, r :: R => .tup [tupI r, .int (k : Int)] :: prE (k + 1) R
def ixs : Nat → List (List Int) → List PV
  | _, [] => []
  | k, _ :: R => .int (k : Int) :: ixs (k + 1) R
theorem prE_len : ∀ (k : Nat) (R : List (List Int)), (prE k R).length = R.length
  | _, [] => rfl
  | k, r :: R => by
    show (prE (k + 1) R).length + 1 = _
    rw [prE_len]; rfl
theorem dmerge_num : ∀ (R F : List (List Int)) (k : Nat) (vs : List PV), (F ++ R).Nodup → dmergeT (prE k R) (F.map tupI) vs = some ((F ++ R).map tupI, vs ++ ixs k R)
  | [], F, k, vs, _ => by rw [List.append_nil]; show some (F.map tupI, vs) = some (F.map tupI, vs ++ []); rw [List.append_nil]
  | r :: R, F, k, vs, hn => by
    have hr : r ∉ F := fun h => (List.nodup_append.mp hn).2.2 r h r List.mem_cons_self rfl
    have ha : (F.map tupI).any (keyEq · (tupI r)) = false := by rw [any_tupI, decide_eq_false hr]
    have dn := dput_new (ks := F.map tupI) (vs := vs) (k := tupI r) (d := .int (k : Int)) ha
    have ks : (keysOf (r.map PV.int)).isSome = true := by rw [keysOf_int]; rfl
    have e2 : F.map tupI ++ [tupI r] = (F ++ [r]).map tupI := by simp
    have e3 : F ++ r :: R = (F ++ [r]) ++ R := by simp
    rw [e3] at hn
    have ih := dmerge_num R (F ++ [r]) (k + 1) (vs ++ [.int (k : Int)]) hn
    show (if (keysOf (r.map PV.int)).isSome then dmergeT (prE (k + 1) R) (dput (F.map tupI) vs (tupI r) (.int (k : Int))).1 (dput (F.map tupI) vs (tupI r) (.int (k : Int))).2 else none) = _
    rw [ks, if_pos rfl, dn]
    show dmergeT (prE (k + 1) R) (F.map tupI ++ [tupI r]) (vs ++ [.int (k : Int)]) = _
    have e4 : vs ++ [PV.int (k : Int)] ++ ixs (k + 1) R = vs ++ ixs k (r :: R) := by
      rw [List.append_assoc]; rfl
    rw [e2, ih, e3, e4]
theorem dfind_num : ∀ (R : List (List Int)) (k : Nat) (r : List Int), r ∈ R → dfind (R.map tupI) (ixs k R) (tupI r) = some (.int ((k + R.idxOf r : Nat) : Int))
  | x :: R, k, r, h => by
    show (if keyEq (tupI x) (tupI r) then some (PV.int (k : Int)) else dfind (R.map tupI) (ixs (k + 1) R) (tupI r)) = _
    rw [keyEq_tupI]
    by_cases e : x = r
    · rw [decide_eq_true e, if_pos rfl, e, List.idxOf_cons_self]
      rfl
    · have hr : r ∈ R := by
        rcases List.mem_cons.mp h with h | h
        · exact absurd h.symm e
        · exact h
      rw [decide_eq_false e, if_neg (by decide), dfind_num R (k + 1) r hr, List.idxOf_cons, show (x == r) = false from by simpa using e]
      congr 2
      simp
      omega
/-- what stands in the product's deed -/
def prodR (at_ : Nat) (th : List (List Int)) : Nat → Hs → List Int
  | _, [] => []
  | k, h :: hs => (h.2.getD at_ ([], 0, [])).2.2.getD (spotI h.1 (th.map (·.getD k 0))).toNat 0 :: prodR at_ th (k + 1) hs
structure OkH (at_ p : Nat) (h : Nat × List Dd) : Prop where
  n1 : 1 ≤ h.1
  n9 : h.1 ≤ 9
  ok : okDs h.1 h.2
  lt : at_ < h.2.length
  pl : (h.2.getD at_ ([], 0, [])).2.1 = p
theorem OkH.deed {at_ p : Nat} {h : Nat × List Dd} (o : OkH at_ p h) : okD h.1 (h.2.getD at_ ([], 0, [])) := o.ok.ok _ (by
  rw [List.getD_eq_getElem?_getD, List.getElem?_eq_getElem o.lt]; exact List.getElem_mem o.lt)
theorem prod_fit {at_ p : Nat} {th : List (List Int)} (hp : th.length = p) : ∀ {hs : Hs} {k : Nat}, (∀ h ∈ hs, OkH at_ p h) → (∀ r ∈ th, fitR (sizesL hs) (r.drop k)) → fitR (sizesL hs) (prodR at_ th k hs)
  | [], k, _, _ => trivial
  | h :: hs, k, ho, hf => by
    have o := ho h List.mem_cons_self
    have hin : inR h.1 (th.map (·.getD k 0)) := fun x hx => by
      obtain ⟨r, hr, rfl⟩ := List.mem_map.mp hx
      exact (drop_cons (hf r hr)).2.1
    obtain ⟨s1, s2⟩ := spotI_lt hin
    have od := o.deed
    rw [List.length_map, hp, ← o.pl, ← od.2.2.1] at s2
    refine ⟨od.2.2.2 _ (PM.getD_mem (by omega)), prod_fit hp (fun x hx => ho x (List.mem_cons_of_mem _ hx)) fun r hr => (drop_cons (hf r hr)).2.2⟩
section
variable {μ : Store}
theorem spot_okL {n : Int} {r : List Int} (hn1 : 0 ≤ n) (hn : n ≤ 1000) : fn_spot_of [.t (lstI r), .t (.int n)] μ = .ok (.t (.int (spotI n r))) μ := by
  obtain ⟨x', e⟩ := spot_loop (s0 := some (.t (lstI r))) (μ := μ) hn1 hn r 0 none
  have g : gIt (.t (lstI r)) μ = .ok (r.map .int) μ := rfl
  simp [fn_spot_of, b_spot_of, fnOf, startM, g, e, spotI]
theorem at_deeds {ds : List Dd} {i : Nat} (h : i < ds.length) : atV (.lst (ds.map dV)) (.int (i : Int)) = some (dV (ds.getD i ([], 0, []))) := by
  show atI (ds.map dV) (i : Int) = _
  rw [atI_nat' (by simpa using h)]
  rw [List.getD_eq_getElem?_getD, List.getElem?_eq_getElem h]
  simp
theorem dbr_one {at_ p k : Nat} {h : Nat × List Dd} {th : List (List Int)} {acc : List Int} {ν : Store} {s1 s2 s3 s4 s5 s6 s7 s12 : Option Val} (o : OkH at_ p h) (hp : th.length = p) (hp3 : p ≤ 3) (hf : ∀ r ∈ th, k < r.length ∧ 0 ≤ r.getD k 0 ∧ r.getD k 0 < (h.1 : Int)) (hl : acc.length ≤ 100) :
    f1_deed_by_rows [some (.t (.int (at_ : Int))), s1, s2, s3, s4, s5, s6, s7, some (.t (.tup (th.map tupI))), some (.c ν.length), some (.t (.int (k : Int))), some (.t (hV h.1 h.2)), s12, none, none] (ν ++ [some (.lst (acc.map .int))]) =
      .nx [some (.t (.int (at_ : Int))), s1, s2, s3, s4, s5, s6, s7, some (.t (.tup (th.map tupI))), some (.c ν.length), some (.t (.int (k : Int))), some (.t (hV h.1 h.2)), some (.t (.int (spotI h.1 (th.map (·.getD k 0))))), none, none] (ν ++ [some (.lst ((acc ++ [(h.2.getD at_ ([], 0, [])).2.2.getD (spotI h.1 (th.map (·.getD k 0))).toNat 0]).map .int))]) := by
  have od := o.deed
  have hin : inR h.1 (th.map (·.getD k 0)) := fun x hx => by
    obtain ⟨r, hr, rfl⟩ := List.mem_map.mp hx
    exact (hf r hr).2
  have lc : lcL (.nm 14) tYes' e2_deed_by_rows (th.map tupI) [some (.t (.int (at_ : Int))), s1, s2, s3, s4, s5, s6, s7, some (.t (.tup (th.map tupI))), some (.c ν.length), some (.t (.int (k : Int))), some (.t (hV h.1 h.2)), s12, none, none] (ν ++ [some (.lst (acc.map .int))]) = .ok ((th.map (·.getD k 0)).map .int) (ν ++ [some (.lst (acc.map .int))]) := by
    have key : ∀ l : List (List Int), (∀ r ∈ l, k < r.length) → lcL (.nm 14) tYes' e2_deed_by_rows (l.map tupI) [some (.t (.int (at_ : Int))), s1, s2, s3, s4, s5, s6, s7, some (.t (.tup (th.map tupI))), some (.c ν.length), some (.t (.int (k : Int))), some (.t (hV h.1 h.2)), s12, none, none] (ν ++ [some (.lst (acc.map .int))]) = .ok ((l.map (·.getD k 0)).map .int) (ν ++ [some (.lst (acc.map .int))]) := by
      intro l
      induction l with
      | nil => intro _; rfl
      | cons r l ih =>
        intro hl
        have ar : atV (tupI r) (.int (k : Int)) = some (.int (r.getD k 0)) := at_int (hl r List.mem_cons_self)
        refine lcL_cons (μ2 := ν ++ [some (.lst (acc.map .int))]) asg_nm rfl ?_ (ih fun x hx => hl x (List.mem_cons_of_mem _ hx))
        generalize tupI r = TR at *
        simp [e2_deed_by_rows, ar]
    exact key th fun r hr => (hf r hr).1
  have z := szF_ok (ds := (th.map (·.getD k 0)).map PV.int) (μ := ν ++ [some (.lst (acc.map .int))]) (szL _ (by simp; omega))
  have sp := spot_okL (n := (h.1 : Int)) (r := th.map (·.getD k 0)) (μ := ν ++ [some (.lst (acc.map .int))]) (by omega) (by have := o.n9; omega)
  have ta := tab_at od (r := th.map (·.getD k 0)) (by rw [List.length_map, hp, o.pl]) hin
  have a0 := at_deeds o.lt
  have a2 : ∀ d : Dd, atV (dV d) (.int 2) = some (tupI d.2.2) := fun d => rfl
  have a2' := a2 (h.2.getD at_ ([], 0, []))
  have o1 : PM.isObj "House" "things" (.t (hV h.1 h.2)) = true := m_obj (by decide +kernel)
  have mt : ∀ κ, fn_House_things [.t (hV h.1 h.2)] κ = .ok (.t (.int (h.1 : Int))) κ := fun κ => m_things
  have o2 : PM.isObj "House" "deeds" (.t (hV h.1 h.2)) = true := m_obj (by decide +kernel)
  have md : ∀ κ, fn_House_deeds [.t (hV h.1 h.2)] κ = .ok (.t (.lst (h.2.map dV))) κ := fun κ => m_deeds
  have g : ∀ κ, gIt (.t (.tup (th.map tupI))) κ = .ok (th.map tupI) κ := fun κ => rfl
  have la : lstAt (ν ++ [some (.lst (acc.map .int))]) (.c ν.length) = some (ν.length, acc.map .int) := lstAt_cell (by simp)
  have el : (.lst ((th.map (·.getD k 0)).map PV.int) : PV) = lstI (th.map (·.getD k 0)) := rfl
  generalize (h.2.getD at_ ([], 0, [])).2.2.getD (spotI h.1 (th.map (·.getD k 0))).toNat 0 = y at *
  have ap : gMut mAppend (.c ν.length) [.t (.int y)] (ν ++ [some (.lst (acc.map .int))]) = .ok (.t .non) (ν ++ [some (.lst ((acc ++ [y]).map .int))]) := by
    rw [app_cell at_snoc (by rw [List.length_map]; omega), set_snoc, List.map_append]
    rfl
  generalize ν ++ [some (Cell.lst ((acc ++ [y]).map .int))] = S2 at *
  generalize ν ++ [some (Cell.lst (acc.map .int))] = S1 at *
  generalize (th.map (·.getD k 0)).map PV.int = TI at *
  generalize lstI (th.map (·.getD k 0)) = TL at *
  generalize spotI h.1 (th.map (·.getD k 0)) = SP at *
  generalize tupI (h.2.getD at_ ([], 0, [])).2.2 = TB at *
  generalize dV (h.2.getD at_ ([], 0, [])) = DV at *
  generalize (.tup (th.map tupI) : PV) = TT at *
  generalize th.map tupI = TM at *
  generalize hV h.1 h.2 = HV at *
  generalize h.2.map dV = DD at *
  simp only [f1_deed_by_rows, sSeq_eq, sAsg_nm, eN_eq, aCons_eq, aNil_eq, eOfF_eq, lcF_eq, e1_eq, eV_eq, List.getElem?_cons_succ, List.getElem?_cons_zero, bind_ok, g, sl_nm, wipeM, List.set_cons_succ, List.set_cons_zero, lc, z, el, eMeth_eq, o1, if_true, gCall_1, mt, gCall_2, sp, st_ok, seq_nx, sExp_eq, eMutG, la, e2_eq, o2, md, p2_t, a0, Option.map_some, orok_some, eC_eq, a2', ta, ap]
theorem dbr_loop {at_ p : Nat} {th : List (List Int)} {ν : Store} {s1 s2 s3 s4 s5 s6 s7 : Option Val} (hp : th.length = p) (hp3 : p ≤ 3) : ∀ (hs : Hs) (k : Nat) (acc : List Int) (x y z : Option Val), (∀ h ∈ hs, OkH at_ p h) → (∀ r ∈ th, fitR (sizesL hs) (r.drop k)) → acc.length + hs.length ≤ 50 →
    ∃ x' y' z', forL (.tp [.nm 10, .nm 11]) f1_deed_by_rows (enumF k (housesV hs)) [some (.t (.int (at_ : Int))), s1, s2, s3, s4, s5, s6, s7, some (.t (.tup (th.map tupI))), some (.c ν.length), x, y, z, none, none] (ν ++ [some (.lst (acc.map .int))]) =
      .nx [some (.t (.int (at_ : Int))), s1, s2, s3, s4, s5, s6, s7, some (.t (.tup (th.map tupI))), some (.c ν.length), x', y', z', none, none] (ν ++ [some (.lst ((acc ++ prodR at_ th k hs).map .int))])
  | [], k, acc, x, y, z, _, _, _ => ⟨x, y, z, by rw [show prodR at_ th k [] = [] from rfl, List.append_nil]; rfl⟩
  | h :: hs, k, acc, x, y, z, ho, hf, hl => by
    have hl' : acc.length + (hs.length + 1) ≤ 50 := hl
    have hb := dbr_one (k := k) (ν := ν) (s1 := s1) (s2 := s2) (s3 := s3) (s4 := s4) (s5 := s5) (s6 := s6) (s7 := s7) (s12 := z) (acc := acc) (ho h List.mem_cons_self) hp hp3 (fun r hr => ⟨(drop_cons (hf r hr)).1, (drop_cons (hf r hr)).2.1⟩) (by omega)
    obtain ⟨x', y', z', e⟩ := dbr_loop (ν := ν) (s1 := s1) (s2 := s2) (s3 := s3) (s4 := s4) (s5 := s5) (s6 := s6) (s7 := s7) hp hp3 hs (k + 1) (acc ++ [(h.2.getD at_ ([], 0, [])).2.2.getD (spotI h.1 (th.map (·.getD k 0))).toNat 0]) (some (.t (.int (k : Int)))) (some (.t (hV h.1 h.2))) (some (.t (.int (spotI h.1 (th.map (·.getD k 0)))))) (fun x hx => ho x (List.mem_cons_of_mem _ hx)) (fun r hr => (drop_cons (hf r hr)).2.2) (by simp; omega)
    refine ⟨x', y', z', ?_⟩
    show forL (.tp [.nm 10, .nm 11]) f1_deed_by_rows (.tup [.int (k : Int), hV h.1 h.2] :: enumF (k + 1) (housesV hs)) _ _ = _
    rw [forL_nx (by simp) hb, e, List.append_assoc]
    rfl
end
section
variable {μ : Store} {at_ p : Nat} {hs : Hs} {h0 : Nat × List Dd}
theorem set_mid {ν j : Store} {x y : Option Cell} : (ν ++ x :: j).set ν.length y = ν ++ y :: j := by
  rw [List.set_append_right _ _ (Nat.le_refl _), Nat.sub_self]; rfl
theorem at_mid {ν j : Store} {x : Option Cell} : (ν ++ x :: j)[ν.length]? = some x := by simp
def numD (R : List (List Int)) : PV := .dic true (R.map tupI) (ixs 0 R)
theorem num_at {R : List (List Int)} {r : List Int} (h : r ∈ R) : atV (numD R) (tupI r) = some (.int ((R.idxOf r : Nat) : Int)) := by
  have e := dfind_num R 0 r h
  rw [Nat.zero_add] at e
  show (if keyB true (tupI r) then dfind (R.map tupI) (ixs 0 R) (tupI r) else none) = _
  rw [keyB_tupI, if_pos rfl, e]
theorem dbr_turn {th : List (List Int)} {acc : List Int} {ν j : Store} {s2 s3 s4 s5 s9 x y z : Option Val} (hp : th.length = p) (hp3 : p ≤ 3) (ho : ∀ h ∈ hs, OkH at_ p h) (hl : hs.length ≤ 9) (hf : ∀ r ∈ th, r ∈ rowsL (sizesL hs)) (ha : acc.length ≤ 10000) :
    ∃ x' y' z' c, f2_deed_by_rows [some (.t (.int (at_ : Int))), some (.t (.lst (housesV hs))), s2, s3, s4, s5, some (.t (numD (rowsL (sizesL hs)))), some (.c ν.length), some (.t (.tup (th.map tupI))), s9, x, y, z, none, none] (ν ++ some (.lst (acc.map .int)) :: j) =
      .nx [some (.t (.int (at_ : Int))), some (.t (.lst (housesV hs))), s2, s3, s4, s5, some (.t (numD (rowsL (sizesL hs)))), some (.c ν.length), some (.t (.tup (th.map tupI))), c, x', y', z', none, none] (ν ++ some (.lst ((acc ++ [(((rowsL (sizesL hs)).idxOf (prodR at_ th 0 hs) : Nat) : Int)]).map .int)) :: (j ++ [some (.lst ((prodR at_ th 0 hs).map .int))])) := by
  have hff : ∀ r ∈ th, fitR (sizesL hs) (r.drop 0) := fun r hr => by rw [List.drop_zero]; exact rowsL_mem.mp (hf r hr)
  obtain ⟨x', y', z', e⟩ := dbr_loop (at_ := at_) (th := th) (ν := ν ++ some (.lst (acc.map .int)) :: j) (s1 := some (.t (.lst (housesV hs)))) (s2 := s2) (s3 := s3) (s4 := s4) (s5 := s5) (s6 := some (.t (numD (rowsL (sizesL hs))))) (s7 := some (.c ν.length)) hp hp3 hs 0 [] x y z ho hff (by simp; omega)
  have pm : prodR at_ th 0 hs ∈ rowsL (sizesL hs) := rowsL_mem.mpr (prod_fit hp ho hff)
  have na := num_at pm
  rw [List.nil_append] at e
  have e0 : forL (.tp [.nm 10, .nm 11]) f1_deed_by_rows (enumF 0 (housesV hs)) [some (.t (.int (at_ : Int))), some (.t (.lst (housesV hs))), s2, s3, s4, s5, some (.t (numD (rowsL (sizesL hs)))), some (.c ν.length), some (.t (.tup (th.map tupI))), some (.c (ν ++ some (.lst (acc.map .int)) :: j).length), x, y, z, none, none] (ν ++ some (.lst (acc.map .int)) :: j ++ [some (.lst [])]) = _ := e
  generalize prodR at_ th 0 hs = PR at *
  refine ⟨x', y', z', some (.c (ν ++ some (Cell.lst (acc.map .int)) :: j).length), ?_⟩
  have ge : gEnum [.t (.lst (housesV hs))] (ν ++ some (.lst (acc.map .int)) :: j ++ [some (.lst [])]) = .ok (enumF 0 (housesV hs)) (ν ++ some (.lst (acc.map .int)) :: j ++ [some (.lst [])]) := by simp [enumP_F]
  have tv : pN tupleV [.c (ν ++ some (Cell.lst (acc.map .int)) :: j).length] (ν ++ some (.lst (acc.map .int)) :: j ++ [some (.lst (PR.map .int))]) = .ok (.t (tupI PR)) (ν ++ some (.lst (acc.map .int)) :: j ++ [some (.lst (PR.map .int))]) := by
    rw [pN_cell at_snoc]; rfl
  have hst : ν ++ some (Cell.lst (acc.map .int)) :: j ++ [some (.lst (PR.map .int))] = ν ++ some (.lst (acc.map .int)) :: (j ++ [some (.lst (PR.map .int))]) := by simp
  have la : lstAt (ν ++ some (Cell.lst (acc.map .int)) :: j ++ [some (.lst (PR.map .int))]) (.c ν.length) = some (ν.length, acc.map .int) := by
    rw [hst]; exact lstAt_cell at_mid
  have ap : gMut mAppend (.c ν.length) [.t (.int (((rowsL (sizesL hs)).idxOf PR : Nat) : Int))] (ν ++ some (Cell.lst (acc.map .int)) :: j ++ [some (.lst (PR.map .int))]) = .ok (.t .non) (ν ++ some (.lst ((acc ++ [(((rowsL (sizesL hs)).idxOf PR : Nat) : Int)]).map .int)) :: (j ++ [some (.lst (PR.map .int))])) := by
    rw [hst, app_cell at_mid (by rw [List.length_map]; omega), set_mid, List.map_append]
    rfl
  generalize (((rowsL (sizesL hs)).idxOf PR : Nat) : Int) = IX at *
  generalize numD (rowsL (sizesL hs)) = ND at *
  generalize ν ++ some (Cell.lst ((acc ++ [IX]).map .int)) :: (j ++ [some (.lst (PR.map .int))]) = S3 at *
  generalize ν ++ some (Cell.lst (acc.map .int)) :: j ++ [some (.lst (PR.map .int))] = S2 at *
  obtain ⟨len, hlen⟩ : ∃ len, (ν ++ some (Cell.lst (acc.map .int)) :: j).length = len := ⟨_, rfl⟩
  rw [hlen] at e0 tv ⊢
  generalize enumF 0 (housesV hs) = EH at *
  generalize housesV hs = HV at *
  generalize (.tup (th.map tupI) : PV) = TT at *
  generalize tupI PR = TP at *
  simp only [f2_deed_by_rows, sSeq_eq, sAsg_nm, eCellF_eq, eN_eq, aNil_eq, bind_ok, gLst_0, st_ok, List.set_cons_succ, List.set_cons_zero, seq_nx, sFor_eq, aCons_eq, eV_eq, List.getElem?_cons_succ, List.getElem?_cons_zero, hlen, ge, e0, sExp_eq, eMutG, la, e2_eq, tv, p2_t, na, Option.map_some, orok_some, ap]
theorem dbr_ths {ν : Store} {s2 s3 s4 s5 : Option Val} (hp3 : p ≤ 3) (ho : ∀ h ∈ hs, OkH at_ p h) (hl : hs.length ≤ 9) : ∀ (ths : List (List (List Int))) (acc : List Int) (j : Store) (s8 s9 x y z : Option Val), (∀ th ∈ ths, th.length = p ∧ ∀ r ∈ th, r ∈ rowsL (sizesL hs)) → acc.length + ths.length ≤ 10000 →
    ∃ x8 x9 x' y' z' j', forL (.nm 8) f2_deed_by_rows (ths.map fun th => .tup (th.map tupI)) [some (.t (.int (at_ : Int))), some (.t (.lst (housesV hs))), s2, s3, s4, s5, some (.t (numD (rowsL (sizesL hs)))), some (.c ν.length), s8, s9, x, y, z, none, none] (ν ++ some (.lst (acc.map .int)) :: j) =
      .nx [some (.t (.int (at_ : Int))), some (.t (.lst (housesV hs))), s2, s3, s4, s5, some (.t (numD (rowsL (sizesL hs)))), some (.c ν.length), x8, x9, x', y', z', none, none] (ν ++ some (.lst ((acc ++ ths.map fun th => (((rowsL (sizesL hs)).idxOf (prodR at_ th 0 hs) : Nat) : Int)).map .int)) :: j')
  | [], acc, j, s8, s9, x, y, z, _, _ => ⟨s8, s9, x, y, z, j, by simp [forL]⟩
  | th :: ths, acc, j, s8, s9, x, y, z, ht, hl2 => by
    have hl3 : acc.length + (ths.length + 1) ≤ 10000 := hl2
    obtain ⟨h1, h2⟩ := ht th List.mem_cons_self
    obtain ⟨x', y', z', c, e⟩ := dbr_turn (ν := ν) (j := j) (s2 := s2) (s3 := s3) (s4 := s4) (s5 := s5) (s9 := s9) (x := x) (y := y) (z := z) (acc := acc) h1 hp3 ho hl h2 (by omega)
    obtain ⟨a8, a9, a1, a2, a3, j', e2⟩ := dbr_ths (ν := ν) (s2 := s2) (s3 := s3) (s4 := s4) (s5 := s5) hp3 ho hl ths (acc ++ [(((rowsL (sizesL hs)).idxOf (prodR at_ th 0 hs) : Nat) : Int)]) (j ++ [some (.lst ((prodR at_ th 0 hs).map .int))]) (some (.t (.tup (th.map tupI)))) c x' y' z' (fun t h => ht t (List.mem_cons_of_mem _ h)) (by simp; omega)
    refine ⟨a8, a9, a1, a2, a3, j', ?_⟩
    rw [List.map_cons, forL_nx (by simp) e, e2, List.append_assoc]
    rfl
/-- the rows of things, by numbers -/
def thsL (R : List (List Int)) (p : Nat) : List (List (List Int)) := (overL (rgL R.length) p).map fun nums => nums.map fun j => R.getD j.toNat []
theorem overP_ths (R : List (List Int)) : ∀ p, overP (R.map tupI) p = (thsL R p).map fun th => th.map tupI
  | 0 => rfl
  | p + 1 => by
    have hR : R.map tupI = (rgL R.length).map fun j => tupI (R.getD j.toNat []) := by
      rw [List.map_map]
      apply List.ext_getElem
      · simp
      · intro i h1 h2
        have hi : i < R.length := by simpa using h1
        simp [hi]
    show (overP (R.map tupI) p).flatMap (fun r => (R.map tupI).map fun x => r ++ [x]) = (((overL (rgL R.length) p).flatMap fun r => (rgL R.length).map fun x => r ++ [x]).map fun nums => nums.map fun j => R.getD j.toNat []).map fun th => th.map tupI
    rw [overP_ths R p]
    unfold thsL
    rw [List.map_map, List.map_map, List.flatMap_map, List.map_flatMap]
    congr 1
    funext nums
    rw [hR]
    simp [List.map_map, Function.comp_def]
theorem ths_ok {R : List (List Int)} {p : Nat} : ∀ th ∈ thsL R p, th.length = p ∧ ∀ r ∈ th, r ∈ R := fun th h => by
  obtain ⟨nums, hn, rfl⟩ := List.mem_map.mp h
  obtain ⟨h1, h2⟩ := over_mem hn
  refine ⟨by simp [h1], fun r hr => ?_⟩
  obtain ⟨j, hj, rfl⟩ := List.mem_map.mp hr
  obtain ⟨k, hk, rfl⟩ := List.mem_map.mp (h2 j hj)
  have hk := List.mem_range.mp hk
  simp only [Int.toNat_natCast]
  rw [List.getD_eq_getElem?_getD, List.getElem?_eq_getElem hk]
  exact List.getElem_mem hk
theorem ths_len {R : List (List Int)} {p : Nat} : (thsL R p).length = R.length ^ p := by simp [thsL, over_len]
/-- a deed of the product -/
def dueD (hs : Hs) (d : Dd) (at_ : Nat) : Dd := (d.1, d.2.1, (thsL (rowsL (sizesL hs)) d.2.1).map fun th => (((rowsL (sizesL hs)).idxOf (prodR at_ th 0 hs) : Nat) : Int))
theorem dbr_ok (h9 : (rowsL (sizesL (h0 :: hs))).length ≤ 9) (hp3 : p ≤ 3) (ho : ∀ h ∈ h0 :: hs, OkH at_ p h) (hl : (h0 :: hs).length ≤ 9) :
    fn_deed_by_rows [.t (.int (at_ : Int)), .t (.lst (housesV (h0 :: hs))), .t (.lst ((rowsL (sizesL (h0 :: hs))).map tupI))] μ = .ok (.t (dV (dueD (h0 :: hs) (h0.2.getD at_ ([], 0, [])) at_))) μ := by
  have o := ho h0 List.mem_cons_self
  generalize hR : rowsL (sizesL (h0 :: hs)) = R at *
  have nd : R.Nodup := by rw [← hR]; exact rowsL_nodup
  have ge : gEnum [.t (.lst (R.map tupI))] μ = .ok (enumF 0 (R.map tupI)) μ := by simp [enumP_F]
  have lc : ∀ (σ : Sl), σ.length = 15 → ∀ (L : List (List Int)) (k : Nat), lcL (.tp [.nm 13, .nm 14]) tYes' e1_deed_by_rows (enumF k (L.map tupI)) σ μ = .ok (prE k L) μ := by
    intro σ hσ L
    induction L with
    | nil => intro k; rfl
    | cons r L ih =>
      intro k
      refine lcL_cons (σ1 := (σ.set 13 (some (.t (.int (k : Int))))).set 14 (some (.t (tupI r)))) (μ2 := μ) rfl rfl ?_ (ih (k + 1))
      have tp : PM.gTup [.t (tupI r), .t (.int (k : Int))] μ = .ok (.t (.tup [tupI r, .int (k : Int)])) μ := gTup_ok rfl (szL _ (by simp))
      have g14 : ((σ.set 13 (some (.t (.int (k : Int))))).set 14 (some (.t (tupI r))))[14]? = some (some (.t (tupI r))) := List.getElem?_set_self (by rw [List.length_set]; omega)
      have g13 : ((σ.set 13 (some (.t (.int (k : Int))))).set 14 (some (.t (tupI r))))[13]? = some (some (.t (.int (k : Int)))) := by
        rw [List.getElem?_set_ne (by decide)]
        exact List.getElem?_set_self (by omega)
      generalize (σ.set 13 (some (.t (.int (k : Int))))).set 14 (some (.t (tupI r))) = τ at *
      generalize tupI r = TR at *
      simp only [e1_deed_by_rows, eN_eq, aCons_eq, aNil_eq, eV_eq, g14, g13, bind_ok, tp]
  have z := szF_ok (ds := prE 0 R) (μ := μ) (szL _ (by rw [prE_len]; omega))
  have dm := dmerge_num R [] 0 [] (by simpa using nd)
  rw [List.nil_append, List.nil_append] at dm
  have gd : gDictT (.t (.lst (prE 0 R))) μ = .ok (.c μ.length) (μ ++ [some (.dic true (R.map tupI) (ixs 0 R))]) := by
    have dm' : dmergeT (prE 0 R) [] [] = some (R.map tupI, ixs 0 R) := dm
    simp only [gDictT, view, dm']
  have fz : frz1 (μ ++ [some (Cell.dic true (R.map tupI) (ixs 0 R))]) (.c μ.length) = some (.t (numD R), μ ++ [none]) := by
    rw [frz_dic at_snoc, set_snoc]; rfl
  have rw1 := rwi_ok (xs := R.map tupI) (p := p) (μ := μ ++ [none] ++ [some (.lst [])]) (by rw [List.length_map]; exact h9) hp3
  rw [overP_ths, List.map_map] at rw1
  have lp := dbr_ths (hs := h0 :: hs) (at_ := at_) (p := p) (ν := μ ++ [none]) (s2 := some (.t (.lst (R.map tupI)))) (s3 := some (.t (.str (sg (h0.2.getD at_ ([], 0, [])).1)))) (s4 := some (.t (.int (p : Int)))) (s5 := some (.t (tupI (h0.2.getD at_ ([], 0, [])).2.2))) hp3 ho hl (thsL R p) [] [] none none none none none (fun th hth => by rw [hR]; exact ths_ok th hth) (by
    rw [ths_len]
    have := pow_le_729 (n := R.length) (p := p) h9 hp3
    simp; omega)
  obtain ⟨x8, x9, x', y', z', j', e⟩ := lp
  rw [hR] at e
  have a0 : atV (.lst (housesV (h0 :: hs))) (.int 0) = some (hV h0.1 h0.2) := by
    show atI (hV h0.1 h0.2 :: housesV hs) 0 = _
    exact atI_nat' (i := 0) (by simp)
  have od : PM.isObj "House" "deeds" (.t (hV h0.1 h0.2)) = true := m_obj (by decide +kernel)
  have md : fn_House_deeds [.t (hV h0.1 h0.2)] μ = .ok (.t (.lst (h0.2.map dV))) μ := m_deeds
  have ad := at_deeds o.lt
  have due : dueD (h0 :: hs) (h0.2.getD at_ ([], 0, [])) at_ = ((h0.2.getD at_ ([], 0, [])).1, p, (thsL R p).map fun th => ((R.idxOf (prodR at_ th 0 (h0 :: hs)) : Nat) : Int)) := by
    unfold dueD
    rw [o.pl, hR]
  rw [due]
  have asd : asg (.tp [.nm 3, .nm 4, .nm 5]) (.t (dV (h0.2.getD at_ ([], 0, [])))) [some (.t (.int (at_ : Int))), some (.t (.lst (housesV (h0 :: hs)))), some (.t (.lst (R.map tupI))), none, none, none, none, none, none, none, none, none, none, none, none] = some [some (.t (.int (at_ : Int))), some (.t (.lst (housesV (h0 :: hs)))), some (.t (.lst (R.map tupI))), some (.t (.str (sg (h0.2.getD at_ ([], 0, [])).1))), some (.t (.int (p : Int))), some (.t (tupI (h0.2.getD at_ ([], 0, [])).2.2)), none, none, none, none, none, none, none, none, none] := by
    rw [← o.pl]; rfl
  have lc1 := lc (wipeM [some (.t (.int (at_ : Int))), some (.t (.lst (housesV (h0 :: hs)))), some (.t (.lst (R.map tupI))), some (.t (.str (sg (h0.2.getD at_ ([], 0, [])).1))), some (.t (.int (p : Int))), some (.t (tupI (h0.2.getD at_ ([], 0, [])).2.2)), none, none, none, none, none, none, none, none, none] (Tgt.tp [.nm 13, .nm 14]).sl) rfl R 0
  have hl1 : (μ ++ [none]).length = μ.length + 1 := by simp
  have e' := e
  rw [List.nil_append, hl1] at e'
  have hst : ∀ c : Option Cell, μ ++ [none] ++ [c] = μ ++ [none] ++ c :: [] := fun c => rfl
  generalize ((thsL R p).map fun th => ((R.idxOf (prodR at_ th 0 (h0 :: hs)) : Nat) : Int)) = CM at *
  have tv : pN tupleV [.c (μ.length + 1)] (μ ++ [none] ++ some (Cell.lst (CM.map .int)) :: j') = .ok (.t (tupI CM)) (μ ++ [none] ++ some (Cell.lst (CM.map .int)) :: j') := by
    rw [← hl1, pN_cell at_mid]; rfl
  have tp : ∀ κ, PM.gTup [.t (.str (sg (h0.2.getD at_ ([], 0, [])).1)), .t (.int (p : Int)), .t (tupI CM)] κ = .ok (.t (dV ((h0.2.getD at_ ([], 0, [])).1, p, CM))) κ := fun κ => gTup_ok rfl (szL _ (by simp))
  have gt : ∀ κ, gIt (.t (.lst ((thsL R p).map ((PV.tup) ∘ fun th => th.map tupI)))) κ = .ok ((thsL R p).map fun th => .tup (th.map tupI)) κ := fun κ => rfl
  have tk : (μ ++ [none] ++ some (Cell.lst (CM.map .int)) :: j').take μ.length = μ := by simp
  have hc0 : μ ++ [none] ++ [some (Cell.lst [])] = μ ++ [none] ++ some (Cell.lst ([] : List PV)) :: [] := rfl
  rw [List.map_nil] at e'
  generalize (thsL R p).map (fun th => PV.tup (th.map tupI)) = TH at *
  generalize ((thsL R p).map ((PV.tup) ∘ fun th => th.map tupI)) = TH2 at *
  generalize dV ((h0.2.getD at_ ([], 0, [])).1, p, CM) = RES at *
  generalize dV (h0.2.getD at_ ([], 0, [])) = DV at *
  generalize tupI (h0.2.getD at_ ([], 0, [])).2.2 = TB at *
  generalize housesV (h0 :: hs) = HV at *
  generalize hV h0.1 h0.2 = H0 at *
  generalize h0.2.map dV = D0 at *
  generalize numD R = ND at *
  generalize prE 0 R = PE0 at *
  generalize enumF 0 (R.map tupI) = EF at *
  have bb : b_deed_by_rows (startM 15 [.t (.int (at_ : Int)), .t (.lst HV), .t (.lst (R.map tupI))]) μ = .rt (.t RES) (μ ++ [none] ++ some (Cell.lst (CM.map .int)) :: j') := by
    generalize R.map tupI = RT at *
    generalize hdc : Cell.dic true RT (ixs 0 R) = DC at *
    simp only [b_deed_by_rows, startM, List.map_cons, List.map_nil, List.length_cons, List.length_nil, List.cons_append, List.nil_append, List.replicate, sSeq_eq, sAsg_tp, sAsg_nm, e2_eq, eMeth_eq, eV_eq, eC_eq, List.getElem?_cons_succ, List.getElem?_cons_zero, bind_ok, p2_t, a0, Option.map_some, orok_some, od, if_true, aNil_eq, gCall_1, md, ad, asd, st_ok, seq_nx, eFrz_eq, e1_eq, eOfF_eq, lcF_eq, eN_eq, aCons_eq, ge, lc1, z, gd, fz, List.set_cons_succ, List.set_cons_zero, eCellF_eq, gLst_0, hl1, sFor_eq, gCall_2, rw1, gt, hc0, e', sRet_eq, tv, tp]
  show endM μ.length (b_deed_by_rows (startM 15 [.t (.int (at_ : Int)), .t (.lst HV), .t (.lst (R.map tupI))]) μ) = _
  rw [bb]
  simp only [endM, fin, tk]
end
theorem fin_g1 {n k : Nat} {d : PV} {X : List PV} {μ : Store} (h : μ[k]? = some (some (.lst X))) (hk : n ≤ k) : fin n (.g .tup [.t d, .c k]) μ = .ok (.g .tup [.t d, .c n]) (μ.take n ++ [some (.lst X)]) := by
  have h1 : ¬ k < n := by omega
  simp [fin, Fl.below, h1, h, noOb, Fl.only, Fl.ren]

section
variable {μ ν : Store} {v : Val} {xs ys : List PV} {T : Tgt} {elt : ME} {σ : Sl}
/-- a list: a datum or a cell -/
def ListR (μ : Store) (v : Val) (xs : List PV) : Prop := v = .t (.lst xs) ∨ ∃ k, v = .c k ∧ μ[k]? = some (some (.lst xs))
theorem ListR.plain (h : ListR μ v xs) : v.plain = true := by
  rcases h with h | ⟨k, h1, h2⟩
  · rw [h]; rfl
  · rw [h1]; rfl
theorem ListR.view (h : ListR μ v xs) : PM.view μ v = some (.lst xs) := by
  rcases h with h | ⟨k, h1, h2⟩
  · rw [h]; rfl
  · rw [h1]; simp [PM.view, h2]
theorem lent_ok (h : ListR μ v xs) (e : ∀ κ, lcL T tYes' elt xs (wipeM σ T.sl) κ = .ok ys κ) (hl : ys.length ≤ 1000000) : gLent T tYes' elt σ v μ = .ok ys μ := by
  have z : ∀ κ, szF ys κ = .ok ys κ := fun κ => szF_ok (szL _ hl)
  rcases h with h | ⟨k, h1, h2⟩
  · rw [h]
    show (lcL T tYes' elt xs (wipeM σ T.sl) μ).bind szF = _
    rw [e]
    exact z μ
  · rw [h1]
    unfold gLent
    simp only [h2, e, bind_ok, z]
    have hk : k < μ.length := (List.getElem?_eq_some_iff.mp h2).1
    congr 1
    rw [List.set_set]
    apply List.ext_getElem?
    intro j
    rw [List.getElem?_set]
    split
    · rename_i e
      subst e
      rw [List.getElem?_eq_getElem hk] at h2 ⊢
      simp [hk, (Option.some.inj h2).symm]
    · rfl
end
section
variable {μ : Store} {σ : Sl} {f : ME} {j k : Nat} {items l : List PV} {d : PV}
/-! lending, what comes back -/
theorem lfrees_ints : ∀ r : List Int, lfrees (r.map .int) = true
  | [] => by simp [lfrees]
  | x :: r => by simp [lfrees, lfree, lfrees_ints r]
theorem lfree_tupI (r : List Int) : lfree (tupI r) = true := by
  show lfree (.tup (r.map .int)) = true
  unfold lfree
  exact lfrees_ints r
theorem lfrees_app : ∀ {a b : List PV}, lfrees a = true → lfrees b = true → lfrees (a ++ b) = true
  | [], _, _, h => h
  | x :: a, b, h1, h2 => by
    unfold lfrees at h1
    rw [Bool.and_eq_true] at h1
    rw [List.cons_append]
    unfold lfrees
    rw [h1.1, lfrees_app h1.2 h2]; rfl
theorem lfStore_app {ν : Store} (h1 : lfStore μ = true) (h2 : lfStore ν = true) : lfStore (μ ++ ν) = true := by
  unfold lfStore at *
  rw [List.all_append, h1, h2]; rfl
theorem lfStore_cons {x : Option Cell} (h1 : (match x with
    | none => true
    | some c => lfCell c) = true) (h2 : lfStore μ = true) : lfStore (x :: μ) = true := by
  unfold lfStore at *
  rw [List.all_cons, h2, Bool.and_true]
  exact h1
theorem set_back {x : Option Cell} (h : μ[k]? = some x) : (μ.set k none).set k x = μ := by
  rw [List.set_set]
  obtain ⟨hk, e⟩ := List.getElem?_eq_some_iff.mp h
  rw [← e]
  exact List.set_getElem_self hk
end
theorem lf_well (w : W3) : lfCell (.lst [.int w.1, .int w.2.1, .int w.2.2]) = true := by simp [lfCell, lfrees, lfree]

section
variable {μ : Store} {v : Val} {xs : List PV} {σ : Sl} {f : ME} {j : Nat} {d : PV}
/-! product -/
/-- a list that may be lent: a datum, or a cell beside which no list holds lists -/
def HouR (μ : Store) (v : Val) (xs : List PV) : Prop := v = .t (.lst xs) ∨ ∃ k, v = .c k ∧ μ[k]? = some (some (.lst xs)) ∧ lfStore (μ.set k none) = true
theorem HouR.lst (h : HouR μ v xs) : ListR μ v xs := by
  rcases h with h | ⟨k, h1, h2, _⟩
  · exact .inl h
  · exact .inr ⟨k, h1, h2⟩
theorem lend_L (hv : HouR μ v xs) (h0 : σ[j]? = some (some v)) (hf : ∀ κ, f (σ.set j (some (.t (.lst xs)))) κ = .ok (.t d) κ) (ld : lfree d = true) : eLend j f σ μ = .ok (.t d) μ := by
  rcases hv with rfl | ⟨k, rfl, h2, h3⟩
  · rw [eLend_t h0]
    have hj := (List.getElem?_eq_some_iff.mp h0).1
    have e : σ.set j (some (.t (.lst xs))) = σ := by
      apply List.ext_getElem?
      intro i
      rw [List.getElem?_set]
      split
      · rename_i e; subst e; exact h0.symm
      · rfl
    have := hf μ
    rw [e] at this
    exact this
  · rw [eLend_c h0 h2, hf, backE_ok (w := .t d) (show lfVal (.t d) = true from ld) h3, set_back h2]
theorem lend_LX {c : Str} {x : Option (Str × PV)} (hv : HouR μ v xs) (h0 : σ[j]? = some (some v)) (hf : ∀ κ, f (σ.set j (some (.t (.lst xs)))) κ = .ex c x κ) (ld : lfExc x = true) : eLend j f σ μ = .ex c x μ := by
  rcases hv with rfl | ⟨k, rfl, h2, h3⟩
  · rw [eLend_t h0]
    have hj := (List.getElem?_eq_some_iff.mp h0).1
    have e : σ.set j (some (.t (.lst xs))) = σ := by
      apply List.ext_getElem?
      intro i
      rw [List.getElem?_set]
      split
      · rename_i e; subst e; exact h0.symm
      · rfl
    have := hf μ
    rw [e] at this
    exact this
  · rw [eLend_c h0 h2, hf, backE_ex ld h3, set_back h2]
end
theorem sig_get {ds es : List Dd} (h : sigD ds = sigD es) {i : Nat} (hi : i < ds.length) : i < es.length ∧ (es.getD i ([], 0, [])).1 = (ds.getD i ([], 0, [])).1 ∧ (es.getD i ([], 0, [])).2.1 = (ds.getD i ([], 0, [])).2.1 := by
  have hl : ds.length = es.length := by
    have := congrArg List.length h
    simpa [sigD] using this
  have h2 : (sigD ds)[i]? = (sigD es)[i]? := by rw [h]
  have he : i < es.length := by omega
  simp only [sigD, List.getElem?_map, List.getElem?_eq_getElem hi, List.getElem?_eq_getElem he, Option.map_some] at h2
  rw [List.getD_eq_getElem?_getD, List.getD_eq_getElem?_getD, List.getElem?_eq_getElem hi, List.getElem?_eq_getElem he]
  have h3 := Option.some.inj h2
  exact ⟨he, (congrArg Prod.fst h3).symm, (congrArg Prod.snd h3).symm⟩
/-- houses that fit -/
structure AllF (h0 : Nat × List Dd) (hs : Hs) : Prop where
  ok : ∀ h ∈ hs, 1 ≤ h.1 ∧ h.1 ≤ 9 ∧ okDs h.1 h.2
  sig : ∀ h ∈ hs, sigD h0.2 = sigD h.2
theorem AllF.okH {h0 : Nat × List Dd} {hs : Hs} (a : AllF h0 hs) {i : Nat} (hi : i < h0.2.length) : ∀ h ∈ hs, OkH i (h0.2.getD i ([], 0, [])).2.1 h := fun h hh => by
  obtain ⟨h1, h2, h3⟩ := a.ok h hh
  obtain ⟨g1, g2, g3⟩ := sig_get (a.sig h hh) hi
  exact ⟨h1, h2, h3, g1, g3⟩
def duesL (h0 : Nat × List Dd) (hs : Hs) : List Dd := (List.range h0.2.length).map fun i => dueD hs (h0.2.getD i ([], 0, [])) i
def waysL (hs : Hs) : List PV := (List.range hs.length).map fun k => tupI ((rowsL (sizesL hs)).map (·.getD k 0))
theorem rowsL_len {cs : List Nat} : (rowsL cs).length = pcL cs := by rw [chL_len]; simp
theorem ths_mem {R : List (List Int)} {p : Nat} {th : List (List Int)} (h : th ∈ thsL R p) : th.length = p ∧ ∀ r ∈ th, r ∈ R := ths_ok th h
theorem dues_ok {h0 : Nat × List Dd} {hs : Hs} (a : AllF h0 (h0 :: hs)) : okDs (pcL (sizesL (h0 :: hs))) (duesL h0 (h0 :: hs)) := by
  have o0 := (a.ok h0 List.mem_cons_self).2.2
  refine ⟨fun d hd => ?_, ?_, ?_⟩
  · obtain ⟨i, hi, rfl⟩ := List.mem_map.mp hd
    have hi := List.mem_range.mp hi
    have oh := a.okH hi
    have od := (oh h0 List.mem_cons_self).deed
    refine ⟨od.1, od.2.1, ?_, ?_⟩
    · show ((thsL _ _).map _).length = _
      rw [List.length_map, ths_len, rowsL_len]; rfl
    · intro x hx
      obtain ⟨th, hth, rfl⟩ := List.mem_map.mp hx
      obtain ⟨t1, t2⟩ := ths_mem hth
      have pm : prodR i th 0 (h0 :: hs) ∈ rowsL (sizesL (h0 :: hs)) := rowsL_mem.mpr (prod_fit t1 oh fun r hr => by rw [List.drop_zero]; exact rowsL_mem.mp (t2 r hr))
      have := List.idxOf_lt_length_of_mem pm
      rw [rowsL_len] at this
      omega
  · have e : (duesL h0 (h0 :: hs)).map (·.1) = h0.2.map (·.1) := by
      unfold duesL
      rw [List.map_map]
      apply List.ext_getElem
      · simp
      · intro i h1 h2
        have hi : i < h0.2.length := by simpa using h1
        simp [dueD, hi]
    rw [e]; exact o0.nd
  · simp [duesL]; exact o0.len
section
variable {μ : Store} {v : Val} {h0 : Nat × List Dd} {hs : Hs}
theorem names_len (h : h0.2.length ≤ 6) {κ : Store} {s1 s2 s3 s4 s5 s6 s7 : Option Val} (hv : ListR κ v (housesV (h0 :: hs))) : eN gRange1 (aCons (eN (pN lenV) (aCons (eMeth "House" "names" 1 fn_House_names (e2 (p2 atV) (eV 0) (eC (.int 0))) aNil) aNil)) aNil) [some v, s1, s2, s3, s4, s5, s6, s7] κ = .ok (rgI 0 h0.2.length) κ := by
  have a0 : atV (.lst (housesV (h0 :: hs))) (.int 0) = some (hV h0.1 h0.2) := by
    show atI (hV h0.1 h0.2 :: housesV hs) 0 = _
    exact atI_nat' (i := 0) (by simp)
  have p : p2 atV v (.t (.int 0)) κ = .ok (.t (hV h0.1 h0.2)) κ := by simp [p2, hv.view, a0]
  have on : PM.isObj "House" "names" (.t (hV h0.1 h0.2)) = true := m_obj (by decide +kernel)
  have mn : fn_House_names [.t (hV h0.1 h0.2)] κ = .ok (.t (.lst (h0.2.map fun d => .str (sg d.1)))) κ := m_names
  have ln : lenV [.lst (h0.2.map fun d => PV.str (sg d.1))] = some (.int (h0.2.length : Int)) := by simp
  have r1 := range1_ok (n := h0.2.length) (μ := κ) (by omega)
  generalize (h0.2.map fun d => PV.str (sg d.1)) = NN at *
  generalize hV h0.1 h0.2 = H0 at *
  simp only [eN_eq, aCons_eq, aNil_eq, eMeth_eq, e2_eq, eV_eq, eC_eq, List.getElem?_cons_zero, bind_ok, p, on, if_true, gCall_1, mn, pN_1, ln, Option.map_some, orok_some, r1]
theorem all_fit (hl : (h0 :: hs).length ≤ 9) (ho : ∀ h ∈ h0 :: hs, h.2.length ≤ 6) {s1 s2 s3 s4 s5 s6 s7 : Option Val} {κ : Store} : eN (pN allV) (aCons (eOfF (lcC (eV 0) (.nm 6) tYes' e1_product)) aNil) [some (.t (.lst (housesV (h0 :: hs)))), s1, s2, s3, s4, s5, s6, s7] κ = .ok (.t (.bl ((h0 :: hs).all fun h => decide (sigD h0.2 = sigD h.2)))) κ := by
  have a0 : atV (.lst (housesV (h0 :: hs))) (.int 0) = some (hV h0.1 h0.2) := by
    show atI (hV h0.1 h0.2 :: housesV hs) 0 = _
    exact atI_nat' (i := 0) (by simp)
  have lc : ∀ κ, ∀ l : Hs, (∀ h ∈ l, h.2.length ≤ 6) → lcL (.nm 6) tYes' e1_product (housesV l) [some (.t (.lst (housesV (h0 :: hs)))), s1, s2, s3, s4, s5, none, s7] κ = .ok (l.map fun h => .bl (decide (sigD h0.2 = sigD h.2))) κ := by
    intro κ l
    induction l with
    | nil => intro _; rfl
    | cons h l ih =>
      intro hl
      have ft := fits_ok (n := h0.1) (m := h.1) (ds := h0.2) (es := h.2) (μ := κ) (by have := ho h0 List.mem_cons_self; omega) (by have := hl h List.mem_cons_self; omega)
      refine lcL_cons (σ1 := [some (.t (.lst (housesV (h0 :: hs)))), s1, s2, s3, s4, s5, some (.t (hV h.1 h.2)), s7]) (μ2 := κ) rfl rfl ?_ (ih fun x hx => hl x (List.mem_cons_of_mem _ hx))
      generalize housesV (h0 :: hs) = HV at *
      generalize hV h0.1 h0.2 = H0 at *
      generalize hV h.1 h.2 = H1 at *
      simp only [e1_product, eN_eq, aCons_eq, aNil_eq, e2_eq, eV_eq, eC_eq, List.getElem?_cons_succ, List.getElem?_cons_zero, bind_ok, p2_t, a0, Option.map_some, orok_some, gCall_2, ft]
  have lt := lent_ok (μ := κ) (v := .t (.lst (housesV (h0 :: hs)))) (T := .nm 6) (elt := e1_product) (σ := [some (.t (.lst (housesV (h0 :: hs)))), s1, s2, s3, s4, s5, s6, s7]) (.inl rfl) (fun κ => lc κ (h0 :: hs) ho) (by simp at hl ⊢; omega)
  have al := allV_map (h0 :: hs) fun h => decide (sigD h0.2 = sigD h.2)
  generalize ((h0 :: hs).map fun h => PV.bl (decide (sigD h0.2 = sigD h.2))) = BL at *
  generalize housesV (h0 :: hs) = HV at *
  simp only [eN_eq, aCons_eq, aNil_eq, eOfF_eq, lcC, eV_eq, List.getElem?_cons_zero, bind_ok, lt, pN_1, al, Option.map_some, orok_some]
theorem things_lc {σ : Sl} (h6 : σ.length = 8) : ∀ (κ : Store) (l : Hs), lcL (.nm 6) tYes' e2_product (housesV l) σ κ = .ok (natL (sizesL l)) κ := by
  intro κ l
  induction l with
  | nil => rfl
  | cons h l ih =>
    have o1 : PM.isObj "House" "things" (.t (hV h.1 h.2)) = true := m_obj (by decide +kernel)
    have mt : fn_House_things [.t (hV h.1 h.2)] κ = .ok (.t (.int (h.1 : Int))) κ := m_things
    have hg : (σ.set 6 (some (.t (hV h.1 h.2))))[6]? = some (some (.t (hV h.1 h.2))) := List.getElem?_set_self (by omega)
    refine lcL_cons (σ1 := σ.set 6 (some (.t (hV h.1 h.2)))) (μ2 := κ) asg_nm rfl ?_ ih
    generalize hV h.1 h.2 = HV at *
    simp only [e2_product, eMeth_eq, eV_eq, hg, bind_ok, o1, if_true, aNil_eq, gCall_1, mt]
theorem ways_lc {R : List (List Int)} {s0 s2 s3 s4 s6 s7 : Option Val} {κ : Store} {m : Nat} (hR : R.length ≤ 1000) (hw : ∀ r ∈ R, r.length = m) : ∀ l : List Nat, (∀ k ∈ l, k < m) → lcL (.nm 5) tYes' e5_product (l.map fun (k : Nat) => .int (k : Int)) [s0, some (.t (.lst (R.map tupI))), s2, s3, s4, none, s6, s7] κ = .ok (l.map fun k => tupI (R.map (·.getD k 0))) κ := by
  intro l
  induction l with
  | nil => intro _; rfl
  | cons k l ih =>
    intro hl
    refine lcL_cons (σ1 := [s0, some (.t (.lst (R.map tupI))), s2, s3, s4, some (.t (.int (k : Int))), s6, s7]) (μ2 := κ) rfl rfl ?_ (ih fun x hx => hl x (List.mem_cons_of_mem _ hx))
    show e5_product [s0, some (.t (.lst (R.map tupI))), s2, s3, s4, some (.t (.int (k : Int))), s6, s7] κ = .ok (.t (tupI (R.map (·.getD k 0)))) κ
    have lc : lcL (.nm 7) tYes' e4_product (R.map tupI) [s0, some (.t (.lst (R.map tupI))), s2, s3, s4, some (.t (.int (k : Int))), s6, none] κ = .ok ((R.map (·.getD k 0)).map .int) κ := by
      have key : ∀ L : List (List Int), (∀ r ∈ L, r.length = m) → lcL (.nm 7) tYes' e4_product (L.map tupI) [s0, some (.t (.lst (R.map tupI))), s2, s3, s4, some (.t (.int (k : Int))), s6, none] κ = .ok ((L.map (·.getD k 0)).map .int) κ := by
        intro L
        induction L with
        | nil => intro _; rfl
        | cons r L ih2 =>
          intro hL
          have ar : atV (tupI r) (.int (k : Int)) = some (.int (r.getD k 0)) := at_int (by have := hL r List.mem_cons_self; have := hl k List.mem_cons_self; omega)
          refine lcL_cons (σ1 := [s0, some (.t (.lst (R.map tupI))), s2, s3, s4, some (.t (.int (k : Int))), s6, some (.t (tupI r))]) (μ2 := κ) rfl rfl ?_ (ih2 fun x hx => hL x (List.mem_cons_of_mem _ hx))
          generalize tupI r = TR at *
          simp only [e4_product, e2_eq, eV_eq, List.getElem?_cons_succ, List.getElem?_cons_zero, bind_ok, p2_t, ar, Option.map_some, orok_some]
      exact key R hw
    have z := szF_ok (ds := (R.map (·.getD k 0)).map PV.int) (μ := κ) (szL _ (by simp; omega))
    have g : gIt (.t (.lst (R.map tupI))) κ = .ok (R.map tupI) κ := rfl
    have tv : tupleV [.lst ((R.map (·.getD k 0)).map PV.int)] = some (tupI (R.map (·.getD k 0))) := rfl
    generalize tupI (R.map (·.getD k 0)) = TK at *
    generalize (R.map (·.getD k 0)).map PV.int = TI at *
    generalize R.map tupI = RT at *
    simp only [e5_product, eN_eq, aCons_eq, aNil_eq, eOfF_eq, lcF_eq, e1_eq, eV_eq, List.getElem?_cons_succ, List.getElem?_cons_zero, bind_ok, g, sl_nm, wipeM, List.set_cons_succ, List.set_cons_zero, lc, z, pN_1, tv, Option.map_some, orok_some]
theorem product_fit (hl : (h0 :: hs).length ≤ 9) (ho : ∀ h ∈ h0 :: hs, h.2.length ≤ 6) (hv : HouR μ v (housesV (h0 :: hs))) (hb : ((h0 :: hs).all fun h => decide (sigD h0.2 = sigD h.2)) = false) : fn_product [v] μ = .ex "NoFit" none μ := by
  have l1 := lend_L (σ := [some v, none, none, none, none, none, none, none]) (j := 0) (f := eN (pN allV) (aCons (eOfF (lcC (eV 0) (.nm 6) tYes' e1_product)) aNil)) (d := .bl false) hv rfl (fun κ => by
    have := all_fit (h0 := h0) (hs := hs) (s1 := none) (s2 := none) (s3 := none) (s4 := none) (s5 := none) (s6 := none) (s7 := none) (κ := κ) hl ho
    rw [hb] at this
    exact this) rfl
  show endM μ.length (b_product (startM 8 [v]) μ) = _
  have bb : ∃ σ, b_product (startM 8 [v]) μ = .ex "NoFit" none σ μ := by
    refine ⟨[some v, none, none, none, none, none, none, none], ?_⟩
    have e : b_product = sSeq (sIf (tNot' (tVal (eLend 0 (eN (pN allV) (aCons (eOfF (lcC (eV 0) (.nm 6) tYes' e1_product)) aNil))))) (sRaise0 "NoFit") sPass) _ := rfl
    rw [e]
    simp only [startM, List.map_cons, List.map_nil, List.length_cons, List.length_nil, List.cons_append, List.nil_append, List.replicate, sSeq_eq, sIf_eq, tNot_eq, tVal_eq, l1, bind_ok, gBl_bl, Bool.not_false, st_ok, if_true, sRaise0]
    rfl
  obtain ⟨σ, bb⟩ := bb
  rw [bb]
  simp [endM]
theorem fit_all (a : AllF h0 (h0 :: hs)) : ((h0 :: hs).all fun h => decide (sigD h0.2 = sigD h.2)) = true := List.all_eq_true.mpr fun h hh => decide_eq_true (a.sig h hh)
theorem deeds_lc {σ : Sl} {R : List (List Int)} (a : AllF h0 (h0 :: hs)) (hl : (h0 :: hs).length ≤ 9) (h9 : (rowsL (sizesL (h0 :: hs))).length ≤ 9) (hv : HouR μ v (housesV (h0 :: hs))) (hR : R = rowsL (sizesL (h0 :: hs))) (hσ : σ.length = 8) (g0 : σ[0]? = some (some v)) (g1 : σ[1]? = some (some (.t (.lst (R.map tupI))))) :
    ∀ l : List Nat, (∀ i ∈ l, i < h0.2.length) → lcL (.nm 4) tYes' e3_product (l.map fun (i : Nat) => .int (i : Int)) σ μ = .ok ((l.map fun i => dueD (h0 :: hs) (h0.2.getD i ([], 0, [])) i).map dV) μ := by
  intro l
  induction l with
  | nil => intro _; rfl
  | cons i l ih =>
    intro hi
    have i0 := hi i List.mem_cons_self
    have oh := a.okH i0
    have p3 := (oh h0 List.mem_cons_self).deed.2.1
    refine lcL_cons (σ1 := σ.set 4 (some (.t (.int (i : Int))))) (μ2 := μ) asg_nm rfl ?_ (ih fun x hx => hi x (List.mem_cons_of_mem _ hx))
    refine lend_L hv (by rw [List.getElem?_set_ne (by decide)]; exact g0) (fun κ => ?_) ?_
    · have db := dbr_ok (μ := κ) (at_ := i) (h0 := h0) (hs := hs) h9 p3 oh hl
      rw [← hR] at db
      have k0 : ((σ.set 4 (some (.t (.int (i : Int))))).set 0 (some (.t (.lst (housesV (h0 :: hs))))))[0]? = some (some (.t (.lst (housesV (h0 :: hs))))) := List.getElem?_set_self (by rw [List.length_set]; omega)
      have k1 : ((σ.set 4 (some (.t (.int (i : Int))))).set 0 (some (.t (.lst (housesV (h0 :: hs))))))[1]? = some (some (.t (.lst (R.map tupI)))) := by
        rw [List.getElem?_set_ne (by decide), List.getElem?_set_ne (by decide)]; exact g1
      have k4 : ((σ.set 4 (some (.t (.int (i : Int))))).set 0 (some (.t (.lst (housesV (h0 :: hs))))))[4]? = some (some (.t (.int (i : Int)))) := by
        rw [List.getElem?_set_ne (by decide)]; exact List.getElem?_set_self (by omega)
      generalize (σ.set 4 (some (.t (.int (i : Int))))).set 0 (some (.t (.lst (housesV (h0 :: hs))))) = τ at *
      generalize dV (dueD (h0 :: hs) (h0.2.getD i ([], 0, [])) i) = DV at *
      generalize housesV (h0 :: hs) = HV at *
      generalize R.map tupI = RT at *
      simp only [eN_eq, aCons_eq, aNil_eq, eV_eq, k0, k1, k4, bind_ok, gCall_3, db]
    · show lfrees [.str _, .int _, tupI _] = true
      unfold lfrees
      rw [show lfree (.str _) = true from rfl, Bool.true_and]
      unfold lfrees
      rw [show lfree (.int _) = true from rfl, Bool.true_and]
      unfold lfrees
      rw [lfree_tupI]
      rfl
theorem product_many (a : AllF h0 (h0 :: hs)) (hl : (h0 :: hs).length ≤ 9) (hv : HouR μ v (housesV (h0 :: hs))) (h9 : 9 < pcL (sizesL (h0 :: hs))) : fn_product [v] μ = .ex "TooMany" (some ("many", .int 9)) μ := by
  have ho : ∀ h ∈ h0 :: hs, h.2.length ≤ 6 := fun h hh => (a.ok h hh).2.2.len
  have l1 := lend_L (σ := [some v, none, none, none, none, none, none, none]) (j := 0) (f := eN (pN allV) (aCons (eOfF (lcC (eV 0) (.nm 6) tYes' e1_product)) aNil)) (d := .bl true) hv rfl (fun κ => by
    have := all_fit (h0 := h0) (hs := hs) (s1 := none) (s2 := none) (s3 := none) (s4 := none) (s5 := none) (s6 := none) (s7 := none) (κ := κ) hl ho
    rw [fit_all a] at this
    exact this) rfl
  have l2 := lend_LX (σ := [some v, none, none, none, none, none, none, none]) (j := 0) (f := eN (gCall 1 fn_check_sizes) (aCons (eV 0) aNil)) (c := "TooMany") (x := some ("many", .int 9)) hv rfl (fun κ => by
    have cs := check_sizes_ok (hs := h0 :: hs) (μ := κ) (fun h hh => (a.ok h hh).2.1)
    rw [if_pos h9] at cs
    show eN _ _ [some (.t (.lst (housesV (h0 :: hs)))), none, none, none, none, none, none, none] κ = _
    generalize housesV (h0 :: hs) = HV at *
    simp only [eN_eq, aCons_eq, aNil_eq, eV_eq, List.getElem?_cons_zero, bind_ok, gCall_1, cs]) rfl
  have bb : ∃ σ, b_product (startM 8 [v]) μ = .ex "TooMany" (some ("many", .int 9)) σ μ := by
    refine ⟨[some v, none, none, none, none, none, none, none], ?_⟩
    have e : b_product = sSeq (sIf (tNot' (tVal (eLend 0 (eN (pN allV) (aCons (eOfF (lcC (eV 0) (.nm 6) tYes' e1_product)) aNil))))) (sRaise0 "NoFit") sPass) (sSeq (sExp (eLend 0 (eN (gCall 1 fn_check_sizes) (aCons (eV 0) aNil)))) _) := rfl
    rw [e]
    simp only [startM, List.map_cons, List.map_nil, List.length_cons, List.length_nil, List.cons_append, List.nil_append, List.replicate, sSeq_eq, sIf_eq, tNot_eq, tVal_eq, l1, bind_ok, gBl_bl, Bool.not_true, st_ok, Bool.false_eq_true, if_false, sPass_eq, seq_nx, sExp_eq, l2]
    rfl
  obtain ⟨σ, bb⟩ := bb
  show endM μ.length (b_product (startM 8 [v]) μ) = _
  rw [bb]
  simp [endM]
theorem product_ok (a : AllF h0 (h0 :: hs)) (hl : (h0 :: hs).length ≤ 9) (hv : HouR μ v (housesV (h0 :: hs))) (h9 : pcL (sizesL (h0 :: hs)) ≤ 9) :
    fn_product [v] μ = .ok (.g .tup [.t (hV (pcL (sizesL (h0 :: hs))) (duesL h0 (h0 :: hs))), .c μ.length]) (μ ++ [some (.lst (waysL (h0 :: hs)))]) := by
  have ho : ∀ h ∈ h0 :: hs, h.2.length ≤ 6 := fun h hh => (a.ok h hh).2.2.len
  have h6 := ho h0 List.mem_cons_self
  have l1 := lend_L (σ := [some v, none, none, none, none, none, none, none]) (j := 0) (f := eN (pN allV) (aCons (eOfF (lcC (eV 0) (.nm 6) tYes' e1_product)) aNil)) (d := .bl true) hv rfl (fun κ => by
    have := all_fit (h0 := h0) (hs := hs) (s1 := none) (s2 := none) (s3 := none) (s4 := none) (s5 := none) (s6 := none) (s7 := none) (κ := κ) hl ho
    rw [fit_all a] at this
    exact this) rfl
  have l2 := lend_L (σ := [some v, none, none, none, none, none, none, none]) (j := 0) (f := eN (gCall 1 fn_check_sizes) (aCons (eV 0) aNil)) (d := .non) hv rfl (fun κ => by
    have cs := check_sizes_ok (hs := h0 :: hs) (μ := κ) (fun h hh => (a.ok h hh).2.1)
    rw [if_neg (show ¬ 9 < pcL (sizesL (h0 :: hs)) by omega)] at cs
    show eN _ _ [some (.t (.lst (housesV (h0 :: hs)))), none, none, none, none, none, none, none] κ = _
    generalize housesV (h0 :: hs) = HV at *
    simp only [eN_eq, aCons_eq, aNil_eq, eV_eq, List.getElem?_cons_zero, bind_ok, gCall_1, cs]) rfl
  have l3 := lent_ok (μ := μ) (v := v) (T := .nm 6) (elt := e2_product) (σ := [some v, none, none, none, none, none, none, none]) hv.lst (fun κ => things_lc rfl κ (h0 :: hs)) (by simp [natL, sizesL] at hl ⊢; omega)
  have sz : ∀ c ∈ sizesL (h0 :: hs), 1 ≤ c ∧ c ≤ 9 := fun c hc => by
    obtain ⟨h, hh, rfl⟩ := List.mem_map.mp hc
    exact ⟨(a.ok h hh).1, (a.ok h hh).2.1⟩
  have ch := choices_ok (μ := μ) sz (by simp [sizesL] at hl ⊢; omega) (show pcL (sizesL (h0 :: hs)) ≤ 1000 by omega)
  have rl : (rowsL (sizesL (h0 :: hs))).length = pcL (sizesL (h0 :: hs)) := rowsL_len
  have rw_ : ∀ r ∈ rowsL (sizesL (h0 :: hs)), r.length = (h0 :: hs).length := fun r hr => by
    rw [fitR_len (rowsL_mem.mp hr)]; simp [sizesL]
  have nl := names_len (κ := μ) (s1 := some (.t (.lst ((rowsL (sizesL (h0 :: hs))).map tupI)))) (s2 := none) (s3 := none) (s4 := none) (s5 := none) (s6 := none) (s7 := none) h6 hv.lst
  have dl := deeds_lc (σ := [some v, some (.t (.lst ((rowsL (sizesL (h0 :: hs))).map tupI))), none, none, none, none, none, none]) a hl (by omega) hv rfl rfl rfl rfl (List.range h0.2.length) (fun i hi => List.mem_range.mp hi)
  rw [← rgI_nat] at dl
  have wl := ways_lc (s0 := some v) (s2 := some (.t (.lst ((duesL h0 (h0 :: hs)).map dV)))) (s3 := none) (s4 := none) (s6 := none) (s7 := none) (κ := μ) (show (rowsL (sizesL (h0 :: hs))).length ≤ 1000 by omega) rw_ (List.range (h0 :: hs).length) (fun i hi => List.mem_range.mp hi)
  rw [← rgI_nat] at wl
  have zd := szF_ok (ds := (duesL h0 (h0 :: hs)).map dV) (μ := μ) (szL _ (by simp [duesL]; omega))
  have zw := szF_ok (ds := waysL (h0 :: hs)) (μ := μ) (szL _ (by simp [waysL] at hl ⊢; omega))
  have lnv : pN lenV [v] μ = .ok (.t (.int ((h0 :: hs).length : Int))) μ := by
    simp only [pN, views, hv.lst.view, lenV_lst, Option.map_some, orok_some]
    simp [housesV]
  have rk := range1_ok (n := (h0 :: hs).length) (μ := μ) (by omega)
  have mk := m_make (n := pcL (sizesL (h0 :: hs))) (ds := duesL h0 (h0 :: hs)) (μ := μ ++ [some (.lst (waysL (h0 :: hs)))]) (pc_pos fun c hc => (sz c hc).1) h9 (dues_ok a)
  have lr : lenV [.lst ((rowsL (sizesL (h0 :: hs))).map tupI)] = some (.int (pcL (sizesL (h0 :: hs)) : Int)) := by rw [lenV_lst, List.length_map, rl]
  have tg : ∀ (d : PV) (k : Nat) (ν : Store), gTupG [.t d, .c k] ν = .ok (.g .tup [.t d, .c k]) ν := fun d k ν => by
    unfold gTupG
    rw [if_pos (szL _ (by simp))]; rfl
  have fg := fin_g1 (n := μ.length) (k := μ.length) (d := hV (pcL (sizesL (h0 :: hs))) (duesL h0 (h0 :: hs))) (X := waysL (h0 :: hs)) (μ := μ ++ [some (.lst (waysL (h0 :: hs)))]) at_snoc (Nat.le_refl _)
  have tk : (μ ++ [some (Cell.lst (waysL (h0 :: hs)))]).take μ.length = μ := by simp
  rw [tk] at fg
  have ed : (List.range h0.2.length).map (fun i => dueD (h0 :: hs) (h0.2.getD i ([], 0, [])) i) = duesL h0 (h0 :: hs) := rfl
  have ew : (List.range (h0 :: hs).length).map (fun k => tupI ((rowsL (sizesL (h0 :: hs))).map (·.getD k 0))) = waysL (h0 :: hs) := rfl
  rw [ed] at dl
  rw [ew] at wl
  generalize hV (pcL (sizesL (h0 :: hs))) (duesL h0 (h0 :: hs)) = HP at *
  generalize (duesL h0 (h0 :: hs)).map dV = DL at *
  generalize waysL (h0 :: hs) = WL at *
  generalize (rowsL (sizesL (h0 :: hs))).map tupI = RT at *
  generalize natL (sizesL (h0 :: hs)) = NL at *
  generalize (pcL (sizesL (h0 :: hs)) : Int) = PC at *
  generalize rgI 0 h0.2.length = RG at *
  generalize hRG : rgI 0 (h0 :: hs).length = RG2 at *
  generalize ((h0 :: hs).length : Int) = LN at *
  have pl : (Val.t (PV.lst DL)).plain = true := rfl
  have bb : b_product (startM 8 [v]) μ = .rt (.g .tup [.t HP, .c μ.length]) (μ ++ [some (.lst WL)]) := by
    simp only [b_product, startM, List.map_cons, List.map_nil, List.length_cons, List.length_nil, List.cons_append, List.nil_append, List.replicate]
    simp only [sSeq_eq, sIf_eq, tNot_eq, tVal_eq, l1, bind_ok, gBl_bl, Bool.not_true, st_ok, Bool.false_eq_true, if_false, sPass_eq, seq_nx, sExp_eq, l2, sAsg_nm, eOfF_eq, eN_eq (fs := aCons (eOfF (lcC (eV 0) (.nm 6) tYes' e2_product)) aNil)]
    simp only [aCons_eq, eOfF_eq, lcC, eV_eq, List.getElem?_cons_succ, List.getElem?_cons_zero, bind_ok, l3, aNil_eq, gCall_1, ch, st_ok, List.set_cons_succ, List.set_cons_zero, seq_nx, sSeq_eq, sAsg_nm, lcF_eq, nl, sl_nm, wipeM, dl, zd]
    simp only [eCellF_eq, lcF_eq, eN_eq, aCons_eq, eV_eq, List.getElem?_cons_succ, List.getElem?_cons_zero, bind_ok, aNil_eq, lnv, rk, sl_nm, wipeM, List.set_cons_succ, List.set_cons_zero, wl, zw, st_ok, seq_nx, sSeq_eq, sRet_eq, eMake_eq, pN_1, lr, Option.map_some, orok_some, List.all_cons, List.all_nil, Val.plain, Bool.and_self, decide_true, if_true, List.length_cons, List.length_nil, mk, tg]
  show endM μ.length (b_product (startM 8 [v]) μ) = _
  rw [bb]
  exact fg
end
theorem cell_loop {n : Int} {s0 : Option Val} {μ : Store} (hn1 : 0 ≤ n) (hn : n ≤ 1000) : ∀ (r : List Int) (acc : Int) (x : Option Val), ∃ x', forL (.nm 3) f1__law_cell (r.map .int) [s0, some (.t (.int n)), some (.t (.int acc)), x] μ = .nx [s0, some (.t (.int n)), some (.t (.int (r.foldl (fun a x => a * n + x) acc))), x'] μ
  | [], acc, x => ⟨x, rfl⟩
  | y :: r, acc, x => by
    have hm : mulV (.int acc) (.int n) = some (.int (acc * n)) := mulV_ok (by omega) (by omega)
    obtain ⟨x', e⟩ := cell_loop (s0 := s0) (μ := μ) hn1 hn r (acc * n + y) (some (.t (.int y)))
    refine ⟨x', ?_⟩
    rw [List.map_cons, forL_nx (σ1 := [s0, some (.t (.int n)), some (.t (.int acc)), some (.t (.int y))]) (σ2 := [s0, some (.t (.int n)), some (.t (.int (acc * n + y))), some (.t (.int y))]) (μ2 := μ) (by simp) (by simp [f1__law_cell, hm]), e]
    rfl

/-! the law's own product -/
def deedsV (hs : Hs) : List PV := hs.map fun h => .lst (h.2.map dV)
theorem cell_okL {n : Int} {r : List Int} {μ : Store} (hn1 : 0 ≤ n) (hn : n ≤ 1000) : fn__law_cell [.t (lstI r), .t (.int n)] μ = .ok (.t (.int (spotI n r))) μ := by
  obtain ⟨x', e⟩ := cell_loop (s0 := some (.t (lstI r))) (μ := μ) hn1 hn r 0 none
  have g : gIt (.t (lstI r)) μ = .ok (r.map .int) μ := rfl
  simp [fn__law_cell, b__law_cell, fnOf, startM, g, e, spotI]
section
variable {μ : Store} {at_ p : Nat} {HS : Hs} {R : List (List Int)}
abbrev thN (R : List (List Int)) (nums : List Int) : List (List Int) := nums.map fun j => R.getD j.toNat []
theorem at_rowN {j : Int} (h0 : 0 ≤ j) (h1 : j < (R.length : Int)) : atV (.lst (R.map tupI)) (.int j) = some (tupI (R.getD j.toNat [])) := by
  obtain ⟨k, rfl⟩ : ∃ k : Nat, j = (k : Int) := ⟨j.toNat, by omega⟩
  have hk : k < R.length := by omega
  show atI (R.map tupI) (k : Int) = _
  rw [atI_nat' (by simpa using hk)]
  simp only [Int.toNat_natCast]
  rw [List.getD_eq_getElem?_getD, List.getElem?_eq_getElem hk]
  simp
theorem ld_one {k : Nat} {h : Nat × List Dd} {nums acc : List Int} {ν : Store} {s0 s3 s5 s6 : Option Val} (o : OkH at_ p h) (hk : HS[k]? = some h) (hp : nums.length = p) (hp3 : p ≤ 3) (hn : inR R.length nums) (hf : ∀ r ∈ thN R nums, k < r.length ∧ 0 ≤ r.getD k 0 ∧ r.getD k 0 < (h.1 : Int)) (hl : acc.length ≤ 100) :
    f1__law_due [s0, some (.t (.lst (deedsV HS))), some (.t (.lst (R.map tupI))), s3, some (.t (.int (at_ : Int))), s5, s6, some (.t (tupI nums)), some (.c ν.length), some (.t (.int (k : Int))), some (.t (.int (h.1 : Int))), none] (ν ++ [some (.lst (acc.map .int))]) =
      .nx [s0, some (.t (.lst (deedsV HS))), some (.t (.lst (R.map tupI))), s3, some (.t (.int (at_ : Int))), s5, s6, some (.t (tupI nums)), some (.c ν.length), some (.t (.int (k : Int))), some (.t (.int (h.1 : Int))), none] (ν ++ [some (.lst ((acc ++ [(h.2.getD at_ ([], 0, [])).2.2.getD (spotI h.1 ((thN R nums).map (·.getD k 0))).toNat 0]).map .int))]) := by
  have od := o.deed
  have hin : inR h.1 ((thN R nums).map (·.getD k 0)) := fun x hx => by
    obtain ⟨r, hr, rfl⟩ := List.mem_map.mp hx
    exact (hf r hr).2
  have lc : lcL (.nm 11) tYes' e1__law_due (nums.map .int) [s0, some (.t (.lst (deedsV HS))), some (.t (.lst (R.map tupI))), s3, some (.t (.int (at_ : Int))), s5, s6, some (.t (tupI nums)), some (.c ν.length), some (.t (.int (k : Int))), some (.t (.int (h.1 : Int))), none] (ν ++ [some (.lst (acc.map .int))]) = .ok (((thN R nums).map (·.getD k 0)).map .int) (ν ++ [some (.lst (acc.map .int))]) := by
    have key : ∀ l : List Int, inR R.length l → (∀ r ∈ thN R l, k < r.length) → lcL (.nm 11) tYes' e1__law_due (l.map .int) [s0, some (.t (.lst (deedsV HS))), some (.t (.lst (R.map tupI))), s3, some (.t (.int (at_ : Int))), s5, s6, some (.t (tupI nums)), some (.c ν.length), some (.t (.int (k : Int))), some (.t (.int (h.1 : Int))), none] (ν ++ [some (.lst (acc.map .int))]) = .ok (((thN R l).map (·.getD k 0)).map .int) (ν ++ [some (.lst (acc.map .int))]) := by
      intro l
      induction l with
      | nil => intro _ _; rfl
      | cons j l ih =>
        intro hi hl
        have hj := hi j List.mem_cons_self
        have a1 := at_rowN (R := R) hj.1 hj.2
        have ar : atV (tupI (R.getD j.toNat [])) (.int (k : Int)) = some (.int ((R.getD j.toNat []).getD k 0)) := at_int (hl _ (List.mem_cons_self))
        refine lcL_cons (σ1 := [s0, some (.t (.lst (deedsV HS))), some (.t (.lst (R.map tupI))), s3, some (.t (.int (at_ : Int))), s5, s6, some (.t (tupI nums)), some (.c ν.length), some (.t (.int (k : Int))), some (.t (.int (h.1 : Int))), some (.t (.int j))]) (μ2 := ν ++ [some (.lst (acc.map .int))]) rfl rfl ?_ (ih (fun x hx => hi x (List.mem_cons_of_mem _ hx)) fun x hx => hl x (List.mem_cons_of_mem _ hx))
        show e1__law_due _ _ = .ok (.t (.int ((R.getD j.toNat []).getD k 0))) _
        generalize (R.getD j.toNat []).getD k 0 = y at *
        generalize tupI (R.getD j.toNat []) = TR at *
        generalize R.map tupI = RT at *
        simp only [e1__law_due, e2_eq, eV_eq, List.getElem?_cons_succ, List.getElem?_cons_zero, bind_ok, p2_t, a1, Option.map_some, orok_some, ar]
    exact key nums hn fun r hr => (hf r hr).1
  have z := szF_ok (ds := ((thN R nums).map (·.getD k 0)).map PV.int) (μ := ν ++ [some (.lst (acc.map .int))]) (szL _ (by simp; omega))
  have sp := cell_okL (n := (h.1 : Int)) (r := (thN R nums).map (·.getD k 0)) (μ := ν ++ [some (.lst (acc.map .int))]) (by omega) (by have := o.n9; omega)
  have ta := tab_at od (r := (thN R nums).map (·.getD k 0)) (by rw [List.length_map, List.length_map, hp, o.pl]) hin
  have ah : atV (.lst (deedsV HS)) (.int (k : Int)) = some (.lst (h.2.map dV)) := by
    have hk' := (List.getElem?_eq_some_iff.mp hk).1
    show atI (deedsV HS) (k : Int) = _
    rw [atI_nat' (by simpa [deedsV] using hk')]
    have := (List.getElem?_eq_some_iff.mp hk).2
    simp [deedsV, this]
  have a0 := at_deeds o.lt
  have a2' : atV (dV (h.2.getD at_ ([], 0, []))) (.int 2) = some (tupI (h.2.getD at_ ([], 0, [])).2.2) := rfl
  have g : ∀ κ, gIt (.t (tupI nums)) κ = .ok (nums.map .int) κ := fun κ => rfl
  have la : lstAt (ν ++ [some (.lst (acc.map .int))]) (.c ν.length) = some (ν.length, acc.map .int) := lstAt_cell (by simp)
  have el : (.lst (((thN R nums).map (·.getD k 0)).map PV.int) : PV) = lstI ((thN R nums).map (·.getD k 0)) := rfl
  generalize (h.2.getD at_ ([], 0, [])).2.2.getD (spotI h.1 ((thN R nums).map (·.getD k 0))).toNat 0 = y at *
  have ap : gMut mAppend (.c ν.length) [.t (.int y)] (ν ++ [some (.lst (acc.map .int))]) = .ok (.t .non) (ν ++ [some (.lst ((acc ++ [y]).map .int))]) := by
    rw [app_cell at_snoc (by rw [List.length_map]; omega), set_snoc, List.map_append]
    rfl
  generalize ν ++ [some (Cell.lst ((acc ++ [y]).map .int))] = S2 at *
  generalize ν ++ [some (Cell.lst (acc.map .int))] = S1 at *
  generalize ((thN R nums).map (·.getD k 0)).map PV.int = TI at *
  generalize lstI ((thN R nums).map (·.getD k 0)) = TL at *
  generalize spotI h.1 ((thN R nums).map (·.getD k 0)) = SP at *
  generalize tupI (h.2.getD at_ ([], 0, [])).2.2 = TB at *
  generalize dV (h.2.getD at_ ([], 0, [])) = DV at *
  generalize tupI nums = TN at *
  generalize nums.map PV.int = NM at *
  generalize R.map tupI = RT at *
  generalize deedsV HS = DH at *
  generalize h.2.map dV = DD at *
  simp only [f1__law_due, sExp_eq, eMutG, eV_eq, List.getElem?_cons_succ, List.getElem?_cons_zero, bind_ok, la, aCons_eq, aNil_eq, e2_eq, eC_eq, p2_t, ah, Option.map_some, orok_some, a0, a2', eN_eq, eOfF_eq, lcF_eq, e1_eq, g, sl_nm, wipeM, List.set_cons_succ, List.set_cons_zero, lc, z, el, gCall_2, sp, ta, ap, st_ok]
theorem ld_loop {nums : List Int} {ν : Store} {s0 s3 s5 s6 : Option Val} (hp : nums.length = p) (hp3 : p ≤ 3) (hn : inR R.length nums) : ∀ (hs : Hs) (k : Nat) (acc : List Int) (x y : Option Val), HS.drop k = hs → (∀ h ∈ hs, OkH at_ p h) → (∀ r ∈ thN R nums, fitR (sizesL hs) (r.drop k)) → acc.length + hs.length ≤ 50 →
    ∃ x' y', forL (.tp [.nm 9, .nm 10]) f1__law_due (enumF k (natL (sizesL hs))) [s0, some (.t (.lst (deedsV HS))), some (.t (.lst (R.map tupI))), s3, some (.t (.int (at_ : Int))), s5, s6, some (.t (tupI nums)), some (.c ν.length), x, y, none] (ν ++ [some (.lst (acc.map .int))]) =
      .nx [s0, some (.t (.lst (deedsV HS))), some (.t (.lst (R.map tupI))), s3, some (.t (.int (at_ : Int))), s5, s6, some (.t (tupI nums)), some (.c ν.length), x', y', none] (ν ++ [some (.lst ((acc ++ prodR at_ (thN R nums) k hs).map .int))])
  | [], k, acc, x, y, _, _, _, _ => ⟨x, y, by rw [show prodR at_ (thN R nums) k [] = [] from rfl, List.append_nil]; rfl⟩
  | h :: hs, k, acc, x, y, hd, ho, hf, hl => by
    have hl' : acc.length + (hs.length + 1) ≤ 50 := hl
    have hk : HS[k]? = some h := by
      have := congrArg (fun l : Hs => l[0]?) hd
      simpa using this
    have hd2 : HS.drop (k + 1) = hs := by
      have := congrArg List.tail hd
      simpa using this
    have hb := ld_one (HS := HS) (R := R) (k := k) (ν := ν) (s0 := s0) (s3 := s3) (s5 := s5) (s6 := s6) (acc := acc) (ho h List.mem_cons_self) hk hp hp3 hn (fun r hr => ⟨(drop_cons (hf r hr)).1, (drop_cons (hf r hr)).2.1⟩) (by omega)
    obtain ⟨x', y', e⟩ := ld_loop (ν := ν) (s0 := s0) (s3 := s3) (s5 := s5) (s6 := s6) hp hp3 hn hs (k + 1) (acc ++ [(h.2.getD at_ ([], 0, [])).2.2.getD (spotI h.1 ((thN R nums).map (·.getD k 0))).toNat 0]) (some (.t (.int (k : Int)))) (some (.t (.int (h.1 : Int)))) hd2 (fun x hx => ho x (List.mem_cons_of_mem _ hx)) (fun r hr => (drop_cons (hf r hr)).2.2) (by simp; omega)
    refine ⟨x', y', ?_⟩
    show forL (.tp [.nm 9, .nm 10]) f1__law_due (.tup [.int (k : Int), .int (h.1 : Int)] :: enumF (k + 1) (natL (sizesL hs))) _ _ = _
    rw [forL_nx (by simp) hb, e, List.append_assoc]
    rfl
end
theorem SD_rowsL {w : Nat} {R : List (List Int)} (hw : w ≤ 1000) (h : ∀ r ∈ R, r.length = w) (hl : R.length ≤ 100000) : SD 2 (.lst (R.map tupI)) := SD_lst.mpr ⟨by rw [List.length_map]; omega, fun x hx => by
  obtain ⟨r, hr, rfl⟩ := List.mem_map.mp hx
  exact PM.SD_tupI (k := 0) (by rw [h r hr]; omega)⟩

theorem idxB_rows {r : List Int} : ∀ {P : List (List Int)}, r ∈ P → idxB (P.map tupI) (tupI r) = some (P.idxOf r)
  | [], h => nomatch h
  | x :: P, h => by
    show (tupI x :: P.map tupI).findIdx? (fun z => eqB z (tupI r)) = _
    rw [List.findIdx?_cons, eqB_row, List.idxOf_cons]
    by_cases q : x = r
    · subst q; simp
    · have h' : r ∈ P := by
        rcases List.mem_cons.mp h with h | h
        · exact absurd h.symm q
        · exact h
      have ih := idxB_rows h'
      have q' : (x == r) = false := by simpa using q
      rw [decide_eq_false q, q']
      show (List.findIdx? (fun z => eqB z (tupI r)) (P.map tupI)).map (· + 1) = some (P.idxOf r + 1)
      have ih' : List.findIdx? (fun z => eqB z (tupI r)) (P.map tupI) = some (P.idxOf r) := ih
      rw [ih']; rfl

section
variable {μ : Store} {at_ p : Nat} {hs : Hs} {h0 : Nat × List Dd}
theorem ld_turn {nums acc : List Int} {ν j : Store} {s3 s5 s8 x y : Option Val} (h9 : (rowsL (sizesL hs)).length ≤ 9) (hp : nums.length = p) (hp3 : p ≤ 3) (hn : inR (rowsL (sizesL hs)).length nums) (ho : ∀ h ∈ hs, OkH at_ p h) (hl : hs.length ≤ 9) (ha : acc.length ≤ 10000) :
    ∃ x' y' c, f2__law_due [some (.t (.lst (natL (sizesL hs)))), some (.t (.lst (deedsV hs))), some (.t (.lst ((rowsL (sizesL hs)).map tupI))), s3, some (.t (.int (at_ : Int))), s5, some (.c ν.length), some (.t (tupI nums)), s8, x, y, none] (ν ++ some (.lst (acc.map .int)) :: j) =
      .nx [some (.t (.lst (natL (sizesL hs)))), some (.t (.lst (deedsV hs))), some (.t (.lst ((rowsL (sizesL hs)).map tupI))), s3, some (.t (.int (at_ : Int))), s5, some (.c ν.length), some (.t (tupI nums)), c, x', y', none] (ν ++ some (.lst ((acc ++ [(((rowsL (sizesL hs)).idxOf (prodR at_ (thN (rowsL (sizesL hs)) nums) 0 hs) : Nat) : Int)]).map .int)) :: (j ++ [some (.lst ((prodR at_ (thN (rowsL (sizesL hs)) nums) 0 hs).map .int))])) := by
  generalize hR : rowsL (sizesL hs) = R at *
  have tm : ∀ r ∈ thN R nums, r ∈ R := fun r hr => by
    obtain ⟨q, hq, rfl⟩ := List.mem_map.mp hr
    have hq2 := hn q hq
    have : q.toNat < R.length := by omega
    rw [List.getD_eq_getElem?_getD, List.getElem?_eq_getElem this]
    exact List.getElem_mem this
  have hff : ∀ r ∈ thN R nums, fitR (sizesL hs) (r.drop 0) := fun r hr => by rw [List.drop_zero]; exact rowsL_mem.mp (by rw [hR]; exact tm r hr)
  obtain ⟨x', y', e⟩ := ld_loop (HS := hs) (R := R) (at_ := at_) (nums := nums) (ν := ν ++ some (.lst (acc.map .int)) :: j) (s0 := some (.t (.lst (natL (sizesL hs))))) (s3 := s3) (s5 := s5) (s6 := some (.c ν.length)) hp hp3 hn hs 0 [] x y (List.drop_zero) ho hff (by simp; omega)
  have pm : prodR at_ (thN R nums) 0 hs ∈ R := by rw [← hR]; exact rowsL_mem.mpr (prod_fit (by rw [List.length_map]; exact hp) ho (by rw [hR]; exact hff))
  have pl : (prodR at_ (thN R nums) 0 hs).length ≤ 9 := by
    rw [← hR] at pm
    rw [hR] at pm
    have := fitR_len (rowsL_mem.mp (by rw [hR]; exact pm) : fitR (sizesL hs) (prodR at_ (thN R nums) 0 hs))
    rw [this]; simp [sizesL]; exact hl
  have ix := idxB_rows pm
  have rl : ∀ r ∈ R, r.length = hs.length := fun r hr => by
    rw [fitR_len (rowsL_mem.mp (by rw [hR]; exact hr) : fitR (sizesL hs) r)]; simp [sizesL]
  have ok1 : PM.okD (.lst (R.map tupI)) = true := (SD_rowsL (w := hs.length) (by omega) rl (by omega)).ok
  rw [List.nil_append] at e
  generalize prodR at_ (thN R nums) 0 hs = PR at *
  have ok2 : PM.okD (tupI PR) = true := (PM.SD_tupI (l := PR) (k := 0) (by omega)).ok
  have gi : ∀ κ, gIndex (.t (.lst (R.map tupI))) [.t (tupI PR)] κ = .ok (.t (.int ((R.idxOf PR : Nat) : Int))) κ := fun κ => by
    simp only [gIndex, view, views, ok1, ok2, ix]
    rfl
  have il : ∀ κ, isLst κ (.t (.lst (R.map tupI))) = true := fun κ => rfl
  refine ⟨x', y', some (.c (ν ++ some (Cell.lst (acc.map .int)) :: j).length), ?_⟩
  have ge : gEnum [.t (.lst (natL (sizesL hs)))] (ν ++ some (.lst (acc.map .int)) :: j ++ [some (.lst [])]) = .ok (enumF 0 (natL (sizesL hs))) (ν ++ some (.lst (acc.map .int)) :: j ++ [some (.lst [])]) := by simp [enumP_F]
  have tv : pN tupleV [.c (ν ++ some (Cell.lst (acc.map .int)) :: j).length] (ν ++ some (.lst (acc.map .int)) :: j ++ [some (.lst (PR.map .int))]) = .ok (.t (tupI PR)) (ν ++ some (.lst (acc.map .int)) :: j ++ [some (.lst (PR.map .int))]) := by
    rw [pN_cell at_snoc]; rfl
  have hst : ν ++ some (Cell.lst (acc.map .int)) :: j ++ [some (.lst (PR.map .int))] = ν ++ some (.lst (acc.map .int)) :: (j ++ [some (.lst (PR.map .int))]) := by simp
  have la : lstAt (ν ++ some (Cell.lst (acc.map .int)) :: j ++ [some (.lst (PR.map .int))]) (.c ν.length) = some (ν.length, acc.map .int) := by
    rw [hst]; exact lstAt_cell at_mid
  have ap : gMut mAppend (.c ν.length) [.t (.int ((R.idxOf PR : Nat) : Int))] (ν ++ some (Cell.lst (acc.map .int)) :: j ++ [some (.lst (PR.map .int))]) = .ok (.t .non) (ν ++ some (.lst ((acc ++ [((R.idxOf PR : Nat) : Int)]).map .int)) :: (j ++ [some (.lst (PR.map .int))])) := by
    rw [hst, app_cell at_mid (by rw [List.length_map]; omega), set_mid, List.map_append]
    rfl
  have e0 : forL (.tp [.nm 9, .nm 10]) f1__law_due (enumF 0 (natL (sizesL hs))) [some (.t (.lst (natL (sizesL hs)))), some (.t (.lst (deedsV hs))), some (.t (.lst (R.map tupI))), s3, some (.t (.int (at_ : Int))), s5, some (.c ν.length), some (.t (tupI nums)), some (.c (ν ++ some (.lst (acc.map .int)) :: j).length), x, y, none] (ν ++ some (.lst (acc.map .int)) :: j ++ [some (.lst [])]) = _ := e
  generalize ((R.idxOf PR : Nat) : Int) = IX at *
  generalize ν ++ some (Cell.lst ((acc ++ [IX]).map .int)) :: (j ++ [some (.lst (PR.map .int))]) = S3 at *
  generalize ν ++ some (Cell.lst (acc.map .int)) :: j ++ [some (.lst (PR.map .int))] = S2 at *
  obtain ⟨len, hlen⟩ : ∃ len, (ν ++ some (Cell.lst (acc.map .int)) :: j).length = len := ⟨_, rfl⟩
  rw [hlen] at e0 tv ⊢
  generalize enumF 0 (natL (sizesL hs)) = EH at *
  generalize natL (sizesL hs) = NL at *
  generalize deedsV hs = DH at *
  generalize R.map tupI = RT at *
  generalize tupI nums = TN at *
  generalize tupI PR = TP at *
  simp only [f2__law_due, sSeq_eq, sAsg_nm, eCellF_eq, eN_eq, aNil_eq, bind_ok, gLst_0, st_ok, List.set_cons_succ, List.set_cons_zero, seq_nx, sFor_eq, aCons_eq, eV_eq, List.getElem?_cons_succ, List.getElem?_cons_zero, hlen, ge, e0, sExp_eq, eMutG, la, eIndex, il, if_true, tv, gi, ap]
theorem ld_nums {ν : Store} {s3 s5 : Option Val} (h9 : (rowsL (sizesL hs)).length ≤ 9) (hp3 : p ≤ 3) (ho : ∀ h ∈ hs, OkH at_ p h) (hl : hs.length ≤ 9) : ∀ (N : List (List Int)) (acc : List Int) (j : Store) (s7 s8 x y : Option Val), (∀ nums ∈ N, nums.length = p ∧ inR (rowsL (sizesL hs)).length nums) → acc.length + N.length ≤ 10000 →
    ∃ x7 x8 x' y' j', forL (.nm 7) f2__law_due (N.map tupI) [some (.t (.lst (natL (sizesL hs)))), some (.t (.lst (deedsV hs))), some (.t (.lst ((rowsL (sizesL hs)).map tupI))), s3, some (.t (.int (at_ : Int))), s5, some (.c ν.length), s7, s8, x, y, none] (ν ++ some (.lst (acc.map .int)) :: j) =
      .nx [some (.t (.lst (natL (sizesL hs)))), some (.t (.lst (deedsV hs))), some (.t (.lst ((rowsL (sizesL hs)).map tupI))), s3, some (.t (.int (at_ : Int))), s5, some (.c ν.length), x7, x8, x', y', none] (ν ++ some (.lst ((acc ++ N.map fun nums => (((rowsL (sizesL hs)).idxOf (prodR at_ (thN (rowsL (sizesL hs)) nums) 0 hs) : Nat) : Int)).map .int)) :: j')
  | [], acc, j, s7, s8, x, y, _, _ => ⟨s7, s8, x, y, j, by simp [forL]⟩
  | nums :: N, acc, j, s7, s8, x, y, hN, hl2 => by
    have hl3 : acc.length + (N.length + 1) ≤ 10000 := hl2
    obtain ⟨h1, h2⟩ := hN nums List.mem_cons_self
    obtain ⟨x', y', c, e⟩ := ld_turn (ν := ν) (j := j) (s3 := s3) (s5 := s5) (s8 := s8) (x := x) (y := y) (acc := acc) h9 h1 hp3 h2 ho hl (by omega)
    obtain ⟨a7, a8, a1, a2, j', e2⟩ := ld_nums (ν := ν) (s3 := s3) (s5 := s5) h9 hp3 ho hl N (acc ++ [(((rowsL (sizesL hs)).idxOf (prodR at_ (thN (rowsL (sizesL hs)) nums) 0 hs) : Nat) : Int)]) (j ++ [some (.lst ((prodR at_ (thN (rowsL (sizesL hs)) nums) 0 hs).map .int))]) (some (.t (tupI nums))) c x' y' (fun t h => hN t (List.mem_cons_of_mem _ h)) (by simp; omega)
    refine ⟨a7, a8, a1, a2, j', ?_⟩
    rw [List.map_cons, forL_nx (by simp) e, e2, List.append_assoc]
    rfl
theorem ld_deed {acc : List Dd} {ν j : Store} {s6 s7 s8 x y : Option Val} (a : AllF h0 hs) (h9 : (rowsL (sizesL hs)).length ≤ 9) (hl : hs.length ≤ 9) (hi : at_ < h0.2.length) (hm : h0 ∈ hs) (ha : acc.length ≤ 100) :
    ∃ x6 x7 x8 x' y' j', f3__law_due [some (.t (.lst (natL (sizesL hs)))), some (.t (.lst (deedsV hs))), some (.t (.lst ((rowsL (sizesL hs)).map tupI))), some (.c ν.length), some (.t (.int (at_ : Int))), some (.t (dV (h0.2.getD at_ ([], 0, [])))), s6, s7, s8, x, y, none] (ν ++ some (.lst (acc.map dV)) :: j) =
      .nx [some (.t (.lst (natL (sizesL hs)))), some (.t (.lst (deedsV hs))), some (.t (.lst ((rowsL (sizesL hs)).map tupI))), some (.c ν.length), some (.t (.int (at_ : Int))), some (.t (dV (h0.2.getD at_ ([], 0, [])))), x6, x7, x8, x', y', none] (ν ++ some (.lst ((acc ++ [dueD hs (h0.2.getD at_ ([], 0, [])) at_]).map dV)) :: j') := by
  have oh := a.okH hi
  have od := (oh h0 hm).deed
  have p3 := od.2.1
  generalize hd : h0.2.getD at_ ([], 0, []) = d at *
  have ov := over_ok (xs := rgL (rowsL (sizesL hs)).length) (p := d.2.1) (μ := (ν ++ some (.lst (acc.map dV)) :: j) ++ [some (.lst [])]) (by simpa using h9) p3
  have lr := gLR1_rg (n := (rowsL (sizesL hs)).length) (μ := (ν ++ some (.lst (acc.map dV)) :: j) ++ [some (.lst [])]) (by omega)
  obtain ⟨a7, a8, a1, a2, j', e⟩ := ld_nums (hs := hs) (at_ := at_) (p := d.2.1) (ν := ν ++ some (.lst (acc.map dV)) :: j) (s3 := some (.c ν.length)) (s5 := some (.t (dV d))) h9 p3 oh hl (overL (rgL (rowsL (sizesL hs)).length) d.2.1) [] [] s7 s8 x y (fun nums hn => by
    obtain ⟨h1, h2⟩ := over_mem hn
    refine ⟨h1, fun z hz => ?_⟩
    obtain ⟨k, hk, rfl⟩ := List.mem_map.mp (h2 z hz)
    have := List.mem_range.mp hk
    omega) (by
    have := pow_le_729 (n := (rowsL (sizesL hs)).length) (p := d.2.1) h9 p3
    rw [over_len]; simp; omega)
  refine ⟨some (.c (ν ++ some (Cell.lst (acc.map dV)) :: j).length), a7, a8, a1, a2, j ++ some (.lst (((dueD hs d at_).2.2).map .int)) :: j', ?_⟩
  have hdue : (overL (rgL (rowsL (sizesL hs)).length) d.2.1).map (fun nums => (((rowsL (sizesL hs)).idxOf (prodR at_ (thN (rowsL (sizesL hs)) nums) 0 hs) : Nat) : Int)) = (dueD hs d at_).2.2 := by
    unfold dueD thsL
    rw [List.map_map]
    rfl
  rw [List.nil_append, hdue] at e
  have dv : dueD hs d at_ = (d.1, d.2.1, (dueD hs d at_).2.2) := rfl
  rw [dv]
  generalize (dueD hs d at_).2.2 = CM at *
  have tv : pN tupleV [.c (ν ++ some (Cell.lst (acc.map dV)) :: j).length] ((ν ++ some (.lst (acc.map dV)) :: j) ++ some (.lst (CM.map .int)) :: j') = .ok (.t (tupI CM)) ((ν ++ some (.lst (acc.map dV)) :: j) ++ some (.lst (CM.map .int)) :: j') := by
    rw [pN_cell at_mid]; rfl
  have tp : ∀ κ, PM.gTup [.t (.str (sg d.1)), .t (.int (d.2.1 : Int)), .t (tupI CM)] κ = .ok (.t (dV (d.1, d.2.1, CM))) κ := fun κ => gTup_ok rfl (szL _ (by simp))
  have hst : (ν ++ some (Cell.lst (acc.map dV)) :: j) ++ some (.lst (CM.map .int)) :: j' = ν ++ some (.lst (acc.map dV)) :: (j ++ some (.lst (CM.map .int)) :: j') := by simp
  have la : lstAt ((ν ++ some (Cell.lst (acc.map dV)) :: j) ++ some (.lst (CM.map .int)) :: j') (.c ν.length) = some (ν.length, acc.map dV) := by
    rw [hst]; exact lstAt_cell at_mid
  have ap : gMut mAppend (.c ν.length) [.t (dV (d.1, d.2.1, CM))] ((ν ++ some (Cell.lst (acc.map dV)) :: j) ++ some (.lst (CM.map .int)) :: j') = .ok (.t .non) (ν ++ some (.lst ((acc ++ [(d.1, d.2.1, CM)]).map dV)) :: (j ++ some (.lst (CM.map .int)) :: j')) := by
    rw [hst, app_cell at_mid (by rw [List.length_map]; omega), set_mid, List.map_append]
    rfl
  have a0 : atV (dV d) (.int 0) = some (.str (sg d.1)) := rfl
  have a1' : atV (dV d) (.int 1) = some (.int (d.2.1 : Int)) := rfl
  have ln : lenV [.lst ((rowsL (sizesL hs)).map tupI)] = some (.int ((rowsL (sizesL hs)).length : Int)) := by simp
  have el : (.lst ((rgL (rowsL (sizesL hs)).length).map PV.int) : PV) = lstI (rgL (rowsL (sizesL hs)).length) := rfl
  have gt : ∀ κ, gIt (.t (.lst ((overL (rgL (rowsL (sizesL hs)).length) d.2.1).map tupI))) κ = .ok ((overL (rgL (rowsL (sizesL hs)).length) d.2.1).map tupI) κ := fun κ => rfl
  obtain ⟨len, hlen⟩ : ∃ len, (ν ++ some (Cell.lst (acc.map dV)) :: j).length = len := ⟨_, rfl⟩
  rw [hlen] at e tv ⊢
  rw [List.map_nil] at e
  have hc0 : ν ++ some (Cell.lst (acc.map dV)) :: j ++ [some (Cell.lst [])] = (ν ++ some (Cell.lst (acc.map dV)) :: j) ++ some (Cell.lst ([] : List PV)) :: [] := rfl
  generalize (ν ++ some (Cell.lst ((acc ++ [(d.1, d.2.1, CM)]).map dV)) :: (j ++ some (.lst (CM.map .int)) :: j')) = S3 at *
  generalize (ν ++ some (Cell.lst (acc.map dV)) :: j) ++ some (Cell.lst (CM.map .int)) :: j' = S2 at *
  rw [hc0] at ov lr
  generalize dV (d.1, d.2.1, CM) = RES at *
  generalize dV d = DV at *
  generalize tupI CM = TC at *
  generalize (overL (rgL (rowsL (sizesL hs)).length) d.2.1).map tupI = OV at *
  generalize lstI (rgL (rowsL (sizesL hs)).length) = LR at *
  generalize (rgL (rowsL (sizesL hs)).length).map PV.int = LRM at *
  generalize ((rowsL (sizesL hs)).length : Int) = RLN at *
  generalize (rowsL (sizesL hs)).map tupI = RT at *
  generalize natL (sizesL hs) = NL at *
  generalize deedsV hs = DH at *
  simp only [f3__law_due, sSeq_eq, sAsg_nm, eCellF_eq, eN_eq, aNil_eq, bind_ok, gLst_0, st_ok, List.set_cons_succ, List.set_cons_zero, seq_nx, hlen, hc0, sFor_eq, e1_eq, aCons_eq, eOfF_eq, eV_eq, List.getElem?_cons_succ, List.getElem?_cons_zero, pN_1, ln, Option.map_some, orok_some, lr, el, e2_eq, eC_eq, p2_t, a1', gCall_2, ov, gt, e, sExp_eq, eMutG, la, a0, tv, tp, ap]
theorem ld_deeds {ν : Store} (a : AllF h0 hs) (h9 : (rowsL (sizesL hs)).length ≤ 9) (hl : hs.length ≤ 9) (hm : h0 ∈ hs) : ∀ (es : List Dd) (k : Nat) (acc : List Dd) (j : Store) (s4 s5 s6 s7 s8 x y : Option Val), h0.2.drop k = es → acc.length + es.length ≤ 100 →
    ∃ x4 x5 x6 x7 x8 x' y' j', forL (.tp [.nm 4, .nm 5]) f3__law_due (enumF k (es.map dV)) [some (.t (.lst (natL (sizesL hs)))), some (.t (.lst (deedsV hs))), some (.t (.lst ((rowsL (sizesL hs)).map tupI))), some (.c ν.length), s4, s5, s6, s7, s8, x, y, none] (ν ++ some (.lst (acc.map dV)) :: j) =
      .nx [some (.t (.lst (natL (sizesL hs)))), some (.t (.lst (deedsV hs))), some (.t (.lst ((rowsL (sizesL hs)).map tupI))), some (.c ν.length), x4, x5, x6, x7, x8, x', y', none] (ν ++ some (.lst ((acc ++ ((List.range' k es.length).map fun i => dueD hs (h0.2.getD i ([], 0, [])) i)).map dV)) :: j')
  | [], k, acc, j, s4, s5, s6, s7, s8, x, y, _, _ => ⟨s4, s5, s6, s7, s8, x, y, j, by simp [forL, enumF]⟩
  | d :: es, k, acc, j, s4, s5, s6, s7, s8, x, y, hd, hla => by
    have hla' : acc.length + (es.length + 1) ≤ 100 := hla
    have hk : k < h0.2.length := by
      refine Classical.byContradiction fun hn => ?_
      rw [List.drop_of_length_le (by omega)] at hd
      cases hd
    have hkd : h0.2.getD k ([], 0, []) = d := by
      rw [List.drop_eq_getElem_cons hk] at hd
      rw [List.getD_eq_getElem?_getD, List.getElem?_eq_getElem hk]
      exact (List.cons.inj hd).1
    have hd2 : h0.2.drop (k + 1) = es := by
      rw [List.drop_eq_getElem_cons hk] at hd
      exact (List.cons.inj hd).2
    obtain ⟨x6, x7, x8, x', y', j', e⟩ := ld_deed (ν := ν) (j := j) (s6 := s6) (s7 := s7) (s8 := s8) (x := x) (y := y) (acc := acc) a h9 hl hk hm (by omega)
    obtain ⟨b4, b5, b6, b7, b8, bx, bY, bj, e2⟩ := ld_deeds (ν := ν) a h9 hl hm es (k + 1) (acc ++ [dueD hs (h0.2.getD k ([], 0, [])) k]) j' (some (.t (.int (k : Int)))) (some (.t (dV d))) x6 x7 x8 x' y' hd2 (by simp; omega)
    refine ⟨b4, b5, b6, b7, b8, bx, bY, bj, ?_⟩
    rw [hkd] at e
    show forL (.tp [.nm 4, .nm 5]) f3__law_due (.tup [.int (k : Int), dV d] :: enumF (k + 1) (es.map dV)) _ _ = _
    rw [hkd] at e2
    rw [forL_nx (by simp) e, e2, List.append_assoc]
    have : List.range' k (d :: es).length = k :: List.range' (k + 1) es.length := rfl
    rw [this, List.map_cons, hkd]
    rfl
theorem lways_in {κ : Store} {m k : Nat} (hk : k < m) {τ : Sl} (ht : τ.length = 12) (h9 : τ[9]? = some (some (.t (.int (k : Int))))) : ∀ L : List (List Int), (∀ r ∈ L, r.length = m) → lcL (.nm 8) tYes' e2__law_due (L.map tupI) τ κ = .ok ((L.map (·.getD k 0)).map .int) κ
  | [], _ => rfl
  | r :: L, hL => by
    have ar : atV (tupI r) (.int (k : Int)) = some (.int (r.getD k 0)) := at_int (by have := hL r List.mem_cons_self; omega)
    have g8 : (τ.set 8 (some (.t (tupI r))))[8]? = some (some (.t (tupI r))) := List.getElem?_set_self (by omega)
    have g9 : (τ.set 8 (some (.t (tupI r))))[9]? = some (some (.t (.int (k : Int)))) := by rw [List.getElem?_set_ne (by decide)]; exact h9
    refine lcL_cons (σ1 := τ.set 8 (some (.t (tupI r)))) (μ2 := κ) asg_nm rfl ?_ (lways_in hk ht h9 L fun x hx => hL x (List.mem_cons_of_mem _ hx))
    generalize τ.set 8 (some (.t (tupI r))) = υ at *
    generalize tupI r = TR at *
    simp only [e2__law_due, e2_eq, eV_eq, g8, g9, bind_ok, p2_t, ar, Option.map_some, orok_some]
theorem lways_lc {κ : Store} {m : Nat} {R : List (List Int)} {σ : Sl} (hR : R.length ≤ 1000) (hw : ∀ r ∈ R, r.length = m) (hσ : σ.length = 12) (h2 : σ[2]? = some (some (.t (.lst (R.map tupI))))) : ∀ l : List Nat, (∀ k ∈ l, k < m) → lcL (.nm 9) tYes' e3__law_due (l.map fun (k : Nat) => .int (k : Int)) σ κ = .ok (l.map fun k => tupI (R.map (·.getD k 0))) κ := by
  intro l
  induction l with
  | nil => intro _; rfl
  | cons k l ih =>
    intro hl
    refine lcL_cons (σ1 := σ.set 9 (some (.t (.int (k : Int))))) (μ2 := κ) asg_nm rfl ?_ (ih fun x hx => hl x (List.mem_cons_of_mem _ hx))
    show e3__law_due (σ.set 9 (some (.t (.int (k : Int))))) κ = .ok (.t (tupI (R.map (·.getD k 0)))) κ
    have w9 : (wipeM (σ.set 9 (some (.t (.int (k : Int))))) (Tgt.nm 8).sl)[9]? = some (some (.t (.int (k : Int)))) := by
      simp only [sl_nm, wipeM]
      rw [List.getElem?_set_ne (by decide)]
      exact List.getElem?_set_self (by omega)
    have wl : (wipeM (σ.set 9 (some (.t (.int (k : Int))))) (Tgt.nm 8).sl).length = 12 := by
      simp only [sl_nm, wipeM, List.length_set]; exact hσ
    have lc := lways_in (κ := κ) (hl k List.mem_cons_self) wl w9 R hw
    have z := szF_ok (ds := (R.map (·.getD k 0)).map PV.int) (μ := κ) (szL _ (by simp; omega))
    have g : gIt (.t (.lst (R.map tupI))) κ = .ok (R.map tupI) κ := rfl
    have tv : tupleV [.lst ((R.map (·.getD k 0)).map PV.int)] = some (tupI (R.map (·.getD k 0))) := rfl
    have g2 : (σ.set 9 (some (.t (.int (k : Int)))))[2]? = some (some (.t (.lst (R.map tupI)))) := by rw [List.getElem?_set_ne (by decide)]; exact h2
    generalize tupI (R.map (·.getD k 0)) = TK at *
    generalize (R.map (·.getD k 0)).map PV.int = TI at *
    generalize R.map tupI = RT at *
    simp only [e3__law_due, eN_eq, aCons_eq, aNil_eq, eOfF_eq, lcF_eq, e1_eq, eV_eq, g2, bind_ok, g, lc, z, pN_1, tv, Option.map_some, orok_some]
theorem law_due_ok (a : AllF h0 (h0 :: hs)) (hl : (h0 :: hs).length ≤ 9) (h9 : pcL (sizesL (h0 :: hs)) ≤ 9) :
    fn__law_due [.t (.lst (natL (sizesL (h0 :: hs)))), .t (.lst (deedsV (h0 :: hs)))] μ = .ok (.t (.tup [.lst ((duesL h0 (h0 :: hs)).map dV), .lst (waysL (h0 :: hs))])) μ := by
  have sz : ∀ c ∈ sizesL (h0 :: hs), 1 ≤ c ∧ c ≤ 9 := fun c hc => by
    obtain ⟨h, hh, rfl⟩ := List.mem_map.mp hc
    exact ⟨(a.ok h hh).1, (a.ok h hh).2.1⟩
  have h6 := (a.ok h0 List.mem_cons_self).2.2.len
  have rl : (rowsL (sizesL (h0 :: hs))).length = pcL (sizesL (h0 :: hs)) := rowsL_len
  have rw_ : ∀ r ∈ rowsL (sizesL (h0 :: hs)), r.length = (h0 :: hs).length := fun r hr => by
    rw [fitR_len (rowsL_mem.mp hr)]; simp [sizesL]
  have lr := lrows_ok (μ := μ) sz (by simp [sizesL] at hl ⊢; omega) (show pcL (sizesL (h0 :: hs)) ≤ 1000 by omega)
  obtain ⟨x4, x5, x6, x7, x8, x', y', j', e⟩ := ld_deeds (h0 := h0) (hs := h0 :: hs) (ν := μ) a (by omega) hl List.mem_cons_self h0.2 0 [] [] none none none none none none none (List.drop_zero) (by simp; omega)
  rw [List.nil_append, ← List.range_eq_range'] at e
  have wl := lways_lc (κ := μ ++ none :: j') (σ := wipeM [some (.t (.lst (natL (sizesL (h0 :: hs))))), some (.t (.lst (deedsV (h0 :: hs)))), some (.t (.lst ((rowsL (sizesL (h0 :: hs))).map tupI))), some (.t (.lst ((duesL h0 (h0 :: hs)).map dV))), x4, x5, x6, x7, x8, x', y', none] (Tgt.nm 9).sl) (show (rowsL (sizesL (h0 :: hs))).length ≤ 1000 by omega) rw_ rfl rfl (List.range (h0 :: hs).length) (fun i hi => List.mem_range.mp hi)
  rw [← rgI_nat] at wl
  have zw := szF_ok (ds := waysL (h0 :: hs)) (μ := μ ++ none :: j') (szL _ (by simp [waysL] at hl ⊢; omega))
  have lnv : lenV [.lst (natL (sizesL (h0 :: hs)))] = some (.int ((h0 :: hs).length : Int)) := by simp [natL, sizesL]
  have rk := range1_ok (n := (h0 :: hs).length) (μ := μ ++ none :: j') (by omega)
  have ew : (List.range (h0 :: hs).length).map (fun k => tupI ((rowsL (sizesL (h0 :: hs))).map (·.getD k 0))) = waysL (h0 :: hs) := rfl
  have ed : (List.range h0.2.length).map (fun i => dueD (h0 :: hs) (h0.2.getD i ([], 0, [])) i) = duesL h0 (h0 :: hs) := rfl
  rw [ew] at wl
  rw [ed] at e
  have a0 : atV (.lst (deedsV (h0 :: hs))) (.int 0) = some (.lst (h0.2.map dV)) := by
    show atI (.lst (h0.2.map dV) :: deedsV hs) 0 = _
    exact atI_nat' (i := 0) (by simp)
  have ge : ∀ κ, gEnum [.t (.lst (h0.2.map dV))] κ = .ok (enumF 0 (h0.2.map dV)) κ := fun κ => by simp [enumP_F]
  have fz : frz1 (μ ++ some (Cell.lst ((duesL h0 (h0 :: hs)).map dV)) :: j') (.c μ.length) = some (.t (.lst ((duesL h0 (h0 :: hs)).map dV)), μ ++ none :: j') := by
    rw [frz_lst at_mid, set_mid]
  have tp : ∀ κ, PM.gTup [.t (.lst ((duesL h0 (h0 :: hs)).map dV)), .t (.lst (waysL (h0 :: hs)))] κ = .ok (.t (.tup [.lst ((duesL h0 (h0 :: hs)).map dV), .lst (waysL (h0 :: hs))])) κ := fun κ => gTup_ok rfl (szL _ (by simp))
  have tk : (μ ++ none :: j').take μ.length = μ := by simp
  rw [List.map_nil] at e
  have hc0 : μ ++ [some (Cell.lst [])] = μ ++ some (Cell.lst ([] : List PV)) :: [] := rfl
  generalize (duesL h0 (h0 :: hs)).map dV = DL at *
  generalize waysL (h0 :: hs) = WL at *
  generalize (rowsL (sizesL (h0 :: hs))).map tupI = RT at *
  generalize natL (sizesL (h0 :: hs)) = NL at *
  generalize deedsV (h0 :: hs) = DH at *
  generalize enumF 0 (h0.2.map dV) = EF at *
  generalize h0.2.map dV = D0 at *
  generalize hRG : rgI 0 (h0 :: hs).length = RG2 at *
  generalize ((h0 :: hs).length : Int) = LN at *
  have bb : b__law_due (startM 12 [.t (.lst NL), .t (.lst DH)]) μ = .rt (.t (.tup [.lst DL, .lst WL])) (μ ++ none :: j') := by
    simp only [b__law_due, startM, List.map_cons, List.map_nil, List.length_cons, List.length_nil, List.cons_append, List.nil_append, List.replicate]
    simp only [sSeq_eq, sAsg_nm, eN_eq, aCons_eq, aNil_eq, eV_eq, eC_eq, List.getElem?_cons_succ, List.getElem?_cons_zero, bind_ok, gCall_1, lr, st_ok, List.set_cons_succ, List.set_cons_zero, seq_nx, eCellF_eq, gLst_0, hc0, sFor_eq, e2_eq, p2_t, a0, Option.map_some, orok_some, ge, e]
    simp only [sFrz, List.getElem?_cons_succ, List.getElem?_cons_zero, fz, List.set_cons_succ, List.set_cons_zero, seq_nx, sRet_eq, eN_eq, aCons_eq, aNil_eq, eV_eq, eOfF_eq, lcF_eq, bind_ok, pN_1, lnv, Option.map_some, orok_some, rk, wl, zw, tp, st_ok]
  show endM μ.length (b__law_due (startM 12 [.t (.lst NL), .t (.lst DH)]) μ) = _
  rw [bb]
  simp only [endM, fin, tk]
end
/-! sizes, drawn deeds, what does not fit -/
theorem cut_init {α : Type} {l : List α} : cutG l none (some (-1)) = l.dropLast := by
  unfold cutG
  rw [HT.sIx_none, List.drop_zero, Nat.sub_zero]
  have : HT.sIx l.length l.length (some (-1)) = l.length - 1 := by
    show (if (-1 : Int) < 0 then ((-1 : Int) + (l.length : Int)).toNat else min (-1 : Int).toNat l.length) = _
    rw [if_pos (by decide)]
    omega
  rw [this, List.dropLast_eq_take]
structure GoodC (cs : List Nat) : Prop where
  ne : cs ≠ []
  len : cs.length ≤ 3
  ok : ∀ c ∈ cs, 1 ≤ c ∧ c ≤ 4
  pc : pcL cs ≤ 16
theorem sizes_w (w : W3) : ∃ (cs : List Nat) (w' : W3), GoodC cs ∧ ∀ t, fn__law_sizes [.c 0] (wlw w :: t) = .ok (.t (.lst (natL cs))) (wlw w' :: t) := by
  obtain ⟨i, w1, hi, e1⟩ := drawX w 16 16
  let all : List (List Nat) := [[2, 2], [2, 3], [3, 2], [2, 4], [4, 2], [3, 3], [2, 2, 2], [1, 3], [4, 1, 2], [3], [4], [1, 1, 1], [3, 4], [2, 2, 3], [4, 4], [4, 1, 3]]
  have good : ∀ cs ∈ all, GoodC cs := by
    intro cs hcs
    simp only [all, List.mem_cons, List.not_mem_nil, or_false] at hcs
    rcases hcs with rfl | rfl | rfl | rfl | rfl | rfl | rfl | rfl | rfl | rfl | rfl | rfl | rfl | rfl | rfl | rfl <;> exact ⟨by decide, by decide, by decide, by decide⟩
  obtain ⟨x, ex, cs, hc, rfl⟩ := at_all (P := fun x => ∃ cs, GoodC cs ∧ x = .lst (natL cs)) (l := all.map fun cs => .lst (natL cs)) (i := i) (fun x hx => by
    obtain ⟨cs, hcs, rfl⟩ := List.mem_map.mp hx
    exact ⟨cs, good cs hcs, rfl⟩) (by simpa [all] using hi)
  refine ⟨cs, w1, hc, fun t => ?_⟩
  have g12 : ∀ (a b c d e f g h i j k l : PV) κ, PM.gLst [.t a, .t b, .t c, .t d, .t e, .t f, .t g, .t h, .t i, .t j, .t k, .t l] κ = .ok [a, b, c, d, e, f, g, h, i, j, k, l] κ := fun a b c d e f g h i j k l κ => gLst_ok rfl (szL 12)
  have ad : addF (.lst [.lst [.int 2, .int 2], .lst [.int 2, .int 3], .lst [.int 3, .int 2], .lst [.int 2, .int 4], .lst [.int 4, .int 2], .lst [.int 3, .int 3], .lst [.int 2, .int 2, .int 2], .lst [.int 1, .int 3], .lst [.int 4, .int 1, .int 2], .lst [.int 3], .lst [.int 4], .lst [.int 1, .int 1, .int 1]]) (.lst [.lst [.int 3, .int 4], .lst [.int 2, .int 2, .int 3], .lst [.int 4, .int 4], .lst [.int 4, .int 1, .int 3]]) = some (all.map fun cs => .lst (natL cs)) := addF_ok (by simp)
  have ex' : atV (.lst (all.map fun cs => .lst (natL cs))) (.int (i : Int)) = some (.lst (natL cs)) := ex
  generalize (all.map fun cs => PV.lst (natL cs)) = ALL at *
  generalize (.lst (natL cs) : PV) = NC at *
  simp only [fn__law_sizes, b__law_sizes, fnOf, startM, List.map_cons, List.map_nil, List.length_cons, List.length_nil, List.cons_append, List.nil_append, List.replicate]
  simp only [sSeq_eq, sAsg_nm, eOfF_eq, eN_eq, aCons_eq, aNil_eq, eC_eq, bind_ok, gLst_1, gLst_2, gLst_3, gLst_4, g12, st_ok, List.set_cons_succ, List.set_cons_zero, seq_nx, e2_eq, eV_eq, List.getElem?_cons_succ, List.getElem?_cons_zero, pf2_t, ad, orok_some, sRet_eq, gCall_2c, e1, p2_t, ex', Option.map_some, endM_rt]
  simp
/-- drawn deeds of told names and places -/
theorem draw_deeds {n : Nat} {t : Store} {σ : Sl} (hn1 : 1 ≤ n) (hn : n ≤ 9) (hσ : σ.length = 23) (g0 : σ[0]? = some (some (.c 0))) (g9 : σ[9]? = some (some (.t (.int (n : Int))))) : ∀ (z : List (List Nat × Nat)) (w : W3), (∀ p ∈ z, goodL p.1 ∧ p.2 ≤ 3) →
    ∃ (ds : List Dd) (w' : W3), sigD ds = z ∧ (∀ d ∈ ds, okD n d) ∧ lcL (.tp [.nm 19, .nm 22]) tYes' e3__law_right (sigV z) σ (wlw w :: t) = .ok (ds.map dV) (wlw w' :: t)
  | [], w, _ => ⟨[], w, rfl, fun d hd => (nomatch hd), rfl⟩
  | q :: z, w, hz => by
    obtain ⟨h1, h2⟩ := hz q List.mem_cons_self
    obtain ⟨row, w1, r1, r2, e1⟩ := plain_w (n := n) (p := q.2) w t hn1 hn h2
    obtain ⟨ds, w2, s1, s2, e2⟩ := draw_deeds (t := t) hn1 hn hσ g0 g9 z w1 fun p hp => hz p (List.mem_cons_of_mem _ hp)
    refine ⟨(q.1, q.2, row) :: ds, w2, by show (q.1, q.2) :: sigD ds = _; rw [s1], fun d hd => ?_, ?_⟩
    · rcases List.mem_cons.mp hd with rfl | hd
      · exact ⟨h1, h2, r1, r2⟩
      · exact s2 d hd
    · have tp : PM.gTup [.t (.str (sg q.1)), .t (.int (q.2 : Int)), .t (tupI row)] (wlw w1 :: t) = .ok (.t (dV (q.1, q.2, row))) (wlw w1 :: t) := gTup_ok rfl (szL _ (by simp))
      refine lcL_cons (σ1 := (σ.set 19 (some (.t (.str (sg q.1))))).set 22 (some (.t (.int (q.2 : Int))))) (μ2 := wlw w1 :: t) rfl rfl ?_ e2
      have k0 : ((σ.set 19 (some (.t (.str (sg q.1))))).set 22 (some (.t (.int (q.2 : Int)))))[0]? = some (some (.c 0)) := by rw [List.getElem?_set_ne (by decide), List.getElem?_set_ne (by decide)]; exact g0
      have k9 : ((σ.set 19 (some (.t (.str (sg q.1))))).set 22 (some (.t (.int (q.2 : Int)))))[9]? = some (some (.t (.int (n : Int)))) := by rw [List.getElem?_set_ne (by decide), List.getElem?_set_ne (by decide)]; exact g9
      have k19 : ((σ.set 19 (some (.t (.str (sg q.1))))).set 22 (some (.t (.int (q.2 : Int)))))[19]? = some (some (.t (.str (sg q.1)))) := by rw [List.getElem?_set_ne (by decide)]; exact List.getElem?_set_self (by omega)
      have k22 : ((σ.set 19 (some (.t (.str (sg q.1))))).set 22 (some (.t (.int (q.2 : Int)))))[22]? = some (some (.t (.int (q.2 : Int)))) := List.getElem?_set_self (by rw [List.length_set]; omega)
      generalize (σ.set 19 (some (.t (.str (sg q.1))))).set 22 (some (.t (.int (q.2 : Int)))) = τ at *
      generalize dV (q.1, q.2, row) = DV at *
      generalize tupI row = TR at *
      simp only [e3__law_right, eN_eq, aCons_eq, aNil_eq, eV_eq, k0, k9, k19, k22, bind_ok, gCall_3c, e1, tp]
def xEnd (l : List Nat) : Prop := ∃ m, l = m ++ [120]
def extraD : Dd := ([101, 120, 116, 114, 97], 0, [0])
theorem extra_s : ("extra" : Str) = sg [101, 120, 116, 114, 97] := by decide +kernel
theorem extra_no {l : List Nat} (h : xEnd l) : l ≠ [101, 120, 116, 114, 97] := by
  obtain ⟨m, rfl⟩ := h
  intro e
  have := congrArg List.getLast? e
  simp at this
theorem extra_ok {n : Nat} (hn : 1 ≤ n) : okD n extraD := ⟨⟨by decide, by decide, by decide⟩, by decide, by simp [extraD], fun x hx => by
  rw [List.mem_singleton.mp hx]; omega⟩
theorem okDs_init {n : Nat} {ds : List Dd} (h : okDs n ds) : okDs n ds.dropLast := ⟨fun d hd => h.ok d (List.dropLast_subset _ hd), by
  rw [List.map_dropLast]
  exact h.nd.sublist (List.dropLast_sublist _), by rw [List.length_dropLast]; have := h.len; omega⟩
theorem okDs_extra {n : Nat} {ds : List Dd} (hn : 1 ≤ n) (h : okDs n ds) (hl : ds.length ≤ 5) (hx : ∀ d ∈ ds, xEnd d.1) : okDs n (ds ++ [extraD]) := ⟨fun d hd => by
  rcases List.mem_append.mp hd with hd | hd
  · exact h.ok d hd
  · rw [List.mem_singleton.mp hd]; exact extra_ok hn, by
  rw [List.map_append, List.nodup_append]
  refine ⟨h.nd, by simp, fun a ha b hb e => ?_⟩
  obtain ⟨d, hd, rfl⟩ := List.mem_map.mp ha
  have hb' : b = extraD.1 := by simpa using hb
  exact extra_no (hx d hd) (by rw [e, hb']; rfl), by simp; omega⟩
theorem unfit_w {n : Nat} {ds : List Dd} (w : W3) (hn : 1 ≤ n) (hn9 : n ≤ 9) (h : okDs n ds) (hl : ds.length ≤ 3) (hx : ∀ d ∈ ds, xEnd d.1) : ∃ (es : List Dd) (w' : W3), okDs n es ∧ sigD es ≠ sigD ds ∧ ∀ t, fn__law_unfit [.c 0, .t (.lst (ds.map dV))] (wlw w :: t) = .ok (.t (.lst (es.map dV))) (wlw w' :: t) := by
  obtain ⟨i, w1, hi, e1⟩ := drawX w 4 4
  have t1 : ∀ κ, PM.gTup [.t (.int 0)] κ = .ok (.t (tupI [0])) κ := fun κ => gTup_ok rfl (szL _ (by simp))
  have t2 : ∀ κ, PM.gTup [.t (.str (sg [101, 120, 116, 114, 97])), .t (.int 0), .t (tupI [0])] κ = .ok (.t (dV extraD)) κ := fun κ => gTup_ok rfl (szL _ (by simp))
  have sl : slV none (some (-1)) (.lst (ds.map dV)) = some (.lst (ds.dropLast.map dV)) := by
    show some (PV.lst (cutG (ds.map dV) none (some (-1)))) = _
    rw [cut_init, List.map_dropLast]
  have ln : lenV [.lst (ds.map dV)] = some (.int (ds.length : Int)) := by simp
  have ng : negV (.int 1) = some (.int (-1)) := rfl
  have a1 : addF (.lst (ds.map dV)) (.lst [dV extraD]) = some ((ds ++ [extraD]).map dV) := by
    rw [addF_ok (by simp; omega), List.map_append]; rfl
  have a2 : addF (.lst (ds.dropLast.map dV)) (.lst [dV extraD]) = some ((ds.dropLast ++ [extraD]).map dV) := by
    rw [addF_ok (by simp; omega), List.map_append]; rfl
  have len_ne : ∀ es : List Dd, es.length ≠ ds.length → sigD es ≠ sigD ds := fun es hne e => hne (by
    have := congrArg List.length e
    simpa [sigD] using this)
  have last_ne : ∀ l : List Dd, sigD (l ++ [extraD]) ≠ sigD ds ∨ ds = [] := fun l => by
    by_cases h0 : ds = []
    · exact .inr h0
    · refine .inl fun e => ?_
      have hd := List.dropLast_concat_getLast h0
      rw [← hd] at e
      simp only [sigD, List.map_append, List.map_cons, List.map_nil] at e
      have e2 := congrArg List.getLast? e
      simp only [List.getLast?_append, List.getLast?_singleton, Option.some_or] at e2
      have e3 := congrArg Prod.fst (Option.some.inj e2)
      exact extra_no (hx _ (List.getLast_mem h0)) e3.symm
  by_cases hds : ds = []
  · subst hds
    refine ⟨[extraD], w1, okDs_extra (ds := []) hn h (by simp) (fun d hd => nomatch hd), by simp [sigD], fun t => ?_⟩
    have ev : PM.eqV (.lst []) (.lst []) = some (.bl true) := rfl
    have a1' : addF (.lst []) (.lst [dV extraD]) = some ([extraD].map dV) := a1
    generalize tupI [0] = T0 at *
    generalize hE : dV extraD = DE at *
    generalize [extraD].map dV = RES at *
    simp [-gTup_1, -gTup_3, fn__law_unfit, b__law_unfit, fnOf, startM, e1, extra_s, t1, t2, ev, a1']
  · have ev : PM.eqV (.lst (ds.map dV)) (.lst []) = some (.bl false) := by
      rw [eq_ok ((h.sb hn9).sd.ok (by decide)) rfl]
      obtain ⟨d, l, rfl⟩ := List.exists_cons_of_ne_nil hds
      rfl
    have hw : i = 0 ∨ i = 1 ∨ (i = 2 ∧ 1 < ds.length) ∨ (i = 2 ∧ ¬ 1 < ds.length) ∨ i = 3 := by omega
    have e1' := e1
    rcases hw with rfl | rfl | ⟨rfl, h2⟩ | ⟨rfl, h2⟩ | rfl
    · refine ⟨ds ++ [extraD], w1, okDs_extra hn h (by omega) hx, len_ne _ (by simp), fun t => ?_⟩
      generalize (ds ++ [extraD]).map dV = RES at *
      generalize tupI [0] = T0 at *
      generalize hE : dV extraD = DE at *
      generalize ds.map dV = DD at *
      simp [-gTup_1, -gTup_3, fn__law_unfit, b__law_unfit, fnOf, startM, e1, extra_s, t1, t2, ev, a1]
    · refine ⟨ds.dropLast, w1, okDs_init h, len_ne _ (by
        have := List.length_pos_iff.mpr hds
        rw [List.length_dropLast]; omega), fun t => ?_⟩
      generalize ds.dropLast.map dV = RES at *
      generalize tupI [0] = T0 at *
      generalize hE : dV extraD = DE at *
      generalize ds.map dV = DD at *
      simp [-gTup_1, -gTup_3, fn__law_unfit, b__law_unfit, fnOf, startM, e1, extra_s, t1, t2, ev, ng, sl]
    · refine ⟨ds.reverse, w1, ⟨fun d hd => h.ok d (List.mem_reverse.mp hd), by rw [List.map_reverse, List.Nodup, List.pairwise_reverse]; exact h.nd.imp fun hab e => hab e.symm, by rw [List.length_reverse]; exact h.len⟩, fun e => ?_, fun t => ?_⟩
      · have e2 : ((ds.reverse.map fun d => (d.1, d.2.1))[0]?).map Prod.fst = ((ds.map fun d => (d.1, d.2.1))[0]?).map Prod.fst := congrArg (fun l : List (List Nat × Nat) => (l[0]?).map Prod.fst) e
        have hp : 0 < ds.length := by omega
        rw [List.getElem?_map, List.getElem?_map, Option.map_map, Option.map_map] at e2
        have e3 : (ds.reverse[0]?).map (·.1) = (ds[0]?).map (·.1) := e2
        rw [List.getElem?_reverse hp, List.getElem?_eq_getElem (by omega), List.getElem?_eq_getElem hp] at e3
        have := nodup_at h.nd (by omega) hp (Option.some.inj e3)
        omega
      · have rv : revV (.lst (ds.map dV)) = some (.lst (ds.reverse.map dV)) := by rw [revV_lst, List.map_reverse]
        have hi2 : (1 : Int) < (ds.length : Int) := by omega
        generalize ds.reverse.map dV = RES at *
        generalize (ds.length : Int) = dl at *
        generalize tupI [0] = T0 at *
        generalize hE : dV extraD = DE at *
        generalize ds.map dV = DD at *
        simp [-gTup_1, -gTup_3, -lenV_lst, -revV_lst, fn__law_unfit, b__law_unfit, fnOf, startM, e1, extra_s, t1, t2, ev, ln, hi2, rv]
    · refine ⟨ds.dropLast ++ [extraD], w1, okDs_extra hn (okDs_init h) (by rw [List.length_dropLast]; omega) (fun d hd => hx d (List.dropLast_subset _ hd)), (last_ne ds.dropLast).resolve_right hds, fun t => ?_⟩
      have hi2 : ¬ (1 : Int) < (ds.length : Int) := by omega
      generalize (ds.dropLast ++ [extraD]).map dV = RES at *
      generalize ds.dropLast.map dV = DI at *
      generalize (ds.length : Int) = dl at *
      generalize tupI [0] = T0 at *
      generalize hE : dV extraD = DE at *
      generalize ds.map dV = DD at *
      simp [-gTup_1, -gTup_3, -lenV_lst, fn__law_unfit, b__law_unfit, fnOf, startM, e1, extra_s, t1, t2, ev, ln, hi2, ng, sl, a2]
    · refine ⟨ds.dropLast ++ [extraD], w1, okDs_extra hn (okDs_init h) (by rw [List.length_dropLast]; omega) (fun d hd => hx d (List.dropLast_subset _ hd)), (last_ne ds.dropLast).resolve_right hds, fun t => ?_⟩
      generalize (ds.dropLast ++ [extraD]).map dV = RES at *
      generalize ds.dropLast.map dV = DI at *
      generalize tupI [0] = T0 at *
      generalize hE : dV extraD = DE at *
      generalize ds.map dV = DD at *
      simp [-gTup_1, -gTup_3, fn__law_unfit, b__law_unfit, fnOf, startM, e1, extra_s, t1, t2, ev, ng, sl, a2]

section
variable {μ : Store} {h0 : Nat × List Dd} {hs : Hs}
/-! told; the houses of the law -/
theorem told_fit (hl : (h0 :: hs).length ≤ 9) (ho : ∀ h ∈ h0 :: hs, h.2.length ≤ 6) (hb : ((h0 :: hs).all fun h => decide (sigD h0.2 = sigD h.2)) = false) : fn__law_told [.t (.lst (housesV (h0 :: hs)))] μ = .ok (.t (.tup [.str "no fit", .bl true])) μ := by
  have pr := product_fit (μ := μ) (v := .t (.lst (housesV (h0 :: hs)))) hl ho (.inl rfl) hb
  generalize housesV (h0 :: hs) = HV at *
  simp [fn__law_told, b__law_told, fnOf, startM, sTry, pr, handle, RS.unset, plainO, gIsX]
theorem told_many (a : AllF h0 (h0 :: hs)) (hl : (h0 :: hs).length ≤ 9) (h9 : 9 < pcL (sizesL (h0 :: hs))) : fn__law_told [.t (.lst (housesV (h0 :: hs)))] μ = .ok (.t (.tup [.str "too many", .int 9])) μ := by
  have pr := product_many (μ := μ) (v := .t (.lst (housesV (h0 :: hs)))) a hl (.inl rfl) h9
  generalize housesV (h0 :: hs) = HV at *
  have ne : (("TooMany" : Str) = ("NoFit" : Str)) = False := eq_false (by decide +kernel)
  simp [fn__law_told, b__law_told, fnOf, startM, sTry, pr, handle, RS.unset, plainO, gXf, gIsX, ne]
end
/-- deeds for each size -/
theorem deeds_loop71 {z : List (List Nat × Nat)} {s1 s2 s3 s4 s5 : Option Val} {s10 s11 s12 s13 s14 s15 s16 s17 s18 s20 s21 : Option Val} {nms : List PV} {pls : List PV} (hz : ∀ p ∈ z, goodL p.1 ∧ p.2 ≤ 3) (hzn : (z.map (·.1)).Nodup) (hzl : z.length ≤ 3) (gz : ∀ κ, gZip [.t (.lst nms), .t (.lst pls)] κ = .ok (sigV z) κ) : ∀ (cs : List Nat) (acc : Hs) (w : W3) (s9 : Option Val), (∀ c ∈ cs, 1 ≤ c ∧ c ≤ 4) → acc.length + cs.length ≤ 50 →
    ∃ (hs : Hs) (w' : W3) (s9' : Option Val), sizesL hs = cs ∧ (∀ h ∈ hs, okDs h.1 h.2 ∧ sigD h.2 = z) ∧ forL (.nm 9) f1__law_right (natL cs) [some (.c 0), s1, s2, s3, s4, s5, some (.t (.lst pls)), some (.t (.lst nms)), some (.c 1), s9, s10, s11, s12, s13, s14, s15, s16, s17, s18, none, s20, s21, none] [wlw w, some (.lst (deedsV acc))] =
      .nx [some (.c 0), s1, s2, s3, s4, s5, some (.t (.lst pls)), some (.t (.lst nms)), some (.c 1), s9', s10, s11, s12, s13, s14, s15, s16, s17, s18, none, s20, s21, none] [wlw w', some (.lst (deedsV (acc ++ hs)))]
  | [], acc, w, s9, _, _ => ⟨[], w, s9, rfl, fun h hh => (nomatch hh), by rw [List.append_nil]; rfl⟩
  | c :: cs, acc, w, s9, hc, hl => by
    have hl' : acc.length + (cs.length + 1) ≤ 50 := hl
    have hc1 := hc c List.mem_cons_self
    obtain ⟨ds, w1, d1, d2, e⟩ := draw_deeds (n := c) (t := [some (.lst (deedsV acc))]) (σ := [some (.c 0), s1, s2, s3, s4, s5, some (.t (.lst pls)), some (.t (.lst nms)), some (.c 1), some (.t (.int (c : Int))), s10, s11, s12, s13, s14, s15, s16, s17, s18, none, s20, s21, none]) hc1.1 (by omega) rfl rfl rfl z w hz
    have dl : ds.length = z.length := by rw [← d1]; simp [sigD]
    have okd : okDs c ds := ⟨d2, by
      have : ds.map (·.1) = z.map (·.1) := by rw [← d1]; simp [sigD, List.map_map, Function.comp_def]
      rw [this]; exact hzn, by omega⟩
    have z1 := szF_ok (ds := ds.map dV) (μ := [wlw w1, some (.lst (deedsV acc))]) (szL _ (by simp; omega))
    have la : lstAt [wlw w, some (.lst (deedsV acc))] (.c 1) = some (1, deedsV acc) := lstAt_cell rfl
    have ap : gMut mAppend (.c 1) [.t (.lst (ds.map dV))] [wlw w1, some (.lst (deedsV acc))] = .ok (.t .non) [wlw w1, some (.lst (deedsV (acc ++ [(c, ds)])))] := by
      rw [app_cell (ds := deedsV acc) rfl (by simp [deedsV]; omega)]
      simp [deedsV]
    have hb : f1__law_right [some (.c 0), s1, s2, s3, s4, s5, some (.t (.lst pls)), some (.t (.lst nms)), some (.c 1), some (.t (.int (c : Int))), s10, s11, s12, s13, s14, s15, s16, s17, s18, none, s20, s21, none] [wlw w, some (.lst (deedsV acc))] = .nx [some (.c 0), s1, s2, s3, s4, s5, some (.t (.lst pls)), some (.t (.lst nms)), some (.c 1), some (.t (.int (c : Int))), s10, s11, s12, s13, s14, s15, s16, s17, s18, none, s20, s21, none] [wlw w1, some (.lst (deedsV (acc ++ [(c, ds)])))] := by
      have ws : (Tgt.tp [.nm 19, .nm 22]).sl = [19, 22] := rfl
      generalize hM0 : [wlw w, some (Cell.lst (deedsV acc))] = M0 at *
      generalize hM1 : [wlw w1, some (Cell.lst (deedsV acc))] = M1 at *
      generalize hM2 : [wlw w1, some (Cell.lst (deedsV (acc ++ [(c, ds)])))] = M2 at *
      generalize ds.map dV = DD at *
      simp only [f1__law_right, sExp_eq, eMutG, eV_eq, List.getElem?_cons_succ, List.getElem?_cons_zero, bind_ok, la, aCons_eq, aNil_eq, eOfF_eq, lcF_eq, eN_eq, gz, ws, wipeM, List.set_cons_succ, List.set_cons_zero, e, z1, ap, st_ok]
    obtain ⟨hs, w2, s9', h1, h2, e2⟩ := deeds_loop71 hz hzn hzl gz cs (acc ++ [(c, ds)]) w1 (some (.t (.int (c : Int)))) (fun x hx => hc x (List.mem_cons_of_mem _ hx)) (by simp; omega)
    refine ⟨(c, ds) :: hs, w2, s9', by show c :: sizesL hs = _; rw [h1], fun h hh => ?_, ?_⟩
    · rcases List.mem_cons.mp hh with rfl | hh
      · exact ⟨okd, d1⟩
      · exact h2 h hh
    · show forL (.nm 9) f1__law_right (.int (c : Int) :: natL cs) _ _ = _
      rw [forL_nx (by simp) hb, e2, List.append_assoc]
      rfl

theorem lc_drawsG {j m : Nat} {e : ME} {σ : Sl} (he : ∀ (w : W3) (d : PV), ∃ (i : Nat) (w' : W3), i < m ∧ ∀ t, e (σ.set j (some (.t d))) (wlw w :: t) = .ok (.t (.int (i : Int))) (wlw w' :: t)) : ∀ (ds : List PV) (w : W3), ∃ (l : List Int) (w' : W3), l.length = ds.length ∧ inR m l ∧ ∀ t, lcL (.nm j) tYes' e ds σ (wlw w :: t) = .ok (l.map .int) (wlw w' :: t)
  | [], w => ⟨[], w, rfl, (fun x hx => nomatch hx), fun t => rfl⟩
  | d :: ds, w => by
    obtain ⟨i, w1, hi, e1⟩ := he w d
    obtain ⟨l, w2, h1, h2, e2⟩ := lc_drawsG he ds w1
    refine ⟨(i : Int) :: l, w2, by simp [h1], fun x hx => ?_, fun t => ?_⟩
    · rcases List.mem_cons.mp hx with rfl | hx
      · omega
      · exact h2 x hx
    · exact lcL_cons (σ1 := σ.set j (some (.t d))) (μ2 := wlw w1 :: t) asg_nm rfl (e1 t) (e2 t)

/-! names and places of the deeds -/
theorem places_w {mo : Nat} (hmo : mo = 2 ∨ mo = 3) {σ : Sl} (hσ : σ.length = 23) (g0 : σ[0]? = some (some (.c 0))) (g5 : σ[5]? = some (some (.t (.int (mo : Int))))) (k : Nat) (w : W3) : ∃ (ps : List Nat) (w' : W3), ps.length = k ∧ (∀ p ∈ ps, p ≤ 3) ∧ ∀ t, lcL (.nm 18) tYes' e1__law_right (rgI 0 k) σ (wlw w :: t) = .ok (ps.map fun (p : Nat) => .int (p : Int)) (wlw w' :: t) := by
  obtain ⟨l, w', h1, h2, e⟩ := lc_drawsG (j := 18) (m := 4) (e := e1__law_right) (σ := σ) (fun w d => by
    obtain ⟨i, w1, hi, e1⟩ := drawX w 5 5
    obtain ⟨x, ex, k, hk, rfl⟩ := at_all (P := fun d => ∃ k : Nat, k ≤ 3 ∧ d = .int (k : Int)) (l := [.int 1, .int 2, .int 0, .int 2, .int 3]) (i := i) (by
      simp only [List.mem_cons, List.not_mem_nil, or_false]
      rintro x (rfl | rfl | rfl | rfl | rfl)
      · exact ⟨1, by decide, rfl⟩
      · exact ⟨2, by decide, rfl⟩
      · exact ⟨0, by decide, rfl⟩
      · exact ⟨2, by decide, rfl⟩
      · exact ⟨3, by decide, rfl⟩) (by simpa using hi)
    have mn : minV [.int (mo : Int), .int (k : Int)] = some (.int ((min mo k : Nat) : Int)) := by
      show some (PV.int (if (k : Int) < (mo : Int) then (k : Int) else (mo : Int))) = _
      congr 2
      split <;> omega
    refine ⟨min mo k, w1, by omega, fun t => ?_⟩
    have k0 : (σ.set 18 (some (.t d)))[0]? = some (some (.c 0)) := by rw [List.getElem?_set_ne (by decide)]; exact g0
    have k5 : (σ.set 18 (some (.t d)))[5]? = some (some (.t (.int (mo : Int)))) := by rw [List.getElem?_set_ne (by decide)]; exact g5
    generalize min mo k = q at mn
    generalize σ.set 18 (some (.t d)) = τ at *
    have mn' : pN minV [.t (.int (mo : Int)), .t (.int (k : Int))] (wlw w1 :: t) = .ok (.t (.int (q : Int))) (wlw w1 :: t) := by
      simp [pN, views, view, mn]
    simp only [e1__law_right, eN_eq, aCons_eq, aNil_eq, e2_eq, eOfF_eq, eC_eq, eV_eq, k0, k5, bind_ok, gLst_5, gCall_2c, e1, p2_t, atV_lst, ex, Option.map_some, orok_some, mn']) (rgI 0 k) w
  rw [rgI_len] at h1
  obtain ⟨ps, e1, e2, e3⟩ := nat_list (l := l) (m := 4) h2
  refine ⟨ps, w', by omega, fun p hp => by have := e3 p hp; omega, fun t => ?_⟩
  rw [e t, e1]
theorem x_s : ("x" : Str) = sg [120] := by decide +kernel
def withX (nms : List (List Nat)) : List (List Nat) := (nms.filter fun l => decide (l.length < 8)).map (· ++ [120])
theorem withX_ok {nms : List (List Nat)} (hg : ∀ l ∈ nms, goodL l) (hn : nms.Nodup) : (∀ l ∈ withX nms, goodL l ∧ xEnd l) ∧ (withX nms).Nodup ∧ (withX nms).length ≤ nms.length := by
  refine ⟨fun l hl => ?_, ?_, ?_⟩
  · obtain ⟨m, hm, rfl⟩ := List.mem_map.mp hl
    obtain ⟨h1, h2⟩ := List.mem_filter.mp hm
    have g := hg m h1
    have h8 : m.length < 8 := of_decide_eq_true h2
    refine ⟨⟨by simp; have := g.1; omega, by simp; omega, fun c hc => ?_⟩, ⟨m, rfl⟩⟩
    rcases List.mem_append.mp hc with hc | hc
    · exact g.2.2 c hc
    · rw [List.mem_singleton.mp hc]; decide
  · unfold withX
    rw [List.Nodup, List.pairwise_map]
    exact (hn.sublist List.filter_sublist).imp fun hab e => hab (List.append_cancel_right e)
  · unfold withX
    rw [List.length_map]
    exact List.length_filter_le _ _
theorem withX_lc {nms : List (List Nat)} (hg : ∀ l ∈ nms, goodL l) {σ : Sl} (hσ : σ.length = 23) {μ : Store} : lcL (.nm 19) t1__law_right e2__law_right (nms.map fun l => .str (sg l)) σ μ = .ok ((withX nms).map fun l => .str (sg l)) μ := by
  induction nms with
  | nil => rfl
  | cons l nms ih =>
    have ih := ih fun x hx => hg x (List.mem_cons_of_mem _ hx)
    have g := hg l List.mem_cons_self
    have g19 : (σ.set 19 (some (.t (.str (sg l)))))[19]? = some (some (.t (.str (sg l)))) := List.getElem?_set_self (by omega)
    have ln := lenV_sg (l := l) (by have := g.2.1; omega)
    have hdec : decide ((l.length : Int) < 8) = decide (l.length < 8) := by
      by_cases h : l.length < 8
      · rw [decide_eq_true h, decide_eq_true (by omega)]
      · rw [decide_eq_false h, decide_eq_false (by omega)]
    have tt : t1__law_right (σ.set 19 (some (.t (.str (sg l))))) μ = .ok (decide (l.length < 8)) μ := by
      rw [← hdec]
      generalize σ.set 19 (some (.t (.str (sg l)))) = τ at *
      simp only [t1__law_right, tVal_eq, e2_eq, eN_eq, aCons_eq, aNil_eq, eV_eq, g19, bind_ok, pN_1, ln, Option.map_some, orok_some, eC_eq, p2_t, ltV_int, gBl_bl]
    by_cases h : l.length < 8
    · rw [decide_eq_true h] at tt
      have ad := addV_sg (l := l) (m := [120]) (by simp; omega)
      have e : withX (l :: nms) = (l ++ [120]) :: withX nms := by
        unfold withX
        rw [List.filter_cons, decide_eq_true h]; rfl
      rw [e]
      refine lcL_cons (σ1 := σ.set 19 (some (.t (.str (sg l))))) (μ2 := μ) asg_nm tt ?_ ih
      generalize σ.set 19 (some (.t (.str (sg l)))) = τ at *
      simp only [e2__law_right, e2_eq, eV_eq, g19, bind_ok, eC_eq, x_s, p2_t, ad, Option.map_some, orok_some]
    · rw [decide_eq_false h] at tt
      have e : withX (l :: nms) = withX nms := by
        unfold withX
        rw [List.filter_cons, decide_eq_false h]; rfl
      rw [e]
      exact lcL_skip (σ1 := σ.set 19 (some (.t (.str (sg l))))) asg_nm tt ih
theorem zip_sig : ∀ (nms : List (List Nat)) (ps : List Nat), zipP (nms.map fun l => .str (sg l)) (ps.map fun (p : Nat) => .int (p : Int)) = sigV (nms.zip ps)
  | [], ps => by simp [zipP, sigV]
  | l :: nms, [] => by simp [zipP, sigV]
  | l :: nms, p :: ps => by
    show _ :: zipP _ _ = _ :: sigV (nms.zip ps)
    rw [zip_sig nms ps]
theorem zip_mem {nms : List (List Nat)} {ps : List Nat} (h1 : ∀ l ∈ nms, goodL l ∧ xEnd l) (h2 : ∀ p ∈ ps, p ≤ 3) : ∀ q ∈ nms.zip ps, (goodL q.1 ∧ q.2 ≤ 3) ∧ xEnd q.1 := fun q hq => by
  have a := List.of_mem_zip (a := q.1) (b := q.2) hq
  exact ⟨⟨(h1 _ a.1).1, h2 _ a.2⟩, (h1 _ a.1).2⟩
/-- the houses -/
theorem zip_houses : ∀ hs : Hs, zipP (natL (sizesL hs)) (deedsV hs) = hs.map fun h => .tup [.int (h.1 : Int), .lst (h.2.map dV)]
  | [] => rfl
  | h :: hs => by
    show PV.tup [.int (h.1 : Int), .lst (h.2.map dV)] :: zipP (natL (sizesL hs)) (deedsV hs) = _
    rw [zip_houses hs]; rfl
theorem houses_lc {μ : Store} {σ : Sl} (hσ : σ.length = 23) : ∀ hs : Hs, (∀ h ∈ hs, 1 ≤ h.1 ∧ h.1 ≤ 9 ∧ okDs h.1 h.2) → lcL (.tp [.nm 9, .nm 20]) tYes' e4__law_right (hs.map fun h => .tup [.int (h.1 : Int), .lst (h.2.map dV)]) σ μ = .ok (housesV hs) μ
  | [], _ => rfl
  | h :: hs, ho => by
    obtain ⟨h1, h2, h3⟩ := ho h List.mem_cons_self
    have mk := m_make (μ := μ) h1 h2 h3
    refine lcL_cons (σ1 := (σ.set 9 (some (.t (.int (h.1 : Int))))).set 20 (some (.t (.lst (h.2.map dV))))) (μ2 := μ) rfl rfl ?_ (houses_lc hσ hs fun x hx => ho x (List.mem_cons_of_mem _ hx))
    have k9 : ((σ.set 9 (some (.t (.int (h.1 : Int))))).set 20 (some (.t (.lst (h.2.map dV)))))[9]? = some (some (.t (.int (h.1 : Int)))) := by rw [List.getElem?_set_ne (by decide)]; exact List.getElem?_set_self (by omega)
    have k20 : ((σ.set 9 (some (.t (.int (h.1 : Int))))).set 20 (some (.t (.lst (h.2.map dV)))))[20]? = some (some (.t (.lst (h.2.map dV)))) := List.getElem?_set_self (by rw [List.length_set]; omega)
    have lf : pfN listF [.t (.lst (h.2.map dV))] μ = .ok (h.2.map dV) μ := rfl
    show e4__law_right ((σ.set 9 (some (.t (.int (h.1 : Int))))).set 20 (some (.t (.lst (h.2.map dV))))) μ = .ok (.t (hV h.1 h.2)) μ
    generalize (σ.set 9 (some (.t (.int (h.1 : Int))))).set 20 (some (.t (.lst (h.2.map dV)))) = τ at *
    generalize hV h.1 h.2 = HV at *
    generalize h.2.map dV = DD at *
    simp only [e4__law_right, eMake_eq, aCons_eq, aNil_eq, eV_eq, k9, k20, bind_ok, eOfF_eq, eN_eq, lf, List.all_cons, List.all_nil, Val.plain, Bool.and_self, List.length_cons, List.length_nil, decide_true, if_true, mk]
theorem deeds_of_lc {μ : Store} {σ : Sl} (hσ : σ.length = 23) : ∀ hs : Hs, lcL (.nm 21) tYes' e5__law_right (housesV hs) σ μ = .ok (deedsV hs) μ
  | [] => rfl
  | h :: hs => by
    have o2 : PM.isObj "House" "deeds" (.t (hV h.1 h.2)) = true := m_obj (by decide +kernel)
    have md : fn_House_deeds [.t (hV h.1 h.2)] μ = .ok (.t (.lst (h.2.map dV))) μ := m_deeds
    refine lcL_cons (σ1 := σ.set 21 (some (.t (hV h.1 h.2)))) (μ2 := μ) asg_nm rfl ?_ (deeds_of_lc hσ hs)
    have k21 : (σ.set 21 (some (.t (hV h.1 h.2))))[21]? = some (some (.t (hV h.1 h.2))) := List.getElem?_set_self (by omega)
    generalize σ.set 21 (some (.t (hV h.1 h.2))) = τ at *
    generalize hV h.1 h.2 = HV at *
    simp only [e5__law_right, eMeth_eq, eV_eq, k21, bind_ok, o2, if_true, aNil_eq, gCall_1, md]
/-- one house that does not fit -/
theorem mis_fit {hs : Hs} {z : List (List Nat × Nat)} {i c : Nat} {es : List Dd} (h2 : 1 < hs.length) (hi : i < hs.length) (hz : ∀ h ∈ hs, sigD h.2 = z) (he : sigD es ≠ z) : ∃ g0 gs, hs.set i (c, es) = g0 :: gs ∧ ((g0 :: gs).all fun h => decide (sigD g0.2 = sigD h.2)) = false := by
  match hs, h2, hi, hz with
  | h0 :: h1 :: hs, _, hi, hz =>
    cases i with
    | zero =>
      refine ⟨(c, es), h1 :: hs, rfl, ?_⟩
      have e1 := hz h1 (by simp)
      rw [List.all_eq_false]
      exact ⟨h1, by simp, by simp only [e1, decide_eq_true_eq]; exact he⟩
    | succ i =>
      refine ⟨h0, (h1 :: hs).set i (c, es), rfl, ?_⟩
      have e1 := hz h0 (by simp)
      rw [List.all_eq_false]
      refine ⟨(c, es), List.mem_cons_of_mem _ (List.mem_set (by simp at hi ⊢; omega) _), ?_⟩
      simp only [e1, decide_eq_true_eq]
      exact fun e => he e.symm

section
variable {cs : List Nat} {hs : Hs} {h0 : Nat × List Dd} {s2 s3 s4 s5 s6 s7 s9 s11 s14 s15 s16 s17 : Option Val}
/-! a turn of the law -/
abbrev sR71 (cs : List Nat) (b : Bool) (a : Nat) (s4 s5 s6 s7 s8 s9 s10 s11 s12 s13 s14 s15 s16 s17 : Option Val) : Sl := [some (.c 0), some (.t (.lst (natL cs))), some (.t (.bl b)), some (.t (.int (a : Int))), s4, s5, s6, s7, s8, s9, s10, s11, s12, s13, s14, s15, s16, s17, none, none, none, none, none]
theorem SD_ways : SD 3 (.lst (waysL hs)) ∨ ¬ (pcL (sizesL hs) ≤ 1000 ∧ hs.length ≤ 1000) := by
  by_cases h : pcL (sizesL hs) ≤ 1000 ∧ hs.length ≤ 1000
  · refine .inl (SD_lst.mpr ⟨by simp [waysL]; omega, fun x hx => ?_⟩)
    obtain ⟨k, _, rfl⟩ := List.mem_map.mp hx
    exact SD_tupI (by rw [List.length_map, rowsL_len]; exact h.1)
  · exact .inr h
theorem lfrees_ways : lfrees (waysL hs) = true := by
  unfold waysL
  generalize (List.range hs.length) = l
  induction l with
  | nil => rfl
  | cons k l ih =>
    rw [List.map_cons]
    unfold lfrees
    rw [lfree_tupI, ih]; rfl
theorem turn71 {b : Bool} {a : Nat} {w : W3} {junk : Store} (al : AllF h0 (h0 :: hs)) (hl : (h0 :: hs).length ≤ 9) (h9 : pcL (sizesL (h0 :: hs)) ≤ 9) (ls : lfStore junk = true) :
    ∃ x15 x16 x17 junk', lfStore junk' = true ∧ f2__law_right (sR71 cs b a (some (.t (.int (pcL (sizesL (h0 :: hs)) : Int)))) s5 s6 s7 (some (.t (.lst (deedsV (h0 :: hs))))) s9 (some (.t (.lst (housesV (h0 :: hs))))) s11 (some (.t (.lst ((duesL h0 (h0 :: hs)).map dV)))) (some (.t (.lst (waysL (h0 :: hs))))) s14 s15 s16 s17) (wlw w :: junk) =
      .nx (sR71 cs b a (some (.t (.int (pcL (sizesL (h0 :: hs)) : Int)))) s5 s6 s7 (some (.t (.lst (deedsV (h0 :: hs))))) s9 (some (.t (.lst (housesV (h0 :: hs))))) s11 (some (.t (.lst ((duesL h0 (h0 :: hs)).map dV)))) (some (.t (.lst (waysL (h0 :: hs))))) s14 x15 x16 x17) (wlw w :: junk') := by
  have lw : lfStore (wlw w :: junk) = true := lfStore_cons (by exact lf_well w) ls
  have hst : (wlw w :: junk ++ [some (Cell.lst (housesV (h0 :: hs)))]).set (junk.length + 1) none = wlw w :: junk ++ [none] := by
    show wlw w :: ((junk ++ [some (Cell.lst (housesV (h0 :: hs)))]).set junk.length none) = _
    rw [set_snoc]; rfl
  have hk : (wlw w :: junk ++ [some (Cell.lst (housesV (h0 :: hs)))])[junk.length + 1]? = some (some (.lst (housesV (h0 :: hs)))) := by
    show (junk ++ [some (Cell.lst (housesV (h0 :: hs)))])[junk.length]? = _
    exact at_snoc
  have pr := product_ok (μ := wlw w :: junk ++ [some (Cell.lst (housesV (h0 :: hs)))]) (v := .c (junk.length + 1)) al hl (.inr ⟨_, rfl, hk, by rw [hst]; exact lfStore_app lw rfl⟩) h9
  have okD' := dues_ok al
  have pc1 : 1 ≤ pcL (sizesL (h0 :: hs)) := pc_pos fun c hc => by
    obtain ⟨h, hh, rfl⟩ := List.mem_map.mp hc
    exact (al.ok h hh).1
  have nv1 : neV (.lst ((duesL h0 (h0 :: hs)).map dV)) (.lst ((duesL h0 (h0 :: hs)).map dV)) = some (.bl false) := neV_self (okD'.sb h9).sd
  have nv2 : neV (.lst (waysL (h0 :: hs))) (.lst (waysL (h0 :: hs))) = some (.bl false) := neV_self (SD_ways.resolve_right fun h => h ⟨by omega, by omega⟩)
  have o2 : PM.isObj "House" "deeds" (.t (hV (pcL (sizesL (h0 :: hs))) (duesL h0 (h0 :: hs)))) = true := m_obj (by decide +kernel)
  have md : ∀ κ, fn_House_deeds [.t (hV (pcL (sizesL (h0 :: hs))) (duesL h0 (h0 :: hs)))] κ = .ok (.t (.lst ((duesL h0 (h0 :: hs)).map dV))) κ := fun κ => m_deeds
  have o3 : PM.isObj "House" "things" (.t (hV (pcL (sizesL (h0 :: hs))) (duesL h0 (h0 :: hs)))) = true := m_obj (by decide +kernel)
  have mt : ∀ κ, fn_House_things [.t (hV (pcL (sizesL (h0 :: hs))) (duesL h0 (h0 :: hs)))] κ = .ok (.t (.int (pcL (sizesL (h0 :: hs)) : Int))) κ := fun κ => m_things
  have wl1 : waysL (h0 :: hs) = waysL (h0 :: hs) := rfl
  have lfw := lfrees_ways (hs := h0 :: hs)
  have wlen : (waysL (h0 :: hs)).length ≤ 9 := by simp [waysL] at hl ⊢; omega
  have len1 : (wlw w :: junk ++ [some (Cell.lst (housesV (h0 :: hs)))]).length = junk.length + 2 := by simp
  rw [len1] at pr
  refine ⟨some (.c (junk.length + 1)), some (.t (hV (pcL (sizesL (h0 :: hs))) (duesL h0 (h0 :: hs)))), some (.c (junk.length + 2)), junk ++ [some (.lst []), some (.lst (waysL (h0 :: hs) ++ [.tup []]))], lfStore_app ls (lfStore_cons (by rfl) (lfStore_cons (by exact lfrees_app lfw (by simp [lfrees, lfree])) rfl)), ?_⟩
  have lf : pfN listF [.t (.lst (housesV (h0 :: hs)))] (wlw w :: junk) = .ok (housesV (h0 :: hs)) (wlw w :: junk) := rfl
  generalize housesV (h0 :: hs) = HV at *
  generalize waysL (h0 :: hs) = WL at *
  have m2 : (wlw w :: junk ++ [some (Cell.lst HV)] ++ [some (.lst WL)])[junk.length + 2]? = some (some (.lst WL)) := by
    rw [← len1]; exact at_snoc
  have p4 : p2 neV (.c (junk.length + 2)) (.t (.lst WL)) (wlw w :: junk ++ [some (Cell.lst HV)] ++ [some (.lst WL)]) = .ok (.t (.bl false)) (wlw w :: junk ++ [some (Cell.lst HV)] ++ [some (.lst WL)]) := by
    rw [p2_cell m2, nv2]; rfl
  have ty : p1 (isTy "list") (.c (junk.length + 2)) (wlw w :: junk ++ [some (Cell.lst HV)] ++ [some (.lst WL)]) = .ok (.t (.bl true)) (wlw w :: junk ++ [some (Cell.lst HV)] ++ [some (.lst WL)]) := by
    simp only [p1, view, m2]
    rfl
  have la2 : lstAt (wlw w :: junk ++ [some (Cell.lst HV)] ++ [some (.lst WL)]) (.c (junk.length + 2)) = some (junk.length + 2, WL) := lstAt_cell m2
  have ap : gMut mAppend (.c (junk.length + 2)) [.t (.tup [])] (wlw w :: junk ++ [some (Cell.lst HV)] ++ [some (.lst WL)]) = .ok (.t .non) (wlw w :: junk ++ [some (Cell.lst HV)] ++ [some (.lst (WL ++ [.tup []]))]) := by
    rw [app_cell m2 (by omega), ← len1, set_snoc]
  have m1 : (wlw w :: junk ++ [some (Cell.lst HV)] ++ [some (.lst (WL ++ [.tup []]))])[junk.length + 1]? = some (some (.lst HV)) := by
    rw [List.getElem?_append_left (by rw [len1]; omega)]; exact hk
  have la1 : lstAt (wlw w :: junk ++ [some (Cell.lst HV)] ++ [some (.lst (WL ++ [.tup []]))]) (.c (junk.length + 1)) = some (junk.length + 1, HV) := lstAt_cell m1
  have cl : gMut mClear (.c (junk.length + 1)) [] (wlw w :: junk ++ [some (Cell.lst HV)] ++ [some (.lst (WL ++ [.tup []]))]) = .ok (.t .non) (wlw w :: (junk ++ [some (.lst []), some (.lst (WL ++ [.tup []]))])) := by
    simp only [gMut, la1, asT, mClear]
    congr 1
    rw [List.set_append_left _ _ (by rw [len1]; omega)]
    show (wlw w :: ((junk ++ [some (Cell.lst HV)]).set junk.length (some (.lst [])))) ++ _ = _
    rw [set_snoc]
    simp
  have tp : ∀ κ, PM.gTup [] κ = .ok (.t (.tup [])) κ := fun κ => gTup_ok rfl (szL _ (by simp))
  have asd : ∀ s16 s17 : Option Val, asg (.tp [.nm 16, .nm 17]) (.g .tup [.t (hV (pcL (sizesL (h0 :: hs))) (duesL h0 (h0 :: hs))), .c (junk.length + 2)]) (sR71 cs b a (some (.t (.int (pcL (sizesL (h0 :: hs)) : Int)))) s5 s6 s7 (some (.t (.lst (deedsV (h0 :: hs))))) s9 (some (.t (.lst HV))) s11 (some (.t (.lst ((duesL h0 (h0 :: hs)).map dV)))) (some (.t (.lst WL))) s14 (some (.c (junk.length + 1))) s16 s17) = some (sR71 cs b a (some (.t (.int (pcL (sizesL (h0 :: hs)) : Int)))) s5 s6 s7 (some (.t (.lst (deedsV (h0 :: hs))))) s9 (some (.t (.lst HV))) s11 (some (.t (.lst ((duesL h0 (h0 :: hs)).map dV)))) (some (.t (.lst WL))) s14 (some (.c (junk.length + 1))) (some (.t (hV (pcL (sizesL (h0 :: hs))) (duesL h0 (h0 :: hs))))) (some (.c (junk.length + 2)))) := fun _ _ => rfl
  have len0 : (wlw w :: junk).length = junk.length + 1 := rfl
  generalize wlw w :: (junk ++ [some (Cell.lst []), some (.lst (WL ++ [.tup []]))]) = S4 at *
  generalize wlw w :: junk ++ [some (Cell.lst HV)] ++ [some (.lst (WL ++ [.tup []]))] = S3 at *
  generalize wlw w :: junk ++ [some (Cell.lst HV)] ++ [some (.lst WL)] = S2 at *
  generalize hS1 : wlw w :: junk ++ [some (Cell.lst HV)] = S1 at *
  simp only [sR71] at *
  generalize hV (pcL (sizesL (h0 :: hs))) (duesL h0 (h0 :: hs)) = HP at *
  generalize (duesL h0 (h0 :: hs)).map dV = DL at *
  generalize deedsV (h0 :: hs) = DH at *
  generalize natL cs = NC at *
  generalize hPC : (pcL (sizesL (h0 :: hs)) : Int) = PC at *
  have gc : ∀ (fn : PM.Fn) (k : Nat) (μ : Store), PM.gCall 1 fn [.c k] μ = fn [.c k] μ := fun _ _ _ => rfl
  have nvi : neV (.int PC) (.int PC) = some (.bl false) := by simp
  simp only [f2__law_right, sSeq_eq, sAsg_nm, eCellF_eq, eN_eq, aCons_eq, aNil_eq, eV_eq, List.getElem?_cons_succ, List.getElem?_cons_zero, bind_ok, lf, len0, hS1, st_ok, List.set_cons_succ, List.set_cons_zero, seq_nx, gc, pr, sAsg_tp, asd, sIf_eq, tOr_eq, tNot_eq, tVal_eq, e2_eq, e1_eq, eMeth_eq, o2, md, o3, mt, p2_t, nv1, nvi, p4, ty, Option.map_some, orok_some, gBl_bl, if_true, if_false, Bool.false_eq_true, Bool.not_true, sPass_eq, sExp_eq, eMutG, la2, tp, ap, la1, cl, gCall_1]
end
section
variable {cs : List Nat} {hs : Hs} {h0 : Nat × List Dd} {z : List (List Nat × Nat)} {b : Bool} {a : Nat} {s4 s5 s6 s7 s8 s9 s10 s11 s12 s13 s14 s15 s16 s17 : Option Val}
/-! the law: a house that does not fit; the two turns; the end -/
def bad71 : MSt :=
  (sIf (tAnd' (tVal (eV 2)) (tVal (e2 (p2 gtV) (eN (pN lenV) (aCons (eV 1) aNil)) (eC (.int 1)))))
      (sSeq (sAsg (.nm 11) (eCellF (eN (pfN listF) (aCons (eV 10) aNil))))
    (sSeq (sSetL (eMake "House" ["size", "by_name"] 2 fi_House (aCons (e2 (p2 atV) (eV 1) (eV 3)) (aCons (eN (gCall 2 fn__law_unfit) (aCons (eV 0) (aCons (e2 (p2 atV) (eV 8) (eV 3)) aNil))) aNil))) (eV 11) (eV 3))
    (sSeq (sFrz 11) (sIf (tVal (e2 (p2 neV) (eN (gCall 1 fn__law_told) (aCons (eV 11) aNil)) (eN gTup (aCons (eC (.str "no fit")) (aCons (eC (.bl true)) aNil)))))
      (sRet (eC (.bl false)))
      sPass))))
      sPass)
theorem sizes_at {i : Nat} (hi : i < hs.length) : atV (.lst (natL (sizesL hs))) (.int (i : Int)) = some (.int (((hs[i]).1 : Nat) : Int)) := by
  have ix : ixN (natL (sizesL hs)).length (i : Int) = some i := by
    unfold ixN; rw [if_pos (by omega), if_pos (by simp [natL, sizesL]; omega)]; rfl
  show atI (natL (sizesL hs)) (i : Int) = _
  unfold atI
  rw [ix]
  simp [natL, sizesL, hi]
theorem deedsV_at {i : Nat} (hi : i < hs.length) : atV (.lst (deedsV hs)) (.int (i : Int)) = some (.lst ((hs[i]).2.map dV)) := by
  have ix : ixN (deedsV hs).length (i : Int) = some i := by
    unfold ixN; rw [if_pos (by omega), if_pos (by simp [deedsV]; omega)]; rfl
  show atI (deedsV hs) (i : Int) = _
  unfold atI
  rw [ix]
  simp [deedsV, hi]
theorem bad71_ok {w : W3} {t : Store} (hc : ∀ h ∈ hs, 1 ≤ h.1 ∧ h.1 ≤ 4) (ha : a < hs.length) (hd : ∀ h ∈ hs, okDs h.1 h.2 ∧ sigD h.2 = z) (hzl : z.length ≤ 3) (hx : ∀ q ∈ z, xEnd q.1) (hl : hs.length ≤ 3) (lt : lfStore t = true) :
    ∃ s11' w' t', lfStore t' = true ∧ bad71 (sR71 (sizesL hs) b a s4 s5 s6 s7 (some (.t (.lst (deedsV hs)))) s9 (some (.t (.lst (housesV hs)))) s11 s12 s13 s14 s15 s16 s17) (wlw w :: t) = .nx (sR71 (sizesL hs) b a s4 s5 s6 s7 (some (.t (.lst (deedsV hs)))) s9 (some (.t (.lst (housesV hs)))) s11' s12 s13 s14 s15 s16 s17) (wlw w' :: t') := by
  have ln : ∀ κ, pN lenV [.t (.lst (natL (sizesL hs)))] κ = .ok (.t (.int (hs.length : Int))) κ := fun κ => by
    simp [pN, views, view, lenV, natL, sizesL]
  by_cases h2 : b = true ∧ 1 < hs.length
  · obtain ⟨rfl, h2⟩ := h2
    have hm := List.getElem_mem ha
    have hd1 : ∀ d ∈ (hs[a]).2, xEnd d.1 := fun d hd' => hx (d.1, d.2.1) (by
      rw [← (hd _ hm).2]
      exact List.mem_map_of_mem (f := fun d : Dd => (d.1, d.2.1)) hd')
    have hl1 : (hs[a]).2.length ≤ 3 := by
      have := congrArg List.length (hd _ hm).2
      unfold sigD at this
      rw [List.length_map] at this
      omega
    have hc1 := hc _ hm
    obtain ⟨es, w', oe, sne, eu⟩ := unfit_w (n := (hs[a]).1) (ds := (hs[a]).2) w hc1.1 (by omega) (hd _ hm).1 hl1 hd1
    obtain ⟨g0, gs, eg, nfit⟩ := mis_fit (hs := hs) (z := z) (i := a) (c := (hs[a]).1) (es := es) h2 ha (fun h hh => (hd h hh).2) (by rw [← (hd _ hm).2]; exact sne)
    have hlg : (g0 :: gs).length ≤ 9 := by rw [← eg, List.length_set]; omega
    have hog : ∀ h ∈ g0 :: gs, h.2.length ≤ 6 := fun h hh => by
      rw [← eg] at hh
      rcases List.mem_or_eq_of_mem_set hh with hh | rfl
      · exact (hd h hh).1.len
      · exact oe.len
    have td := told_fit (μ := wlw w' :: (t ++ [none])) hlg hog nfit
    have hv : (housesV hs).set a (hV (hs[a]).1 es) = housesV (g0 :: gs) := by
      rw [← eg]
      unfold housesV
      rw [List.map_set]
    have mk := m_make (n := (hs[a]).1) (ds := es) (μ := wlw w' :: (t ++ [some (.lst (housesV hs))])) hc1.1 (by omega) oe
    refine ⟨some (.t (.lst (housesV (g0 :: gs)))), w', t ++ [none], lfStore_app lt rfl, ?_⟩
    have a1 := sizes_at ha
    have a2 := deedsV_at ha
    have eu' := eu (t ++ [some (.lst (housesV hs))])
    have la : lstAt (wlw w' :: (t ++ [some (Cell.lst (housesV hs))])) (.c (t.length + 1)) = some (t.length + 1, housesV hs) := lstAt_cell (by show (t ++ [some (Cell.lst (housesV hs))])[t.length]? = _; exact at_snoc)
    have ix : ixN (housesV hs).length (a : Int) = some a := by
      unfold ixN; rw [if_pos (by omega), if_pos (by simp [housesV]; omega)]; rfl
    have sl : gSetL (.t (hV (hs[a]).1 es)) (.c (t.length + 1)) (.t (.int (a : Int))) (wlw w' :: (t ++ [some (Cell.lst (housesV hs))])) = some (wlw w' :: (t ++ [some (Cell.lst (housesV (g0 :: gs)))])) := by
      simp only [gSetL, la, ix, Option.map_some, hv]
      show some (wlw w' :: ((t ++ [some (Cell.lst (housesV hs))]).set t.length _)) = _
      rw [set_snoc]
    have fz : frz1 (wlw w' :: (t ++ [some (Cell.lst (housesV (g0 :: gs)))])) (.c (t.length + 1)) = some (.t (.lst (housesV (g0 :: gs))), wlw w' :: (t ++ [none])) := by
      rw [frz_lst (ds := housesV (g0 :: gs)) (by show (t ++ [some (Cell.lst (housesV (g0 :: gs)))])[t.length]? = _; exact at_snoc)]
      show some (_, wlw w' :: ((t ++ [some (Cell.lst (housesV (g0 :: gs)))]).set t.length none)) = _
      rw [set_snoc]
    have lf : pfN listF [.t (.lst (housesV hs))] (wlw w :: t) = .ok (housesV hs) (wlw w :: t) := rfl
    have gt1 : gtV (.int (hs.length : Int)) (.int 1) = some (.bl true) := by
      show some (PV.bl (decide (_ < _))) = _
      rw [decide_eq_true (by omega)]
    have len0 : (wlw w :: t).length = t.length + 1 := rfl
    have ap : wlw w :: t ++ [some (Cell.lst (housesV hs))] = wlw w :: (t ++ [some (Cell.lst (housesV hs))]) := rfl
    have tp : ∀ κ, PM.gTup [.t (.str "no fit"), .t (.bl true)] κ = .ok (.t (.tup [.str "no fit", .bl true])) κ := fun κ => gTup_ok rfl (szL _ (by simp))
    have nn : neV (.tup [.str "no fit", .bl true]) (.tup [.str "no fit", .bl true]) = some (.bl false) := neV_self (k := 2) (SD_2 SD_str (by simp))
    generalize wlw w' :: (t ++ [none]) = S4 at *
    generalize wlw w' :: (t ++ [some (Cell.lst (housesV (g0 :: gs)))]) = S3 at *
    generalize wlw w' :: (t ++ [some (Cell.lst (housesV hs))]) = S2 at *
    generalize wlw w :: (t ++ [some (Cell.lst (housesV hs))]) = S1 at *
    simp only [sR71]
    generalize housesV (g0 :: gs) = HG at *
    generalize housesV hs = HV at *
    generalize deedsV hs = DH at *
    generalize natL (sizesL hs) = NC at *
    generalize hV (hs[a]).1 es = HE at *
    generalize es.map dV = DE at *
    generalize (hs[a]).2.map dV = DA at *
    generalize (((hs[a]).1 : Nat) : Int) = CA at *
    generalize (PV.tup [.str "no fit", .bl true]) = NF at *
    simp only [bad71, sIf_eq, tAnd_eq, tVal_eq, eV_eq, List.getElem?_cons_succ, List.getElem?_cons_zero, bind_ok, e2_eq, eN_eq, aCons_eq, aNil_eq, ln, eC_eq, p2_t, gt1, Option.map_some, orok_some, gBl_bl, if_true, sSeq_eq, sAsg_nm, eCellF_eq, lf, len0, ap, st_ok, List.set_cons_succ, List.set_cons_zero, seq_nx, sSetL, eMake_eq, a1, a2, gCall_2c, eu', List.all_cons, List.all_nil, Val.plain, Bool.and_self, List.length_cons, List.length_nil, decide_true, mk, sl, sFrz, fz, gCall_1, td, tp, nn, Bool.false_eq_true, if_false, sPass_eq]
  · refine ⟨s11, w, t, lt, ?_⟩
    have gt1 : gtV (.int (hs.length : Int)) (.int 1) = some (.bl (decide (1 < hs.length))) := by
      show some (PV.bl (decide (_ < _))) = _
      congr 2
      rw [decide_eq_decide]
      omega
    generalize wlw w :: t = S1 at *
    simp only [sR71]
    generalize housesV hs = HV at *
    generalize deedsV hs = DH at *
    generalize natL (sizesL hs) = NC at *
    cases b with
    | false => simp only [bad71, sIf_eq, tAnd_eq, tVal_eq, eV_eq, List.getElem?_cons_succ, List.getElem?_cons_zero, bind_ok, gBl_bl, st_ok, Bool.false_eq_true, if_false, sPass_eq]
    | true =>
      have h3 : decide (1 < hs.length) = false := decide_eq_false fun h => h2 ⟨rfl, h⟩
      rw [h3] at gt1
      simp only [bad71, sIf_eq, tAnd_eq, tVal_eq, eV_eq, List.getElem?_cons_succ, List.getElem?_cons_zero, bind_ok, e2_eq, eN_eq, aCons_eq, aNil_eq, ln, eC_eq, p2_t, gt1, Option.map_some, orok_some, gBl_bl, st_ok, if_true, Bool.false_eq_true, if_false, sPass_eq]
end
section
variable {cs : List Nat} {hs : Hs} {h0 : Nat × List Dd} {z : List (List Nat × Nat)} {b : Bool} {a : Nat} {s4 s5 s6 s7 s8 s9 s10 s11 s12 s13 s14 s15 s16 s17 : Option Val}
/-! the law: two turns, and its run -/
theorem loop71 {w : W3} {junk : Store} (al : AllF h0 (h0 :: hs)) (hl : (h0 :: hs).length ≤ 9) (h9 : pcL (sizesL (h0 :: hs)) ≤ 9) (ls : lfStore junk = true) :
    ∃ x14 x15 x16 x17 junk', lfStore junk' = true ∧ forL (.nm 14) f2__law_right (rgI 0 2) (sR71 cs b a (some (.t (.int (pcL (sizesL (h0 :: hs)) : Int)))) s5 s6 s7 (some (.t (.lst (deedsV (h0 :: hs))))) s9 (some (.t (.lst (housesV (h0 :: hs))))) s11 (some (.t (.lst ((duesL h0 (h0 :: hs)).map dV)))) (some (.t (.lst (waysL (h0 :: hs))))) s14 s15 s16 s17) (wlw w :: junk) =
      .nx (sR71 cs b a (some (.t (.int (pcL (sizesL (h0 :: hs)) : Int)))) s5 s6 s7 (some (.t (.lst (deedsV (h0 :: hs))))) s9 (some (.t (.lst (housesV (h0 :: hs))))) s11 (some (.t (.lst ((duesL h0 (h0 :: hs)).map dV)))) (some (.t (.lst (waysL (h0 :: hs))))) x14 x15 x16 x17) (wlw w :: junk') := by
  obtain ⟨y15, y16, y17, j1, l1, e1⟩ := turn71 (cs := cs) (b := b) (a := a) (s5 := s5) (s6 := s6) (s7 := s7) (s9 := s9) (s11 := s11) (s14 := some (.t (.int 0))) (s15 := s15) (s16 := s16) (s17 := s17) (w := w) al hl h9 ls
  obtain ⟨x15, x16, x17, j2, l2, e2⟩ := turn71 (cs := cs) (b := b) (a := a) (s5 := s5) (s6 := s6) (s7 := s7) (s9 := s9) (s11 := s11) (s14 := some (.t (.int 1))) (s15 := y15) (s16 := y16) (s17 := y17) (w := w) al hl h9 l1
  refine ⟨some (.t (.int 1)), x15, x16, x17, j2, l2, ?_⟩
  have r : rgI 0 2 = [.int 0, .int 1] := rfl
  generalize duesL h0 (h0 :: hs) = DU at *
  generalize waysL (h0 :: hs) = WL at *
  generalize housesV (h0 :: hs) = HV at *
  generalize deedsV (h0 :: hs) = DV at *
  generalize (pcL (sizesL (h0 :: hs)) : Int) = PC at *
  rw [r, forL_nx (σ1 := sR71 cs b a (some (.t (.int PC))) s5 s6 s7 (some (.t (.lst DV))) s9 (some (.t (.lst HV))) s11 (some (.t (.lst (DU.map dV)))) (some (.t (.lst WL))) (some (.t (.int 0))) s15 s16 s17) rfl e1, forL_nx (σ1 := sR71 cs b a (some (.t (.int PC))) s5 s6 s7 (some (.t (.lst DV))) s9 (some (.t (.lst HV))) s11 (some (.t (.lst (DU.map dV)))) (some (.t (.lst WL))) (some (.t (.int 1))) y15 y16 y17) rfl e2]
  rfl
def end71 : MSt :=
  (sSeq (sIf (tVal (e2 (p2 gtV) (eV 4) (eC (.int 9))))
      (sRet (e2 (p2 eqV) (eN (gCall 1 fn__law_told) (aCons (eV 10) aNil)) (eN gTup (aCons (eC (.str "too many")) (aCons (eC (.int 9)) aNil)))))
      sPass)
    (sSeq (sFrz 8) (sSeq (sAsg (.tp [(.nm 12), (.nm 13)]) (eN (gCall 2 fn__law_due) (aCons (eV 1) (aCons (eV 8) aNil))))
    (sSeq (sFor (eN gRange1 (aCons (eC (.int 2)) aNil)) (.nm 14) f2__law_right)
    (sRet (e2 (p2 eqV) (eOfF (lcF (e1 gIt (eV 10)) (.nm 21) tYes' e5__law_right)) (eV 8)))))))
theorem SD_deeds (al : AllF h0 hs) (hl : hs.length ≤ 9) : SD 4 (.lst (deedsV hs)) := SD_lst.mpr ⟨by simp [deedsV]; omega, fun x hx => by
  obtain ⟨h, hh, rfl⟩ := List.mem_map.mp hx
  have o := al.ok h hh
  exact (o.2.2.sb o.2.1).sd⟩
theorem end71_ok {w : W3} {t : Store} (al : AllF h0 (h0 :: hs)) (hl : (h0 :: hs).length ≤ 9) (lt : lfStore t = true) :
    ∃ t', end71 (sR71 (sizesL (h0 :: hs)) b a (some (.t (.int (pcL (sizesL (h0 :: hs)) : Int)))) s5 s6 s7 (some (.t (.lst (deedsV (h0 :: hs))))) s9 (some (.t (.lst (housesV (h0 :: hs))))) s11 s12 s13 s14 s15 s16 s17) (wlw w :: t) = .rt (.t (.bl true)) (wlw w :: t') := by
  by_cases h9 : 9 < pcL (sizesL (h0 :: hs))
  · have td := told_many (μ := wlw w :: t) al hl h9
    refine ⟨t, ?_⟩
    have tp : ∀ κ, PM.gTup [.t (.str "too many"), .t (.int 9)] κ = .ok (.t (.tup [.str "too many", .int 9])) κ := fun κ => gTup_ok rfl (szL _ (by simp))
    have ev : PM.eqV (.tup [.str "too many", .int 9]) (.tup [.str "too many", .int 9]) = some (.bl true) := eqV_self (k := 2) (SD_2 SD_str SD_int)
    have gt9 : gtV (.int (pcL (sizesL (h0 :: hs)) : Int)) (.int 9) = some (.bl true) := by
      show some (PV.bl (decide (_ < _))) = _
      rw [decide_eq_true (by omega)]
    generalize wlw w :: t = S1 at *
    simp only [sR71]
    generalize housesV (h0 :: hs) = HV at *
    generalize deedsV (h0 :: hs) = DH at *
    generalize natL (sizesL (h0 :: hs)) = NC at *
    generalize (pcL (sizesL (h0 :: hs)) : Int) = PC at *
    generalize (PV.tup [.str "too many", .int 9]) = TM at *
    simp only [end71, sSeq_eq, sIf_eq, tVal_eq, e2_eq, eV_eq, List.getElem?_cons_succ, List.getElem?_cons_zero, bind_ok, eC_eq, p2_t, gt9, Option.map_some, orok_some, gBl_bl, st_ok, if_true, sRet_eq, eN_eq, aCons_eq, aNil_eq, gCall_1, td, tp, ev, seq_rt]
  · have due := law_due_ok (μ := wlw w :: t) al hl (by omega)
    obtain ⟨x14, x15, x16, x17, t', lt', lp⟩ := loop71 (cs := sizesL (h0 :: hs)) (b := b) (a := a) (s5 := s5) (s6 := s6) (s7 := s7) (s9 := s9) (s11 := s11) (s14 := s14) (s15 := s15) (s16 := s16) (s17 := s17) (w := w) al hl (by omega) lt
    refine ⟨t', ?_⟩
    have r2 : gRange1 [.t (.int 2)] (wlw w :: t) = .ok (rgI 0 2) (wlw w :: t) := range1_ok (n := 2) (by omega)
    have gt9 : gtV (.int (pcL (sizesL (h0 :: hs)) : Int)) (.int 9) = some (.bl false) := by
      show some (PV.bl (decide (_ < _))) = _
      rw [decide_eq_false (by omega)]
    have lc := deeds_of_lc (μ := wlw w :: t') (σ := sR71 (sizesL (h0 :: hs)) b a (some (.t (.int (pcL (sizesL (h0 :: hs)) : Int)))) s5 s6 s7 (some (.t (.lst (deedsV (h0 :: hs))))) s9 (some (.t (.lst (housesV (h0 :: hs))))) s11 (some (.t (.lst ((duesL h0 (h0 :: hs)).map dV)))) (some (.t (.lst (waysL (h0 :: hs))))) x14 x15 x16 x17) rfl (h0 :: hs)
    have zF : szF (deedsV (h0 :: hs)) (wlw w :: t') = .ok (deedsV (h0 :: hs)) (wlw w :: t') := szF_ok (szL _ (by simp [deedsV] at hl ⊢; omega))
    have ev : PM.eqV (.lst (deedsV (h0 :: hs))) (.lst (deedsV (h0 :: hs))) = some (.bl true) := eqV_self (SD_deeds al hl)
    have gi : gIt (.t (.lst (housesV (h0 :: hs)))) (wlw w :: t') = .ok (housesV (h0 :: hs)) (wlw w :: t') := rfl
    generalize wlw w :: t' = S2 at *
    generalize wlw w :: t = S1 at *
    simp only [sR71] at lp lc ⊢
    generalize housesV (h0 :: hs) = HV at *
    generalize deedsV (h0 :: hs) = DH at *
    generalize natL (sizesL (h0 :: hs)) = NC at *
    generalize (pcL (sizesL (h0 :: hs)) : Int) = PC at *
    generalize (duesL h0 (h0 :: hs)).map dV = DU at *
    generalize waysL (h0 :: hs) = WL at *
    have asd : asg (.tp [.nm 12, .nm 13]) (.t (.tup [.lst DU, .lst WL])) [some (.c 0), some (.t (.lst NC)), some (.t (.bl b)), some (.t (.int (a : Int))), some (.t (.int PC)), s5, s6, s7, some (.t (.lst DH)), s9, some (.t (.lst HV)), s11, s12, s13, s14, s15, s16, s17, none, none, none, none, none] = some [some (.c 0), some (.t (.lst NC)), some (.t (.bl b)), some (.t (.int (a : Int))), some (.t (.int PC)), s5, s6, s7, some (.t (.lst DH)), s9, some (.t (.lst HV)), s11, some (.t (.lst DU)), some (.t (.lst WL)), s14, s15, s16, s17, none, none, none, none, none] := rfl
    simp only [end71, sSeq_eq, sIf_eq, tVal_eq, e2_eq, eV_eq, List.getElem?_cons_succ, List.getElem?_cons_zero, bind_ok, eC_eq, p2_t, gt9, Option.map_some, orok_some, gBl_bl, st_ok, Bool.false_eq_true, if_false, sPass_eq, seq_nx, sFrz, frz1, List.set_cons_succ, List.set_cons_zero, sAsg_tp, eN_eq, aCons_eq, aNil_eq, gCall_2, due, asd, sFor_eq, r2, lp, sRet_eq, eOfF_eq, lcF_eq, e1_eq, gi, sl_nm, wipeM, lc, zF, ev]
end
/-! the law's run -/
theorem sig_zip (nms : List (List Nat)) (ps : List Nat) (κ : Store) : gZip [.t (.lst (nms.map fun l => .str (sg l))), .t (.lst (ps.map fun (p : Nat) => .int (p : Int)))] κ = .ok (sigV (nms.zip ps)) κ := by
  rw [← zip_sig]; rfl
theorem zip_fst_sub {α β : Type} : ∀ (a : List α) (b : List β), ((a.zip b).map (·.1)).Sublist a
  | [], _ => by simp
  | x :: a, [] => by simp
  | x :: a, y :: b => by
    show (x :: (a.zip b).map (·.1)).Sublist (x :: a)
    exact (zip_fst_sub a b).cons_cons x
theorem right_w (w : W3) : ∃ w', fn__law_right [.c 0] [wlw w] = .ok (.t (.bl true)) [wlw w'] := by
  obtain ⟨cs, w1, gc, e1⟩ := sizes_w w
  obtain ⟨q, w2, hq, e2'⟩ := drawX w1 4 4
  have cl : 1 ≤ cs.length := by
    rcases cs with _ | ⟨c, cs⟩
    · exact absurd rfl gc.ne
    · simp
  obtain ⟨a, w3, ha, e3⟩ := drawX w2 cs.length (cs.length : Int) rfl (by omega) (by have := gc.len; omega)
  have c9 : ∀ c ∈ cs, 1 ≤ c ∧ c ≤ 9 := fun c hc => by have := gc.ok c hc; omega
  have lr := lrows_ok (μ := [wlw w3]) c9 (by have := gc.len; omega) (by have := gc.pc; omega)
  obtain ⟨mo, hmo, at5⟩ : ∃ mo : Nat, (mo = 2 ∨ mo = 3) ∧ ∃ i : Int, intV [.bl (decide ((pcL cs : Int) < 5))] = some (.int i) ∧ atV (.lst [.int 2, .int 3]) (.int i) = some (.int (mo : Int)) := by
    by_cases h : (pcL cs : Int) < 5
    · exact ⟨3, .inr rfl, 1, by rw [decide_eq_true h]; rfl, rfl⟩
    · exact ⟨2, .inl rfl, 0, by rw [decide_eq_false h]; rfl, rfl⟩
  obtain ⟨i5, iv, at5⟩ := at5
  obtain ⟨m, w4, hm, e4⟩ := drawX w3 4 4
  obtain ⟨ps, w5, pl, pk, e5⟩ := places_w hmo (σ := [some (.c 0), some (.t (.lst (natL cs))), some (.t (.bl (decide ((q : Int) = 0)))), some (.t (.int (a : Int))), some (.t (.int (pcL cs : Int))), some (.t (.int (mo : Int))), none, none, none, none, none, none, none, none, none, none, none, none, none, none, none, none, none]) rfl rfl rfl m w4
  obtain ⟨nms, w6, nl, ng, nn, e6⟩ := names7 w5 (m := m) (by omega)
  have wx := withX_lc ng (σ := [some (.c 0), some (.t (.lst (natL cs))), some (.t (.bl (decide ((q : Int) = 0)))), some (.t (.int (a : Int))), some (.t (.int (pcL cs : Int))), some (.t (.int (mo : Int))), some (.t (.lst (ps.map fun (p : Nat) => .int (p : Int)))), none, none, none, none, none, none, none, none, none, none, none, none, none, none, none, none]) rfl (μ := [wlw w6])
  obtain ⟨x1, x2, x3⟩ := withX_ok ng nn
  obtain ⟨k, hk⟩ : ∃ k, k = (withX nms).length := ⟨_, rfl⟩
  have zm := zip_mem (nms := withX nms) (ps := ps.take k) x1 (fun p hp => pk p (List.mem_of_mem_take hp))
  have zn : (((withX nms).zip (ps.take k)).map (·.1)).Nodup := by
    exact List.Nodup.sublist (zip_fst_sub _ _) x2
  have zl : ((withX nms).zip (ps.take k)).length ≤ 3 := by
    rw [List.length_zip]; omega
  obtain ⟨hs, w7, a9, sz, hd, lp⟩ := deeds_loop71 (z := (withX nms).zip (ps.take k)) (nms := (withX nms).map fun l => .str (sg l)) (pls := (ps.take k).map fun (p : Nat) => .int (p : Int)) (s1 := some (.t (.lst (natL cs)))) (s2 := some (.t (.bl (decide ((q : Int) = 0))))) (s3 := some (.t (.int (a : Int)))) (s4 := some (.t (.int (pcL cs : Int)))) (s5 := some (.t (.int (mo : Int)))) (s10 := none) (s11 := none) (s12 := none) (s13 := none) (s14 := none) (s15 := none) (s16 := none) (s17 := none) (s18 := none) (s20 := none) (s21 := none) (fun p hp => (zm p hp).1) zn zl (sig_zip _ _) cs [] w6 none gc.ok (by have := gc.len; simp; omega)
  have hl : hs.length = cs.length := by rw [← sz]; simp [sizesL]
  have hl3 := gc.len
  have hc4 : ∀ h ∈ hs, 1 ≤ h.1 ∧ h.1 ≤ 4 := fun h hh => gc.ok h.1 (by rw [← sz]; exact List.mem_map_of_mem (f := (·.1)) hh)
  obtain ⟨h0, hs', rfl⟩ : ∃ h0 hs', hs = h0 :: hs' := by
    rcases hs with _ | ⟨h0, hs'⟩
    · simp at hl; omega
    · exact ⟨h0, hs', rfl⟩
  have al : AllF h0 (h0 :: hs') := ⟨fun h hh => ⟨(hc4 h hh).1, by have := (hc4 h hh).2; omega, (hd h hh).1⟩, fun h hh => by rw [(hd h hh).2, (hd h0 List.mem_cons_self).2]⟩
  subst sz
  obtain ⟨s11', w8, t8, lt8, e8⟩ := bad71_ok (b := decide ((q : Int) = 0)) (a := a) (s4 := some (.t (.int (pcL (sizesL (h0 :: hs')) : Int)))) (s5 := some (.t (.int (mo : Int)))) (s6 := some (.t (.lst ((ps.take k).map fun (p : Nat) => .int (p : Int))))) (s7 := some (.t (.lst ((withX nms).map fun l => .str (sg l))))) (s9 := a9) (s11 := none) (s12 := none) (s13 := none) (s14 := none) (s15 := none) (s16 := none) (s17 := none) (w := w7) (t := [none]) hc4 (by omega) hd zl (fun q hq => (zm q hq).2) (by omega) rfl
  obtain ⟨t9, e9⟩ := end71_ok (b := decide ((q : Int) = 0)) (a := a) (s5 := some (.t (.int (mo : Int)))) (s6 := some (.t (.lst ((ps.take k).map fun (p : Nat) => .int (p : Int))))) (s7 := some (.t (.lst ((withX nms).map fun l => .str (sg l))))) (s9 := a9) (s11 := s11') (s12 := none) (s13 := none) (s14 := none) (s15 := none) (s16 := none) (s17 := none) (w := w8) al (by omega) lt8
  have hlc := houses_lc (μ := [wlw w7, none]) (σ := [some (.c 0), some (.t (.lst (natL (sizesL (h0 :: hs'))))), some (.t (.bl (decide ((q : Int) = 0)))), some (.t (.int (a : Int))), some (.t (.int (pcL (sizesL (h0 :: hs')) : Int))), some (.t (.int (mo : Int))), some (.t (.lst ((ps.take k).map fun (p : Nat) => .int (p : Int)))), some (.t (.lst ((withX nms).map fun l => .str (sg l)))), some (.t (.lst (deedsV (h0 :: hs')))), none, none, none, none, none, none, none, none, none, none, none, none, none, none]) rfl (h0 :: hs') al.ok
  refine ⟨w8, ?_⟩
  have e1' := e1 []
  have e2'' := e2' []
  have e3' := e3 []
  have e4' := e4 []
  have e5' := e5 []
  have e6' := e6 []
  have rm := range1_ok (n := m) (μ := [wlw w4]) (by omega)
  have zP : szF (ps.map fun (p : Nat) => PV.int (p : Int)) [wlw w5] = .ok (ps.map fun (p : Nat) => .int (p : Int)) [wlw w5] := szF_ok (szL _ (by simp; omega))
  have zN : szF ((withX nms).map fun l => PV.str (sg l)) [wlw w6] = .ok ((withX nms).map fun l => PV.str (sg l)) [wlw w6] := szF_ok (szL _ (by simp; omega))
  have zH : szF (housesV (h0 :: hs')) [wlw w7, none] = .ok (housesV (h0 :: hs')) [wlw w7, none] := szF_ok (szL _ (by simp [housesV] at hl ⊢; omega))
  have lnC : ∀ κ, pN lenV [.t (.lst (natL (sizesL (h0 :: hs'))))] κ = .ok (.t (.int ((sizesL (h0 :: hs')).length : Int))) κ := fun κ => by simp [pN, views, view, lenV, natL]
  have lnR : pN lenV [.t (.lst ((rowsL (sizesL (h0 :: hs'))).map tupI))] [wlw w3] = .ok (.t (.int (pcL (sizesL (h0 :: hs')) : Int))) [wlw w3] := by
    rw [← rowsL_len]
    simp [pN, views, view, lenV]
  have lnP : pN lenV [.t (.lst (ps.map fun (p : Nat) => .int (p : Int)))] [wlw w5] = .ok (.t (.int (m : Int))) [wlw w5] := by
    rw [← pl]; simp [pN, views, view, lenV]
  have lnN : pN lenV [.t (.lst ((withX nms).map fun l => .str (sg l)))] [wlw w6] = .ok (.t (.int (k : Int))) [wlw w6] := by
    rw [hk]; simp [pN, views, view, lenV]
  have sl6 : slV none (some (k : Int)) (.lst (ps.map fun (p : Nat) => .int (p : Int))) = some (.lst ((ps.take k).map fun (p : Nat) => .int (p : Int))) := by
    rw [slV_lst, cut_to', List.map_take]
  have giN : ∀ κ, gIt (.t (.lst (nms.map fun l => .str (sg l)))) κ = .ok (nms.map fun l => .str (sg l)) κ := fun κ => rfl
  have giC : ∀ κ, gIt (.t (.lst (natL (sizesL (h0 :: hs'))))) κ = .ok (natL (sizesL (h0 :: hs'))) κ := fun κ => rfl
  have gzH : ∀ κ, gZip [.t (.lst (natL (sizesL (h0 :: hs')))), .t (.lst (deedsV (h0 :: hs')))] κ = .ok ((h0 :: hs').map fun h => .tup [.int (h.1 : Int), .lst (h.2.map dV)]) κ := fun κ => by rw [← zip_houses]; rfl
  have fz : frz1 [wlw w7, some (Cell.lst (deedsV (h0 :: hs')))] (.c 1) = some (.t (.lst (deedsV (h0 :: hs'))), [wlw w7, none]) := rfl
  have gl23 : ∀ κ, PM.gLst [.t (.int 2), .t (.int 3)] κ = .ok [.int 2, .int 3] κ := fun κ => gLst_ok rfl (szL _ (by simp))
  have gl0 : ∀ κ, PM.gLst [] κ = .ok [] κ := fun κ => gLst_ok rfl (szL _ (by simp))
  have iv' : ∀ κ, pN intV [.t (.bl (decide ((pcL (sizesL (h0 :: hs')) : Int) < 5)))] κ = .ok (.t (.int i5)) κ := fun κ => by simp [pN, views, view, iv]
  have lp' : forL (.nm 9) f1__law_right (natL (sizesL (h0 :: hs'))) [some (.c 0), some (.t (.lst (natL (sizesL (h0 :: hs'))))), some (.t (.bl (decide ((q : Int) = 0)))), some (.t (.int (a : Int))), some (.t (.int (pcL (sizesL (h0 :: hs')) : Int))), some (.t (.int (mo : Int))), some (.t (.lst ((ps.take k).map fun (p : Nat) => .int (p : Int)))), some (.t (.lst ((withX nms).map fun l => .str (sg l)))), some (.c 1), none, none, none, none, none, none, none, none, none, none, none, none, none, none] [wlw w6, some (.lst [])] = .nx [some (.c 0), some (.t (.lst (natL (sizesL (h0 :: hs'))))), some (.t (.bl (decide ((q : Int) = 0)))), some (.t (.int (a : Int))), some (.t (.int (pcL (sizesL (h0 :: hs')) : Int))), some (.t (.int (mo : Int))), some (.t (.lst ((ps.take k).map fun (p : Nat) => .int (p : Int)))), some (.t (.lst ((withX nms).map fun l => .str (sg l)))), some (.c 1), a9, none, none, none, none, none, none, none, none, none, none, none, none, none] [wlw w7, some (.lst (deedsV (h0 :: hs')))] := lp
  clear lp e1 e2' e3 e4 e5 e6
  have gc1 : ∀ (fn : PM.Fn) (k : Nat) (μ : Store), PM.gCall 1 fn [.c k] μ = fn [.c k] μ := fun _ _ _ => rfl
  have bb : b__law_right (startM 23 [.c 0]) [wlw w] = .rt (.t (.bl true)) (wlw w8 :: t9) := by
    have hb : b__law_right = (sSeq (sAsg (.nm 1) (eN (gCall 1 fn__law_sizes) (aCons (eV 0) aNil)))
    (sSeq (sAsg (.nm 2) (e2 (p2 eqV) (eN (gCall 2 fn__law_draw) (aCons (eV 0) (aCons (eC (.int 4)) aNil))) (eC (.int 0))))
    (sSeq (sAsg (.nm 3) (eN (gCall 2 fn__law_draw) (aCons (eV 0) (aCons (eN (pN lenV) (aCons (eV 1) aNil)) aNil))))
    (sSeq (sAsg (.nm 4) (eN (pN lenV) (aCons (eN (gCall 1 fn__law_rows) (aCons (eV 1) aNil)) aNil)))
    (sSeq (sAsg (.nm 5) (e2 (p2 atV) (eOfF (eN gLst (aCons (eC (.int 2)) (aCons (eC (.int 3)) aNil)))) (eN (pN intV) (aCons (e2 (p2 ltV) (eV 4) (eC (.int 5))) aNil))))
    (sSeq (sAsg (.nm 6) (eOfF (lcF (eN gRange1 (aCons (eN (gCall 2 fn__law_draw) (aCons (eV 0) (aCons (eC (.int 4)) aNil))) aNil)) (.nm 18) tYes' e1__law_right)))
    (sSeq (sAsg (.nm 7) (eOfF (lcF (e1 gIt (eN (gCall 2 fn__law_names) (aCons (eV 0) (aCons (eN (pN lenV) (aCons (eV 6) aNil)) aNil)))) (.nm 19) t1__law_right e2__law_right)))
    (sSeq (sAsg (.nm 6) (eSl (fun l h => p1 (slV l h)) (eV 6) oNone (oSome (eN (pN lenV) (aCons (eV 7) aNil)))))
    (sSeq (sAsg (.nm 8) (eCellF (eN gLst aNil)))
    (sSeq (sFor (e1 gIt (eV 1)) (.nm 9) f1__law_right)
    (sSeq (sFrz 8) (sSeq (sAsg (.nm 10) (eOfF (lcF (eN gZip (aCons (eV 1) (aCons (eV 8) aNil))) (.tp [(.nm 9), (.nm 20)]) tYes' e4__law_right)))
    (sSeq bad71 end71))))))))))))) := rfl
    rw [hb]
    clear hb
    generalize bad71 = B71 at *
    generalize end71 = E71 at *
    simp only [sR71] at e8 e9
    generalize natL (sizesL (h0 :: hs')) = NC at *
    generalize (sizesL (h0 :: hs')).length = NL at *
    generalize (pcL (sizesL (h0 :: hs')) : Int) = PC at *
    generalize deedsV (h0 :: hs') = DH at *
    generalize housesV (h0 :: hs') = HV at *
    generalize ((h0 :: hs').map fun h => PV.tup [.int (h.1 : Int), .lst (h.2.map dV)]) = ZH at *
    generalize (rowsL (sizesL (h0 :: hs'))).map tupI = RR at *
    generalize ((ps.take k).map fun (p : Nat) => PV.int (p : Int)) = PT at *
    generalize (ps.map fun (p : Nat) => PV.int (p : Int)) = PP at *
    generalize ((withX nms).map fun l => PV.str (sg l)) = XN at *
    generalize (nms.map fun l => PV.str (sg l)) = NN at *
    have hw : wipeM [some (.c 0), some (.t (.lst NC)), some (.t (.bl (decide ((q : Int) = 0)))), some (.t (.int (a : Int))), some (.t (.int PC)), some (.t (.int (mo : Int))), some (.t (.lst PT)), some (.t (.lst XN)), some (.t (.lst DH)), a9, none, none, none, none, none, none, none, none, none, none, none, none, none] (sls [Tgt.nm 9, Tgt.nm 20]) = [some (.c 0), some (.t (.lst NC)), some (.t (.bl (decide ((q : Int) = 0)))), some (.t (.int (a : Int))), some (.t (.int PC)), some (.t (.int (mo : Int))), some (.t (.lst PT)), some (.t (.lst XN)), some (.t (.lst DH)), none, none, none, none, none, none, none, none, none, none, none, none, none, none] := rfl
    have asi : ltV (.int PC) (.int 5) = some (.bl (decide (PC < 5))) := rfl
    simp only [startM, List.map_cons, List.map_nil, List.length_cons, List.length_nil, List.cons_append, List.nil_append, List.replicate, sSeq_eq, sAsg_nm, e2_eq, eN_eq, aCons_eq, aNil_eq, eV_eq, eC_eq, List.getElem?_cons_succ, List.getElem?_cons_zero, bind_ok, gc1, gCall_2c, e1', e2'', p2_t, eqV_int, lnC, e3', Option.map_some, orok_some, st_ok, List.set_cons_succ, List.set_cons_zero, seq_nx, gCall_1, lr, lnR, eOfF_eq, gl23, asi, iv', at5, lcF_eq, e4', rm, sl_nm, wipeM, e5', zP, lnP, e6', e1_eq, giN, wx, zN, eSl_eq, oNone_eq, oSome_eq, lnN, gOpt_int, p1_t, sl6, eCellF_eq, gl0, List.length_singleton, sFor_eq, giC, lp', sFrz, fz, gzH, sl_tp, hw, hlc, zH, e8, e9]
  show endM [wlw w].length (b__law_right (startM 23 [.c 0]) [wlw w]) = _
  rw [bb]
  rfl

/-! the law's turns; right_w ahead -/
theorem law_turn1 {ns : List Int} {i : Nat} {n : Int} : sScope f1_law [some (.s ns), some (.t (.int i)), some (.t (.int n))] [] = .nx [some (.s ns), some (.t (.int i)), some (.t (.int n))] [] := by
  have md := mod_ok (i := n) (j := 2147483647) (by decide)
  have pw : powV (.int 10) (.int 18) = some (.int 1000000000000000000) := rfl
  have key : ∃ z, f1_law [some (.s ns), some (.t (.int i)), some (.t (.int n))] [] = .nx [some (.s ns), some (.t (.int i)), some (.t (.int n))] [z] := by
    have w1 : inW 0 = true := by decide
    have w2 : inW 1 = true := by decide
    have w3 : inW 7919 = true := by decide
    by_cases hn : (1000000000000000000 : Int) ≤ n
    · obtain ⟨w', r⟩ := right_w (n * 1, n % 2147483647 + 7919 * i, 0)
      refine ⟨wlw w', ?_⟩
      have r' : fn__law_right [.c 0] [some (.lst [.int n, .int (n % 2147483647 + 7919 * i), .int 0])] = .ok (.t (.bl true)) [wlw w'] := by rw [← r]; simp [wlw]
      simp [f1_law, pw, hn, mulV, w1, w2, w3, md, r']
    · obtain ⟨w', r⟩ := right_w (n * 0, n % 2147483647 + 7919 * i, 0)
      refine ⟨wlw w', ?_⟩
      have r' : fn__law_right [.c 0] [some (.lst [.int 0, .int (n % 2147483647 + 7919 * i), .int 0])] = .ok (.t (.bl true)) [wlw w'] := by rw [← r]; simp [wlw]
      simp [f1_law, pw, hn, mulV, w1, w2, w3, md, r']
  obtain ⟨z, key⟩ := key
  unfold sScope
  rw [key]
  rfl
theorem law_loop (N : Int) (ns : List Int) : ∃ s1 s2, forL (.tp [(.nm 1), (.nm 2)]) (sScope f1_law) (enumP (cutG (ns.map PV.int ++ [.int 0]) none (some N))) [some (.s ns), none, none] [] = .nx [some (.s ns), s1, s2] [] := by
  have hint : ∀ d ∈ cutG (ns.map PV.int ++ [.int 0]) none (some N), ∃ n : Int, d = .int n := by
    intro d hd
    rcases List.mem_append.mp (cut_mem hd) with h | h
    · obtain ⟨n, _, rfl⟩ := List.mem_map.mp h
      exact ⟨n, rfl⟩
    · exact ⟨0, List.mem_singleton.mp h⟩
  refine forL_inv (fun (_ : Nat) (σ : Sl) (μ : Store) => μ = [] ∧ ∃ s1 s2 : Option Val, σ = [some (.s ns), s1, s2]) (fun (r : RS) => ∃ s1 s2, r = .nx [some (.s ns), s1, s2] []) ⟨rfl, none, none, rfl⟩ ?_ ?_
  · rintro i d σ μ hd ⟨rfl, s1, s2, rfl⟩
    obtain ⟨z, hz, rfl⟩ := enumP_at hd
    obtain ⟨n, rfl⟩ := hint z (List.mem_of_getElem? hz)
    exact ⟨[some (.s ns), some (.t (.int i)), some (.t (.int n))], by simp, .inl ⟨_, _, .inl law_turn1, rfl, _, _, rfl⟩⟩
  · rintro σ μ ⟨rfl, s1, s2, rfl⟩
    exact ⟨s1, s2, rfl⟩

/-! k71: the law -/
theorem eqH {n : Nat} {ds : List Dd} (hn : n ≤ 9) (h : okDs n ds) : retTrue (fn_House_eq [.t (hV n ds), .t (hV n ds)] []) = true := by
  have o := m_obj (n := (n : Int)) (ds := ds.map dV) (m := "deeds") (by decide +kernel)
  have e := eqV_self (h.sb hn).sd
  have i1 : gIsC "House" (.t (hV n ds)) [] = .ok (.t (.bl true)) [] := by simp [gIsC, houseV]
  have run : fn_House_eq [.t (hV n ds), .t (hV n ds)] [] = .ok (.t (.bl true)) [] := by
    simp [fn_House_eq, b_House_eq, fnOf, startM, i1, m_size, o, m_deeds, e]
  rw [run]; rfl
theorem law_true : ∀ ns : List Int, ns.length ≤ 63 → fn_law [.s ns] [] = .ok (.t (.bl true)) [] := by
  intro ns hn
  have sz : ns.length + 1 ≤ sizeLine := szL _ (by omega)
  obtain ⟨s1, s2, loop⟩ := law_loop 5 ns
  have o2 : okDs 2 [] := ⟨fun d hd => (nomatch hd), by simp, by simp⟩
  have o3 : okDs 3 [] := ⟨fun d hd => (nomatch hd), by simp, by simp⟩
  have o6 : okDs 6 [] := ⟨fun d hd => (nomatch hd), by simp, by simp⟩
  have m2 : (fi_House [.t (.int 2), .t (.lst [])] []).bind (mkOb "House" ["size", "by_name"]) = .ok (.t (hV 2 [])) [] := m_make (μ := []) (n := 2) (by decide) (by decide) o2
  have m3 : (fi_House [.t (.int 3), .t (.lst [])] []).bind (mkOb "House" ["size", "by_name"]) = .ok (.t (hV 3 [])) [] := m_make (μ := []) (n := 3) (by decide) (by decide) o3
  have al : AllF (2, []) [(2, []), (3, [])] := ⟨fun h hh => by
    simp only [List.mem_cons, List.not_mem_nil, or_false] at hh
    rcases hh with rfl | rfl
    · exact ⟨by decide, by decide, o2⟩
    · exact ⟨by decide, by decide, o3⟩, fun h hh => by
    simp only [List.mem_cons, List.not_mem_nil, or_false] at hh
    rcases hh with rfl | rfl <;> rfl⟩
  have pr := product_ok (μ := []) (v := .t (.lst (housesV [(2, []), (3, [])]))) al (by decide) (.inl rfl) (by decide)
  have m6 : ∀ κ, (fi_House [.t (.int 6), .t (.lst [])] κ).bind (mkOb "House" ["size", "by_name"]) = .ok (.t (hV 6 [])) κ := fun κ => m_make (μ := κ) (n := 6) (by decide) (by decide) o6
  have ways : waysL [(2, ([] : List Dd)), (3, [])] = [tupI [0, 0, 0, 1, 1, 1], tupI [0, 1, 2, 0, 1, 2]] := by
    have r : rowsL (sizesL [(2, ([] : List Dd)), (3, [])]) = [[0, 0], [0, 1], [0, 2], [1, 0], [1, 1], [1, 2]] := by decide +kernel
    unfold waysL
    rw [r]; rfl
  have hv : (.lst (housesV [(2, []), (3, [])]) : PV) = .lst [hV 2 [], hV 3 []] := rfl
  have pc : pcL (sizesL [(2, ([] : List Dd)), (3, [])]) = 6 := by decide
  have du : duesL (2, []) [(2, ([] : List Dd)), (3, [])] = [] := rfl
  rw [ways, hv, pc, du] at pr
  have eh := eqH (n := 6) (by decide) o6
  have fz : frzG (.g .tup [.t (hV 6 []), .c 0]) [some (.lst [tupI [0, 0, 0, 1, 1, 1], tupI [0, 1, 2, 0, 1, 2]])] = .ok (.t (.tup [hV 6 [], .lst [tupI [0, 0, 0, 1, 1, 1], tupI [0, 1, 2, 0, 1, 2]]])) [none] := rfl
  have t6a : ∀ κ, PM.gTup [.t (.int 0), .t (.int 0), .t (.int 0), .t (.int 1), .t (.int 1), .t (.int 1)] κ = .ok (.t (tupI [0, 0, 0, 1, 1, 1])) κ := fun κ => gTup_ok rfl (szL _ (by simp))
  have t6b : ∀ κ, PM.gTup [.t (.int 0), .t (.int 1), .t (.int 2), .t (.int 0), .t (.int 1), .t (.int 2)] κ = .ok (.t (tupI [0, 1, 2, 0, 1, 2])) κ := fun κ => gTup_ok rfl (szL _ (by simp))
  have t2 : ∀ (x y : PV) κ, PM.gTup [.t x, .t y] κ = .ok (.t (.tup [x, y])) κ := fun x y κ => gTup_ok rfl (szL _ (by simp))
  have ev : ∀ κ, gEqP "House" fn_House_eq (.t (.tup [hV 6 [], .lst [tupI [0, 0, 0, 1, 1, 1], tupI [0, 1, 2, 0, 1, 2]]])) (.t (.tup [hV 6 [], .lst [tupI [0, 0, 0, 1, 1, 1], tupI [0, 1, 2, 0, 1, 2]]])) κ = .ok (.t (.bl true)) κ := fun κ => by
    unfold gEqP
    have hc : ("House" : Str) = "House" ∧ ("House" : Str) = "House" ∧ retTrue (fn_House_eq [.t (hV 6 []), .t (hV 6 [])] []) = true ∧ (rowsQ [tupI [0, 0, 0, 1, 1, 1], tupI [0, 1, 2, 0, 1, 2]]).isSome = true ∧ rowsQ [tupI [0, 0, 0, 1, 1, 1], tupI [0, 1, 2, 0, 1, 2]] = rowsQ [tupI [0, 0, 0, 1, 1, 1], tupI [0, 1, 2, 0, 1, 2]] := ⟨rfl, rfl, eh, rfl, rfl⟩
    exact if_pos hc
  have pr' : fn_product [.t (.lst [hV 2 [], hV 3 []])] [] = .ok (.g .tup [.t (hV 6 []), .c 0]) [some (.lst [tupI [0, 0, 0, 1, 1, 1], tupI [0, 1, 2, 0, 1, 2]])] := pr
  clear pr eh
  generalize tupI [0, 0, 0, 1, 1, 1] = R1 at *
  generalize tupI [0, 1, 2, 0, 1, 2] = R2 at *
  generalize hV 2 [] = H2 at *
  generalize hV 3 [] = H3 at *
  generalize hV 6 [] = H6 at *
  simp [fn_law, b_law, fnOf, startM, gScr, sz, t6a, t6b, loop, m2, m3, m6, pr', eFrzG, e1, fz, t2, ev, endM, fin]

end K71
namespace K71
open PySem PySem.Spec PyProof.Rows L2
open PM (MSt Fn fnOf)
structure Tx (K : PySem.W.Frag) (mg : Str → Option Value) : Prop where
  c_MOST_DEEDS : ∃ t, mg "MOST_DEEDS" = some (.int 6 t)
  c_MOST_PLACES : ∃ t, mg "MOST_PLACES" = some (.int 3 t)
  c_MOST_THINGS : ∃ t, mg "MOST_THINGS" = some (.int 9 t)
  c_SMALL : ∃ t, mg "SMALL" = some (.str "abcdefghijklmnopqrstuvwxyz" t)
  z_ValueError : mg "ValueError" = none
  z_all : mg "all" = none
  z_bool : mg "bool" = none
  z_dict : mg "dict" = none
  z_enumerate : mg "enumerate" = none
  z_int : mg "int" = none
  z_isinstance : mg "isinstance" = none
  z_len : mg "len" = none
  z_list : mg "list" = none
  z_max : mg "max" = none
  z_min : mg "min" = none
  z_range : mg "range" = none
  z_str : mg "str" = none
  z_sum : mg "sum" = none
  z_tuple : mg "tuple" = none
  z_zip : mg "zip" = none
  g_House : mg "House" = some (.ref (He.ga K "House"))
  g_NoFit : mg "NoFit" = some (.ref (He.ga K "NoFit"))
  g_NoHouse : mg "NoHouse" = some (.ref (He.ga K "NoHouse"))
  g_TooMany : mg "TooMany" = some (.ref (He.ga K "TooMany"))
  g_WishError : mg "WishError" = some (.ref (He.ga K "WishError"))
  g__law_draw : mg "_law_draw" = some (.ref (He.ga K "_law_draw"))
  g__law_sizes : mg "_law_sizes" = some (.ref (He.ga K "_law_sizes"))
  g__law_rows : mg "_law_rows" = some (.ref (He.ga K "_law_rows"))
  g__law_names : mg "_law_names" = some (.ref (He.ga K "_law_names"))
  g__law_over : mg "_law_over" = some (.ref (He.ga K "_law_over"))
  g__law_table : mg "_law_table" = some (.ref (He.ga K "_law_table"))
  g_is_whole : mg "is_whole" = some (.ref (He.ga K "is_whole"))
  g_is_name : mg "is_name" = some (.ref (He.ga K "is_name"))
  g_is_thing : mg "is_thing" = some (.ref (He.ga K "is_thing"))
  g_is_row : mg "is_row" = some (.ref (He.ga K "is_row"))
  g_cells : mg "cells" = some (.ref (He.ga K "cells"))
  g_is_deed : mg "is_deed" = some (.ref (He.ga K "is_deed"))
  g__law_unfit : mg "_law_unfit" = some (.ref (He.ga K "_law_unfit"))
  g_fits : mg "fits" = some (.ref (He.ga K "fits"))
  g_check_sizes : mg "check_sizes" = some (.ref (He.ga K "check_sizes"))
  g_choices : mg "choices" = some (.ref (He.ga K "choices"))
  g_rows_within : mg "rows_within" = some (.ref (He.ga K "rows_within"))
  g_spot_of : mg "spot_of" = some (.ref (He.ga K "spot_of"))
  g_deed_by_rows : mg "deed_by_rows" = some (.ref (He.ga K "deed_by_rows"))
  g_product : mg "product" = some (.ref (He.ga K "product"))
  g__law_told : mg "_law_told" = some (.ref (He.ga K "_law_told"))
  g__law_cell : mg "_law_cell" = some (.ref (He.ga K "_law_cell"))
  g__law_due : mg "_law_due" = some (.ref (He.ga K "_law_due"))
  g__law_right : mg "_law_right" = some (.ref (He.ga K "_law_right"))
  g_law : mg "law" = some (.ref (He.ga K "law"))
  cl_House : Cls K (He.ga K "House")
  mt_House_eq : Meth K (He.ga K "House") "__eq__" (He.ma K (He.ga K "House") "__eq__")
  mt_House_deeds : Meth K (He.ga K "House") "deeds" (He.ma K (He.ga K "House") "deeds")
  mt_House_names : Meth K (He.ga K "House") "names" (He.ma K (He.ga K "House") "names")
  mt_House_things : Meth K (He.ga K "House") "things" (He.ma K (He.ga K "House") "things")
  mk_House : Mk K (He.ga K "House") (He.ma K (He.ga K "House") "__init__")
  na_House_by_name : NoAttr K (He.ga K "House") "by_name"
  na_House_size : NoAttr K (He.ga K "House") "size"
  ox_NoHouse : OexC K (He.ga K "NoHouse")
  ix_NoHouse : PySem.W.findIn K (.ref (He.ga K "NoHouse")) "__init__" = some (some (.ref (He.ma K (He.ga K "NoHouse") "__init__"))) ∧ PySem.W.typeIn K (.ref (He.ma K (He.ga K "NoHouse") "__init__")) = some (.type "function")
  nx_NoHouse : PySem.W.findIn K (.ref (He.ga K "NoHouse")) "at" = some none
  ex_NoHouse : WD.ExD K (He.ga K "NoHouse")
  ox_TooMany : OexC K (He.ga K "TooMany")
  ix_TooMany : PySem.W.findIn K (.ref (He.ga K "TooMany")) "__init__" = some (some (.ref (He.ma K (He.ga K "TooMany") "__init__"))) ∧ PySem.W.typeIn K (.ref (He.ma K (He.ga K "TooMany") "__init__")) = some (.type "function")
  nx_TooMany : PySem.W.findIn K (.ref (He.ga K "TooMany")) "many" = some none
  ex_TooMany : WD.ExD K (He.ga K "TooMany")
  is_House : C8.InsC K (He.ga K "House")
  px_WishError : WD.Par K (He.ga K "WishError")
  xo_NoFit : PySem.W.excIn K (He.ga K "NoFit") He.veBase "ValueError.__new__" = true ∧ PySem.W.keepIn K (.ref (He.ga K "NoFit")) = true ∧ PySem.W.subIn K (.ref (He.ga K "NoFit")) (.type "BaseException") = some true ∧ PySem.W.typeIn K (.ref (He.ga K "NoFit")) = some (.type "type")
  ex_NoFit : WD.ExD K (He.ga K "NoFit")
  em_NoFit_NoFit : PySem.W.exmOne K (.ref (He.ga K "NoFit")) (.ref (He.ga K "NoFit")) = some true
  ki_NoFit_NoFit : PySem.W.kitOne K (.ref (He.ga K "NoFit")) (.ref (He.ga K "NoFit")) = some true
  em_NoFit_NoHouse : PySem.W.exmOne K (.ref (He.ga K "NoFit")) (.ref (He.ga K "NoHouse")) = some false
  ki_NoFit_NoHouse : PySem.W.kitOne K (.ref (He.ga K "NoFit")) (.ref (He.ga K "NoHouse")) = some false
  em_NoFit_TooMany : PySem.W.exmOne K (.ref (He.ga K "NoFit")) (.ref (He.ga K "TooMany")) = some false
  ki_NoFit_TooMany : PySem.W.kitOne K (.ref (He.ga K "NoFit")) (.ref (He.ga K "TooMany")) = some false
  kv_NoFit : PySem.W.kitOne K (.ref (He.ga K "NoFit")) (.type "ValueError") = some true
  em_NoHouse_NoFit : PySem.W.exmOne K (.ref (He.ga K "NoHouse")) (.ref (He.ga K "NoFit")) = some false
  ki_NoHouse_NoFit : PySem.W.kitOne K (.ref (He.ga K "NoHouse")) (.ref (He.ga K "NoFit")) = some false
  em_NoHouse_NoHouse : PySem.W.exmOne K (.ref (He.ga K "NoHouse")) (.ref (He.ga K "NoHouse")) = some true
  ki_NoHouse_NoHouse : PySem.W.kitOne K (.ref (He.ga K "NoHouse")) (.ref (He.ga K "NoHouse")) = some true
  em_NoHouse_TooMany : PySem.W.exmOne K (.ref (He.ga K "NoHouse")) (.ref (He.ga K "TooMany")) = some false
  ki_NoHouse_TooMany : PySem.W.kitOne K (.ref (He.ga K "NoHouse")) (.ref (He.ga K "TooMany")) = some false
  kv_NoHouse : PySem.W.kitOne K (.ref (He.ga K "NoHouse")) (.type "ValueError") = some true
  em_TooMany_NoFit : PySem.W.exmOne K (.ref (He.ga K "TooMany")) (.ref (He.ga K "NoFit")) = some false
  ki_TooMany_NoFit : PySem.W.kitOne K (.ref (He.ga K "TooMany")) (.ref (He.ga K "NoFit")) = some false
  em_TooMany_NoHouse : PySem.W.exmOne K (.ref (He.ga K "TooMany")) (.ref (He.ga K "NoHouse")) = some false
  ki_TooMany_NoHouse : PySem.W.kitOne K (.ref (He.ga K "TooMany")) (.ref (He.ga K "NoHouse")) = some false
  em_TooMany_TooMany : PySem.W.exmOne K (.ref (He.ga K "TooMany")) (.ref (He.ga K "TooMany")) = some true
  ki_TooMany_TooMany : PySem.W.kitOne K (.ref (He.ga K "TooMany")) (.ref (He.ga K "TooMany")) = some true
  kv_TooMany : PySem.W.kitOne K (.ref (He.ga K "TooMany")) (.type "ValueError") = some true
  F__law_draw : ∃ fd, FunD K "_law_draw" "_law_draw" (defArgs s__law_draw) (defBody s__law_draw) (defScope s__law_draw) [] [] (He.ga K "_law_draw") fd
  F__law_sizes : ∃ fd, FunD K "_law_sizes" "_law_sizes" (defArgs s__law_sizes) (defBody s__law_sizes) (defScope s__law_sizes) [] [] (He.ga K "_law_sizes") fd
  F__law_rows : ∃ fd, FunD K "_law_rows" "_law_rows" (defArgs s__law_rows) (defBody s__law_rows) (defScope s__law_rows) [] [] (He.ga K "_law_rows") fd
  F__law_names : ∃ fd, FunD K "_law_names" "_law_names" (defArgs s__law_names) (defBody s__law_names) (defScope s__law_names) [] [] (He.ga K "_law_names") fd
  F__law_over : ∃ fd, FunD K "_law_over" "_law_over" (defArgs s__law_over) (defBody s__law_over) (defScope s__law_over) [] [] (He.ga K "_law_over") fd
  F__law_table : ∃ fd, FunD K "_law_table" "_law_table" (defArgs s__law_table) (defBody s__law_table) (defScope s__law_table) [] [] (He.ga K "_law_table") fd
  F_is_whole : ∃ fd, FunD K "is_whole" "is_whole" (defArgs s_is_whole) (defBody s_is_whole) (defScope s_is_whole) [] [] (He.ga K "is_whole") fd
  F_NoHouse_init : ∃ fd, FunD K "__init__" "NoHouse.__init__" (defArgs s_NoHouse_init) (defBody s_NoHouse_init) (defScope s_NoHouse_init) [] [] (He.ma K (He.ga K "NoHouse") "__init__") fd
  F_is_name : ∃ fd, FunD K "is_name" "is_name" (defArgs s_is_name) (defBody s_is_name) (defScope s_is_name) [] [] (He.ga K "is_name") fd
  F_is_thing : ∃ fd, FunD K "is_thing" "is_thing" (defArgs s_is_thing) (defBody s_is_thing) (defScope s_is_thing) [] [] (He.ga K "is_thing") fd
  F_is_row : ∃ fd, FunD K "is_row" "is_row" (defArgs s_is_row) (defBody s_is_row) (defScope s_is_row) [] [] (He.ga K "is_row") fd
  F_cells : ∃ fd, FunD K "cells" "cells" (defArgs s_cells) (defBody s_cells) (defScope s_cells) [] [] (He.ga K "cells") fd
  F_is_deed : ∃ fd, FunD K "is_deed" "is_deed" (defArgs s_is_deed) (defBody s_is_deed) (defScope s_is_deed) [] [] (He.ga K "is_deed") fd
  F_House_init : ∃ fd, FunD K "__init__" "House.__init__" (defArgs s_House_init) (defBody s_House_init) (defScope s_House_init) [] [] (He.ma K (He.ga K "House") "__init__") fd
  F__law_unfit : ∃ fd, FunD K "_law_unfit" "_law_unfit" (defArgs s__law_unfit) (defBody s__law_unfit) (defScope s__law_unfit) [] [] (He.ga K "_law_unfit") fd
  F_House_deeds : ∃ fd, FunD K "deeds" "House.deeds" (defArgs s_House_deeds) (defBody s_House_deeds) (defScope s_House_deeds) [] [] (He.ma K (He.ga K "House") "deeds") fd
  F_fits : ∃ fd, FunD K "fits" "fits" (defArgs s_fits) (defBody s_fits) (defScope s_fits) [] [] (He.ga K "fits") fd
  F_House_things : ∃ fd, FunD K "things" "House.things" (defArgs s_House_things) (defBody s_House_things) (defScope s_House_things) [] [] (He.ma K (He.ga K "House") "things") fd
  F_TooMany_init : ∃ fd, FunD K "__init__" "TooMany.__init__" (defArgs s_TooMany_init) (defBody s_TooMany_init) (defScope s_TooMany_init) [] [] (He.ma K (He.ga K "TooMany") "__init__") fd
  F_check_sizes : ∃ fd, FunD K "check_sizes" "check_sizes" (defArgs s_check_sizes) (defBody s_check_sizes) (defScope s_check_sizes) [] [] (He.ga K "check_sizes") fd
  F_choices : ∃ fd, FunD K "choices" "choices" (defArgs s_choices) (defBody s_choices) (defScope s_choices) [] [] (He.ga K "choices") fd
  F_House_names : ∃ fd, FunD K "names" "House.names" (defArgs s_House_names) (defBody s_House_names) (defScope s_House_names) [] [] (He.ma K (He.ga K "House") "names") fd
  F_rows_within : ∃ fd, FunD K "rows_within" "rows_within" (defArgs s_rows_within) (defBody s_rows_within) (defScope s_rows_within) [] [] (He.ga K "rows_within") fd
  F_spot_of : ∃ fd, FunD K "spot_of" "spot_of" (defArgs s_spot_of) (defBody s_spot_of) (defScope s_spot_of) [] [] (He.ga K "spot_of") fd
  F_deed_by_rows : ∃ fd, FunD K "deed_by_rows" "deed_by_rows" (defArgs s_deed_by_rows) (defBody s_deed_by_rows) (defScope s_deed_by_rows) [] [] (He.ga K "deed_by_rows") fd
  F_product : ∃ fd, FunD K "product" "product" (defArgs s_product) (defBody s_product) (defScope s_product) [] [] (He.ga K "product") fd
  F__law_told : ∃ fd, FunD K "_law_told" "_law_told" (defArgs s__law_told) (defBody s__law_told) (defScope s__law_told) [] [] (He.ga K "_law_told") fd
  F__law_cell : ∃ fd, FunD K "_law_cell" "_law_cell" (defArgs s__law_cell) (defBody s__law_cell) (defScope s__law_cell) [] [] (He.ga K "_law_cell") fd
  F__law_due : ∃ fd, FunD K "_law_due" "_law_due" (defArgs s__law_due) (defBody s__law_due) (defScope s__law_due) [] [] (He.ga K "_law_due") fd
  F__law_right : ∃ fd, FunD K "_law_right" "_law_right" (defArgs s__law_right) (defBody s__law_right) (defScope s__law_right) [] [] (He.ga K "_law_right") fd
  F_House_eq : ∃ fd, FunD K "__eq__" "House.__eq__" (defArgs s_House_eq) (defBody s_House_eq) (defScope s_House_eq) [] [] (He.ma K (He.ga K "House") "__eq__") fd
  F_law : ∃ fd, FunD K "law" "law" (defArgs s_law) (defBody s_law) (defScope s_law) [] [] (He.ga K "law") fd
theorem mkTx {K : PySem.W.Frag} {h : Heap} {mg : Str → Option Value} (X : K.In h) (G : h.Ns mainGlobals mg) (c : WD.SaysE fa fn fx K) : Tx K mg :=
  { c_MOST_DEEDS := He.int_ok X G (c.says.fact 0 (f := .int "MOST_DEEDS" 6) rfl),
    c_MOST_PLACES := He.int_ok X G (c.says.fact 1 (f := .int "MOST_PLACES" 3) rfl),
    c_MOST_THINGS := He.int_ok X G (c.says.fact 2 (f := .int "MOST_THINGS" 9) rfl),
    c_SMALL := He.str_ok X G (c.says.fact 3 (f := .str "SMALL" "abcdefghijklmnopqrstuvwxyz") rfl),
    z_ValueError := He.free_ok X G (c.says.fact 4 (f := .free "ValueError") rfl),
    z_all := He.free_ok X G (c.says.fact 5 (f := .free "all") rfl),
    z_bool := He.free_ok X G (c.says.fact 6 (f := .free "bool") rfl),
    z_dict := He.free_ok X G (c.says.fact 7 (f := .free "dict") rfl),
    z_enumerate := He.free_ok X G (c.says.fact 8 (f := .free "enumerate") rfl),
    z_int := He.free_ok X G (c.says.fact 9 (f := .free "int") rfl),
    z_isinstance := He.free_ok X G (c.says.fact 10 (f := .free "isinstance") rfl),
    z_len := He.free_ok X G (c.says.fact 11 (f := .free "len") rfl),
    z_list := He.free_ok X G (c.says.fact 12 (f := .free "list") rfl),
    z_max := He.free_ok X G (c.says.fact 13 (f := .free "max") rfl),
    z_min := He.free_ok X G (c.says.fact 14 (f := .free "min") rfl),
    z_range := He.free_ok X G (c.says.fact 15 (f := .free "range") rfl),
    z_str := He.free_ok X G (c.says.fact 16 (f := .free "str") rfl),
    z_sum := He.free_ok X G (c.says.fact 17 (f := .free "sum") rfl),
    z_tuple := He.free_ok X G (c.says.fact 18 (f := .free "tuple") rfl),
    z_zip := He.free_ok X G (c.says.fact 19 (f := .free "zip") rfl),
    g_House := He.glo_ok X G (c.says.fact 20 (f := .glo "House") rfl),
    g_NoFit := He.glo_ok X G (c.says.fact 21 (f := .glo "NoFit") rfl),
    g_NoHouse := He.glo_ok X G (c.says.fact 22 (f := .glo "NoHouse") rfl),
    g_TooMany := He.glo_ok X G (c.says.fact 23 (f := .glo "TooMany") rfl),
    g_WishError := He.glo_ok X G (c.says.fact 24 (f := .glo "WishError") rfl),
    g__law_draw := He.glo_ok X G (c.says.fact 25 (f := .glo "_law_draw") rfl),
    g__law_sizes := He.glo_ok X G (c.says.fact 26 (f := .glo "_law_sizes") rfl),
    g__law_rows := He.glo_ok X G (c.says.fact 27 (f := .glo "_law_rows") rfl),
    g__law_names := He.glo_ok X G (c.says.fact 28 (f := .glo "_law_names") rfl),
    g__law_over := He.glo_ok X G (c.says.fact 29 (f := .glo "_law_over") rfl),
    g__law_table := He.glo_ok X G (c.says.fact 30 (f := .glo "_law_table") rfl),
    g_is_whole := He.glo_ok X G (c.says.fact 31 (f := .glo "is_whole") rfl),
    g_is_name := He.glo_ok X G (c.says.fact 32 (f := .glo "is_name") rfl),
    g_is_thing := He.glo_ok X G (c.says.fact 33 (f := .glo "is_thing") rfl),
    g_is_row := He.glo_ok X G (c.says.fact 34 (f := .glo "is_row") rfl),
    g_cells := He.glo_ok X G (c.says.fact 35 (f := .glo "cells") rfl),
    g_is_deed := He.glo_ok X G (c.says.fact 36 (f := .glo "is_deed") rfl),
    g__law_unfit := He.glo_ok X G (c.says.fact 37 (f := .glo "_law_unfit") rfl),
    g_fits := He.glo_ok X G (c.says.fact 38 (f := .glo "fits") rfl),
    g_check_sizes := He.glo_ok X G (c.says.fact 39 (f := .glo "check_sizes") rfl),
    g_choices := He.glo_ok X G (c.says.fact 40 (f := .glo "choices") rfl),
    g_rows_within := He.glo_ok X G (c.says.fact 41 (f := .glo "rows_within") rfl),
    g_spot_of := He.glo_ok X G (c.says.fact 42 (f := .glo "spot_of") rfl),
    g_deed_by_rows := He.glo_ok X G (c.says.fact 43 (f := .glo "deed_by_rows") rfl),
    g_product := He.glo_ok X G (c.says.fact 44 (f := .glo "product") rfl),
    g__law_told := He.glo_ok X G (c.says.fact 45 (f := .glo "_law_told") rfl),
    g__law_cell := He.glo_ok X G (c.says.fact 46 (f := .glo "_law_cell") rfl),
    g__law_due := He.glo_ok X G (c.says.fact 47 (f := .glo "_law_due") rfl),
    g__law_right := He.glo_ok X G (c.says.fact 48 (f := .glo "_law_right") rfl),
    g_law := He.glo_ok X G (c.says.fact 49 (f := .glo "law") rfl),
    cl_House := He.cls_ok (c.says.fact 50 (f := .cls "House") rfl),
    mt_House_eq := He.meth_ok (c.says.fact 51 (f := .meth "House" "__eq__") rfl),
    mt_House_deeds := He.meth_ok (c.says.fact 52 (f := .meth "House" "deeds") rfl),
    mt_House_names := He.meth_ok (c.says.fact 53 (f := .meth "House" "names") rfl),
    mt_House_things := He.meth_ok (c.says.fact 54 (f := .meth "House" "things") rfl),
    mk_House := He.mkr_ok (c.says.fact 55 (f := .mkr "House") rfl),
    na_House_by_name := He.noat_ok (c.says.fact 56 (f := .noat "House" "by_name") rfl),
    na_House_size := He.noat_ok (c.says.fact 57 (f := .noat "House" "size") rfl),
    ox_NoHouse := WD.oex_ok (c.own 0 (f := .oex "NoHouse") rfl),
    ix_NoHouse := WD.ini_ok (c.own 1 (f := .ini "NoHouse") rfl),
    nx_NoHouse := WD.noa_ok (c.own 2 (f := .noa "NoHouse" "at") rfl),
    ex_NoHouse := WD.exd_ok' (c.own 3 (f := .exd "NoHouse") rfl),
    ox_TooMany := WD.oex_ok (c.own 4 (f := .oex "TooMany") rfl),
    ix_TooMany := WD.ini_ok (c.own 5 (f := .ini "TooMany") rfl),
    nx_TooMany := WD.noa_ok (c.own 6 (f := .noa "TooMany" "many") rfl),
    ex_TooMany := WD.exd_ok' (c.own 7 (f := .exd "TooMany") rfl),
    is_House := WD.isc_ok (He.cls_ok (c.says.fact 50 (f := .cls "House") rfl)) (c.own 8 (f := .isc "House") rfl),
    px_WishError := WD.par_ok (c.own 9 (f := .par "WishError") rfl),
    xo_NoFit := He.exc_ok (c.says.fact 58 (f := .exc "NoFit") rfl),
    ex_NoFit := WD.exd_ok' (c.own 10 (f := .exd "NoFit") rfl),
    em_NoFit_NoFit := He.exm_ok (c.says.fact 59 (f := .exm "NoFit" "NoFit" true) rfl),
    ki_NoFit_NoFit := WD.kit_ok (c.own 11 (f := .kit "NoFit" "NoFit" true) rfl),
    em_NoFit_NoHouse := He.exm_ok (c.says.fact 60 (f := .exm "NoFit" "NoHouse" false) rfl),
    ki_NoFit_NoHouse := WD.kit_ok (c.own 12 (f := .kit "NoFit" "NoHouse" false) rfl),
    em_NoFit_TooMany := He.exm_ok (c.says.fact 61 (f := .exm "NoFit" "TooMany" false) rfl),
    ki_NoFit_TooMany := WD.kit_ok (c.own 13 (f := .kit "NoFit" "TooMany" false) rfl),
    kv_NoFit := WD.kiv_ok (c.own 14 (f := .kiv "NoFit" "ValueError" true) rfl),
    em_NoHouse_NoFit := He.exm_ok (c.says.fact 62 (f := .exm "NoHouse" "NoFit" false) rfl),
    ki_NoHouse_NoFit := WD.kit_ok (c.own 15 (f := .kit "NoHouse" "NoFit" false) rfl),
    em_NoHouse_NoHouse := He.exm_ok (c.says.fact 63 (f := .exm "NoHouse" "NoHouse" true) rfl),
    ki_NoHouse_NoHouse := WD.kit_ok (c.own 16 (f := .kit "NoHouse" "NoHouse" true) rfl),
    em_NoHouse_TooMany := He.exm_ok (c.says.fact 64 (f := .exm "NoHouse" "TooMany" false) rfl),
    ki_NoHouse_TooMany := WD.kit_ok (c.own 17 (f := .kit "NoHouse" "TooMany" false) rfl),
    kv_NoHouse := WD.kiv_ok (c.own 18 (f := .kiv "NoHouse" "ValueError" true) rfl),
    em_TooMany_NoFit := He.exm_ok (c.says.fact 65 (f := .exm "TooMany" "NoFit" false) rfl),
    ki_TooMany_NoFit := WD.kit_ok (c.own 19 (f := .kit "TooMany" "NoFit" false) rfl),
    em_TooMany_NoHouse := He.exm_ok (c.says.fact 66 (f := .exm "TooMany" "NoHouse" false) rfl),
    ki_TooMany_NoHouse := WD.kit_ok (c.own 20 (f := .kit "TooMany" "NoHouse" false) rfl),
    em_TooMany_TooMany := He.exm_ok (c.says.fact 67 (f := .exm "TooMany" "TooMany" true) rfl),
    ki_TooMany_TooMany := WD.kit_ok (c.own 21 (f := .kit "TooMany" "TooMany" true) rfl),
    kv_TooMany := WD.kiv_ok (c.own 22 (f := .kiv "TooMany" "ValueError" true) rfl),
    F__law_draw := c.says.def_ 0 (d := d__law_draw) rfl,
    F__law_sizes := c.says.def_ 1 (d := d__law_sizes) rfl,
    F__law_rows := c.says.def_ 2 (d := d__law_rows) rfl,
    F__law_names := c.says.def_ 3 (d := d__law_names) rfl,
    F__law_over := c.says.def_ 4 (d := d__law_over) rfl,
    F__law_table := c.says.def_ 5 (d := d__law_table) rfl,
    F_is_whole := c.says.def_ 6 (d := d_is_whole) rfl,
    F_NoHouse_init := c.says.def_ 7 (d := d_NoHouse_init) rfl,
    F_is_name := c.says.def_ 8 (d := d_is_name) rfl,
    F_is_thing := c.says.def_ 9 (d := d_is_thing) rfl,
    F_is_row := c.says.def_ 10 (d := d_is_row) rfl,
    F_cells := c.says.def_ 11 (d := d_cells) rfl,
    F_is_deed := c.says.def_ 12 (d := d_is_deed) rfl,
    F_House_init := c.says.def_ 13 (d := d_House_init) rfl,
    F__law_unfit := c.says.def_ 14 (d := d__law_unfit) rfl,
    F_House_deeds := c.says.def_ 15 (d := d_House_deeds) rfl,
    F_fits := c.says.def_ 16 (d := d_fits) rfl,
    F_House_things := c.says.def_ 17 (d := d_House_things) rfl,
    F_TooMany_init := c.says.def_ 18 (d := d_TooMany_init) rfl,
    F_check_sizes := c.says.def_ 19 (d := d_check_sizes) rfl,
    F_choices := c.says.def_ 20 (d := d_choices) rfl,
    F_House_names := c.says.def_ 21 (d := d_House_names) rfl,
    F_rows_within := c.says.def_ 22 (d := d_rows_within) rfl,
    F_spot_of := c.says.def_ 23 (d := d_spot_of) rfl,
    F_deed_by_rows := c.says.def_ 24 (d := d_deed_by_rows) rfl,
    F_product := c.says.def_ 25 (d := d_product) rfl,
    F__law_told := c.says.def_ 26 (d := d__law_told) rfl,
    F__law_cell := c.says.def_ 27 (d := d__law_cell) rfl,
    F__law_due := c.says.def_ 28 (d := d__law_due) rfl,
    F__law_right := c.says.def_ 29 (d := d__law_right) rfl,
    F_House_eq := c.says.def_ 30 (d := d_House_eq) rfl,
    F_law := c.says.def_ 31 (d := d_law) rfl }
section
variable {P : Program} {w : World} {K : PySem.W.Frag} {tb : List (Addr × Str)} {mg : Str → Option Value} {base : Heap}
theorem ok__law_draw (T : Tx K mg) : WD.Cal P w K mg base (L2.CX P w) 1 "_law_draw" (He.ga K "_law_draw") (PM.SpF ⟨K, tb⟩ 2 fn__law_draw) [] := by
  obtain ⟨fd, F⟩ := T.F__law_draw
  exact ⟨PM.fn_ok (K := ⟨K, tb⟩) (b := b__law_draw) F sc__law_draw (fun _ _ _ _ _ _ us hl => match us, hl with | [_, _], _ => rfl) (fun cdv A outer s H E hr =>
    (PM.ss_cons (PM.s_if (ps_if (PM.t_cmp (PM.op_gtV) (PM.i_ix (WD.huD hr) (PM.i_pv (pv 0)) PM.i_int (fun _ _ => rfl)) PM.i_int (nomark _))
        (PM.ss_cons (PM.s_set (ps_set (i := 2) sc__law_draw.nd rfl (.inl rfl) (PM.i_op PM.op_modV (PM.i_ix (WD.huD hr) (PM.i_pv (pv 0)) PM.i_int (fun _ _ => rfl)) (PM.i_pv (pv 1)))))
      (PM.ss_cons (PM.s_setL (ps_asg (PM.i_op PM.op_fdivV (PM.i_ix (WD.huD hr) (PM.i_pv (pv 0)) PM.i_int (fun _ _ => rfl)) (PM.i_pv (pv 1))) (pg_sub (PM.i_pv (pv 0)) PM.i_int set_list)))
      (PM.ss_one (PM.s_ret (ps_ret (PM.i_pv (pv 2)))))))
        PM.ss_nil))
      (PM.ss_cons (PM.s_setL (ps_asg (PM.i_op PM.op_addV (PM.i_ix (WD.huD hr) (PM.i_pv (pv 0)) PM.i_int (fun _ _ => rfl)) PM.i_int) (pg_sub (PM.i_pv (pv 0)) PM.i_int set_list)))
      (PM.ss_cons (PM.s_set (ps_set (i := 3) sc__law_draw.nd rfl (.inl rfl) (PM.i_op PM.op_modV (PM.i_op PM.op_mulV (PM.i_op PM.op_addV (PM.i_op PM.op_addV (PM.i_ix (WD.huD hr) (PM.i_pv (pv 0)) PM.i_int (fun _ _ => rfl)) (PM.i_op PM.op_mulV PM.i_int (PM.i_ix (WD.huD hr) (PM.i_pv (pv 0)) PM.i_int (fun _ _ => rfl)))) PM.i_int) PM.i_int) PM.i_int)))
      (PM.ss_cons (PM.s_set (ps_set (i := 3) sc__law_draw.nd rfl (.inl rfl) (PM.i_op PM.op_modV (PM.i_op PM.op_mulV (PM.i_pv (pv 3)) (PM.i_op PM.op_addV (PM.i_op PM.op_fdivV (PM.i_pv (pv 3)) PM.i_int) PM.i_int)) PM.i_int)))
      (PM.ss_one (PM.s_ret (ps_ret (PM.i_op PM.op_modV (PM.i_op PM.op_modV (PM.i_op PM.op_mulV (PM.i_pv (pv 3)) (PM.i_op PM.op_addV (PM.i_op PM.op_fdivV (PM.i_pv (pv 3)) PM.i_int) PM.i_int)) PM.i_int) (PM.i_pv (pv 1))))))))))), F.kp, T.g__law_draw⟩
end
section
variable {P : Program} {w : World} {K : PySem.W.Frag} {tb : List (Addr × Str)} {mg : Str → Option Value} {base : Heap}
theorem ok__law_sizes (T : Tx K mg) : WD.Cal P w K mg base (L2.CX P w) 2 "_law_sizes" (He.ga K "_law_sizes") (PM.SpF ⟨K, tb⟩ 1 fn__law_sizes) [] := by
  obtain ⟨fd, F⟩ := T.F__law_sizes
  exact ⟨PM.fn_ok (K := ⟨K, tb⟩) (b := b__law_sizes) F sc__law_sizes (fun _ _ _ _ _ _ us hl => match us, hl with | [_], _ => rfl) (fun cdv A outer s H E hr =>
    (PM.ss_cons (PM.s_set (ps_set (i := 1) sc__law_sizes.nd rfl (.inl rfl) (PM.i_ofF (PM.f_lst (PM.a_cons (PM.i_ofF (PM.f_lst (PM.a_cons PM.i_int (PM.a_cons PM.i_int PM.a_nil)))) (PM.a_cons (PM.i_ofF (PM.f_lst (PM.a_cons PM.i_int (PM.a_cons PM.i_int PM.a_nil)))) (PM.a_cons (PM.i_ofF (PM.f_lst (PM.a_cons PM.i_int (PM.a_cons PM.i_int PM.a_nil)))) (PM.a_cons (PM.i_ofF (PM.f_lst (PM.a_cons PM.i_int (PM.a_cons PM.i_int PM.a_nil)))) (PM.a_cons (PM.i_ofF (PM.f_lst (PM.a_cons PM.i_int (PM.a_cons PM.i_int PM.a_nil)))) (PM.a_cons (PM.i_ofF (PM.f_lst (PM.a_cons PM.i_int (PM.a_cons PM.i_int PM.a_nil)))) (PM.a_cons (PM.i_ofF (PM.f_lst (PM.a_cons PM.i_int (PM.a_cons PM.i_int (PM.a_cons PM.i_int PM.a_nil))))) (PM.a_cons (PM.i_ofF (PM.f_lst (PM.a_cons PM.i_int (PM.a_cons PM.i_int PM.a_nil)))) (PM.a_cons (PM.i_ofF (PM.f_lst (PM.a_cons PM.i_int (PM.a_cons PM.i_int (PM.a_cons PM.i_int PM.a_nil))))) (PM.a_cons (PM.i_ofF (PM.f_lst (PM.a_cons PM.i_int PM.a_nil))) (PM.a_cons (PM.i_ofF (PM.f_lst (PM.a_cons PM.i_int PM.a_nil))) (PM.a_cons (PM.i_ofF (PM.f_lst (PM.a_cons PM.i_int (PM.a_cons PM.i_int (PM.a_cons PM.i_int PM.a_nil))))) PM.a_nil))))))))))))))))
      (PM.ss_cons (PM.s_set (ps_set (i := 1) sc__law_sizes.nd rfl (.inl rfl) (PM.i_ofF (PM.f_op PM.op_addF (PM.i_pv (pv 1)) (PM.i_ofF (PM.f_lst (PM.a_cons (PM.i_ofF (PM.f_lst (PM.a_cons PM.i_int (PM.a_cons PM.i_int PM.a_nil)))) (PM.a_cons (PM.i_ofF (PM.f_lst (PM.a_cons PM.i_int (PM.a_cons PM.i_int (PM.a_cons PM.i_int PM.a_nil))))) (PM.a_cons (PM.i_ofF (PM.f_lst (PM.a_cons PM.i_int (PM.a_cons PM.i_int PM.a_nil)))) (PM.a_cons (PM.i_ofF (PM.f_lst (PM.a_cons PM.i_int (PM.a_cons PM.i_int (PM.a_cons PM.i_int PM.a_nil))))) PM.a_nil))))))))))
      (PM.ss_one (PM.s_ret (ps_ret (PM.i_ix (WD.huD hr) (PM.i_pv (pv 1)) (PM.i_call (ok__law_draw T) (takes_of rfl rfl rfl rfl) (hr.mono (by decide)) (by rfl) (PM.a_cons (PM.i_pv (pv 0)) (PM.a_cons PM.i_int PM.a_nil))) (fun _ _ => rfl)))))))), F.kp, T.g__law_sizes⟩
end
section
variable {P : Program} {w : World} {K : PySem.W.Frag} {tb : List (Addr × Str)} {mg : Str → Option Value} {base : Heap}
theorem ok__law_rows (T : Tx K mg) : WD.Cal P w K mg base (L2.CX P w) 1 "_law_rows" (He.ga K "_law_rows") (PM.SpF ⟨K, tb⟩ 1 fn__law_rows) [] := by
  obtain ⟨fd, F⟩ := T.F__law_rows
  exact ⟨PM.fn_ok (K := ⟨K, tb⟩) (b := b__law_rows) F sc__law_rows (fun _ _ _ _ _ _ us hl => match us, hl with | [_], _ => rfl) (fun cdv A outer s H E hr =>
    (PM.ss_cons (PM.s_set (ps_set (i := 1) sc__law_rows.nd rfl (.inl rfl) (PM.i_ofF (PM.f_lst (PM.a_cons (PM.i_tup PM.a_nil) PM.a_nil)))))
      (PM.ss_cons (PM.s_for (passes_of rfl) rfl (PM.ii_val (PM.i_pv (pv 0))) (PM.g_name (pg_name (i := 2) sc__law_rows.nd rfl (.inl rfl)))
        (PM.ss_cons (PM.s_set (ps_set (i := 3) sc__law_rows.nd rfl (.inl rfl) (PM.i_ofF (PM.f_lst PM.a_nil))))
      (PM.ss_cons (PM.s_for (passes_of rfl) rfl (PM.ii_val (PM.i_pv (pv 1))) (PM.g_name (pg_name (i := 4) sc__law_rows.nd rfl (.inr rfl)))
        (PM.ss_one (PM.s_set (ps_set (i := 3) sc__law_rows.nd rfl (.inl rfl) (PM.i_ofF (PM.f_op PM.op_addF (PM.i_pv (pv 3)) (PM.i_ofF (PM.f_lc (pe_lc (own := [("_law_thing", 5)]) rfl sc__law_rows.nd (PM.ii_range1 (by rfl) T.z_range (PM.a_cons (PM.i_pv (pv 2)) PM.a_nil)) (blkOk_by (N := ["_law_counts", "_law_found", "_law_size", "_law_longer", "_law_row", "_law_thing"]) (sc := defScope s__law_rows) (by decide +kernel)) (fun _ _ _ _ _ => (PM.g_name (pg_name (i := 5) sc__law_rows.nd rfl (.inl rfl)))) (fun _ _ _ _ _ => PM.ts_yes) (fun _ _ _ _ _ => (PM.i_op PM.op_addV (PM.i_pv (pv 4)) (PM.i_tup (PM.a_cons (PM.i_pv (pv 5)) PM.a_nil)))))))))))))
      (PM.ss_one (PM.s_set (ps_set (i := 1) sc__law_rows.nd rfl (.inl rfl) (PM.i_pv (pv 3))))))))
      (PM.ss_one (PM.s_ret (ps_ret (PM.i_pv (pv 1)))))))), F.kp, T.g__law_rows⟩
end
section
variable {P : Program} {w : World} {K : PySem.W.Frag} {tb : List (Addr × Str)} {mg : Str → Option Value} {base : Heap}
theorem ok__law_names (T : Tx K mg) : WD.Cal P w K mg base (L2.CX P w) 2 "_law_names" (He.ga K "_law_names") (PM.SpF ⟨K, tb⟩ 2 fn__law_names) [] := by
  obtain ⟨fd, F⟩ := T.F__law_names
  exact ⟨PM.fn_ok (K := ⟨K, tb⟩) (b := b__law_names) F sc__law_names (fun _ _ _ _ _ _ us hl => match us, hl with | [_, _], _ => rfl) (fun cdv A outer s H E hr =>
    (PM.ss_cons (PM.s_set (ps_set (i := 2) sc__law_names.nd rfl (.inr rfl) PM.i_str))
      (PM.ss_cons (PM.s_set (ps_set (i := 3) sc__law_names.nd rfl (.inr rfl) (PM.i_join PM.i_str (PM.i_ofF (PM.f_lc (pe_lc (own := [("_law_k", 6)]) rfl sc__law_names.nd (PM.ii_range1 (by rfl) T.z_range (PM.a_cons (PM.i_op PM.op_addV PM.i_int (PM.i_call (ok__law_draw T) (takes_of rfl rfl rfl rfl) (hr.mono (by decide)) (by rfl) (PM.a_cons (PM.i_pv (pv 0)) (PM.a_cons PM.i_int PM.a_nil)))) PM.a_nil)) (blkOk_by (N := ["_law_well", "_law_many", "_law_letters", "_law_stem", "_law_first", "_law_at", "_law_k"]) (sc := defScope s__law_names) (by decide +kernel)) (fun _ _ _ _ _ => (PM.g_name (pg_name (i := 6) sc__law_names.nd rfl (.inl rfl)))) (fun _ _ _ _ _ => PM.ts_yes) (fun _ _ _ _ _ => (PM.i_ix (WD.huD hr) (PM.i_pv (pv 2)) (PM.i_call (ok__law_draw T) takes0 (hr.mono (by decide)) (by rfl) (PM.a_cons (PM.i_pv (pv 0)) (PM.a_cons PM.i_int PM.a_nil))) (fun _ _ => rfl)))))) (fun ho he => WD.k_pe_join K ho he))))
      (PM.ss_cons (PM.s_set (ps_set (i := 4) sc__law_names.nd rfl (.inr rfl) (PM.i_call (ok__law_draw T) (takes_of rfl rfl rfl rfl) (hr.mono (by decide)) (by rfl) (PM.a_cons (PM.i_pv (pv 0)) (PM.a_cons PM.i_int PM.a_nil)))))
      (PM.ss_cons (PM.s_set (ps_set (i := 5) sc__law_names.nd rfl (.inr rfl) (PM.i_call (ok__law_draw T) (takes_of rfl rfl rfl rfl) (hr.mono (by decide)) (by rfl) (PM.a_cons (PM.i_pv (pv 0)) (PM.a_cons (PM.i_op PM.op_addV (PM.i_callB (PM.cr_lenV) (by rfl) T.z_len WD.bt_len (PM.a_cons (PM.i_pv (pv 3)) PM.a_nil)) PM.i_int) PM.a_nil)))))
      (PM.ss_one (PM.s_ret (ps_ret (PM.i_ofF (PM.f_lc (pe_lc (own := [("_law_k", 6)]) rfl sc__law_names.nd (PM.ii_range1 (by rfl) T.z_range (PM.a_cons (PM.i_pv (pv 1)) PM.a_nil)) (blkOk_by (N := ["_law_well", "_law_many", "_law_letters", "_law_stem", "_law_first", "_law_at", "_law_k"]) (sc := defScope s__law_names) (by decide +kernel)) (fun _ _ _ _ _ => (PM.g_name (pg_name (i := 6) sc__law_names.nd rfl (.inl rfl)))) (fun _ _ _ _ _ => PM.ts_yes) (fun _ _ _ _ _ => (PM.i_op PM.op_addV (PM.i_op PM.op_addV (PM.i_sl (PM.i_pv (pv 3)) PM.o_none (PM.o_some (PM.i_pv (pv 5)))) (PM.i_ix (WD.huD hr) (PM.i_pv (pv 2)) (PM.i_op PM.op_modV (PM.i_op PM.op_addV (PM.i_pv (pv 4)) (PM.i_op PM.op_mulV PM.i_int (PM.i_pv (pv 6)))) PM.i_int) (fun _ _ => rfl))) (PM.i_sl (PM.i_pv (pv 3)) (PM.o_some (PM.i_pv (pv 5))) PM.o_none)))))))))))))), F.kp, T.g__law_names⟩
end
section
variable {P : Program} {w : World} {K : PySem.W.Frag} {tb : List (Addr × Str)} {mg : Str → Option Value} {base : Heap}
theorem ok__law_over (T : Tx K mg) : WD.Cal P w K mg base (L2.CX P w) 1 "_law_over" (He.ga K "_law_over") (PM.SpF ⟨K, tb⟩ 2 fn__law_over) [] := by
  obtain ⟨fd, F⟩ := T.F__law_over
  exact ⟨PM.fn_ok (K := ⟨K, tb⟩) (b := b__law_over) F sc__law_over (fun _ _ _ _ _ _ us hl => match us, hl with | [_, _], _ => rfl) (fun cdv A outer s H E hr =>
    (PM.ss_cons (PM.s_set (ps_set (i := 2) sc__law_over.nd rfl (.inl rfl) (PM.i_ofF (PM.f_lst (PM.a_cons (PM.i_tup PM.a_nil) PM.a_nil)))))
      (PM.ss_cons (PM.s_for (passes_of rfl) rfl (PM.ii_range1 (by rfl) T.z_range (PM.a_cons (PM.i_pv (pv 1)) PM.a_nil)) (PM.g_name (pg_name (i := 3) sc__law_over.nd rfl (.inl rfl)))
        (PM.ss_cons (PM.s_set (ps_set (i := 4) sc__law_over.nd rfl (.inl rfl) (PM.i_ofF (PM.f_lst PM.a_nil))))
      (PM.ss_cons (PM.s_for (passes_of rfl) rfl (PM.ii_val (PM.i_pv (pv 2))) (PM.g_name (pg_name (i := 5) sc__law_over.nd rfl (.inr rfl)))
        (PM.ss_one (PM.s_set (ps_set (i := 4) sc__law_over.nd rfl (.inl rfl) (PM.i_ofF (PM.f_op PM.op_addF (PM.i_pv (pv 4)) (PM.i_ofF (PM.f_lc (pe_lc (own := [("_law_thing", 6)]) rfl sc__law_over.nd (PM.ii_val (PM.i_pv (pv 0))) (blkOk_by (N := ["_law_things", "_law_places", "_law_found", "_law_k", "_law_longer", "_law_row", "_law_thing"]) (sc := defScope s__law_over) (by decide +kernel)) (fun _ _ _ _ _ => (PM.g_name (pg_name (i := 6) sc__law_over.nd rfl (.inl rfl)))) (fun _ _ _ _ _ => PM.ts_yes) (fun _ _ _ _ _ => (PM.i_op PM.op_addV (PM.i_pv (pv 5)) (PM.i_tup (PM.a_cons (PM.i_pv (pv 6)) PM.a_nil)))))))))))))
      (PM.ss_one (PM.s_set (ps_set (i := 2) sc__law_over.nd rfl (.inl rfl) (PM.i_pv (pv 4))))))))
      (PM.ss_one (PM.s_ret (ps_ret (PM.i_pv (pv 2)))))))), F.kp, T.g__law_over⟩
end
section
variable {P : Program} {w : World} {K : PySem.W.Frag} {tb : List (Addr × Str)} {mg : Str → Option Value} {base : Heap}
theorem ok__law_table (T : Tx K mg) : WD.Cal P w K mg base (L2.CX P w) 2 "_law_table" (He.ga K "_law_table") (PM.SpF ⟨K, tb⟩ 3 fn__law_table) [] := by
  obtain ⟨fd, F⟩ := T.F__law_table
  exact ⟨PM.fn_ok (K := ⟨K, tb⟩) (b := b__law_table) F sc__law_table (fun _ _ _ _ _ _ us hl => match us, hl with | [_, _, _], _ => rfl) (fun cdv A outer s H E hr =>
    (PM.ss_cons (PM.s_set (ps_set (i := 3) sc__law_table.nd rfl (.inl rfl) (PM.i_call (ok__law_draw T) (takes_of rfl rfl rfl rfl) (hr.mono (by decide)) (by rfl) (PM.a_cons (PM.i_pv (pv 0)) (PM.a_cons PM.i_int PM.a_nil)))))
      (PM.ss_cons (PM.s_set (ps_set (i := 4) sc__law_table.nd rfl (.inl rfl) (PM.i_call (ok__law_draw T) (takes_of rfl rfl rfl rfl) (hr.mono (by decide)) (by rfl) (PM.a_cons (PM.i_pv (pv 0)) (PM.a_cons (PM.i_pv (pv 1)) PM.a_nil)))))
      (PM.ss_cons (PM.s_set (ps_set (i := 5) sc__law_table.nd rfl (.inl rfl) (PM.i_cellF (PM.f_lst PM.a_nil))))
      (PM.ss_cons (PM.s_for (passes_of rfl) rfl (PM.ii_val (PM.i_call (ok__law_over T) (takes_of rfl rfl rfl rfl) (hr.mono (by decide)) (by rfl) (PM.a_cons (PM.i_ofF (PM.f_listRg1 rfl (by rfl) T.z_list (by rfl) T.z_range (PM.i_pv (pv 1)))) (PM.a_cons (PM.i_pv (pv 2)) PM.a_nil)))) (PM.g_name (pg_name (i := 6) sc__law_table.nd rfl (.inl rfl)))
        (PM.ss_cons (PM.s_set (ps_set (i := 7) sc__law_table.nd rfl (.inl rfl) (PM.i_ofF (PM.f_lst (PM.a_cons (PM.i_callB (PM.cr_minV1 rfl (WD.huD hr)) (by rfl) T.z_min WD.bt_min (PM.a_cons (PM.i_op PM.op_addV (PM.i_pv (pv 6)) (PM.i_tup (PM.a_cons (PM.i_pv (pv 4)) PM.a_nil))) PM.a_nil)) (PM.a_cons (PM.i_callB (PM.cr_maxV1 rfl (WD.huD hr)) (by rfl) T.z_max WD.bt_max (PM.a_cons (PM.i_op PM.op_addV (PM.i_pv (pv 6)) (PM.i_tup (PM.a_cons (PM.i_pv (pv 4)) PM.a_nil))) PM.a_nil)) (PM.a_cons (PM.i_op PM.op_modV (PM.i_op PM.op_addV (PM.i_callB (PM.cr_sumV rfl) (by rfl) T.z_sum WD.bt_sum (PM.a_cons (PM.i_pv (pv 6)) PM.a_nil)) (PM.i_pv (pv 4))) (PM.i_pv (pv 1))) PM.a_nil)))))))
      (PM.ss_cons (PM.s_set (ps_set (i := 7) sc__law_table.nd rfl (.inl rfl) (PM.i_ofF (PM.f_op PM.op_addF (PM.i_pv (pv 7)) (PM.i_ofF (PM.f_lst (PM.a_cons (PM.i_ix (WD.huD hr) (PM.i_op PM.op_addV (PM.i_pv (pv 6)) (PM.i_tup (PM.a_cons (PM.i_pv (pv 4)) PM.a_nil))) (PM.i_op PM.op_modV (PM.i_pv (pv 4)) (PM.i_op PM.op_addV (PM.i_pv (pv 2)) PM.i_int)) (fun _ _ => rfl)) (PM.a_cons (PM.i_pv (pv 4)) PM.a_nil))))))))
      (PM.ss_cons (PM.s_if (ps_if (PM.t_cmp (PM.op_gtV) (PM.i_pv (pv 3)) PM.i_int (nomark _))
        (PM.ss_one (PM.s_set (ps_set (i := 7) sc__law_table.nd rfl (.inl rfl) (PM.i_ofF (PM.f_op PM.op_addF (PM.i_pv (pv 7)) (PM.i_ofF (PM.f_op PM.op_mulF (PM.i_ofF (PM.f_lst (PM.a_cons (PM.i_call (ok__law_draw T) (takes_of rfl rfl rfl rfl) (hr.mono (by decide)) (by rfl) (PM.a_cons (PM.i_pv (pv 0)) (PM.a_cons (PM.i_pv (pv 1)) PM.a_nil))) PM.a_nil))) PM.i_int)))))))
        PM.ss_nil))
      (PM.ss_one (PM.s_exp (PM.i_mut PySem.F.slot_list_append PySem.F.type_list_append PM.mt_appendM (PM.i_pv (pv 5)) (PM.a_cons (PM.i_ix (WD.huD hr) (PM.i_pv (pv 7)) (PM.i_pv (pv 3)) (fun _ _ => rfl)) PM.a_nil) (fun hm ho ha => WD.k_pe_bm K PySem.F.plainAttrs_list PySem.F.slot_list_append PySem.F.type_list_append hm ho ha))))))))
      (PM.ss_one (PM.s_ret (ps_ret (PM.i_callTy PM.cr_tupleV (by rfl) T.z_tuple WD.bt_tuple (PM.a_cons (PM.i_pv (pv 5)) PM.a_nil)))))))))), F.kp, T.g__law_table⟩
end
section
variable {P : Program} {w : World} {K : PySem.W.Frag} {tb : List (Addr × Str)} {mg : Str → Option Value} {base : Heap}
theorem ok_is_whole (T : Tx K mg) : WD.Cal P w K mg base (L2.CX P w) 1 "is_whole" (He.ga K "is_whole") (PM.SpF ⟨K, tb⟩ 1 fn_is_whole) [] := by
  obtain ⟨fd, F⟩ := T.F_is_whole
  exact ⟨PM.fn_ok (K := ⟨K, tb⟩) (b := b_is_whole) F sc_is_whole (fun _ _ _ _ _ _ us hl => match us, hl with | [_], _ => rfl) (fun cdv A outer s H E hr =>
    (PM.ss_one (PM.s_ret (ps_ret (PM.i_and (PM.i_isT (PM.i_pv (pv 0)) (pe_bltn (v := .ty "int") (by rfl) T.z_int WD.bt_int rfl) (by decide) (by rfl) T.z_isinstance) (pe_one (PM.i_not (PM.i_isT (PM.i_pv (pv 0)) (pe_bltn (v := .ty "bool") (by rfl) T.z_bool WD.bt_bool rfl) (by decide) (by rfl) T.z_isinstance)))))))), F.kp, T.g_is_whole⟩
end
section
variable {P : Program} {w : World} {K : PySem.W.Frag} {mg : Str → Option Value} {base : Heap}
theorem xm_NoHouse (T : Tx K mg) : WD.Xmk P w K mg base 1 "NoHouse" (He.ga K "NoHouse") (He.ma K (He.ga K "NoHouse") "__init__") "at" := by
  obtain ⟨fd, F⟩ := T.F_NoHouse_init
  refine ⟨WD.fn0_of F sc_NoHouse_init (fun vs H Q E h => ?_) (fun _ _ _ _ _ _ us hl => match us, hl with | [_, _], _ => rfl) (fun cdv A outer s H vs Q E hr h => ?_), T.ox_NoHouse, T.ix_NoHouse, T.g_NoHouse⟩
  · obtain ⟨a, v, rfl, ha, k⟩ := h
    rfl
  · obtain ⟨a, v, rfl, ha, k⟩ := h
    refine ⟨_, (pss_cons (ps_expr (WD.pe_oinit (by rfl) T.g_WishError T.px_WishError (pa_cons (pv 0) (pa_cons pe_str pa_nil))))
      (pss_one (ps_ost (pv 0) (pv 1)))), ?_⟩
    refine ⟨_, rfl, a, He.ga K "NoHouse", [_], rfl, by show 1 ≤ 1000; decide, T.ox_NoHouse, ha, ?_⟩
    exact ⟨_, rfl, _, rfl, a, He.ga K "NoHouse", rfl, T.ox_NoHouse, T.nx_NoHouse, .inl ⟨ha, k⟩⟩
end
section
variable {P : Program} {w : World} {K : PySem.W.Frag} {tb : List (Addr × Str)} {mg : Str → Option Value} {base : Heap}
theorem ok_is_name (T : Tx K mg) : WD.Cal P w K mg base (L2.CX P w) 1 "is_name" (He.ga K "is_name") (PM.SpF ⟨K, tb⟩ 1 fn_is_name) [] := by
  obtain ⟨fd, F⟩ := T.F_is_name
  exact ⟨PM.fn_ok (K := ⟨K, tb⟩) (b := b_is_name) F sc_is_name (fun _ _ _ _ _ _ us hl => match us, hl with | [_], _ => rfl) (fun cdv A outer s H E hr =>
    (PM.ss_one (PM.s_ret (ps_ret (PM.i_and (PM.i_isT (PM.i_pv (pv 0)) (pe_bltn (v := .ty "str") (by rfl) T.z_str WD.bt_str rfl) (by decide) (by rfl) T.z_isinstance) (PM.i_and (PM.i_chain (PM.op_leV) (PM.op_leV) PM.i_int (PM.i_callB (PM.cr_lenV) (by rfl) T.z_len WD.bt_len (PM.a_cons (PM.i_pv (pv 0)) PM.a_nil)) PM.i_int) (pe_one (PM.i_callB (PM.cr_allV rfl) (by rfl) T.z_all WD.bt_all (PM.a_cons (PM.i_ofF (PM.f_lc (pe_lc (own := [("sign", 1)]) rfl sc_is_name.nd (PM.ii_val (PM.i_pv (pv 0))) (blkOk_by (N := ["word", "sign"]) (sc := defScope s_is_name) (by decide +kernel)) (fun _ _ _ _ _ => (PM.g_name (pg_name (i := 1) sc_is_name.nd rfl (.inl rfl)))) (fun _ _ _ _ _ => PM.ts_yes) (fun _ _ _ _ _ => (PM.i_cmp (PM.op_inV (WD.hu65 hr)) (PM.i_pv (pv 1)) (PM.i_gs (by rfl) T.c_SMALL) (by rfl)))))) PM.a_nil))))))))), F.kp, T.g_is_name⟩
end
section
variable {P : Program} {w : World} {K : PySem.W.Frag} {tb : List (Addr × Str)} {mg : Str → Option Value} {base : Heap}
theorem ok_is_thing (T : Tx K mg) : WD.Cal P w K mg base (L2.CX P w) 2 "is_thing" (He.ga K "is_thing") (PM.SpF ⟨K, tb⟩ 2 fn_is_thing) [] := by
  obtain ⟨fd, F⟩ := T.F_is_thing
  exact ⟨PM.fn_ok (K := ⟨K, tb⟩) (b := b_is_thing) F sc_is_thing (fun _ _ _ _ _ _ us hl => match us, hl with | [_, _], _ => rfl) (fun cdv A outer s H E hr =>
    (PM.ss_one (PM.s_ret (ps_ret (PM.i_and (PM.i_call (ok_is_whole T) (takes_of rfl rfl rfl rfl) (hr.mono (by decide)) (by rfl) (PM.a_cons (PM.i_pv (pv 0)) PM.a_nil)) (pe_one (PM.i_chain (PM.op_leV) (PM.op_ltV hr.units0) PM.i_int (PM.i_pv (pv 0)) (PM.i_pv (pv 1))))))))), F.kp, T.g_is_thing⟩
end
section
variable {P : Program} {w : World} {K : PySem.W.Frag} {tb : List (Addr × Str)} {mg : Str → Option Value} {base : Heap}
theorem ok_is_row (T : Tx K mg) : WD.Cal P w K mg base (L2.CX P w) 3 "is_row" (He.ga K "is_row") (PM.SpF ⟨K, tb⟩ 3 fn_is_row) [] := by
  obtain ⟨fd, F⟩ := T.F_is_row
  exact ⟨PM.fn_ok (K := ⟨K, tb⟩) (b := b_is_row) F sc_is_row (fun _ _ _ _ _ _ us hl => match us, hl with | [_, _, _], _ => rfl) (fun cdv A outer s H E hr =>
    (PM.ss_one (PM.s_ret (ps_ret (PM.i_and (PM.i_isT (PM.i_pv (pv 0)) (pe_bltn (v := .ty "tuple") (by rfl) T.z_tuple WD.bt_tuple rfl) (by decide) (by rfl) T.z_isinstance) (PM.i_and (PM.i_cmp (PM.op_eqV hr.units) (PM.i_callB (PM.cr_lenV) (by rfl) T.z_len WD.bt_len (PM.a_cons (PM.i_pv (pv 0)) PM.a_nil)) (PM.i_pv (pv 1)) (nomark _)) (pe_one (PM.i_callB (PM.cr_allV rfl) (by rfl) T.z_all WD.bt_all (PM.a_cons (PM.i_ofF (PM.f_lc (pe_lc (own := [("one", 3)]) rfl sc_is_row.nd (PM.ii_val (PM.i_pv (pv 0))) (blkOk_by (N := ["row", "wide", "size", "one"]) (sc := defScope s_is_row) (by decide +kernel)) (fun _ _ _ _ _ => (PM.g_name (pg_name (i := 3) sc_is_row.nd rfl (.inl rfl)))) (fun _ _ _ _ _ => PM.ts_yes) (fun _ _ _ _ _ => (PM.i_call (ok_is_thing T) takes0 (hr.mono (by decide)) (by rfl) (PM.a_cons (PM.i_pv (pv 3)) (PM.a_cons (PM.i_pv (pv 2)) PM.a_nil))))))) PM.a_nil))))))))), F.kp, T.g_is_row⟩
end
section
variable {P : Program} {w : World} {K : PySem.W.Frag} {tb : List (Addr × Str)} {mg : Str → Option Value} {base : Heap}
theorem ok_cells (T : Tx K mg) : WD.Cal P w K mg base (L2.CX P w) 1 "cells" (He.ga K "cells") (PM.SpF ⟨K, tb⟩ 2 fn_cells) [] := by
  obtain ⟨fd, F⟩ := T.F_cells
  exact ⟨PM.fn_ok (K := ⟨K, tb⟩) (b := b_cells) F sc_cells (fun _ _ _ _ _ _ us hl => match us, hl with | [_, _], _ => rfl) (fun cdv A outer s H E hr =>
    (PM.ss_cons (PM.s_set (ps_set (i := 2) sc_cells.nd rfl (.inl rfl) PM.i_int))
      (PM.ss_cons (PM.s_for (passes_of rfl) rfl (PM.ii_range1 (by rfl) T.z_range (PM.a_cons (PM.i_pv (pv 1)) PM.a_nil)) (PM.g_name (pg_name (i := 3) sc_cells.nd rfl (.inl rfl)))
        (PM.ss_one (PM.s_set (ps_set (i := 2) sc_cells.nd rfl (.inl rfl) (PM.i_op PM.op_mulV (PM.i_pv (pv 2)) (PM.i_pv (pv 0)))))))
      (PM.ss_one (PM.s_ret (ps_ret (PM.i_pv (pv 2)))))))), F.kp, T.g_cells⟩
end
section
variable {P : Program} {w : World} {K : PySem.W.Frag} {tb : List (Addr × Str)} {mg : Str → Option Value} {base : Heap}
theorem ok_is_deed (T : Tx K mg) : WD.Cal P w K mg base (L2.CX P w) 4 "is_deed" (He.ga K "is_deed") (PM.SpF ⟨K, tb⟩ 2 fn_is_deed) [] := by
  obtain ⟨fd, F⟩ := T.F_is_deed
  exact ⟨PM.fn_ok (K := ⟨K, tb⟩) (b := b_is_deed) F sc_is_deed (fun _ _ _ _ _ _ us hl => match us, hl with | [_, _], _ => rfl) (fun cdv A outer s H E hr =>
    (PM.ss_cons (PM.s_if (ps_if (PW.pt (PM.w_or (PM.t_not (PM.t_val (PM.i_isT (PM.i_pv (pv 0)) (pe_bltn (v := .ty "tuple") (by rfl) T.z_tuple WD.bt_tuple rfl) (by decide) (by rfl) T.z_isinstance))) (PM.w_or (PM.t_cmp (PM.op_neV hr.units) (PM.i_callB (PM.cr_lenV) (by rfl) T.z_len WD.bt_len (PM.a_cons (PM.i_pv (pv 0)) PM.a_nil)) PM.i_int (nomark _)) (pw_or1 (PM.t_not (PM.t_val (PM.i_call (ok_is_name T) (takes_of rfl rfl rfl rfl) (hr.mono (by decide)) (by rfl) (PM.a_cons (PM.i_ix (WD.huD hr) (PM.i_pv (pv 0)) PM.i_int (fun _ _ => rfl)) PM.a_nil))))))))
        (PM.ss_one (PM.s_ret (ps_ret PM.i_bl)))
        PM.ss_nil))
      (PM.ss_cons (PM.s_asg (ps_asg (PM.i_pv (pv 0)) (PM.g_tup (PM.gs_cons (PM.g_name (pg_name (i := 2) sc_is_deed.nd rfl (.inl rfl))) (PM.gs_cons (PM.g_name (pg_name (i := 3) sc_is_deed.nd rfl (.inl rfl))) (PM.gs_cons (PM.g_name (pg_name (i := 4) sc_is_deed.nd rfl (.inl rfl))) PM.gs_nil))) rfl)))
      (PM.ss_cons (PM.s_if (ps_if (PW.pt (PM.w_or (PM.t_not (PM.t_val (PM.i_call (ok_is_whole T) (takes_of rfl rfl rfl rfl) (hr.mono (by decide)) (by rfl) (PM.a_cons (PM.i_pv (pv 3)) PM.a_nil)))) (pw_or1 (PM.t_not (PM.t_chain (PM.op_leV) (PM.op_leV) PM.i_int (PM.i_pv (pv 3)) (PM.i_gi (by rfl) T.c_MOST_PLACES))))))
        (PM.ss_one (PM.s_ret (ps_ret PM.i_bl)))
        PM.ss_nil))
      (PM.ss_one (PM.s_ret (ps_ret (PM.i_call (ok_is_row T) (takes_of rfl rfl rfl rfl) (hr.mono (by decide)) (by rfl) (PM.a_cons (PM.i_pv (pv 4)) (PM.a_cons (PM.i_call (ok_cells T) (takes_of rfl rfl rfl rfl) (hr.mono (by decide)) (by rfl) (PM.a_cons (PM.i_pv (pv 1)) (PM.a_cons (PM.i_pv (pv 3)) PM.a_nil))) (PM.a_cons (PM.i_pv (pv 1)) PM.a_nil))))))))))), F.kp, T.g_is_deed⟩
end
section
variable {P : Program} {w : World} {K : PySem.W.Frag} {tb : List (Addr × Str)} {mg : Str → Option Value} {base : Heap}
theorem mk_House (T : Tx K mg) : WD.Mak P w K mg base (L2.CX P w) 5 "House" (He.ga K "House") (He.ma K (He.ga K "House") "__init__") (PM.SpI ⟨K, tb⟩ "House" ["size", "by_name"] 2 fi_House) [] := by
  obtain ⟨fd, F⟩ := T.F_House_init
  have h := PM.ini_ok (K := ⟨K, tb⟩) (P := P) (w := w) (mg := mg) (base := base) (n := 2) (k := 4) (C := "House") (ns := ["size", "by_name"]) (F := bi_House) F sc_House_init rfl (fun _ _ _ _ _ _ us hl => match us, hl with | [_, _, _], _ => rfl) (fun cdv A outer s H E a hr =>
    (PM.in_pre (PM.s_if (ps_if (PW.pt (PM.w_or (PM.t_not (PM.t_val (PM.i_call (ok_is_whole T) (takes_of rfl rfl rfl rfl) (hr.mono (by decide)) (by rfl) (PM.a_cons (PM.i_pv (pv 1)) PM.a_nil)))) (pw_or1 (PM.t_not (PM.t_chain (PM.op_leV) (PM.op_leV) PM.i_int (PM.i_pv (pv 1)) (PM.i_gi (by rfl) T.c_MOST_THINGS))))))
        (PM.ss_one (PM.s_raise (ps_raise rfl (takes_of rfl rfl rfl rfl) (WD.pmk_x (xm_NoHouse T) (hr.mono (by decide)) (by rfl) (PM.a_cons (PM.i_un PM.un_negV PM.i_int) PM.a_nil)))))
        PM.ss_nil))
      (PM.in_pre (PM.s_if (ps_if (PW.pt (PM.w_or (PM.t_not (PM.t_val (PM.i_isT (PM.i_pv (pv 2)) (pe_bltn (v := .ty "list") (by rfl) T.z_list WD.bt_list rfl) (by decide) (by rfl) T.z_isinstance))) (pw_or1 (PM.t_cmp (PM.op_gtV) (PM.i_callB (PM.cr_lenV) (by rfl) T.z_len WD.bt_len (PM.a_cons (PM.i_pv (pv 2)) PM.a_nil)) (PM.i_gi (by rfl) T.c_MOST_DEEDS) (nomark _)))))
        (PM.ss_one (PM.s_raise (ps_raise rfl (takes_of rfl rfl rfl rfl) (WD.pmk_x (xm_NoHouse T) (hr.mono (by decide)) (by rfl) (PM.a_cons (PM.i_un PM.un_negV PM.i_int) PM.a_nil)))))
        PM.ss_nil))
      (PM.in_pre (PM.s_set (ps_set (i := 3) sc_House_init.nd rfl (.inl rfl) PM.i_dnewK))
      (PM.in_pre (PM.s_for (passes_of rfl) rfl (PM.ii_enum (by rfl) T.z_enumerate (PM.a_cons (PM.i_pv (pv 2)) PM.a_nil)) (PM.g_tup (PM.gs_cons (PM.g_name (pg_name (i := 4) sc_House_init.nd rfl (.inl rfl))) (PM.gs_cons (PM.g_name (pg_name (i := 5) sc_House_init.nd rfl (.inl rfl))) PM.gs_nil)) rfl)
        (PM.ss_cons (PM.s_if (ps_if (PW.pt (PM.w_or (PM.t_not (PM.t_val (PM.i_call (ok_is_deed T) (takes_of rfl rfl rfl rfl) (hr.mono (by decide)) (by rfl) (PM.a_cons (PM.i_pv (pv 5)) (PM.a_cons (PM.i_pv (pv 1)) PM.a_nil))))) (pw_or1 (PM.t_cmp (PM.op_inV (WD.hu65 hr)) (PM.i_ix (WD.huD hr) (PM.i_pv (pv 5)) PM.i_int (fun _ _ => rfl)) (PM.i_pv (pv 3)) (by rfl)))))
        (PM.ss_one (PM.s_raise (ps_raise rfl (takes_of rfl rfl rfl rfl) (WD.pmk_x (xm_NoHouse T) (hr.mono (by decide)) (by rfl) (PM.a_cons (PM.i_pv (pv 4)) PM.a_nil)))))
        PM.ss_nil))
      (PM.ss_one (PM.s_dput (ps_dput (WD.huD hr) (PM.i_pv (pv 3)) (PM.i_ix (WD.huD hr) (PM.i_pv (pv 5)) PM.i_int (fun _ _ => rfl)) (PM.i_pv (pv 5)) rfl)))))
      (PM.in_fld (i := 0) (fun h1 h2 => WD.k_ps_fld K h1 h2) (pv 0) (PM.i_pv (pv 1)) (PM.in_frz (i := 3) (PM.in_fld (i := 0) (fun h1 h2 => WD.k_ps_fld K h1 h2) (pv 0) (PM.i_pv (pv 3)) PM.in_nil T.cl_House T.na_House_by_name (by decide) (by decide))) T.cl_House T.na_House_size (by decide) (by decide)))))))
  exact ⟨h, T.mk_House, T.g_House⟩
end
section
variable {P : Program} {w : World} {K : PySem.W.Frag} {tb : List (Addr × Str)} {mg : Str → Option Value} {base : Heap}
theorem ok__law_unfit (T : Tx K mg) : WD.Cal P w K mg base (L2.CX P w) 2 "_law_unfit" (He.ga K "_law_unfit") (PM.SpF ⟨K, tb⟩ 2 fn__law_unfit) [] := by
  obtain ⟨fd, F⟩ := T.F__law_unfit
  exact ⟨PM.fn_ok (K := ⟨K, tb⟩) (b := b__law_unfit) F sc__law_unfit (fun _ _ _ _ _ _ us hl => match us, hl with | [_, _], _ => rfl) (fun cdv A outer s H E hr =>
    (PM.ss_cons (PM.s_set (ps_set (i := 2) sc__law_unfit.nd rfl (.inl rfl) (PM.i_call (ok__law_draw T) (takes_of rfl rfl rfl rfl) (hr.mono (by decide)) (by rfl) (PM.a_cons (PM.i_pv (pv 0)) (PM.a_cons PM.i_int PM.a_nil)))))
      (PM.ss_cons (PM.s_set (ps_set (i := 3) sc__law_unfit.nd rfl (.inl rfl) (PM.i_tup (PM.a_cons PM.i_str (PM.a_cons PM.i_int (PM.a_cons (PM.i_tup (PM.a_cons PM.i_int PM.a_nil)) PM.a_nil))))))
      (PM.ss_cons (PM.s_if (ps_if (PW.pt (PM.w_or (PM.t_cmp (PM.op_eqV hr.units) (PM.i_pv (pv 1)) (PM.i_ofF (PM.f_lst PM.a_nil)) (nomark _)) (pw_or1 (PM.t_cmp (PM.op_eqV hr.units) (PM.i_pv (pv 2)) PM.i_int (nomark _)))))
        (PM.ss_one (PM.s_ret (ps_ret (PM.i_ofF (PM.f_op PM.op_addF (PM.i_pv (pv 1)) (PM.i_ofF (PM.f_lst (PM.a_cons (PM.i_pv (pv 3)) PM.a_nil))))))))
        PM.ss_nil))
      (PM.ss_cons (PM.s_if (ps_if (PM.t_cmp (PM.op_eqV hr.units) (PM.i_pv (pv 2)) PM.i_int (nomark _))
        (PM.ss_one (PM.s_ret (ps_ret (PM.i_sl (PM.i_pv (pv 1)) PM.o_none (PM.o_some (PM.i_un PM.un_negV PM.i_int))))))
        PM.ss_nil))
      (PM.ss_cons (PM.s_if (ps_if (PW.pt (PM.w_and (PM.t_cmp (PM.op_eqV hr.units) (PM.i_pv (pv 2)) PM.i_int (nomark _)) (pw_and1 (PM.t_cmp (PM.op_gtV) (PM.i_callB (PM.cr_lenV) (by rfl) T.z_len WD.bt_len (PM.a_cons (PM.i_pv (pv 1)) PM.a_nil)) PM.i_int (nomark _)))))
        (PM.ss_one (PM.s_ret (ps_ret (PM.i_rev (PM.i_pv (pv 1))))))
        PM.ss_nil))
      (PM.ss_one (PM.s_ret (ps_ret (PM.i_ofF (PM.f_op PM.op_addF (PM.i_sl (PM.i_pv (pv 1)) PM.o_none (PM.o_some (PM.i_un PM.un_negV PM.i_int))) (PM.i_ofF (PM.f_lst (PM.a_cons (PM.i_pv (pv 3)) PM.a_nil)))))))))))))), F.kp, T.g__law_unfit⟩
end
section
variable {P : Program} {w : World} {K : PySem.W.Frag} {tb : List (Addr × Str)} {mg : Str → Option Value} {base : Heap}
theorem mt_House_deeds (T : Tx K mg) : WD.Met P w K mg base (L2.CX P w) 1 (He.ga K "House") "deeds" (He.ma K (He.ga K "House") "deeds") (PM.SpF ⟨K, tb⟩ 1 fn_House_deeds) [] := by
  obtain ⟨fd, F⟩ := T.F_House_deeds
  exact ⟨PM.fn_ok (K := ⟨K, tb⟩) (b := b_House_deeds) F sc_House_deeds (fun _ _ _ _ _ _ us hl => match us, hl with | [_], _ => rfl) (fun cdv A outer s H E hr =>
    (PM.ss_one (PM.s_ret (ps_ret (PM.i_ofF (PM.f_listVals rfl (by rfl) T.z_list (PM.i_fld (cs := ["House"]) (PM.i_pv (pv 0)) (PM.fa_cons ⟨T.cl_House, T.na_House_by_name⟩ PM.fa_nil)))))))), T.cl_House, T.mt_House_deeds⟩
end
section
variable {P : Program} {w : World} {K : PySem.W.Frag} {tb : List (Addr × Str)} {mg : Str → Option Value} {base : Heap}
theorem ok_fits (T : Tx K mg) : WD.Cal P w K mg base (L2.CX P w) 2 "fits" (He.ga K "fits") (PM.SpF ⟨K, tb⟩ 2 fn_fits) [] := by
  obtain ⟨fd, F⟩ := T.F_fits
  exact ⟨PM.fn_ok (K := ⟨K, tb⟩) (b := b_fits) F sc_fits (fun _ _ _ _ _ _ us hl => match us, hl with | [_, _], _ => rfl) (fun cdv A outer s H E hr =>
    (PM.ss_one (PM.s_ret (ps_ret (PM.i_cmp (PM.op_eqV hr.units) (PM.i_ofF (PM.f_lc (pe_lc (own := [("deed", 2)]) rfl sc_fits.nd (PM.ii_val (PM.i_meth0 (mt_House_deeds T) (takes_of rfl rfl rfl rfl) (hr.mono (by decide)) (PM.i_pv (pv 0)))) (blkOk_by (N := ["one", "other", "deed"]) (sc := defScope s_fits) (by decide +kernel)) (fun _ _ _ _ _ => (PM.g_name (pg_name (i := 2) sc_fits.nd rfl (.inl rfl)))) (fun _ _ _ _ _ => PM.ts_yes) (fun _ _ _ _ _ => (PM.i_sl (PM.i_pv (pv 2)) PM.o_none (PM.o_some PM.i_int)))))) (PM.i_ofF (PM.f_lc (pe_lc (own := [("deed", 2)]) rfl sc_fits.nd (PM.ii_val (PM.i_meth0 (mt_House_deeds T) (takes_of rfl rfl rfl rfl) (hr.mono (by decide)) (PM.i_pv (pv 1)))) (blkOk_by (N := ["one", "other", "deed"]) (sc := defScope s_fits) (by decide +kernel)) (fun _ _ _ _ _ => (PM.g_name (pg_name (i := 2) sc_fits.nd rfl (.inl rfl)))) (fun _ _ _ _ _ => PM.ts_yes) (fun _ _ _ _ _ => (PM.i_sl (PM.i_pv (pv 2)) PM.o_none (PM.o_some PM.i_int)))))) (nomark _)))))), F.kp, T.g_fits⟩
end
section
variable {P : Program} {w : World} {K : PySem.W.Frag} {tb : List (Addr × Str)} {mg : Str → Option Value} {base : Heap}
theorem mt_House_things (T : Tx K mg) : WD.Met P w K mg base (L2.CX P w) 1 (He.ga K "House") "things" (He.ma K (He.ga K "House") "things") (PM.SpF ⟨K, tb⟩ 1 fn_House_things) [] := by
  obtain ⟨fd, F⟩ := T.F_House_things
  exact ⟨PM.fn_ok (K := ⟨K, tb⟩) (b := b_House_things) F sc_House_things (fun _ _ _ _ _ _ us hl => match us, hl with | [_], _ => rfl) (fun cdv A outer s H E hr =>
    (PM.ss_one (PM.s_ret (ps_ret (PM.i_fld (cs := ["House"]) (PM.i_pv (pv 0)) (PM.fa_cons ⟨T.cl_House, T.na_House_size⟩ PM.fa_nil)))))), T.cl_House, T.mt_House_things⟩
end
section
variable {P : Program} {w : World} {K : PySem.W.Frag} {mg : Str → Option Value} {base : Heap}
theorem xm_TooMany (T : Tx K mg) : WD.Xmk P w K mg base 1 "TooMany" (He.ga K "TooMany") (He.ma K (He.ga K "TooMany") "__init__") "many" := by
  obtain ⟨fd, F⟩ := T.F_TooMany_init
  refine ⟨WD.fn0_of F sc_TooMany_init (fun vs H Q E h => ?_) (fun _ _ _ _ _ _ us hl => match us, hl with | [_, _], _ => rfl) (fun cdv A outer s H vs Q E hr h => ?_), T.ox_TooMany, T.ix_TooMany, T.g_TooMany⟩
  · obtain ⟨a, v, rfl, ha, k⟩ := h
    rfl
  · obtain ⟨a, v, rfl, ha, k⟩ := h
    refine ⟨_, (pss_cons (ps_expr (WD.pe_oinit (by rfl) T.g_WishError T.px_WishError (pa_cons (pv 0) (pa_cons pe_str pa_nil))))
      (pss_one (ps_ost (pv 0) (pv 1)))), ?_⟩
    refine ⟨_, rfl, a, He.ga K "TooMany", [_], rfl, by show 1 ≤ 1000; decide, T.ox_TooMany, ha, ?_⟩
    exact ⟨_, rfl, _, rfl, a, He.ga K "TooMany", rfl, T.ox_TooMany, T.nx_TooMany, .inl ⟨ha, k⟩⟩
end
section
variable {P : Program} {w : World} {K : PySem.W.Frag} {tb : List (Addr × Str)} {mg : Str → Option Value} {base : Heap}
theorem ok_check_sizes (T : Tx K mg) : WD.Cal P w K mg base (L2.CX P w) 3 "check_sizes" (He.ga K "check_sizes") (PM.SpF ⟨K, tb⟩ 1 fn_check_sizes) [] := by
  obtain ⟨fd, F⟩ := T.F_check_sizes
  exact ⟨PM.fn_ok (K := ⟨K, tb⟩) (b := b_check_sizes) F sc_check_sizes (fun _ _ _ _ _ _ us hl => match us, hl with | [_], _ => rfl) (fun cdv A outer s H E hr =>
    (PM.ss_cons (PM.s_set (ps_set (i := 1) sc_check_sizes.nd rfl (.inl rfl) PM.i_int))
      (PM.ss_cons (PM.s_for (passes_of rfl) rfl (PM.ii_val (PM.i_pv (pv 0))) (PM.g_name (pg_name (i := 2) sc_check_sizes.nd rfl (.inl rfl)))
        (PM.ss_one (PM.s_set (ps_set (i := 1) sc_check_sizes.nd rfl (.inl rfl) (PM.i_op PM.op_mulV (PM.i_pv (pv 1)) (PM.i_meth0 (mt_House_things T) (takes_of rfl rfl rfl rfl) (hr.mono (by decide)) (PM.i_pv (pv 2))))))))
      (PM.ss_one (PM.s_if (ps_if (PM.t_cmp (PM.op_gtV) (PM.i_pv (pv 1)) (PM.i_gi (by rfl) T.c_MOST_THINGS) (nomark _))
        (PM.ss_one (PM.s_raise (ps_raise rfl (takes_of rfl rfl rfl rfl) (WD.pmk_x (xm_TooMany T) (hr.mono (by decide)) (by rfl) (PM.a_cons (PM.i_gi (by rfl) T.c_MOST_THINGS) PM.a_nil)))))
        PM.ss_nil)))))), F.kp, T.g_check_sizes⟩
end
section
variable {P : Program} {w : World} {K : PySem.W.Frag} {tb : List (Addr × Str)} {mg : Str → Option Value} {base : Heap}
theorem ok_choices (T : Tx K mg) : WD.Cal P w K mg base (L2.CX P w) 1 "choices" (He.ga K "choices") (PM.SpF ⟨K, tb⟩ 1 fn_choices) [] := by
  obtain ⟨fd, F⟩ := T.F_choices
  exact ⟨PM.fn_ok (K := ⟨K, tb⟩) (b := b_choices) F sc_choices (fun _ _ _ _ _ _ us hl => match us, hl with | [_], _ => rfl) (fun cdv A outer s H E hr =>
    (PM.ss_cons (PM.s_set (ps_set (i := 1) sc_choices.nd rfl (.inl rfl) (PM.i_ofF (PM.f_lst (PM.a_cons (PM.i_tup PM.a_nil) PM.a_nil)))))
      (PM.ss_cons (PM.s_for (passes_of rfl) rfl (PM.ii_val (PM.i_pv (pv 0))) (PM.g_name (pg_name (i := 2) sc_choices.nd rfl (.inl rfl)))
        (PM.ss_cons (PM.s_set (ps_set (i := 3) sc_choices.nd rfl (.inl rfl) (PM.i_cellF (PM.f_lst PM.a_nil))))
      (PM.ss_cons (PM.s_for (passes_of rfl) rfl (PM.ii_val (PM.i_pv (pv 1))) (PM.g_name (pg_name (i := 4) sc_choices.nd rfl (.inr rfl)))
        (PM.ss_one (PM.s_exp (PM.i_ext (PM.i_pv (pv 3)) (PM.a_cons (PM.i_ofF (PM.f_lc (pe_lc (own := [("one", 5)]) rfl sc_choices.nd (PM.ii_range1 (by rfl) T.z_range (PM.a_cons (PM.i_pv (pv 2)) PM.a_nil)) (blkOk_by (N := ["counts", "found", "size", "longer", "row", "one"]) (sc := defScope s_choices) (by decide +kernel)) (fun _ _ _ _ _ => (PM.g_name (pg_name (i := 5) sc_choices.nd rfl (.inl rfl)))) (fun _ _ _ _ _ => PM.ts_yes) (fun _ _ _ _ _ => (PM.i_op PM.op_addV (PM.i_pv (pv 4)) (PM.i_tup (PM.a_cons (PM.i_pv (pv 5)) PM.a_nil))))))) PM.a_nil) (fun ho ha => WD.k_pe_bm K PySem.F.plainAttrs_list PySem.F.slot_list_extend PySem.F.type_list_extend mt_extend ho ha)))))
      (PM.ss_frz (i := 3) (PM.ss_one (PM.s_set (ps_set (i := 1) sc_choices.nd rfl (.inl rfl) (PM.i_pv (pv 3)))))))))
      (PM.ss_one (PM.s_ret (ps_ret (PM.i_pv (pv 1)))))))), F.kp, T.g_choices⟩
end
section
variable {P : Program} {w : World} {K : PySem.W.Frag} {tb : List (Addr × Str)} {mg : Str → Option Value} {base : Heap}
theorem mt_House_names (T : Tx K mg) : WD.Met P w K mg base (L2.CX P w) 1 (He.ga K "House") "names" (He.ma K (He.ga K "House") "names") (PM.SpF ⟨K, tb⟩ 1 fn_House_names) [] := by
  obtain ⟨fd, F⟩ := T.F_House_names
  exact ⟨PM.fn_ok (K := ⟨K, tb⟩) (b := b_House_names) F sc_House_names (fun _ _ _ _ _ _ us hl => match us, hl with | [_], _ => rfl) (fun cdv A outer s H E hr =>
    (PM.ss_one (PM.s_ret (ps_ret (PM.i_ofF (PM.f_callTy (PM.cr_listF rfl) (by rfl) T.z_list WD.bt_list (PM.a_cons (PM.i_fld (cs := ["House"]) (PM.i_pv (pv 0)) (PM.fa_cons ⟨T.cl_House, T.na_House_by_name⟩ PM.fa_nil)) PM.a_nil))))))), T.cl_House, T.mt_House_names⟩
end
section
variable {P : Program} {w : World} {K : PySem.W.Frag} {tb : List (Addr × Str)} {mg : Str → Option Value} {base : Heap}
theorem ok_rows_within (T : Tx K mg) : WD.Cal P w K mg base (L2.CX P w) 1 "rows_within" (He.ga K "rows_within") (PM.SpF ⟨K, tb⟩ 2 fn_rows_within) [] := by
  obtain ⟨fd, F⟩ := T.F_rows_within
  exact ⟨PM.fn_ok (K := ⟨K, tb⟩) (b := b_rows_within) F sc_rows_within (fun _ _ _ _ _ _ us hl => match us, hl with | [_, _], _ => rfl) (fun cdv A outer s H E hr =>
    (PM.ss_cons (PM.s_set (ps_set (i := 2) sc_rows_within.nd rfl (.inl rfl) (PM.i_ofF (PM.f_lst (PM.a_cons (PM.i_tup PM.a_nil) PM.a_nil)))))
      (PM.ss_cons (PM.s_for (passes_of rfl) rfl (PM.ii_range1 (by rfl) T.z_range (PM.a_cons (PM.i_pv (pv 1)) PM.a_nil)) (PM.g_name (pg_name (i := 3) sc_rows_within.nd rfl (.inl rfl)))
        (PM.ss_cons (PM.s_set (ps_set (i := 4) sc_rows_within.nd rfl (.inl rfl) (PM.i_cellF (PM.f_lst PM.a_nil))))
      (PM.ss_cons (PM.s_for (passes_of rfl) rfl (PM.ii_val (PM.i_pv (pv 2))) (PM.g_name (pg_name (i := 5) sc_rows_within.nd rfl (.inr rfl)))
        (PM.ss_one (PM.s_exp (PM.i_ext (PM.i_pv (pv 4)) (PM.a_cons (PM.i_ofF (PM.f_lc (pe_lc (own := [("one", 6)]) rfl sc_rows_within.nd (PM.ii_val (PM.i_pv (pv 0))) (blkOk_by (N := ["lot", "places", "found", "k", "longer", "row", "one"]) (sc := defScope s_rows_within) (by decide +kernel)) (fun _ _ _ _ _ => (PM.g_name (pg_name (i := 6) sc_rows_within.nd rfl (.inl rfl)))) (fun _ _ _ _ _ => PM.ts_yes) (fun _ _ _ _ _ => (PM.i_op PM.op_addV (PM.i_pv (pv 5)) (PM.i_tup (PM.a_cons (PM.i_pv (pv 6)) PM.a_nil))))))) PM.a_nil) (fun ho ha => WD.k_pe_bm K PySem.F.plainAttrs_list PySem.F.slot_list_extend PySem.F.type_list_extend mt_extend ho ha)))))
      (PM.ss_frz (i := 4) (PM.ss_one (PM.s_set (ps_set (i := 2) sc_rows_within.nd rfl (.inl rfl) (PM.i_pv (pv 4)))))))))
      (PM.ss_one (PM.s_ret (ps_ret (PM.i_pv (pv 2)))))))), F.kp, T.g_rows_within⟩
end
section
variable {P : Program} {w : World} {K : PySem.W.Frag} {tb : List (Addr × Str)} {mg : Str → Option Value} {base : Heap}
theorem ok_spot_of (T : Tx K mg) : WD.Cal P w K mg base (L2.CX P w) 1 "spot_of" (He.ga K "spot_of") (PM.SpF ⟨K, tb⟩ 2 fn_spot_of) [] := by
  obtain ⟨fd, F⟩ := T.F_spot_of
  exact ⟨PM.fn_ok (K := ⟨K, tb⟩) (b := b_spot_of) F sc_spot_of (fun _ _ _ _ _ _ us hl => match us, hl with | [_, _], _ => rfl) (fun cdv A outer s H E hr =>
    (PM.ss_cons (PM.s_set (ps_set (i := 2) sc_spot_of.nd rfl (.inl rfl) PM.i_int))
      (PM.ss_cons (PM.s_for (passes_of rfl) rfl (PM.ii_val (PM.i_pv (pv 0))) (PM.g_name (pg_name (i := 3) sc_spot_of.nd rfl (.inl rfl)))
        (PM.ss_one (PM.s_set (ps_set (i := 2) sc_spot_of.nd rfl (.inl rfl) (PM.i_op PM.op_addV (PM.i_op PM.op_mulV (PM.i_pv (pv 2)) (PM.i_pv (pv 1))) (PM.i_pv (pv 3)))))))
      (PM.ss_one (PM.s_ret (ps_ret (PM.i_pv (pv 2)))))))), F.kp, T.g_spot_of⟩
end
section
variable {P : Program} {w : World} {K : PySem.W.Frag} {tb : List (Addr × Str)} {mg : Str → Option Value} {base : Heap}
theorem ok_deed_by_rows (T : Tx K mg) : WD.Cal P w K mg base (L2.CX P w) 2 "deed_by_rows" (He.ga K "deed_by_rows") (PM.SpF ⟨K, tb⟩ 3 fn_deed_by_rows) [] := by
  obtain ⟨fd, F⟩ := T.F_deed_by_rows
  exact ⟨PM.fn_ok (K := ⟨K, tb⟩) (b := b_deed_by_rows) F sc_deed_by_rows (fun _ _ _ _ _ _ us hl => match us, hl with | [_, _, _], _ => rfl) (fun cdv A outer s H E hr =>
    (PM.ss_cons (PM.s_asg (ps_asg (PM.i_ix (WD.huD hr) (PM.i_meth0 (mt_House_deeds T) (takes_of rfl rfl rfl rfl) (hr.mono (by decide)) (PM.i_ix (WD.huD hr) (PM.i_pv (pv 1)) PM.i_int (fun _ _ => rfl))) (PM.i_pv (pv 0)) (fun _ _ => rfl)) (PM.g_tup (PM.gs_cons (PM.g_name (pg_name (i := 3) sc_deed_by_rows.nd rfl (.inl rfl))) (PM.gs_cons (PM.g_name (pg_name (i := 4) sc_deed_by_rows.nd rfl (.inl rfl))) (PM.gs_cons (PM.g_name (pg_name (i := 5) sc_deed_by_rows.nd rfl (.inl rfl))) PM.gs_nil))) rfl)))
      (PM.ss_cons (PM.s_set (ps_set (i := 6) sc_deed_by_rows.nd rfl (.inl rfl) (PM.i_frz (PM.i_dictT rfl (Room.units hr) (by rfl) T.z_dict (PM.i_ofF (PM.f_lc (pe_lc (own := [("number", 13), ("row", 14)]) rfl sc_deed_by_rows.nd (PM.ii_enum (by rfl) T.z_enumerate (PM.a_cons (PM.i_pv (pv 2)) PM.a_nil)) (blkOk_by (N := ["at", "houses", "rows", "name", "places", "table", "numbers", "come", "things", "found", "spot", "house", "cell", "number", "row"]) (sc := defScope s_deed_by_rows) (by decide +kernel)) (fun _ _ _ _ _ => (PM.g_tup (PM.gs_cons (PM.g_name (pg_name (i := 13) sc_deed_by_rows.nd rfl (.inl rfl))) (PM.gs_cons (PM.g_name (pg_name (i := 14) sc_deed_by_rows.nd rfl (.inl rfl))) PM.gs_nil)) rfl)) (fun _ _ _ _ _ => PM.ts_yes) (fun _ _ _ _ _ => (PM.i_tup (PM.a_cons (PM.i_pv (pv 14)) (PM.a_cons (PM.i_pv (pv 13)) PM.a_nil)))))))))))
      (PM.ss_cons (PM.s_set (ps_set (i := 7) sc_deed_by_rows.nd rfl (.inl rfl) (PM.i_cellF (PM.f_lst PM.a_nil))))
      (PM.ss_cons (PM.s_for (passes_of rfl) rfl (PM.ii_val (PM.i_call (ok_rows_within T) (takes_of rfl rfl rfl rfl) (hr.mono (by decide)) (by rfl) (PM.a_cons (PM.i_pv (pv 2)) (PM.a_cons (PM.i_pv (pv 4)) PM.a_nil)))) (PM.g_name (pg_name (i := 8) sc_deed_by_rows.nd rfl (.inl rfl)))
        (PM.ss_cons (PM.s_set (ps_set (i := 9) sc_deed_by_rows.nd rfl (.inl rfl) (PM.i_cellF (PM.f_lst PM.a_nil))))
      (PM.ss_cons (PM.s_for (passes_of rfl) rfl (PM.ii_enum (by rfl) T.z_enumerate (PM.a_cons (PM.i_pv (pv 1)) PM.a_nil)) (PM.g_tup (PM.gs_cons (PM.g_name (pg_name (i := 10) sc_deed_by_rows.nd rfl (.inr rfl))) (PM.gs_cons (PM.g_name (pg_name (i := 11) sc_deed_by_rows.nd rfl (.inl rfl))) PM.gs_nil)) rfl)
        (PM.ss_cons (PM.s_set (ps_set (i := 12) sc_deed_by_rows.nd rfl (.inl rfl) (PM.i_call (ok_spot_of T) (takes_of rfl rfl rfl rfl) (hr.mono (by decide)) (by rfl) (PM.a_cons (PM.i_ofF (PM.f_lc (pe_lc (own := [("row", 14)]) rfl sc_deed_by_rows.nd (PM.ii_val (PM.i_pv (pv 8))) (blkOk_by (N := ["at", "houses", "rows", "name", "places", "table", "numbers", "come", "things", "found", "spot", "house", "cell", "number", "row"]) (sc := defScope s_deed_by_rows) (by decide +kernel)) (fun _ _ _ _ _ => (PM.g_name (pg_name (i := 14) sc_deed_by_rows.nd rfl (.inl rfl)))) (fun _ _ _ _ _ => PM.ts_yes) (fun _ _ _ _ _ => (PM.i_ix (WD.huD hr) (PM.i_pv (pv 14)) (PM.i_pv (pv 10)) (fun _ _ => rfl)))))) (PM.a_cons (PM.i_meth0 (mt_House_things T) (takes_of rfl rfl rfl rfl) (hr.mono (by decide)) (PM.i_pv (pv 11))) PM.a_nil)))))
      (PM.ss_one (PM.s_exp (PM.i_mut PySem.F.slot_list_append PySem.F.type_list_append PM.mt_appendM (PM.i_pv (pv 9)) (PM.a_cons (PM.i_ix (WD.huD hr) (PM.i_ix (WD.huD hr) (PM.i_ix (WD.huD hr) (PM.i_meth0 (mt_House_deeds T) (takes_of rfl rfl rfl rfl) (hr.mono (by decide)) (PM.i_pv (pv 11))) (PM.i_pv (pv 0)) (fun _ _ => rfl)) PM.i_int (fun _ _ => rfl)) (PM.i_pv (pv 12)) (fun _ _ => rfl)) PM.a_nil) (fun hm ho ha => WD.k_pe_bm K PySem.F.plainAttrs_list PySem.F.slot_list_append PySem.F.type_list_append hm ho ha))))))
      (PM.ss_one (PM.s_exp (PM.i_mut PySem.F.slot_list_append PySem.F.type_list_append PM.mt_appendM (PM.i_pv (pv 7)) (PM.a_cons (PM.i_ix (WD.huD hr) (PM.i_pv (pv 6)) (PM.i_callTy PM.cr_tupleV (by rfl) T.z_tuple WD.bt_tuple (PM.a_cons (PM.i_pv (pv 9)) PM.a_nil)) (fun _ _ => rfl)) PM.a_nil) (fun hm ho ha => WD.k_pe_bm K PySem.F.plainAttrs_list PySem.F.slot_list_append PySem.F.type_list_append hm ho ha)))))))
      (PM.ss_one (PM.s_ret (ps_ret (PM.i_tup (PM.a_cons (PM.i_pv (pv 3)) (PM.a_cons (PM.i_pv (pv 4)) (PM.a_cons (PM.i_callTy PM.cr_tupleV (by rfl) T.z_tuple WD.bt_tuple (PM.a_cons (PM.i_pv (pv 7)) PM.a_nil)) PM.a_nil)))))))))))), F.kp, T.g_deed_by_rows⟩
end
section
variable {P : Program} {w : World} {K : PySem.W.Frag} {tb : List (Addr × Str)} {mg : Str → Option Value} {base : Heap}
theorem ok_product (T : Tx K mg) : WD.Cal P w K mg base (L2.CX P w) 7 "product" (He.ga K "product") (PM.SpF ⟨K, tb⟩ 1 fn_product) [] := by
  obtain ⟨fd, F⟩ := T.F_product
  exact ⟨PM.fn_ok (K := ⟨K, tb⟩) (b := b_product) F sc_product (fun _ _ _ _ _ _ us hl => match us, hl with | [_], _ => rfl) (fun cdv A outer s H E hr =>
    (PM.ss_cons (PM.s_if (ps_if (PM.t_not (PM.t_val (PM.i_lend (j := 0) (PM.i_callB (PM.cr_allV rfl) (by rfl) T.z_all WD.bt_all (PM.a_cons (PM.i_ofF (PM.f_lcC (pe_lc (own := [("house", 6)]) rfl sc_product.nd (pi_list (PM.i_pv (pv 0))) (blkOk_by (N := ["houses", "rows", "deeds", "ways", "at", "spot", "house", "row"]) (sc := defScope s_product) (by decide +kernel)) (fun _ _ _ _ _ => (PM.g_name (pg_name (i := 6) sc_product.nd rfl (.inl rfl)))) (fun _ _ _ _ _ => PM.ts_yes) (fun _ _ _ _ _ => (PM.i_call (ok_fits T) takes0 (hr.mono (by decide)) (by rfl) (PM.a_cons (PM.i_ix (WD.huD hr) (PM.i_pv (pv 0)) PM.i_int (fun _ _ => rfl)) (PM.a_cons (PM.i_pv (pv 6)) PM.a_nil))))))) PM.a_nil)))))
        (PM.ss_one (PM.s_raise0 (ps_raise rfl (takes_of rfl rfl rfl rfl) (pmk_own PySem.F.excBase_ValueError T.xo_NoFit.1 T.g_NoFit T.xo_NoFit.2.1 (raises_own T.xo_NoFit.2.2.1 T.xo_NoFit.2.2.2) (by rfl)))))
        PM.ss_nil))
      (PM.ss_cons (PM.s_exp (PM.i_lend (j := 0) (PM.i_call (ok_check_sizes T) (takes_of rfl rfl rfl rfl) (hr.mono (by decide)) (by rfl) (PM.a_cons (PM.i_pv (pv 0)) PM.a_nil))))
      (PM.ss_cons (PM.s_set (ps_set (i := 1) sc_product.nd rfl (.inr rfl) (PM.i_call (ok_choices T) (takes_of rfl rfl rfl rfl) (hr.mono (by decide)) (by rfl) (PM.a_cons (PM.i_ofF (PM.f_lcC (pe_lc (own := [("house", 6)]) rfl sc_product.nd (pi_list (PM.i_pv (pv 0))) (blkOk_by (N := ["houses", "rows", "deeds", "ways", "at", "spot", "house", "row"]) (sc := defScope s_product) (by decide +kernel)) (fun _ _ _ _ _ => (PM.g_name (pg_name (i := 6) sc_product.nd rfl (.inl rfl)))) (fun _ _ _ _ _ => PM.ts_yes) (fun _ _ _ _ _ => (PM.i_meth0 (mt_House_things T) takes0 (hr.mono (by decide)) (PM.i_pv (pv 6))))))) PM.a_nil))))
      (PM.ss_cons (PM.s_lcT (ps_setLc (i := 2) (own := [("at", 4)]) rfl sc_product.nd rfl rfl (sw_true rfl rfl rfl (by decide +kernel)) (PM.ii_range1 (by rfl) T.z_range (PM.a_cons (PM.i_callB (PM.cr_lenV) (by rfl) T.z_len WD.bt_len (PM.a_cons (PM.i_meth0 (mt_House_names T) (takes_of rfl rfl rfl rfl) (hr.mono (by decide)) (PM.i_ix (WD.huD hr) (PM.i_pv (pv 0)) PM.i_int (fun _ _ => rfl))) PM.a_nil)) PM.a_nil)) (blkOk_by (N := ["houses", "rows", "deeds", "ways", "at", "spot", "house", "row"]) (sc := defScope s_product) (by decide +kernel)) (fun _ _ _ _ _ => (PM.g_name (pg_name (i := 4) sc_product.nd rfl (.inl rfl)))) (fun _ _ _ _ _ => PM.ts_yes) (fun _ _ _ _ _ => (PM.i_lend (j := 0) (PM.i_call (ok_deed_by_rows T) takes0 (hr.mono (by decide)) (by rfl) (PM.a_cons (PM.i_pv (pv 4)) (PM.a_cons (PM.i_pv (pv 0)) (PM.a_cons (PM.i_pv (pv 1)) PM.a_nil))))))))
      (PM.ss_cons (PM.s_lcC (ps_setLc (i := 3) (own := [("spot", 5)]) rfl sc_product.nd rfl rfl (sw_true rfl rfl rfl (by decide +kernel)) (PM.ii_range1 (by rfl) T.z_range (PM.a_cons (PM.i_callB (PM.cr_lenV) (by rfl) T.z_len WD.bt_len (PM.a_cons (PM.i_pv (pv 0)) PM.a_nil)) PM.a_nil)) (blkOk_by (N := ["houses", "rows", "deeds", "ways", "at", "spot", "house", "row"]) (sc := defScope s_product) (by decide +kernel)) (fun _ _ _ _ _ => (PM.g_name (pg_name (i := 5) sc_product.nd rfl (.inr rfl)))) (fun _ _ _ _ _ => PM.ts_yes) (fun _ _ _ _ _ => (PM.i_callTy PM.cr_tupleV (by rfl) T.z_tuple WD.bt_tuple (PM.a_cons (PM.i_ofF (PM.f_lc (pe_lc (own := [("row", 7)]) rfl sc_product.nd (PM.ii_val (PM.i_pv (pv 1))) (blkOk_by (by kernel_rfl)) (fun _ _ _ _ _ => (PM.g_name (pg_name (i := 7) sc_product.nd rfl (.inl rfl)))) (fun _ _ _ _ _ => PM.ts_yes) (fun _ _ _ _ _ => (PM.i_ix (WD.huD hr) (PM.i_pv (pv 7)) (PM.i_pv (pv 5)) (fun _ _ => rfl)))))) PM.a_nil)))))
      (PM.ss_one (PM.s_ret (ps_ret (PM.i_tupG (PM.a_cons (PM.i_make (mk_House T) (takes_of rfl rfl rfl rfl) (hr.mono (by decide)) (by rfl) (PM.a_cons (PM.i_callB (PM.cr_lenV) (by rfl) T.z_len WD.bt_len (PM.a_cons (PM.i_pv (pv 1)) PM.a_nil)) (PM.a_cons (PM.i_pv (pv 2)) PM.a_nil))) (PM.a_cons (PM.i_pv (pv 3)) PM.a_nil)))))))))))), F.kp, T.g_product⟩
end
section
variable {P : Program} {w : World} {K : PySem.W.Frag} {tb : List (Addr × Str)} {mg : Str → Option Value} {base : Heap}
theorem ok__law_told (T : Tx K mg) : WD.Cal P w K mg base (L2.CX P w) 8 "_law_told" (He.ga K "_law_told") (PM.SpF ⟨K, tb⟩ 1 fn__law_told) [] := by
  obtain ⟨fd, F⟩ := T.F__law_told
  exact ⟨PM.fn_ok (K := ⟨K, tb⟩) (b := b__law_told) F sc__law_told (fun _ _ _ _ _ _ us hl => match us, hl with | [_], _ => rfl) (fun cdv A outer s H E hr =>
    (PM.ss_cons (PM.s_set (ps_set (i := 1) sc__law_told.nd rfl (.inl rfl) PM.i_non))
      (PM.ss_cons (PM.s_try rfl rfl sc__law_told.nd (takes_of rfl rfl rfl rfl) (fun W pn xe tk => (PM.ss_one (PM.s_set (ps_set (i := 1) sc__law_told.nd rfl (.inl rfl) (PM.i_tup (PM.a_cons PM.i_str (PM.a_cons (PM.i_call (ok_product T) tk (hr.mono (by decide)) (by rfl) (PM.a_cons (PM.i_pv (pv 0)) PM.a_nil)) PM.a_nil)))))))
        (WD.Clauses.cons (i := 2) (c := .ref (He.ga K "NoFit")) ⟨by rfl, by decide, .inl T.g_NoFit⟩ rfl rfl (fun a oe cls d pn hz hf => (PM.ss_one (PM.s_set (ps_set (i := 1) sc__law_told.nd rfl (.inl rfl) (PM.i_tup (PM.a_cons PM.i_str (PM.a_cons (PM.i_and (PM.i_isX (tab := [("NoFit", true)]) (cv := (.type "ValueError")) hz hf (PM.i_pv (pv 2)) (pe_bltn (v := .ty "ValueError") (by rfl) T.z_ValueError WD.bt_ValueError rfl) (fun _ h => h) (PM.fa_cons ⟨T.ex_NoFit, T.kv_NoFit⟩ PM.fa_nil) (by rfl) T.z_isinstance) (pe_one (PM.i_not (PM.i_isX (tab := [("NoFit", false)]) (cv := (.ref (He.ga K "TooMany"))) hz hf (PM.i_pv (pv 2)) (pe_glob (v := .ref (He.ga K "TooMany")) (by rfl) T.g_TooMany rfl) (fun _ h => h) (PM.fa_cons ⟨T.ex_NoFit, T.ki_NoFit_TooMany⟩ PM.fa_nil) (by rfl) T.z_isinstance)))) PM.a_nil))))))) (WD.Clauses.cons (i := 2) (c := .ref (He.ga K "TooMany")) ⟨by rfl, by decide, .inl T.g_TooMany⟩ rfl rfl (fun a oe cls d pn hz hf => (PM.ss_one (PM.s_set (ps_set (i := 1) sc__law_told.nd rfl (.inl rfl) (PM.i_tup (PM.a_cons PM.i_str (PM.a_cons (PM.i_xf (cs := ["TooMany"]) hz hf (PM.i_pv (pv 2)) (PM.fa_cons ⟨T.ex_TooMany, T.nx_TooMany⟩ PM.fa_nil)) PM.a_nil))))))) WD.Clauses.nil)) ⟨(PM.fa_cons T.em_NoFit_NoFit PM.fa_nil), (PM.fa_cons T.em_NoHouse_NoFit (PM.fa_cons T.em_TooMany_NoFit PM.fa_nil)), ⟨(PM.fa_cons T.em_TooMany_TooMany PM.fa_nil), (PM.fa_cons T.em_NoFit_TooMany (PM.fa_cons T.em_NoHouse_TooMany PM.fa_nil)), trivial⟩⟩)
      (PM.ss_one (PM.s_ret (ps_ret (PM.i_pv (pv 1)))))))), F.kp, T.g__law_told⟩
end
section
variable {P : Program} {w : World} {K : PySem.W.Frag} {tb : List (Addr × Str)} {mg : Str → Option Value} {base : Heap}
theorem ok__law_cell (T : Tx K mg) : WD.Cal P w K mg base (L2.CX P w) 1 "_law_cell" (He.ga K "_law_cell") (PM.SpF ⟨K, tb⟩ 2 fn__law_cell) [] := by
  obtain ⟨fd, F⟩ := T.F__law_cell
  exact ⟨PM.fn_ok (K := ⟨K, tb⟩) (b := b__law_cell) F sc__law_cell (fun _ _ _ _ _ _ us hl => match us, hl with | [_, _], _ => rfl) (fun cdv A outer s H E hr =>
    (PM.ss_cons (PM.s_set (ps_set (i := 2) sc__law_cell.nd rfl (.inl rfl) PM.i_int))
      (PM.ss_cons (PM.s_for (passes_of rfl) rfl (PM.ii_val (PM.i_pv (pv 0))) (PM.g_name (pg_name (i := 3) sc__law_cell.nd rfl (.inl rfl)))
        (PM.ss_one (PM.s_set (ps_set (i := 2) sc__law_cell.nd rfl (.inl rfl) (PM.i_op PM.op_addV (PM.i_op PM.op_mulV (PM.i_pv (pv 2)) (PM.i_pv (pv 1))) (PM.i_pv (pv 3)))))))
      (PM.ss_one (PM.s_ret (ps_ret (PM.i_pv (pv 2)))))))), F.kp, T.g__law_cell⟩
end
section
variable {P : Program} {w : World} {K : PySem.W.Frag} {tb : List (Addr × Str)} {mg : Str → Option Value} {base : Heap}
theorem ok__law_due (T : Tx K mg) : WD.Cal P w K mg base (L2.CX P w) 2 "_law_due" (He.ga K "_law_due") (PM.SpF ⟨K, tb⟩ 2 fn__law_due) [] := by
  obtain ⟨fd, F⟩ := T.F__law_due
  exact ⟨PM.fn_ok (K := ⟨K, tb⟩) (b := b__law_due) F sc__law_due (fun _ _ _ _ _ _ us hl => match us, hl with | [_, _], _ => rfl) (fun cdv A outer s H E hr =>
    (PM.ss_cons (PM.s_set (ps_set (i := 2) sc__law_due.nd rfl (.inr rfl) (PM.i_call (ok__law_rows T) (takes_of rfl rfl rfl rfl) (hr.mono (by decide)) (by rfl) (PM.a_cons (PM.i_pv (pv 0)) PM.a_nil))))
      (PM.ss_cons (PM.s_set (ps_set (i := 3) sc__law_due.nd rfl (.inl rfl) (PM.i_cellF (PM.f_lst PM.a_nil))))
      (PM.ss_cons (PM.s_for (passes_of rfl) rfl (PM.ii_enum (by rfl) T.z_enumerate (PM.a_cons (PM.i_ix (WD.huD hr) (PM.i_pv (pv 1)) PM.i_int (fun _ _ => rfl)) PM.a_nil)) (PM.g_tup (PM.gs_cons (PM.g_name (pg_name (i := 4) sc__law_due.nd rfl (.inl rfl))) (PM.gs_cons (PM.g_name (pg_name (i := 5) sc__law_due.nd rfl (.inl rfl))) PM.gs_nil)) rfl)
        (PM.ss_cons (PM.s_set (ps_set (i := 6) sc__law_due.nd rfl (.inl rfl) (PM.i_cellF (PM.f_lst PM.a_nil))))
      (PM.ss_cons (PM.s_for (passes_of rfl) rfl (PM.ii_val (PM.i_call (ok__law_over T) (takes_of rfl rfl rfl rfl) (hr.mono (by decide)) (by rfl) (PM.a_cons (PM.i_ofF (PM.f_listRg1 rfl (by rfl) T.z_list (by rfl) T.z_range (PM.i_callB (PM.cr_lenV) (by rfl) T.z_len WD.bt_len (PM.a_cons (PM.i_pv (pv 2)) PM.a_nil)))) (PM.a_cons (PM.i_ix (WD.huD hr) (PM.i_pv (pv 5)) PM.i_int (fun _ _ => rfl)) PM.a_nil)))) (PM.g_name (pg_name (i := 7) sc__law_due.nd rfl (.inl rfl)))
        (PM.ss_cons (PM.s_set (ps_set (i := 8) sc__law_due.nd rfl (.inl rfl) (PM.i_cellF (PM.f_lst PM.a_nil))))
      (PM.ss_cons (PM.s_for (passes_of rfl) rfl (PM.ii_enum (by rfl) T.z_enumerate (PM.a_cons (PM.i_pv (pv 0)) PM.a_nil)) (PM.g_tup (PM.gs_cons (PM.g_name (pg_name (i := 9) sc__law_due.nd rfl (.inr rfl))) (PM.gs_cons (PM.g_name (pg_name (i := 10) sc__law_due.nd rfl (.inl rfl))) PM.gs_nil)) rfl)
        (PM.ss_one (PM.s_exp (PM.i_mut PySem.F.slot_list_append PySem.F.type_list_append PM.mt_appendM (PM.i_pv (pv 8)) (PM.a_cons (PM.i_ix (WD.huD hr) (PM.i_ix (WD.huD hr) (PM.i_ix (WD.huD hr) (PM.i_ix (WD.huD hr) (PM.i_pv (pv 1)) (PM.i_pv (pv 9)) (fun _ _ => rfl)) (PM.i_pv (pv 4)) (fun _ _ => rfl)) PM.i_int (fun _ _ => rfl)) (PM.i_call (ok__law_cell T) (takes_of rfl rfl rfl rfl) (hr.mono (by decide)) (by rfl) (PM.a_cons (PM.i_ofF (PM.f_lc (pe_lc (own := [("_law_number", 11)]) rfl sc__law_due.nd (PM.ii_val (PM.i_pv (pv 7))) (blkOk_by (N := ["_law_counts", "_law_all_deeds", "_law_rows_here", "_law_found", "_law_at", "_law_deed", "_law_spots", "_law_numbers", "_law_row", "_law_k", "_law_size", "_law_number"]) (sc := defScope s__law_due) (by decide +kernel)) (fun _ _ _ _ _ => (PM.g_name (pg_name (i := 11) sc__law_due.nd rfl (.inl rfl)))) (fun _ _ _ _ _ => PM.ts_yes) (fun _ _ _ _ _ => (PM.i_ix (WD.huD hr) (PM.i_ix (WD.huD hr) (PM.i_pv (pv 2)) (PM.i_pv (pv 11)) (fun _ _ => rfl)) (PM.i_pv (pv 9)) (fun _ _ => rfl)))))) (PM.a_cons (PM.i_pv (pv 10)) PM.a_nil))) (fun _ _ => rfl)) PM.a_nil) (fun hm ho ha => WD.k_pe_bm K PySem.F.plainAttrs_list PySem.F.slot_list_append PySem.F.type_list_append hm ho ha)))))
      (PM.ss_one (PM.s_exp (PM.i_mut PySem.F.slot_list_append PySem.F.type_list_append PM.mt_appendM (PM.i_pv (pv 6)) (PM.a_cons (PM.i_index (WD.hu65 hr) (PM.i_pv (pv 2)) (PM.a_cons (PM.i_callTy PM.cr_tupleV (by rfl) T.z_tuple WD.bt_tuple (PM.a_cons (PM.i_pv (pv 8)) PM.a_nil)) PM.a_nil) (fun ho ha => WD.k_pe_bm K PySem.F.plainAttrs_list PySem.F.slot_list_index PySem.F.type_list_index (WD.k_mt_indexD K (WD.hu65 hr)) ho ha)) PM.a_nil) (fun hm ho ha => WD.k_pe_bm K PySem.F.plainAttrs_list PySem.F.slot_list_append PySem.F.type_list_append hm ho ha)))))))
      (PM.ss_one (PM.s_exp (PM.i_mut PySem.F.slot_list_append PySem.F.type_list_append PM.mt_appendM (PM.i_pv (pv 3)) (PM.a_cons (PM.i_tup (PM.a_cons (PM.i_ix (WD.huD hr) (PM.i_pv (pv 5)) PM.i_int (fun _ _ => rfl)) (PM.a_cons (PM.i_ix (WD.huD hr) (PM.i_pv (pv 5)) PM.i_int (fun _ _ => rfl)) (PM.a_cons (PM.i_callTy PM.cr_tupleV (by rfl) T.z_tuple WD.bt_tuple (PM.a_cons (PM.i_pv (pv 6)) PM.a_nil)) PM.a_nil)))) PM.a_nil) (fun hm ho ha => WD.k_pe_bm K PySem.F.plainAttrs_list PySem.F.slot_list_append PySem.F.type_list_append hm ho ha)))))))
      (PM.ss_frz (i := 3) (PM.ss_one (PM.s_ret (ps_ret (PM.i_tup (PM.a_cons (PM.i_pv (pv 3)) (PM.a_cons (PM.i_ofF (PM.f_lc (pe_lc (own := [("_law_k", 9)]) rfl sc__law_due.nd (PM.ii_range1 (by rfl) T.z_range (PM.a_cons (PM.i_callB (PM.cr_lenV) (by rfl) T.z_len WD.bt_len (PM.a_cons (PM.i_pv (pv 0)) PM.a_nil)) PM.a_nil)) (blkOk_by (N := ["_law_counts", "_law_all_deeds", "_law_rows_here", "_law_found", "_law_at", "_law_deed", "_law_spots", "_law_numbers", "_law_row", "_law_k", "_law_size", "_law_number"]) (sc := defScope s__law_due) (by decide +kernel)) (fun _ _ _ _ _ => (PM.g_name (pg_name (i := 9) sc__law_due.nd rfl (.inr rfl)))) (fun _ _ _ _ _ => PM.ts_yes) (fun _ _ _ _ _ => (PM.i_callTy PM.cr_tupleV (by rfl) T.z_tuple WD.bt_tuple (PM.a_cons (PM.i_ofF (PM.f_lc (pe_lc (own := [("_law_row", 8)]) rfl sc__law_due.nd (PM.ii_val (PM.i_pv (pv 2))) (blkOk_by (by kernel_rfl)) (fun _ _ _ _ _ => (PM.g_name (pg_name (i := 8) sc__law_due.nd rfl (.inl rfl)))) (fun _ _ _ _ _ => PM.ts_yes) (fun _ _ _ _ _ => (PM.i_ix (WD.huD hr) (PM.i_pv (pv 8)) (PM.i_pv (pv 9)) (fun _ _ => rfl)))))) PM.a_nil)))))) PM.a_nil))))))))))), F.kp, T.g__law_due⟩
end
section
variable {P : Program} {w : World} {K : PySem.W.Frag} {tb : List (Addr × Str)} {mg : Str → Option Value} {base : Heap}
theorem ok__law_right (T : Tx K mg) : WD.Cal P w K mg base (L2.CX P w) 9 "_law_right" (He.ga K "_law_right") (PM.SpF ⟨K, tb⟩ 1 fn__law_right) [] := by
  obtain ⟨fd, F⟩ := T.F__law_right
  exact ⟨PM.fn_ok (K := ⟨K, tb⟩) (b := b__law_right) F sc__law_right (fun _ _ _ _ _ _ us hl => match us, hl with | [_], _ => rfl) (fun cdv A outer s H E hr =>
    (PM.ss_cons (PM.s_set (ps_set (i := 1) sc__law_right.nd rfl (.inl rfl) (PM.i_call (ok__law_sizes T) (takes_of rfl rfl rfl rfl) (hr.mono (by decide)) (by rfl) (PM.a_cons (PM.i_pv (pv 0)) PM.a_nil))))
      (PM.ss_cons (PM.s_set (ps_set (i := 2) sc__law_right.nd rfl (.inl rfl) (PM.i_cmp (PM.op_eqV hr.units) (PM.i_call (ok__law_draw T) (takes_of rfl rfl rfl rfl) (hr.mono (by decide)) (by rfl) (PM.a_cons (PM.i_pv (pv 0)) (PM.a_cons PM.i_int PM.a_nil))) PM.i_int (nomark _))))
      (PM.ss_cons (PM.s_set (ps_set (i := 3) sc__law_right.nd rfl (.inl rfl) (PM.i_call (ok__law_draw T) (takes_of rfl rfl rfl rfl) (hr.mono (by decide)) (by rfl) (PM.a_cons (PM.i_pv (pv 0)) (PM.a_cons (PM.i_callB (PM.cr_lenV) (by rfl) T.z_len WD.bt_len (PM.a_cons (PM.i_pv (pv 1)) PM.a_nil)) PM.a_nil)))))
      (PM.ss_cons (PM.s_set (ps_set (i := 4) sc__law_right.nd rfl (.inl rfl) (PM.i_callB (PM.cr_lenV) (by rfl) T.z_len WD.bt_len (PM.a_cons (PM.i_call (ok__law_rows T) (takes_of rfl rfl rfl rfl) (hr.mono (by decide)) (by rfl) (PM.a_cons (PM.i_pv (pv 1)) PM.a_nil)) PM.a_nil))))
      (PM.ss_cons (PM.s_set (ps_set (i := 5) sc__law_right.nd rfl (.inr rfl) (PM.i_ix (WD.huD hr) (PM.i_ofF (PM.f_lst (PM.a_cons PM.i_int (PM.a_cons PM.i_int PM.a_nil)))) (PM.i_callTy PM.cr_intV (by rfl) T.z_int WD.bt_int (PM.a_cons (PM.i_cmp (PM.op_ltV hr.units0) (PM.i_pv (pv 4)) PM.i_int (nomark _)) PM.a_nil)) (fun _ _ => rfl))))
      (PM.ss_cons (PM.s_lcT (ps_setLc (i := 6) (own := [("_law_k", 18)]) rfl sc__law_right.nd rfl rfl (sw_true rfl rfl rfl (by decide +kernel)) (PM.ii_range1 (by rfl) T.z_range (PM.a_cons (PM.i_call (ok__law_draw T) (takes_of rfl rfl rfl rfl) (hr.mono (by decide)) (by rfl) (PM.a_cons (PM.i_pv (pv 0)) (PM.a_cons PM.i_int PM.a_nil))) PM.a_nil)) (blkOk_by (N := ["_law_well", "_law_counts", "_law_bad", "_law_at", "_law_whole", "_law_most", "_law_places", "_law_names_here", "_law_all_deeds", "_law_size", "_law_houses", "_law_other", "_law_due_here", "_law_ways", "_law_turn", "_law_handed", "_law_found", "_law_told_here", "_law_k", "_law_name", "_law_deeds", "_law_one", "_law_many"]) (sc := defScope s__law_right) (by decide +kernel)) (fun _ _ _ _ _ => (PM.g_name (pg_name (i := 18) sc__law_right.nd rfl (.inl rfl)))) (fun _ _ _ _ _ => PM.ts_yes) (fun _ _ _ _ _ => (PM.i_callB (PM.cr_minV rfl) (by rfl) T.z_min WD.bt_min (PM.a_cons (PM.i_pv (pv 5)) (PM.a_cons (PM.i_ix (WD.huD hr) (PM.i_ofF (PM.f_lst (PM.a_cons PM.i_int (PM.a_cons PM.i_int (PM.a_cons PM.i_int (PM.a_cons PM.i_int (PM.a_cons PM.i_int PM.a_nil))))))) (PM.i_call (ok__law_draw T) takes0 (hr.mono (by decide)) (by rfl) (PM.a_cons (PM.i_pv (pv 0)) (PM.a_cons PM.i_int PM.a_nil))) (fun _ _ => rfl)) PM.a_nil))))))
      (PM.ss_cons (PM.s_lcT (ps_setLc (i := 7) (own := [("_law_name", 19)]) rfl sc__law_right.nd rfl rfl (sw_true rfl rfl rfl (by decide +kernel)) (PM.ii_val (PM.i_call (ok__law_names T) (takes_of rfl rfl rfl rfl) (hr.mono (by decide)) (by rfl) (PM.a_cons (PM.i_pv (pv 0)) (PM.a_cons (PM.i_callB (PM.cr_lenV) (by rfl) T.z_len WD.bt_len (PM.a_cons (PM.i_pv (pv 6)) PM.a_nil)) PM.a_nil)))) (blkOk_by (N := ["_law_well", "_law_counts", "_law_bad", "_law_at", "_law_whole", "_law_most", "_law_places", "_law_names_here", "_law_all_deeds", "_law_size", "_law_houses", "_law_other", "_law_due_here", "_law_ways", "_law_turn", "_law_handed", "_law_found", "_law_told_here", "_law_k", "_law_name", "_law_deeds", "_law_one", "_law_many"]) (sc := defScope s__law_right) (by decide +kernel)) (fun _ _ _ _ _ => (PM.g_name (pg_name (i := 19) sc__law_right.nd rfl (.inl rfl)))) (fun _ _ _ _ _ => (pts_one (PM.t_cmp (PM.op_ltV hr.units0) (PM.i_callB (PM.cr_lenV) (by rfl) T.z_len WD.bt_len (PM.a_cons (PM.i_pv (pv 19)) PM.a_nil)) PM.i_int (nomark _)))) (fun _ _ _ _ _ => (PM.i_op PM.op_addV (PM.i_pv (pv 19)) PM.i_str))))
      (PM.ss_cons (PM.s_set (ps_set (i := 6) sc__law_right.nd rfl (.inl rfl) (PM.i_sl (PM.i_pv (pv 6)) PM.o_none (PM.o_some (PM.i_callB (PM.cr_lenV) (by rfl) T.z_len WD.bt_len (PM.a_cons (PM.i_pv (pv 7)) PM.a_nil))))))
      (PM.ss_cons (PM.s_set (ps_set (i := 8) sc__law_right.nd rfl (.inl rfl) (PM.i_cellF (PM.f_lst PM.a_nil))))
      (PM.ss_cons (PM.s_for (passes_of rfl) rfl (PM.ii_val (PM.i_pv (pv 1))) (PM.g_name (pg_name (i := 9) sc__law_right.nd rfl (.inr rfl)))
        (PM.ss_one (PM.s_exp (PM.i_mut PySem.F.slot_list_append PySem.F.type_list_append PM.mt_appendM (PM.i_pv (pv 8)) (PM.a_cons (PM.i_ofF (PM.f_lc (pe_lc (own := [("_law_name", 19), ("_law_many", 22)]) rfl sc__law_right.nd (PM.ii_zip (by rfl) T.z_zip (PM.a_cons (PM.i_pv (pv 7)) (PM.a_cons (PM.i_pv (pv 6)) PM.a_nil))) (blkOk_by (N := ["_law_well", "_law_counts", "_law_bad", "_law_at", "_law_whole", "_law_most", "_law_places", "_law_names_here", "_law_all_deeds", "_law_size", "_law_houses", "_law_other", "_law_due_here", "_law_ways", "_law_turn", "_law_handed", "_law_found", "_law_told_here", "_law_k", "_law_name", "_law_deeds", "_law_one", "_law_many"]) (sc := defScope s__law_right) (by decide +kernel)) (fun _ _ _ _ _ => (PM.g_tup (PM.gs_cons (PM.g_name (pg_name (i := 19) sc__law_right.nd rfl (.inl rfl))) (PM.gs_cons (PM.g_name (pg_name (i := 22) sc__law_right.nd rfl (.inl rfl))) PM.gs_nil)) rfl)) (fun _ _ _ _ _ => PM.ts_yes) (fun _ _ _ _ _ => (PM.i_tup (PM.a_cons (PM.i_pv (pv 19)) (PM.a_cons (PM.i_pv (pv 22)) (PM.a_cons (PM.i_call (ok__law_table T) takes0 (hr.mono (by decide)) (by rfl) (PM.a_cons (PM.i_pv (pv 0)) (PM.a_cons (PM.i_pv (pv 9)) (PM.a_cons (PM.i_pv (pv 22)) PM.a_nil)))) PM.a_nil)))))))) PM.a_nil) (fun hm ho ha => WD.k_pe_bm K PySem.F.plainAttrs_list PySem.F.slot_list_append PySem.F.type_list_append hm ho ha)))))
      (PM.ss_frz (i := 8) (PM.ss_cons (PM.s_lcT (ps_setLc (i := 10) (own := [("_law_size", 9), ("_law_deeds", 20)]) rfl sc__law_right.nd rfl rfl (sw_true rfl rfl rfl (by decide +kernel)) (PM.ii_zip (by rfl) T.z_zip (PM.a_cons (PM.i_pv (pv 1)) (PM.a_cons (PM.i_pv (pv 8)) PM.a_nil))) (blkOk_by (N := ["_law_well", "_law_counts", "_law_bad", "_law_at", "_law_whole", "_law_most", "_law_places", "_law_names_here", "_law_all_deeds", "_law_size", "_law_houses", "_law_other", "_law_due_here", "_law_ways", "_law_turn", "_law_handed", "_law_found", "_law_told_here", "_law_k", "_law_name", "_law_deeds", "_law_one", "_law_many"]) (sc := defScope s__law_right) (by decide +kernel)) (fun _ _ _ _ _ => (PM.g_tup (PM.gs_cons (PM.g_name (pg_name (i := 9) sc__law_right.nd rfl (.inl rfl))) (PM.gs_cons (PM.g_name (pg_name (i := 20) sc__law_right.nd rfl (.inl rfl))) PM.gs_nil)) rfl)) (fun _ _ _ _ _ => PM.ts_yes) (fun _ _ _ _ _ => (PM.i_make (mk_House T) takes0 (hr.mono (by decide)) (by rfl) (PM.a_cons (PM.i_pv (pv 9)) (PM.a_cons (PM.i_ofF (PM.f_callTy (PM.cr_listF rfl) (by rfl) T.z_list WD.bt_list (PM.a_cons (PM.i_pv (pv 20)) PM.a_nil))) PM.a_nil))))))
      (PM.ss_cons (PM.s_if (ps_if (PW.pt (PM.w_and (PM.t_val (PM.i_pv (pv 2))) (pw_and1 (PM.t_cmp (PM.op_gtV) (PM.i_callB (PM.cr_lenV) (by rfl) T.z_len WD.bt_len (PM.a_cons (PM.i_pv (pv 1)) PM.a_nil)) PM.i_int (nomark _)))))
        (PM.ss_cons (PM.s_set (ps_set (i := 11) sc__law_right.nd rfl (.inl rfl) (PM.i_cellF (PM.f_callTy (PM.cr_listF rfl) (by rfl) T.z_list WD.bt_list (PM.a_cons (PM.i_pv (pv 10)) PM.a_nil)))))
      (PM.ss_cons (PM.s_setL (ps_asg (PM.i_make (mk_House T) (takes_of rfl rfl rfl rfl) (hr.mono (by decide)) (by rfl) (PM.a_cons (PM.i_ix (WD.huD hr) (PM.i_pv (pv 1)) (PM.i_pv (pv 3)) (fun _ _ => rfl)) (PM.a_cons (PM.i_call (ok__law_unfit T) (takes_of rfl rfl rfl rfl) (hr.mono (by decide)) (by rfl) (PM.a_cons (PM.i_pv (pv 0)) (PM.a_cons (PM.i_ix (WD.huD hr) (PM.i_pv (pv 8)) (PM.i_pv (pv 3)) (fun _ _ => rfl)) PM.a_nil))) PM.a_nil))) (pg_sub (PM.i_pv (pv 11)) (PM.i_pv (pv 3)) set_list)))
      (PM.ss_frz (i := 11) (PM.ss_one (PM.s_if (ps_if (PM.t_cmp (PM.op_neV hr.units) (PM.i_call (ok__law_told T) (takes_of rfl rfl rfl rfl) (hr.mono (by decide)) (by rfl) (PM.a_cons (PM.i_pv (pv 11)) PM.a_nil)) (PM.i_tup (PM.a_cons PM.i_str (PM.a_cons PM.i_bl PM.a_nil))) (nomark _))
        (PM.ss_one (PM.s_ret (ps_ret PM.i_bl)))
        PM.ss_nil))))))
        PM.ss_nil))
      (PM.ss_cons (PM.s_if (ps_if (PM.t_cmp (PM.op_gtV) (PM.i_pv (pv 4)) PM.i_int (nomark _))
        (PM.ss_one (PM.s_ret (ps_ret (PM.i_cmp (PM.op_eqV hr.units) (PM.i_call (ok__law_told T) (takes_of rfl rfl rfl rfl) (hr.mono (by decide)) (by rfl) (PM.a_cons (PM.i_pv (pv 10)) PM.a_nil)) (PM.i_tup (PM.a_cons PM.i_str (PM.a_cons PM.i_int PM.a_nil))) (nomark _)))))
        PM.ss_nil))
      (PM.ss_frz (i := 8) (PM.ss_cons (PM.s_asg (ps_asg (PM.i_call (ok__law_due T) (takes_of rfl rfl rfl rfl) (hr.mono (by decide)) (by rfl) (PM.a_cons (PM.i_pv (pv 1)) (PM.a_cons (PM.i_pv (pv 8)) PM.a_nil))) (PM.g_tup (PM.gs_cons (PM.g_name (pg_name (i := 12) sc__law_right.nd rfl (.inl rfl))) (PM.gs_cons (PM.g_name (pg_name (i := 13) sc__law_right.nd rfl (.inl rfl))) PM.gs_nil)) rfl)))
      (PM.ss_cons (PM.s_for (passes_of rfl) rfl (PM.ii_range1 (by rfl) T.z_range (PM.a_cons PM.i_int PM.a_nil)) (PM.g_name (pg_name (i := 14) sc__law_right.nd rfl (.inl rfl)))
        (PM.ss_cons (PM.s_set (ps_set (i := 15) sc__law_right.nd rfl (.inl rfl) (PM.i_cellF (PM.f_callTy (PM.cr_listF rfl) (by rfl) T.z_list WD.bt_list (PM.a_cons (PM.i_pv (pv 10)) PM.a_nil)))))
      (PM.ss_cons (PM.s_asg (ps_asg (PM.i_call (ok_product T) (takes_of rfl rfl rfl rfl) (hr.mono (by decide)) (by rfl) (PM.a_cons (PM.i_pv (pv 15)) PM.a_nil)) (PM.g_tup (PM.gs_cons (PM.g_name (pg_name (i := 16) sc__law_right.nd rfl (.inl rfl))) (PM.gs_cons (PM.g_name (pg_name (i := 17) sc__law_right.nd rfl (.inl rfl))) PM.gs_nil)) rfl)))
      (PM.ss_cons (PM.s_if (ps_if (PW.pt (PM.w_or (PM.t_cmp (PM.op_neV hr.units) (PM.i_meth0 (mt_House_deeds T) (takes_of rfl rfl rfl rfl) (hr.mono (by decide)) (PM.i_pv (pv 16))) (PM.i_pv (pv 12)) (nomark _)) (PM.w_or (PM.t_cmp (PM.op_neV hr.units) (PM.i_meth0 (mt_House_things T) (takes_of rfl rfl rfl rfl) (hr.mono (by decide)) (PM.i_pv (pv 16))) (PM.i_pv (pv 4)) (nomark _)) (PM.w_or (PM.t_cmp (PM.op_neV hr.units) (PM.i_pv (pv 17)) (PM.i_pv (pv 13)) (nomark _)) (pw_or1 (PM.t_not (PM.t_val (PM.i_isT (PM.i_pv (pv 17)) (pe_bltn (v := .ty "list") (by rfl) T.z_list WD.bt_list rfl) (by decide) (by rfl) T.z_isinstance))))))))
        (PM.ss_one (PM.s_ret (ps_ret PM.i_bl)))
        PM.ss_nil))
      (PM.ss_cons (PM.s_exp (PM.i_mut PySem.F.slot_list_append PySem.F.type_list_append PM.mt_appendM (PM.i_pv (pv 17)) (PM.a_cons (PM.i_tup PM.a_nil) PM.a_nil) (fun hm ho ha => WD.k_pe_bm K PySem.F.plainAttrs_list PySem.F.slot_list_append PySem.F.type_list_append hm ho ha)))
      (PM.ss_one (PM.s_exp (PM.i_mut0 PM.mt_clearM (PM.i_pv (pv 15)) (fun hm ho => WD.k_pe_bm0 K PySem.F.plainAttrs_list PySem.F.slot_list_clear PySem.F.type_list_clear hm ho)))))))))
      (PM.ss_one (PM.s_ret (ps_ret (PM.i_cmp (PM.op_eqV hr.units) (PM.i_ofF (PM.f_lc (pe_lc (own := [("_law_one", 21)]) rfl sc__law_right.nd (PM.ii_val (PM.i_pv (pv 10))) (blkOk_by (N := ["_law_well", "_law_counts", "_law_bad", "_law_at", "_law_whole", "_law_most", "_law_places", "_law_names_here", "_law_all_deeds", "_law_size", "_law_houses", "_law_other", "_law_due_here", "_law_ways", "_law_turn", "_law_handed", "_law_found", "_law_told_here", "_law_k", "_law_name", "_law_deeds", "_law_one", "_law_many"]) (sc := defScope s__law_right) (by decide +kernel)) (fun _ _ _ _ _ => (PM.g_name (pg_name (i := 21) sc__law_right.nd rfl (.inl rfl)))) (fun _ _ _ _ _ => PM.ts_yes) (fun _ _ _ _ _ => (PM.i_meth0 (mt_House_deeds T) takes0 (hr.mono (by decide)) (PM.i_pv (pv 21))))))) (PM.i_pv (pv 8)) (nomark _))))))))))))))))))))))), F.kp, T.g__law_right⟩
end
section
variable {P : Program} {w : World} {K : PySem.W.Frag} {tb : List (Addr × Str)} {mg : Str → Option Value} {base : Heap}
theorem mt_House_eq (T : Tx K mg) : WD.Met P w K mg base (L2.CX P w) 2 (He.ga K "House") "__eq__" (He.ma K (He.ga K "House") "__eq__") (PM.SpF ⟨K, tb⟩ 2 fn_House_eq) [] := by
  obtain ⟨fd, F⟩ := T.F_House_eq
  exact ⟨PM.fn_ok (K := ⟨K, tb⟩) (b := b_House_eq) F sc_House_eq (fun _ _ _ _ _ _ us hl => match us, hl with | [_, _], _ => rfl) (fun cdv A outer s H E hr =>
    (PM.ss_one (PM.s_ret (ps_ret (PM.i_and (PM.i_isC (PM.i_pv (pv 1)) (pe_glob (v := .ref (He.ga K "House")) (by rfl) T.g_House rfl) T.is_House (by rfl) T.z_isinstance) (PM.i_and (PM.i_cmp (PM.op_eqV hr.units) (PM.i_fld (cs := ["House"]) (PM.i_pv (pv 0)) (PM.fa_cons ⟨T.cl_House, T.na_House_size⟩ PM.fa_nil)) (PM.i_fld (cs := ["House"]) (PM.i_pv (pv 1)) (PM.fa_cons ⟨T.cl_House, T.na_House_size⟩ PM.fa_nil)) (nomark _)) (pe_one (PM.i_cmp (PM.op_eqV hr.units) (PM.i_meth0 (mt_House_deeds T) (takes_of rfl rfl rfl rfl) (hr.mono (by decide)) (PM.i_pv (pv 0))) (PM.i_meth0 (mt_House_deeds T) (takes_of rfl rfl rfl rfl) (hr.mono (by decide)) (PM.i_pv (pv 1))) (nomark _))))))))), T.cl_House, T.mt_House_eq⟩
end
section
variable {P : Program} {w : World} {K : PySem.W.Frag} {mg : Str → Option Value} {base : Heap}
theorem law_fn {fd : FuncData} (T : Tx K mg) (hb : ∀ ns : List Int, ns.length ≤ 63 → fn_law [.s ns] [] = .ok (.t (.bl true)) []) (F : FunD K "law" "law" (defArgs s_law) (defBody s_law) (defScope s_law) [] [] (He.ga K "law") fd) : FnOk P w K mg base CX0 10 (He.ga K "law") fd ["_law_script"] (PM.spLaw ⟨K, []⟩) := by
  refine F.ok sc_law (fun vs H Q E h => ?_) (fun cdv A outer s H vs Q E hr h => ?_)
  · obtain ⟨a, ns, rfl, _⟩ := h
    rfl
  · have D : PM.ISs ⟨K, []⟩ none PM.W0 (cxOf CX0 P w K mg base ["_law_script", "_law_k", "_law_cell_here"] "law" (defScope s_law) (He.ga K "law") cdv A outer s H E).nox (defBody s_law) b_law := (PM.ss_cons (PM.s_for PassesOwn.never rfl (PM.ii_enum (by rfl) T.z_enumerate (PM.a_cons (PM.i_ofF (PM.f_sl (PM.i_ofF (PM.f_scr (PM.i_pv (pv 0)) (PM.i_ofF (PM.f_lst (PM.a_cons PM.i_int PM.a_nil))))) PM.o_none (PM.o_some PM.i_int))) PM.a_nil)) (PM.g_tup (PM.gs_cons (PM.g_name (pg_name (i := 1) sc_law.nd rfl (.inl rfl))) (PM.gs_cons (PM.g_name (pg_name (i := 2) sc_law.nd rfl (.inl rfl))) PM.gs_nil)) rfl)
        (PM.s_scope (PM.ss_one (PM.s_if (ps_if (PM.t_not (PM.t_val (PM.i_call (ok__law_right T) takes0 (hr.mono (by decide)) (by rfl) (PM.a_cons (PM.i_cellF (PM.f_lst (PM.a_cons (PM.i_op PM.op_mulV (PM.i_pv (pv 2)) (PM.i_callTy PM.cr_intV (by rfl) T.z_int WD.bt_int (PM.a_cons (PM.i_cmp (PM.op_geV) (PM.i_pv (pv 2)) (PM.i_op PM.op_powV PM.i_int PM.i_int) (nomark _)) PM.a_nil))) (PM.a_cons (PM.i_op PM.op_addV (PM.i_op PM.op_modV (PM.i_pv (pv 2)) PM.i_int) (PM.i_op PM.op_mulV PM.i_int (PM.i_pv (pv 1)))) (PM.a_cons PM.i_int PM.a_nil))))) PM.a_nil))))
        (PM.ss_one (PM.s_ret (ps_ret PM.i_bl)))
        PM.ss_nil)))))
      (PM.ss_one (PM.s_ret (ps_ret (PM.i_eqPair (mt_House_eq T) takes0 (hr.mono (by decide)) (PM.i_frzG (PM.i_call (ok_product T) takes0 (hr.mono (by decide)) (by rfl) (PM.a_cons (PM.i_ofF (PM.f_lst (PM.a_cons (PM.i_make (mk_House T) takes0 (hr.mono (by decide)) (by rfl) (PM.a_cons PM.i_int (PM.a_cons (PM.i_ofF (PM.f_lst PM.a_nil)) PM.a_nil))) (PM.a_cons (PM.i_make (mk_House T) takes0 (hr.mono (by decide)) (by rfl) (PM.a_cons PM.i_int (PM.a_cons (PM.i_ofF (PM.f_lst PM.a_nil)) PM.a_nil))) PM.a_nil)))) PM.a_nil))) (PM.i_tup (PM.a_cons (PM.i_make (mk_House T) takes0 (hr.mono (by decide)) (by rfl) (PM.a_cons PM.i_int (PM.a_cons (PM.i_ofF (PM.f_lst PM.a_nil)) PM.a_nil))) (PM.a_cons (PM.i_ofF (PM.f_lst (PM.a_cons (PM.i_tup (PM.a_cons PM.i_int (PM.a_cons PM.i_int (PM.a_cons PM.i_int (PM.a_cons PM.i_int (PM.a_cons PM.i_int (PM.a_cons PM.i_int PM.a_nil))))))) (PM.a_cons (PM.i_tup (PM.a_cons PM.i_int (PM.a_cons PM.i_int (PM.a_cons PM.i_int (PM.a_cons PM.i_int (PM.a_cons PM.i_int (PM.a_cons PM.i_int PM.a_nil))))))) PM.a_nil)))) PM.a_nil))) (nomark _))))))
    exact ⟨_, PSs.nox D, PM.law_read (b := b_law) (Nm := ["_law_script", "_law_k", "_law_cell_here"]) hb h⟩
end
end K71
namespace K71
open PySem PySem.Spec PyProof.Rows L2
theorem facts {P : Program} {w : World} {K : PySem.W.Frag} {h : Heap} {mg : Str → Option Value} {f : Addr} (X : K.In h) (G : h.Ns mainGlobals mg) (hfa : mg ("law" : Str) = some (.ref f)) (c : WD.SaysE fa fn fx K) :
    ∃ fd : FuncData, (∀ (s : Shared) (v : Value), BindsTo s fd ⟨[v], []⟩ [("_law_script", v)]) ∧ ∀ base : Heap, K.In base → base.Ns mainGlobals mg → FnOk P w K mg base CX0 10 f fd ["_law_script"] (PM.spLaw ⟨K, []⟩) := by
  have T := mkTx X G c
  obtain ⟨fd, F⟩ := T.F_law
  have e := hfa.symm.trans T.g_law
  cases e
  have b := FunD.bindsA (ps := ["_law_script"]) F fun _ _ _ _ _ _ us hl => match us, hl with | [_], _ => rfl
  exact ⟨fd, fun s v => b s [v] rfl, fun base _ _ => law_fn T law_true F⟩
end K71
open PySem PySem.W PySem.Calls PyProof.Rows
set_option maxHeartbeats 0 in
theorem PySem.Challenge.cw_wishdeeds_k71_products_holds : PySem.Challenge.rw_wishdeeds_k71_products.Holds := by
  w_on; o_law
  refine HandSHeadRun.head_any (r := OpenLaw.row PySem.Challenge.rw_wishdeeds_k71_products) (q := view (OpenLaw.row PySem.Challenge.rw_wishdeeds_k71_products).prog [41]) (H := K71.hk) (ob := K71.ob) (M := 6000) (loose := K71.loose) (d := HandSHeadRun.topDef (OpenLaw.row PySem.Challenge.rw_wishdeeds_k71_products).prog 41) (kwd := []) K71.ob_eq
    (by kernel_rfl) (fun s => by kernel_rfl) K71.run (by kernel_rfl) (by kernel_rfl) (by kernel_rfl) (by rfl) (by first | assumption | decide +kernel) (by decide +kernel) ⟨rfl, rfl, rfl, rfl, rfl, by decide +kernel⟩ ?hw ?hc
  case hw => w_witness2
  case hc =>
    refine L2.walk_ofE (l := PySem.Challenge.rw_wishdeeds_k71_products) (n := 63) (k := 10) (x := "_law_script") (CX := L2.CX0) rfl (by decide) (by kernel_rfl) ⟨rfl, by decide, by decide⟩ ?F (fun _ _ _ _ z => z)
    intro w mg fa h Y G hmg0
    obtain ⟨K, KX, c⟩ := Y
    have hmg : mg ("law" : PySem.Str) = some (.ref fa) := by
      have e : (HandSHeadRun.topDef (OpenLaw.row PySem.Challenge.rw_wishdeeds_k71_products).prog 41).name = ("law" : PySem.Str) := by kernel_rfl
      rw [← e]
      exact hmg0
    obtain ⟨fd, hb, hF⟩ := K71.facts (P := (PySem.Challenge.rw_wishdeeds_k71_products).prog) (w := w) KX G hmg c
    exact ⟨K, fd, PM.spLaw ⟨K, []⟩, KX, hb, fun H a ns hl _ hS => PM.spLaw_ask hl hS (fun _ z => nomatch z), hF⟩
