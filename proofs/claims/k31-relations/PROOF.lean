import PyProof.Rows.All
import Wide.All
import OpenK.AllK
import Wide.FinOn
import KE.KStateDown
import KE.KTupSum
import KE.DataMinMax
import HandS.ForMost
import HandS.IsInst
import HandS.Walk
import HandS.Conv
import HandS.Zip
import HandS.TupLe
import HandS.TupAny
import HandS.Evl
import HandS.Deep
import HandS.Defaults
import HandS.HeadHook1
import HandS.HeadHook2
import HandS.Head0
import HandS.Head1
import HandS.Head2
import HandS.HeadEnd
import HandS.WordsExc
import HandS.Steps
import KE.KDictList
import HandS.ListItems
import HandS.Codes
import KE.KExcIs
import HandS.ExcInit
import HandS.ExcIs
import HandS.ExcField
import HandS.TryMany
import KE.DataFind
import HandS.Style
import KE.GoesMore
import KE.GoesZip
import HandS.TupMul
import HandS.SetFor
import HandS.Strs
import HandS.TupSets
import KE.SortData
import KE.KDictPairs
import HandS.Dict
import HandS.SortInts
import KE.KTryMore
import HandS.EndTab
import HandS.HeadWalk
import HandS.Lambda
import HandS.SortRule
import HandS.WordsDict
import HandS.TupLen
import HandS.More
import HandS.OwnEq
import HandS.DictEq
import HandS.CallSlots
import HandS.MakeKw
import PySem.Challenge.RW_wishdeeds_k31_relations_made
set_option Elab.async false
set_option linter.all false
set_option maxRecDepth 100000
set_option maxHeartbeats 4000000
namespace WD
open PySem PySem.Spec PyProof.Rows L2

/-! ### frames -/
abbrev MS := Addr → Prop
structure Fr (M : MS) (H H' : Hp) : Prop where
  keep : ∀ a o, ¬ M a → H a = some o → H' a = some o
  dom : ∀ a, H' a = none → H a = none
abbrev M0 : MS := fun _ => False
abbrev plus (M : MS) (D : Addr) : MS := fun x => M x ∨ x = D
theorem Fr.refl {M : MS} (H : Hp) : Fr M H H := ⟨fun _ _ _ h => h, fun _ h => h⟩
theorem Fr.trans {M : MS} {H H1 H2 : Hp} (a : Fr M H H1) (b : Fr M H1 H2) : Fr M H H2 :=
  ⟨fun x o n h => b.keep x o n (a.keep x o n h), fun x h => a.dom x (b.dom x h)⟩
theorem Fr.mono {M M' : MS} {H H' : Hp} (a : Fr M H H') (s : ∀ x, M x → M' x) : Fr M' H H' :=
  ⟨fun x o n h => a.keep x o (fun z => n (s x z)) h, a.dom⟩
theorem upd_none {H : Hp} {p a : Addr} {o : HO} (h : upd H p o a = none) : a ≠ p ∧ H a = none := by
  by_cases e : a = p
  · subst e; rw [upd_same] at h; cases h
  · rw [upd_ne e] at h; exact ⟨e, h⟩
theorem Fr.new {M : MS} {H : Hp} {p : Addr} {o : HO} (h : H p = none) : Fr M H (upd H p o) :=
  ⟨fun a u _ e => by rw [upd_ne (ne_of_none e h)]; exact e, fun a e => (upd_none e).2⟩
theorem Fr.mutNew {M : MS} {H H' : Hp} {p : Addr} {o : HO} (f : Fr M H H') (h : H p = none) : Fr M H (upd H' p o) :=
  ⟨fun a u n e => by rw [upd_ne (ne_of_none e h)]; exact f.keep a u n e, fun a e => f.dom a (upd_none e).2⟩
theorem Fr.mut {M : MS} {H : Hp} {p : Addr} {o : HO} (h : M p) : Fr M H (upd H p o) :=
  ⟨fun a u n e => by rw [upd_ne (fun z : a = p => n (by rw [z]; exact h))]; exact e, fun a e => (upd_none e).2⟩
def MIn (M : MS) (H : Hp) : Prop := ∀ a, M a → H a ≠ none
theorem MIn.to {M M' : MS} {H H' : Hp} (m : MIn M H) (f : Fr M' H H') : MIn M H' := fun a h z => m a h (f.dom a z)
theorem MIn.no {M : MS} {H : Hp} {p : Addr} (m : MIn M H) (h : H p = none) : ¬ M p := fun z => m p z h
theorem MIn.plus {M : MS} {H : Hp} {D : Addr} {o : HO} (m : MIn M H) (h : H D = some o) : MIn (plus M D) H := fun a z => z.elim (m a) (fun q => by rw [q, h]; exact fun e => nomatch e)
theorem MIn.zero {H : Hp} : MIn M0 H := fun _ h => h.elim

/-! ### relations: a value in a heap and the datum that it is -/
abbrev Rl (α : Type) := MS → Hp → V → α → Prop
class Rep {α : Type} (R : Rl α) : Prop where
  st : ∀ {M : MS} {H H' : Hp} {v : V} {a : α}, Fr M H H' → R M H v a → R M H' v a
  wk : ∀ {M M' : MS} {H : Hp} {v : V} {a : α}, (∀ x, M x → M' x) → R M' H v a → R M H v a
  ad : ∀ {M : MS} {H : Hp} {v : V} {a : α} {D : Addr}, H D = none → R M H v a → R (plus M D) H v a
/-- what was known there is known here -/
def Tr (M : MS) (H : Hp) (M' : MS) (H' : Hp) : Prop := ∀ {α : Type} {R : Rl α} [Rep R] {v : V} {a : α}, R M H v a → R M' H' v a
theorem Fr.tr {M : MS} {H H' : Hp} (f : Fr M H H') : Tr M H M H' := fun h => Rep.st f h
theorem Tr.refl {M : MS} {H : Hp} : Tr M H M H := fun h => h
theorem Tr.trans {M M1 M2 : MS} {H H1 H2 : Hp} (a : Tr M H M1 H1) (b : Tr M1 H1 M2 H2) : Tr M H M2 H2 := fun h => b (a h)
theorem Tr.ad {M : MS} {H : Hp} {D : Addr} (h : H D = none) : Tr M H (plus M D) H := fun x => Rep.ad h x
theorem Tr.wk {M M' : MS} {H : Hp} (s : ∀ x, M x → M' x) : Tr M' H M H := fun x => Rep.wk s x
def All2 {α : Type} (R : V → α → Prop) : List V → List α → Prop
  | [], [] => True
  | v :: vs, a :: as => R v a ∧ All2 R vs as
  | _, _ => False
section
variable {α β : Type} {R : V → α → Prop}
theorem All2.len : ∀ {vs : List V} {as : List α}, All2 R vs as → vs.length = as.length
  | [], [], _ => rfl
  | _ :: _, _ :: _, h => congrArg Nat.succ h.2.len
  | [], _ :: _, h => h.elim
  | _ :: _, [], h => h.elim
theorem All2.imp {R' : V → α → Prop} (f : ∀ v a, R v a → R' v a) : ∀ {vs : List V} {as : List α}, All2 R vs as → All2 R' vs as
  | [], [], _ => trivial
  | _ :: _, _ :: _, h => ⟨f _ _ h.1, h.2.imp f⟩
  | [], _ :: _, h => h.elim
  | _ :: _, [], h => h.elim
theorem All2.one {v : V} {a : α} (h : R v a) : All2 R [v] [a] := ⟨h, trivial⟩
theorem All2.get : ∀ {vs : List V} {as : List α} {i : Nat} {v : V}, All2 R vs as → vs[i]? = some v → ∃ a, as[i]? = some a ∧ R v a
  | [], [], _, _, _, e => by simp at e
  | x :: _, a :: _, 0, v, h, e => ⟨a, rfl, by
      have z : x = v := Option.some.inj e
      rw [← z]; exact h.1⟩
  | _ :: _, _ :: _, i + 1, v, h, e => All2.get (i := i) h.2 e
  | [], _ :: _, _, _, h, _ => h.elim
  | _ :: _, [], _, _, h, _ => h.elim
theorem All2.at_ : ∀ {vs : List V} {as : List α} {i : Nat} {a : α}, All2 R vs as → as[i]? = some a → ∃ v, vs[i]? = some v ∧ R v a
  | [], [], _, _, _, e => by simp at e
  | v :: _, x :: _, 0, a, h, e => ⟨v, rfl, by
      have z : x = a := Option.some.inj e
      rw [← z]; exact h.1⟩
  | _ :: _, _ :: _, i + 1, v, h, e => All2.at_ (i := i) h.2 e
  | [], _ :: _, _, _, h, _ => h.elim
  | _ :: _, [], _, _, h, _ => h.elim
theorem All2.take : ∀ {vs : List V} {as : List α} (n : Nat), All2 R vs as → All2 R (vs.take n) (as.take n)
  | [], [], n, _ => by cases n <;> exact trivial
  | _ :: _, _ :: _, 0, _ => trivial
  | _ :: _, _ :: _, n + 1, h => ⟨h.1, h.2.take n⟩
  | [], _ :: _, _, h => h.elim
  | _ :: _, [], _, h => h.elim
theorem All2.drop : ∀ {vs : List V} {as : List α} (n : Nat), All2 R vs as → All2 R (vs.drop n) (as.drop n)
  | [], [], n, _ => by cases n <;> exact trivial
  | _ :: _, _ :: _, 0, h => h
  | _ :: _, _ :: _, n + 1, h => h.2.drop n
  | [], _ :: _, _, h => h.elim
  | _ :: _, [], _, h => h.elim
theorem All2.eq_map {f : α → V} (h : ∀ v a, R v a → v = f a) : ∀ {vs : List V} {as : List α}, All2 R vs as → vs = as.map f
  | [], [], _ => rfl
  | _ :: _, _ :: _, g => by rw [List.map_cons, ← h _ _ g.1, ← g.2.eq_map h]
  | [], _ :: _, g => g.elim
  | _ :: _, [], g => g.elim
end

def rI : Rl Int := fun _ _ v i => v = .int i
def rB : Rl Bool := fun _ _ v b => v = .bl b
def rS : Rl Str := fun _ _ v x => v = .str x ∧ PyData.strOk x = true
def rN : Rl Unit := fun _ _ v _ => v = .non
instance : Rep rI := ⟨fun _ h => h, fun _ h => h, fun _ h => h⟩
instance : Rep rB := ⟨fun _ h => h, fun _ h => h, fun _ h => h⟩
instance : Rep rS := ⟨fun _ h => h, fun _ h => h, fun _ h => h⟩
instance : Rep rN := ⟨fun _ h => h, fun _ h => h, fun _ h => h⟩
section
variable {α β γ : Type}
def rL (R : Rl α) : Rl (List α) := fun M H v l => ∃ a vs, v = .ref a ∧ ¬ M a ∧ H a = some (.lst vs) ∧ All2 (R M H) vs l
def rT (R : Rl α) : Rl (List α) := fun M H v l => ∃ a vs, v = .ref a ∧ ¬ M a ∧ H a = some (.tup vs) ∧ All2 (R M H) vs l
def rP (R : Rl α) (S : Rl β) : Rl (α × β) := fun M H v p => ∃ a v1 v2, v = .ref a ∧ ¬ M a ∧ H a = some (.tup [v1, v2]) ∧ R M H v1 p.1 ∧ S M H v2 p.2
def rP3 (R : Rl α) (S : Rl β) (T : Rl γ) : Rl (α × β × γ) := fun M H v p => ∃ a v1 v2 v3, v = .ref a ∧ ¬ M a ∧ H a = some (.tup [v1, v2, v3]) ∧ R M H v1 p.1 ∧ S M H v2 p.2.1 ∧ T M H v3 p.2.2
theorem ad_ne {M : MS} {H : Hp} {a D : Addr} {o : HO} (h : H a = some o) (n : ¬ M a) (hD : H D = none) : ¬ plus M D a := fun z => z.elim n (fun e => by rw [e, hD] at h; cases h)
instance {R : Rl α} [Rep R] : Rep (rL R) := ⟨fun f ⟨a, vs, e, n, h, g⟩ => ⟨a, vs, e, n, f.keep a _ n h, g.imp fun _ _ x => Rep.st f x⟩,
  fun s ⟨a, vs, e, n, h, g⟩ => ⟨a, vs, e, fun z => n (s a z), h, g.imp fun _ _ x => Rep.wk s x⟩, fun hD ⟨a, vs, e, n, h, g⟩ => ⟨a, vs, e, ad_ne h n hD, h, g.imp fun _ _ x => Rep.ad hD x⟩⟩
instance {R : Rl α} [Rep R] : Rep (rT R) := ⟨fun f ⟨a, vs, e, n, h, g⟩ => ⟨a, vs, e, n, f.keep a _ n h, g.imp fun _ _ x => Rep.st f x⟩,
  fun s ⟨a, vs, e, n, h, g⟩ => ⟨a, vs, e, fun z => n (s a z), h, g.imp fun _ _ x => Rep.wk s x⟩, fun hD ⟨a, vs, e, n, h, g⟩ => ⟨a, vs, e, ad_ne h n hD, h, g.imp fun _ _ x => Rep.ad hD x⟩⟩
instance {R : Rl α} {S : Rl β} [Rep R] [Rep S] : Rep (rP R S) := ⟨fun f ⟨a, v1, v2, e, n, h, g1, g2⟩ => ⟨a, v1, v2, e, n, f.keep a _ n h, Rep.st f g1, Rep.st f g2⟩,
  fun s ⟨a, v1, v2, e, n, h, g1, g2⟩ => ⟨a, v1, v2, e, fun z => n (s a z), h, Rep.wk s g1, Rep.wk s g2⟩, fun hD ⟨a, v1, v2, e, n, h, g1, g2⟩ => ⟨a, v1, v2, e, ad_ne h n hD, h, Rep.ad hD g1, Rep.ad hD g2⟩⟩
instance {R : Rl α} {S : Rl β} {T : Rl γ} [Rep R] [Rep S] [Rep T] : Rep (rP3 R S T) := ⟨fun f ⟨a, v1, v2, v3, e, n, h, g1, g2, g3⟩ => ⟨a, v1, v2, v3, e, n, f.keep a _ n h, Rep.st f g1, Rep.st f g2, Rep.st f g3⟩,
  fun s ⟨a, v1, v2, v3, e, n, h, g1, g2, g3⟩ => ⟨a, v1, v2, v3, e, fun z => n (s a z), h, Rep.wk s g1, Rep.wk s g2, Rep.wk s g3⟩, fun hD ⟨a, v1, v2, v3, e, n, h, g1, g2, g3⟩ => ⟨a, v1, v2, v3, e, ad_ne h n hD, h, Rep.ad hD g1, Rep.ad hD g2, Rep.ad hD g3⟩⟩
theorem ints_of {M : MS} {H : Hp} {vs : List V} {l : List Int} (h : All2 (rI M H) vs l) : vs = l.map V.int := h.eq_map fun _ _ e => e
/-- a tuple of ints | a list of ints, written out -/
theorem tupI {M : MS} {H : Hp} {v : V} {l : List Int} (h : rT rI M H v l) : ∃ a, v = .ref a ∧ ¬ M a ∧ H a = some (.tup (l.map V.int)) := by
  obtain ⟨a, vs, e, n, h, g⟩ := h
  rw [ints_of g] at h
  exact ⟨a, e, n, h⟩
theorem lstI {M : MS} {H : Hp} {v : V} {l : List Int} (h : rL rI M H v l) : ∃ a, v = .ref a ∧ ¬ M a ∧ H a = some (.lst (l.map V.int)) := by
  obtain ⟨a, vs, e, n, h, g⟩ := h
  rw [ints_of g] at h
  exact ⟨a, e, n, h⟩
end

/-! ### == of data -/
structure EncOk {α : Type} [DecidableEq α] (R : Rl α) (enc : α → PyData) (n : Nat) : Prop where
  dp : ∀ {K : PySem.W.Frag} {M : MS} {H : Hp} {v : V} {a : α}, R M H v a → Dp K H v (enc a) ∧ (enc a).canLay0 = true
  dep : ∀ a, (enc a).depth ≤ n
  eq : ∀ a b, PyData.eqv (enc a) (enc b) = decide (a = b)
section
variable {α β γ : Type} [DecidableEq α] [DecidableEq β] [DecidableEq γ] {R : Rl α} {S : Rl β} {T : Rl γ} {e1 : α → PyData} {e2 : β → PyData} {e3 : γ → PyData} {n : Nat}
theorem EncOk.up {m : Nat} (E : EncOk R e1 n) (h : n ≤ m) : EncOk R e1 m := ⟨E.dp, fun a => Nat.le_trans (E.dep a) h, E.eq⟩
end
end WD
namespace WD
open PySem PySem.Spec PyProof.Rows L2

/-! ### what holds of the changing objects -/
/-- the well: a list of three ints -/
def Well (w : Addr) (H : Hp) : Prop := ∃ a b c : Int, H w = some (.lst [.int a, .int b, .int c])
abbrev only (w : Addr) : MS := fun x => x = w
theorem Well.ne {w : Addr} {H : Hp} (h : Well w H) : H w ≠ none := fun z => by
  obtain ⟨a, b, c, e⟩ := h
  rw [z] at e; cases e
theorem Well.upd {w p : Addr} {H : Hp} {o : HO} (h : Well w H) (n : H p = none) : Well w (upd H p o) := by
  obtain ⟨a, b, c, e⟩ := h
  exact ⟨a, b, c, by rw [upd_ne (ne_of_none e n)]; exact e⟩
theorem Well.fr {M : MS} {w : Addr} {H H' : Hp} (h : Well w H) (n : ¬ M w) (f : Fr M H H') : Well w H' := by
  obtain ⟨a, b, c, e⟩ := h
  exact ⟨a, b, c, f.keep _ _ n e⟩

/-! ### comprehensions -/
/-! ### the draw -/
/-! ### further rules -/
section
variable {X : Cx}
/-- xs + ys of lists, each to be read -/
def rCatL (K : PySem.W.Frag) : R2 := fun x y H Q => ∃ l b xs zs, x = .ref l ∧ y = .ref b ∧ SqL K H l xs ∧ SqL K H b zs ∧ xs.length + zs.length ≤ sizeLine ∧ ∀ p, H p = none → Q (.ref p) (upd H p (.lst (xs ++ zs)))
theorem op_catL : OpR X (binaryOp .Add) (rCatL X.K) := by
  intro pins s σ H x y v u Q I rx ry h
  obtain ⟨l, b, xs, zs, rfl, rfl, hH, hB, hz, q⟩ := h
  cases rx
  cases ry
  obtain ⟨its, r, ⟨⟨cls, dd, data, sl⟩, n, ho, hc, _, hd⟩, _⟩ := I.list hH
  obtain ⟨its2, r2, ⟨⟨cls2, dd2, data2, sl2⟩, n2, ho2, hc2, _, hd2⟩, _⟩ := I.list hB
  simp only at hc hd hc2 hd2
  subst hc hd hc2 hd2
  have h1 := r.length
  have h2 := r2.length
  have e : its.toArray ++ its2.toArray = (its ++ its2).toArray := by simp
  refine concat_meets ⟨_, ho, rfl⟩ ⟨_, ho2, rfl⟩ noFill_list_add seq_list_add PySem.F.slot_list_add PySem.F.entry_list_add (PySem.F.args_list_add_2 _ _) (list_addW l b its.toArray its2.toArray n n2 dd dd2 sl sl2 (by simp; omega)) ⟨ho, ho2, ?_⟩
  rw [e]
  exact ⟨.ref _, _, I.lnew (t' := s.toks) (r.append r2) (by rw [List.length_append]; omega), rfl, q _ I.fresh⟩
/-- sum of a tuple of ints; min, max: one of them -/
def rSumT (K : PySem.W.Frag) : List V → Hp → VK → Prop := fun vs H Q => ∃ (a : Addr) (ns : List Int), vs = [V.ref a] ∧ SqT K H a (ns.map V.int) ∧ Q (.int ns.sum) H
theorem cr_sumT (hc : X.calm = true) : CallR X (.builtin "sum") (rSumT X.K) := by
  intro pins s σ H vs us Q I r h
  obtain ⟨a, ns, rfl, hs, q⟩ := h
  obtain ⟨its, rv, hl, _⟩ := I.tuple hs
  rw [Vals.ref1 r]
  have hi := rv.ints
  obtain ⟨xs, e⟩ := hi.allInts.items
  have hn : numsOf (intItems xs).toList = ns := by rw [← e]; exact hi.numsOf
  rw [nums_intItems] at hn
  have hl2 : s.heap.IsTuple a its.toArray := hl
  rw [e] at hl2
  refine PySem.W.ktm_sumG (I.ok.hd hc) hl2 fun h' tk t' hk => ?_
  rw [PySem.preSum_eq, List.take_of_length_le (by simp), hn]
  exact ⟨.int _, H, I.kept hk, ⟨_, rfl⟩, q⟩
theorem dpInts {K : PySem.W.Frag} {H : Hp} : ∀ ns : List Int, DpAll K H (ns.map V.int) (ns.map PyData.int)
  | [] => .nil
  | n :: ns => .cons (.int n) (dpInts ns)
theorem alike_ints (ns : List Int) : PySem.W.AlikeAll (ns.map PyData.int) := by
  refine ⟨fun x hx y hy => ?_, fun x hx => ?_⟩
  · obtain ⟨i, _, rfl⟩ := List.mem_map.mp hx
    obtain ⟨j, _, rfl⟩ := List.mem_map.mp hy
    rfl
  · obtain ⟨i, _, rfl⟩ := List.mem_map.mp hx
    exact fun z => nomatch z
theorem depth_ints : ∀ ns : List Int, PyData.depthAll (ns.map PyData.int) = 0
  | [] => rfl
  | n :: ns => by
    show max 0 (PyData.depthAll (ns.map PyData.int)) = 0
    rw [depth_ints ns]; rfl
end
end WD
namespace WD
open PySem PySem.Spec PyProof.Rows L2

/-! ### defs as callables -/
structure Cal (P : Program) (w : World) (K : PySem.W.Frag) (mg : Str → Option Value) (base : Heap) (CX : CXT) (k : Nat) (x : Str) (f : Addr) (sp : Sp) (dvs : List V) : Prop where
  ex : ∃ (fd : FuncData) (ps : List Str) (ds : List Value), FnOk P w K mg base CX k f fd ps sp ∧ Binds K fd ps ds ∧ Vals dvs ds
  kp : PySem.W.keepIn K (.ref f) = true
  g : mg x = some (.ref f)
section
variable {P : Program} {w : World} {K : PySem.W.Frag} {mg : Str → Option Value} {base : Heap} {x qual : Str} {params : Arguments} {body : List Stmt} {scope : Scope} {f C : Addr} {fd : FuncData} {N ps : List Str} {k : Nat} {sp : Sp}
theorem fn0_of (F : FunD K x qual params body scope [] [] f fd) (S : FnScope N ps scope) (len : ∀ vs H Q E, sp vs H Q E → vs.length = ps.length)
    (bind : ∀ (kV doc pm : Value) (an : Option Addr) (cdv ct : Value) (us : List Value), us.length = ps.length → bindArgs (PySem.W.fnOf x qual params body scope .none kV doc pm an cdv ct) ⟨us, []⟩ = pure (ps.zip us))
    (hbody : ∀ (cdv : Value) (A : Around) (outer : List Env) (s : Shared) (H : Hp) (vs : List V) (Q : VK) (E : XK), Room k (A.deeper (envOfC qual scope s.heap.objs.size f cdv)) → sp vs H Q E →
      ∃ t, PSs (cxOf CX0 P w K mg base N qual scope f cdv A outer s H E).nox body t ∧ t { nx := fun _ H' => Q .non H', rt := Q } (start N vs) H) :
    ∃ (fd : FuncData) (ps : List Str) (ds : List Value), FnOk P w K mg base CX0 (k + 1) f fd ps sp ∧ Binds K fd ps ds ∧ Vals [] ds :=
  ⟨fd, ps, [], F.ok S len fun cdv A outer s H vs Q E hr h => by
    obtain ⟨t, h1, h2⟩ := hbody cdv A outer s H vs Q E hr h
    exact ⟨t, h1.nox, h2⟩, F.bindsN bind, .nil⟩
theorem fnX_of (F : FunD K x qual params body scope [] [] f fd) (S : FnScope N ps scope) (len : ∀ vs H Q E, sp vs H Q E → vs.length = ps.length)
    (bind : ∀ (kV doc pm : Value) (an : Option Addr) (cdv ct : Value) (us : List Value), us.length = ps.length → bindArgs (PySem.W.fnOf x qual params body scope .none kV doc pm an cdv ct) ⟨us, []⟩ = pure (ps.zip us))
    (hbody : ∀ (cdv : Value) (A : Around) (outer : List Env) (s : Shared) (H : Hp) (vs : List V) (Q : VK) (E : XK), Room k (A.deeper (envOfC qual scope s.heap.objs.size f cdv)) → sp vs H Q E →
      ∃ t, PSs (cxOf (L2.CX P w) P w K mg base N qual scope f cdv A outer s H E) body t ∧ t { nx := fun _ H' => Q .non H', rt := Q } (start N vs) H) :
    ∃ (fd : FuncData) (ps : List Str) (ds : List Value), FnOk P w K mg base (L2.CX P w) (k + 1) f fd ps sp ∧ Binds K fd ps ds ∧ Vals [] ds :=
  ⟨fd, ps, [], F.ok S len hbody, F.bindsN bind, .nil⟩
end
section
variable {X : Cx} {k j : Nat} {x : Str} {f C : Addr} {sp : Sp} {dvs : List V} {p pos apos : Pos} {e o : Expr} {es : List Expr} {t : TA} {ta : TE} {m : Str}
theorem pe_gi {x : Str} {i : Int} {pos : Pos} (hg : Gl X x) (h : ∃ t, X.mg x = some (.int i t)) (hd : (x == ("__debug__" : Str)) = false := by decide) : PE X (.Name x pos) (tC (.int i)) := by
  obtain ⟨t, e⟩ := h
  exact pe_glob hg e ⟨t, rfl⟩ hd
end
theorem huD {k : Nat} {A : Around} (hr : Room k A) : A.units + 1 < cLine := hu_of hr
theorem hu65 {k : Nat} {A : Around} (hr : Room k A) : A.units + 65 < cLine := by have := hr.un; omega
theorem bt_len : bootBuiltins "len" = some (.builtin "len") := by decide +kernel
theorem bt_isinstance : bootBuiltins "isinstance" = some (.builtin "isinstance") := by decide +kernel
theorem bt_all : bootBuiltins "all" = some (.builtin "all") := by decide +kernel
theorem bt_sum : bootBuiltins "sum" = some (.builtin "sum") := by decide +kernel
theorem bt_min : bootBuiltins "min" = some (.builtin "min") := by decide +kernel
theorem bt_max : bootBuiltins "max" = some (.builtin "max") := by decide +kernel
theorem bt_sorted : bootBuiltins "sorted" = some (.builtin "sorted") := by decide +kernel
theorem bt_int : bootBuiltins "int" = some (.type "int") := by decide +kernel
theorem bt_bool : bootBuiltins "bool" = some (.type "bool") := by decide +kernel
theorem bt_tuple : bootBuiltins "tuple" = some (.type "tuple") := by decide +kernel
theorem bt_list : bootBuiltins "list" = some (.type "list") := by decide +kernel
theorem bt_dict : bootBuiltins "dict" = some (.type "dict") := by decide +kernel
end WD
namespace WD
open PySem PySem.Spec PyProof.Rows L2
section
variable {X : Cx} {e : Expr} {te : TE} {p apos cpos pos : Pos}
end
end WD
namespace WD
open PySem PySem.Spec PyProof.Rows L2

/-! ### houses: data -/
def SMALL : Str := "abcdefghijklmnopqrstuvwxyz"
def nameOk (z : Str) : Bool := decide (2 ≤ z.length) && (decide (z.length ≤ 8) && z.cps.toList.all fun c => decide (c ∈ SMALL.cps.toList))
abbrev Deed := Str × Int × List Int
def inR (n x : Int) : Bool := decide (0 ≤ x) && decide (x < n)
def rowOk (ns : List Int) (wide size : Int) : Bool := decide ((ns.length : Int) = wide) && ns.all (inR size)
def deedOk (d : Deed) (n : Int) : Bool := nameOk d.1 && (decide (0 ≤ d.2.1) && (decide (d.2.1 ≤ 3) && rowOk d.2.2 (n ^ d.2.1.toNat) n))
abbrev rD : Rl Deed := rP3 rS rI (rT rI)
abbrev Hs := Int × List Deed
def kvsOf : List Deed → List V → List (Key × V)
  | d :: ds, v :: vs => (Sum.inr d.1, v) :: kvsOf ds vs
  | _, _ => []
def rH (C : Addr) : Rl Hs := fun M H v h => ∃ a dx d vs, v = .ref a ∧ ¬ M a ∧ ¬ M dx ∧ ¬ M d ∧ H a = some (.ins C dx [("size", .int h.1), ("by_name", .ref d)]) ∧ H dx = some (.own a) ∧ H d = some (.dK (kvsOf h.2 vs)) ∧ All2 (rD M H) vs h.2
instance {C : Addr} : Rep (rH C) := ⟨fun f ⟨a, dx, d, vs, e, n1, n2, n3, h1, h2, h3, g⟩ => ⟨a, dx, d, vs, e, n1, n2, n3, f.keep _ _ n1 h1, f.keep _ _ n2 h2, f.keep _ _ n3 h3, g.imp fun _ _ x => Rep.st f x⟩,
  fun s ⟨a, dx, d, vs, e, n1, n2, n3, h1, h2, h3, g⟩ => ⟨a, dx, d, vs, e, fun z => n1 (s a z), fun z => n2 (s _ z), fun z => n3 (s _ z), h1, h2, h3, g.imp fun _ _ x => Rep.wk s x⟩,
  fun hD ⟨a, dx, d, vs, e, n1, n2, n3, h1, h2, h3, g⟩ => ⟨a, dx, d, vs, e, ad_ne h1 n1 hD, ad_ne h2 n2 hD, ad_ne h3 n3 hD, h1, h2, h3, g.imp fun _ _ x => Rep.ad hD x⟩⟩
/-- a right house -/
structure HsOk (h : Hs) : Prop where
  lo : 1 ≤ h.1
  hi : h.1 ≤ 9
  few : h.2.length ≤ 6
  ok : ∀ d ∈ h.2, deedOk d h.1 = true
  nd : (h.2.map (·.1)).Nodup
/-- what a deed's size tells -/
theorem deedOk_name {d : Deed} {n : Int} (h : deedOk d n = true) : nameOk d.1 = true ∧ 0 ≤ d.2.1 ∧ d.2.1 ≤ 3 ∧ rowOk d.2.2 (n ^ d.2.1.toNat) n = true := by
  unfold deedOk at h
  simp only [Bool.and_eq_true, decide_eq_true_eq] at h
  exact ⟨h.1, h.2.1, h.2.2.1, h.2.2.2⟩
theorem nameOk_len {z : Str} (h : nameOk z = true) : z.length ≤ 8 := by
  unfold nameOk at h
  simp only [Bool.and_eq_true, decide_eq_true_eq] at h
  exact h.2.1
theorem rowOk_len {ns : List Int} {m n : Int} (h : rowOk ns m n = true) : (ns.length : Int) = m := by
  unfold rowOk at h
  simp only [Bool.and_eq_true, decide_eq_true_eq] at h
  exact h.1
theorem pow_le3 {n : Int} {k : Nat} (h1 : 1 ≤ n) (h9 : n ≤ 9) (hk : k ≤ 3) : n ^ k ≤ 729 := by
  have h : k = 0 ∨ k = 1 ∨ k = 2 ∨ k = 3 := by omega
  have hc : n = 1 ∨ n = 2 ∨ n = 3 ∨ n = 4 ∨ n = 5 ∨ n = 6 ∨ n = 7 ∨ n = 8 ∨ n = 9 := by omega
  rcases hc with e | e | e | e | e | e | e | e | e <;> subst e <;> (rcases h with e | e | e | e <;> subst e <;> decide)
theorem HsOk.deed {h : Hs} (k : HsOk h) {d : Deed} (m : d ∈ h.2) : d.1.length ≤ 8 ∧ d.2.2.length ≤ 729 ∧ 0 ≤ d.2.1 ∧ d.2.1 ≤ 3 := by
  obtain ⟨h1, h2, h3, h4⟩ := deedOk_name (k.ok d m)
  have e := rowOk_len h4
  have := pow_le3 (k := d.2.1.toNat) k.lo k.hi (by omega)
  exact ⟨nameOk_len h1, by omega, h2, h3⟩
end WD
/-! rules with the written part named: within a comprehension's block the reading must not hang on the block -/
namespace WD
open PySem PySem.Spec PyProof.Rows L2
section
variable {X : Cx} (K : PySem.W.Frag)

variable {tg l e o : Expr} {es elts : List Expr} {tl te to ta : TE} {t : TA} {p pos apos cpos tpos : Pos} {kk n : Nat} {ts : TGs} {f : Str}
theorem k_pg_tup (hc : X.calm = true) (hp : PGs X es ts) (hn : (assignEach es X.env).length = n := by rfl) (hst : (assignEach es X.env).findIdx? (·.1) = none := by rfl) (h : X.K = K := by rfl) : PG X (.Tuple es kk pos) (gTup K n ts) := by subst h; exact pg_tup hc hp hn hst
theorem k_pe_bm0 {T : String} {name : Str} {id : String} {r : V → List V → Hp → VK → Prop} (pa : PlainAttrs T) (slot : Slot T name id) (hty : typeOf (.builtin id) = pure (.type "method_descriptor")) (hm : MtR X id r) (ho : PE X o to)
    (hbase : attributeBase o name X.env (eval o X.env) = eval o X.env := by rfl) (hline : (apos.endLine == cpos.line) = true := by rfl) (h : X.K = K := by rfl) : PE X (.Call (.Attribute o name apos) [] [] cpos) (tBM0 K T r to) := by subst h; exact pe_bm0 pa slot hty hm ho hbase hline
theorem k_pe_bm {T : String} {name : Str} {id : String} {r : V → List V → Hp → VK → Prop} (pa : PlainAttrs T) (slot : Slot T name id) (hty : typeOf (.builtin id) = pure (.type "method_descriptor")) (hm : MtR X id r) (ho : PE X o to) (ha : PA X (e :: es) t)
    (hbase : attributeBase o name X.env (eval o X.env) = eval o X.env := by rfl)
    (hfew : ((backTo cpos (starEach (e :: es) X.env)).all (fun x => !x.1) && (backToKw cpos (keywordEach [] X.env)).all (fun x => x.1.isSome)
      && decide ((e :: es).length + ([] : List Keyword).length + (if ([] : List Keyword).isEmpty then 0 else 1) < 30)) = true := by rfl)
    (hline : (apos.endLine == cpos.line) = true := by rfl) (hs : starEach (e :: es) X.env = (false, eval e X.env) :: starEach es X.env := by rfl) (hplain : (backTo cpos (starEach es X.env)).any (·.1) = false := by rfl) (h : X.K = K := by rfl) :
    PE X (.Call (.Attribute o name apos) (e :: es) [] cpos) (tBM K T r to t) := by subst h; exact pe_bm pa slot hty hm ho ha hbase hfew hline hs hplain
end
end WD
namespace WD
open PySem PySem.Spec PyProof.Rows L2
theorem atI_ok {α : Type} {xs : List α} {i : Int} (h0 : 0 ≤ i) (h : i.toNat < xs.length) : atI xs i = some (xs[i.toNat]'h) := by
  have e : atI xs ((i.toNat : Nat) : Int) = some (xs[i.toNat]'h) := atI_nat (List.getElem?_eq_getElem h)
  rw [show ((i.toNat : Nat) : Int) = i by omega] at e
  exact e
/-! ### tuples put together, all rows -/
theorem tup1 {α : Type} {R : Rl α} [Rep R] {M : MS} {H : Hp} {p : Addr} {v : V} {a : α} (hM : MIn M H) (hp : H p = none) (h : R M H v a) : rT R M (upd H p (.tup [v])) (.ref p) [a] :=
  ⟨p, [v], rfl, hM.no hp, upd_same, All2.one (Rep.st (Fr.new hp) h)⟩
/-! ### slices of lists -/
def cutL {α : Type} (xs : List α) (lo hi : Option Int) : List α := (xs.drop (HT.sIx xs.length 0 lo)).take (HT.sIx xs.length xs.length hi - HT.sIx xs.length 0 lo)
theorem All2.cut {α : Type} {R : V → α → Prop} {vs : List V} {l : List α} (h : All2 R vs l) (lo hi : Option Int) : All2 R (cutV vs lo hi) (cutL l lo hi) := by
  unfold cutV cutL
  rw [h.len]
  exact (h.drop _).take _
/-! ### dict(pairs) -/
end WD
/-! own exceptions: made, raised, caught, asked -/
namespace WD
open PySem PySem.Spec PyProof.Rows L2

/-! ### what the written part says of an exception class, by a Bool -/
def oexObjB (C : Addr) : Option Obj → Bool
  | some ⟨.type t, _, .cls cd, sl⟩ => decide (t = "type") && ((match cd.mro with
    | .ref C' :: bm => decide (C' = C) && PySem.HandSPX.refsVE bm
    | _ => false) && ((match sl.toList with
    | [_, _, _, _, some (.builtin n), _] => decide (n = "ValueError.__new__")
    | _ => false) && (cd.hasDict && !cd.hasDel)))
  | _ => false
theorem oexObjB_ok {K : PySem.W.Frag} {C : Addr} (h : oexObjB C (K.lookup C) = true) : ∃ nm q N bs bm sn sub ab col dd k0 k1 k2 k3 k5, K.lookup C = some (excClassObj nm q C N bs bm true sn sub ab col dd k0 k1 k2 k3 k5 "ValueError.__new__") ∧ PySem.HandSPX.refsVE bm = true := by
  generalize K.lookup C = o at h ⊢
  unfold oexObjB at h
  split at h
  · rename_i t dd cd sl
    simp only [Bool.and_eq_true, decide_eq_true_eq, Bool.not_eq_true'] at h
    obtain ⟨h1, h2, h3, h4, h5⟩ := h
    obtain ⟨nm, bs, mro, ns, qn, hd, sn, sb, ab, col, del⟩ := cd
    dsimp only at h2 h4 h5
    subst h1 h4 h5
    split at h2
    · rename_i C' bm
      obtain ⟨e1, e2⟩ := Bool.and_eq_true_iff.mp h2
      have e1 := of_decide_eq_true e1
      subst e1
      split at h3
      · rename_i k0 k1 k2 k3 n k5 e3
        have e4 := of_decide_eq_true h3
        subst e4
        have e5 : sl = #[k0, k1, k2, k3, some (.builtin "ValueError.__new__"), k5] := by
          rw [← Array.toArray_toList (xs := sl), e3]
        subst e5
        exact ⟨_, _, _, _, bm, _, _, _, _, _, _, _, _, _, _, rfl, e2⟩
      · cases h3
    · cases h2
  · cases h
/-- how a value's class answers isinstance: what is asked of the class -/
structure ExD (K : PySem.W.Frag) (C : Addr) : Prop where
  cl : (PySem.W.clsIn K C).isSome = true
  ga : PySem.W.findIn K (.ref C) "__getattribute__" = some (some (.builtin "BaseException.__getattribute__"))
  gg : PySem.W.findIn K (.ref C) "__getattr__" = some none
  sb : PySem.W.subIn K (.ref C) (.type "BaseException") = some true
  cc : PySem.W.findIn K (.ref C) "__class__" = some (some (.builtin "object.__class__"))
  sp : PySem.W.specialIn K (.builtin "object.__class__") "__get__" = some (some (.builtin "getset_descriptor.__get__"))
  tk : PySem.W.takesIn K (.builtin "object.__class__") = some true
  mr : PySem.W.mroIn K C (.type "object") = some true
  hd : PySem.W.hasDictIn K C = true
/-- facts of my own -/
inductive Fx where
  | oex (x : Str)
  | exd (x : Str)
  | ini (x : Str)
  | par (x : Str)
  | noa (x f : Str)
  | kit (x y : Str) (b : Bool)
  | kiv (x : Str) (t : String) (b : Bool)
  | isc (x : Str)
  | neo (x : Str)
def Fx.ok (K : PySem.W.Frag) : Fx → Bool
  | .oex x => oexObjB (He.ga K x) (K.lookup (He.ga K x)) && (He.eqO (PySem.W.findIn K (.ref (He.ga K x)) "__setattr__") (some (some (.builtin "object.__setattr__"))) && (decide (PySem.W.subIn K (.ref (He.ga K x)) (.type "BaseException") = some true) &&
      (decide (PySem.W.typeIn K (.ref (He.ga K x)) = some (.type "type")) && PySem.W.keepIn K (.ref (He.ga K x)))))
  | .exd x => (PySem.W.clsIn K (He.ga K x)).isSome && (He.eqO (PySem.W.findIn K (.ref (He.ga K x)) "__getattribute__") (some (some (.builtin "BaseException.__getattribute__"))) && (He.eqO (PySem.W.findIn K (.ref (He.ga K x)) "__getattr__") (some none) &&
      (decide (PySem.W.subIn K (.ref (He.ga K x)) (.type "BaseException") = some true) && (He.eqO (PySem.W.findIn K (.ref (He.ga K x)) "__class__") (some (some (.builtin "object.__class__"))) &&
      (He.eqO (PySem.W.specialIn K (.builtin "object.__class__") "__get__") (some (some (.builtin "getset_descriptor.__get__"))) && (decide (PySem.W.takesIn K (.builtin "object.__class__") = some true) &&
      (decide (PySem.W.mroIn K (He.ga K x) (.type "object") = some true) && PySem.W.hasDictIn K (He.ga K x))))))))
  | .ini x => He.eqO (PySem.W.findIn K (.ref (He.ga K x)) "__init__") (some (some (.ref (He.ma K (He.ga K x) "__init__")))) && decide (PySem.W.typeIn K (.ref (He.ma K (He.ga K x) "__init__")) = some (.type "function"))
  | .par x => PySem.W.readsIn K (He.ga K x) (.type "type") && (He.eqO (PySem.W.specialIn K (.ref (He.ga K x)) "__getattribute__") (some (some (.builtin "type.__getattribute__"))) &&
      (match PySem.W.findCls K (.ref (He.ga K x)) (.type "type") "__init__" with
        | some (.val (.builtin n)) => decide (n = "ValueError.__init__")
        | _ => false))
  | .noa x f => He.eqO (PySem.W.findIn K (.ref (He.ga K x)) f) (some none)
  | .kit x y b => decide (PySem.W.kitOne K (.ref (He.ga K x)) (.ref (He.ga K y)) = some b)
  | .kiv x t b => decide (PySem.W.kitOne K (.ref (He.ga K x)) (.type t) = some b)
  | .isc x => He.eqO (PySem.W.findIn K (.ref (He.ga K x)) "__class__") (some (some (.builtin "object.__class__"))) && (He.eqO (PySem.W.specialIn K (.builtin "object.__class__") "__get__") (some (some (.builtin "getset_descriptor.__get__"))) &&
      (decide (PySem.W.takesIn K (.builtin "object.__class__") = some true) && (decide (PySem.W.mroIn K (He.ga K x) (.type "object") = some true) && decide (PySem.W.kitOne K (.ref (He.ga K x)) (.ref (He.ga K x)) = some true))))
  | .neo x => He.eqO (PySem.W.findIn K (.ref (He.ga K x)) "__ne__") (some (some (.builtin "object.__ne__"))) && decide (PySem.W.subIn K (.ref (He.ga K x)) (.type "object") = some true)
section
variable {K : PySem.W.Frag} {x y f : Str} {t : String} {b : Bool}
theorem oex_ok (c : (Fx.oex x).ok K = true) : OexC K (He.ga K x) := by
  obtain ⟨c1, c⟩ := He.ba c
  obtain ⟨c2, c⟩ := He.ba c
  obtain ⟨c3, c⟩ := He.ba c
  obtain ⟨c4, c5⟩ := He.ba c
  exact ⟨oexObjB_ok c1, He.eqO_ok c2, of_decide_eq_true c3, of_decide_eq_true c4, c5⟩
theorem exd_ok' (c : (Fx.exd x).ok K = true) : ExD K (He.ga K x) := by
  obtain ⟨c1, c⟩ := He.ba c
  obtain ⟨c2, c⟩ := He.ba c
  obtain ⟨c3, c⟩ := He.ba c
  obtain ⟨c4, c⟩ := He.ba c
  obtain ⟨c5, c⟩ := He.ba c
  obtain ⟨c6, c⟩ := He.ba c
  obtain ⟨c7, c⟩ := He.ba c
  obtain ⟨c8, c9⟩ := He.ba c
  exact ⟨c1, He.eqO_ok c2, He.eqO_ok c3, of_decide_eq_true c4, He.eqO_ok c5, He.eqO_ok c6, of_decide_eq_true c7, of_decide_eq_true c8, c9⟩
theorem ini_ok (c : (Fx.ini x).ok K = true) : PySem.W.findIn K (.ref (He.ga K x)) "__init__" = some (some (.ref (He.ma K (He.ga K x) "__init__"))) ∧ PySem.W.typeIn K (.ref (He.ma K (He.ga K x) "__init__")) = some (.type "function") := by
  obtain ⟨c1, c2⟩ := He.ba c
  exact ⟨He.eqO_ok c1, of_decide_eq_true c2⟩
/-- an exception class whose __init__ is called by its name -/
structure Par (K : PySem.W.Frag) (C : Addr) : Prop where
  rd : PySem.W.readsIn K C (.type "type") = true
  ga : PySem.W.specialIn K (.ref C) "__getattribute__" = some (some (.builtin "type.__getattribute__"))
  at_ : PySem.W.findCls K (.ref C) (.type "type") "__init__" = some (.val (.builtin "ValueError.__init__"))
theorem par_ok (c : (Fx.par x).ok K = true) : Par K (He.ga K x) := by
  obtain ⟨c1, c⟩ := He.ba c
  obtain ⟨c2, c3⟩ := He.ba c
  refine ⟨c1, He.eqO_ok c2, ?_⟩
  split at c3
  · rename_i n e
    rw [e, of_decide_eq_true c3]
  · cases c3
theorem noa_ok (c : (Fx.noa x f).ok K = true) : PySem.W.findIn K (.ref (He.ga K x)) f = some none := He.eqO_ok c
theorem kit_ok (c : (Fx.kit x y b).ok K = true) : PySem.W.kitOne K (.ref (He.ga K x)) (.ref (He.ga K y)) = some b := of_decide_eq_true c
theorem kiv_ok (c : (Fx.kiv x t b).ok K = true) : PySem.W.kitOne K (.ref (He.ga K x)) (.type t) = some b := of_decide_eq_true c
end
/-! ### the Hook, with these facts -/
def obsE (fa : List He.Fa) (fn : List He.DefD) (fx : List Fx) (K : PySem.W.Frag) : He.AlD := ((He.obsD fa fn K).1 && fx.all fun f => f.ok K, (He.obsD fa fn K).2)
def SaysE (fa : List He.Fa) (fn : List He.DefD) (fx : List Fx) (K : PySem.W.Frag) : Prop := obsE fa fn fx K = He.valD fn
theorem SaysE.says {fa : List He.Fa} {fn : List He.DefD} {fx : List Fx} {K : PySem.W.Frag} (c : SaysE fa fn fx K) : He.SaysD fa fn K := by
  have h1 : ((He.obsD fa fn K).1 && fx.all fun f => f.ok K) = true := congrArg (fun z : He.AlD => z.1) c
  have h2 : (He.obsD fa fn K).2 = fn.map He.DefD.val := congrArg (fun z : He.AlD => z.2) c
  exact Prod.ext (He.ba h1).1 h2
theorem SaysE.own {fa : List He.Fa} {fn : List He.DefD} {fx : List Fx} {K : PySem.W.Frag} (c : SaysE fa fn fx K) (i : Nat) {f : Fx} (h : fx[i]? = some f := by rfl) : f.ok K = true := by
  have h1 : ((He.obsD fa fn K).1 && fx.all fun f => f.ok K) = true := congrArg (fun z : He.AlD => z.1) c
  exact List.all_eq_true.mp (He.ba h1).2 f (List.mem_of_getElem? h)

/-! ### C.__init__(self, ..), C an own exception class -/
section
variable {X : Cx} {e : Expr} {es : List Expr} {ta : TA} {p1 p2 pos : Pos} {x : Str} {C : Addr}
theorem pe_oinit {pl : Sem Bool} (hg : Gl X x) (hm : X.mg x = some (.ref C)) (T : Par X.K C) (ha : PA X (e :: es) ta) (hdb : (x == ("__debug__" : Str)) = false := by decide)
    (hc : eval (.Call (.Attribute (.Name x p1) "__init__" p2) (e :: es) [] pos) X.env = (do
      let ov ← eval (.Name x p1) X.env
      standAt p2.atName
      let (f, first) ← holding [ov] (getMethod ov "__init__" pl)
      callWith pos f first (backTo pos (starEach (e :: es) X.env)) (backToKw pos (keywordEach [] X.env))) := by rfl)
    (he : starEach (e :: es) X.env = (false, eval e X.env) :: starEach es X.env := by rfl) (hpl : (backTo pos (starEach es X.env)).any (·.1) = false := by rfl) :
    PE X (.Call (.Attribute (.Name x p1) "__init__" p2) (e :: es) [] pos) (tVeI X.K ta) := by
  refine ⟨fun pins s σ H Q I h => ?_⟩
  refine PySem.W.methodCall_KW (ld_glob I hg hm ?_ hdb) hc
  refine PySem.W.method_cls I.kIn T.ga (PySem.W.cls_value I.kIn T.rd T.at_ (by decide +kernel) ?_)
  refine PyProof.Rows.callWith_method1 (thn (ha.run pos pins _ σ H _ (I.tok _) h) fun us s1 ⟨vs, H1, I1, r1, a, C1, ws, ev, hl, T1, ea, q⟩ => ?_) he hpl
  subst ev
  cases r1 with
  | @cons _ u0 _ ur ra rw' =>
    obtain rfl : u0 = Value.ref a := ra
    have hlen : ur.length ≤ sizeLine := by
      have e1 := Paired.length rw'
      have e2 := sizeLine_eq
      omega
    exact oinit_ok T1 I1 ea hlen fun s' J => ⟨.non, H1, J, rfl, q⟩
end
/-! ### C(v), C an own exception class with one field, to be raised -/
def spExc (C : Addr) (f : Str) : Sp := fun vs H Q _ => ∃ (a : Addr) (v : V), vs = [.ref a, v] ∧ H a = some (exo a C none) ∧ ∀ dx, H dx = none → dx ≠ a → Q .non (upd (upd H dx (exd dx [(f, v)])) a (exo a C (some dx)))
structure Xmk (P : Program) (w : World) (K : PySem.W.Frag) (mg : Str → Option Value) (base : Heap) (k : Nat) (x : Str) (C fI : Addr) (f : Str) : Prop where
  ex : ∃ (fd : FuncData) (ps : List Str) (ds : List Value), FnOk P w K mg base CX0 k fI fd ps (spExc C f) ∧ Binds K fd ps ds ∧ Vals [] ds
  oe : OexC K C
  ini : PySem.W.findIn K (.ref C) "__init__" = some (some (.ref fI)) ∧ PySem.W.typeIn K (.ref fI) = some (.type "function")
  g : mg x = some (.ref C)
def tExc (C : Addr) (f : Str) (ta : TA) : L2.St → Hp → XK → Prop := fun σ H Q => ta σ H fun vs H1 => ∃ v, vs = [v] ∧ ∀ d, H1 d = none → Q (.ref C) (some d) (upd H1 d (.xd [(f, v)]))
section
variable {X : Cx} {k : Nat} {x : Str} {C fI : Addr} {f : Str} {e : Expr} {es : List Expr} {ta : TA} {te : TE} {p pos : Pos}
/-- a reading made monotone -/
def clo (ta : TA) : TA := fun σ H Q => ∃ R : List V → Hp → Prop, ta σ H R ∧ ∀ vs H1, R vs H1 → Q vs H1
theorem pa_clo (h : PA X es ta) : PA X es (clo ta) := by
  refine ⟨fun pos pins s σ H Q I hh => ?_⟩
  obtain ⟨R, h1, h2⟩ := hh
  exact thn (h.run pos pins s σ H R I h1) fun us s1 ⟨vs, H1, I1, r, q⟩ => ⟨vs, H1, I1, r, h2 vs H1 q⟩
theorem pmk_x (c : Xmk X.prog X.w X.K X.mg X.base k x C fI f) (hr : Room (k + 1) X.A) (hg : Gl X x) (ha : PA X (e :: es) ta) (hdb : (x == ("__debug__" : Str)) = false := by decide)
    (he : starEach (e :: es) X.env = (false, eval e X.env) :: starEach es X.env := by rfl) (hpl : (backTo pos (starEach es X.env)).any (·.1) = false := by rfl) : PMk X (.Call (.Name x p) (e :: es) [] pos) (tExc C f ta) := by
  obtain ⟨fd, ps, ds, h1, h2, h3⟩ := c.ex
  have P := pmk_oex (pos := pos) (p := p) c.oe c.ini.1 c.ini.2 h1 hr h2 h3 pass0 hg c.g (pa_clo ha) hdb he hpl
  intro pins s σ H Q I h
  refine P pins s σ H Q I ⟨_, h, fun vs H1 q => ?_⟩
  obtain ⟨v, rfl, q⟩ := q
  refine ⟨by show 1 ≤ 1000; decide, fun a na => ⟨a, v, rfl, upd_same, fun dx nd ne => ⟨rfl, dx, [(f, v)], upd_same, ?_, ?_, ?_⟩⟩⟩
  · rw [upd_ne ne, upd_same]
  · rw [upd_ne ne] at nd
    exact nd
  · have nd' : H1 dx = none := by rw [upd_ne ne] at nd; exact nd
    have e2 : upd (del (upd (upd (upd H1 a (exo a C none)) dx (exd dx [(f, v)])) a (exo a C (some dx))) a) dx (.xd [(f, v)]) = upd H1 dx (.xd [(f, v)]) := by
      funext b
      by_cases hb : b = dx
      · rw [hb, upd_same, upd_same]
      · rw [upd_ne hb, upd_ne hb]
        by_cases ha : b = a
        · rw [ha, del_same, na]
        · rw [del_ne ha, upd_ne ha, upd_ne hb, upd_ne ha]
    rw [e2]
    exact q dx nd'
end
/-! ### calls that may raise -/
section
variable {X : Cx} {CX : CXT} {k : Nat} {f C : Addr} {fd : FuncData} {ps : List Str} {sp : Sp} {E : L2.St → XK} {x m : Str} {p pos apos : Pos} {e o : Expr} {es : List Expr} {ta : TE} {t : TA} {W : WX} {ds : List Value}
theorem binds0 {K : PySem.W.Frag} (h : Binds K fd ps ds) (hd : Vals [] ds) : Binds K fd ps [] := by
  cases hd
  exact h
/-- f(e, ..) -/
theorem pe_calX (c : Cal X.prog X.w X.K X.mg X.base (L2.CX X.prog X.w) k x f sp []) (tk : Takes X W) (hr : Room k X.A) (hg : Gl X x) (ha : PA X (e :: es) t) (hdb : (x == ("__debug__" : Str)) = false := by decide)
    (he : starEach (e :: es) X.env = (false, eval e X.env) :: starEach es X.env := by rfl) (hpl : (backTo pos (starEach es X.env)).any (·.1) = false := by rfl) : PE X (.Call (.Name x p) (e :: es) [] pos) (tCallS sp (WE W) t) := by
  obtain ⟨fd, ps, ds, h1, h2, h3⟩ := c.ex
  exact pe_callS h1 hr hg c.g c.kp (binds0 h2 h3) (fun σ => passAt tk σ) ha hdb he hpl
end
/-! ### in an except suite -/
/-- e.f, the class told by the reading -/
def tXfA (K : PySem.W.Frag) (a : Addr) (cls : Value) (d : Option Addr) (f : Str) (te : TE) : TE := fun σ H Q => te σ H fun x H1 => ∃ C : Addr, x = .ref a ∧ cls = .ref C ∧ ExD K C ∧ PySem.W.findIn K (.ref C) f = some none ∧ ∃ (dd : Addr) (fs : List (Str × V)) (v : V), d = some dd ∧ H1 dd = some (.xd fs) ∧ fs.lookup f = some v ∧ Q v H1
/-- isinstance(e, c) -/
def rIsX (K : PySem.W.Frag) (a : Addr) (cls : Value) (d : Option Addr) : List V → Hp → VK → Prop := fun xs H Q => ∃ (D : Addr) (c : V) (cv : Value) (b : Bool), cls = .ref D ∧ ExD K D ∧ (∀ dd, d = some dd → ∃ fs, H dd = some (.xd fs)) ∧ xs = [.ref a, c] ∧ (∀ u, RelV c u → u = cv) ∧ PySem.W.kitOne K (.ref D) cv = some b ∧ Q (.bl b) H
section
variable {X : Cx} {a : Addr} {oe : Obj} {cls : Value} {d : Option Addr} {pn : List (Addr × Obj)} {e : Expr} {te : TE} {pos : Pos} {n : Str}
theorem pe_xfA (hz : Zc cls d oe) (hf : ∃ vs, oe.data = .fields vs) (he : PE (X.suite a ((a, oe) :: pn)) e te) (hb : attributeBase e n X.env (eval e X.env) = eval e X.env := by rfl) : PE (X.suite a ((a, oe) :: pn)) (.Attribute e n pos) (tXfA X.K a cls d n te) := by
  refine ⟨fun pins s σ H Q I h => ?_⟩
  refine attr_of hb (thn (he.run pins s σ H _ I h) fun u s1 hh => ?_)
  obtain ⟨x, H1, I1, rx, C, ex, ec, T, hno, dd, fs, v, ed, ea, l, q⟩ := hh
  subst ex ec ed
  cases (show u = Value.ref a from rx)
  obtain ⟨ha, _⟩ := I1.pin (a, oe) (List.mem_append_left _ List.mem_cons_self)
  obtain ⟨vs, hd⟩ := hf
  obtain ⟨mA, hns, hr⟩ := (show ObjOk X.prog X.w H1 s1.heap dd (.xd fs) from I1.hok dd _ ea)
  obtain ⟨od, ho, hl⟩ := lookIn_ns hns
  obtain ⟨u, hu, ru⟩ := RelO.some_of (v := v) (o := mA n) (by rw [← l]; exact hr n)
  have J : PySem.W.InstAt s1.heap a oe C (some od) := ⟨ha, hz.1, by unfold PySem.W.notCls; rw [hd], by rw [hz.2]; exact ho⟩
  exact HandSPX.exc_get I1.kIn J T.ga T.gg T.sb (PySem.W.findObj_own T.hd hno rfl (by rw [hl, hu])) (handed_of ru) ⟨v, H1, I1.tok _, ru, q⟩
theorem call_isX (hz : Zc cls d oe) (hf : ∃ vs, oe.data = .fields vs) : CallR (X.suite a ((a, oe) :: pn)) (.builtin "isinstance") (rIsX X.K a cls d) := by
  intro pins s σ H xs us Q I r h
  obtain ⟨D, c, cv, b, ec, C, hd, rfl, hcv, e, q⟩ := h
  subst ec
  cases r with
  | cons rx rr =>
    cases rr with
    | cons rt rr =>
      cases rr
      cases rx
      cases hcv _ rt
      obtain ⟨hget, _⟩ := I.pin (a, oe) (List.mem_append.mpr (.inl List.mem_cons_self))
      obtain ⟨vs, hv⟩ := hf
      have J : ∃ od, PySem.W.InstAt s.heap a oe D od := by
        cases d with
        | none => exact ⟨none, hget, hz.1, by unfold PySem.W.notCls; rw [hv], by rw [hz.2]; exact trivial⟩
        | some dd =>
          obtain ⟨fs, hfs⟩ := hd dd rfl
          obtain ⟨mA, ⟨o, _, _, ho, _⟩, _⟩ := (show ObjOk X.prog X.w H s.heap dd (.xd fs) from I.hok dd _ hfs)
          exact ⟨some o, hget, hz.1, by unfold PySem.W.notCls; rw [hv], by rw [hz.2]; exact ho⟩
      obtain ⟨od, J⟩ := J
      exact PySem.W.kia_one (PySem.W.kitx_exc C.cl C.ga C.gg C.sb C.cc C.sp C.tk C.mr) I.kIn J e (fun z => nomatch z) fun tk => ⟨.bl b, H, I.kept (t' := tk) fun _ _ z => z, rfl, q⟩
end
/-! ### try with clauses `except x as n` -/
abbrev Su := Addr → Value → Option Addr → TS
section
variable {X : Cx} {body : List Stmt} {hd0 : ExceptHandler} {hds : List ExceptHandler} {l : List (Value × Nat × Su)} {pos : Pos} {tb : WX → TS} {Wout : WX}
end
end WD
namespace WD
open PySem PySem.Spec PyProof.Rows L2
/-! ### any data -/
mutual
def rJ (M : MS) (H : Hp) : V → PyData → Prop
  | v, .none => v = .non
  | v, .bool b => v = .bl b
  | v, .int i => v = .int i
  | v, .str x => v = .str x ∧ PyData.strOk x = true
  | v, .list l => ∃ a vs, v = .ref a ∧ ¬ M a ∧ H a = some (.lst vs) ∧ rJs M H vs l
  | v, .tuple l => ∃ a vs, v = .ref a ∧ ¬ M a ∧ H a = some (.tup vs) ∧ rJs M H vs l
  | _, .dict _ => False
def rJs (M : MS) (H : Hp) : List V → List PyData → Prop
  | [], [] => True
  | v :: vs, d :: ds => rJ M H v d ∧ rJs M H vs ds
  | _, _ => False
end
abbrev rX : Rl PyData := rJ
mutual
theorem rJ_st {M M' : MS} {H H' : Hp} (na : ∀ a, ¬ M a → H a ≠ none → ¬ M' a) (f : ∀ a o, ¬ M a → H a = some o → H' a = some o) : ∀ (d : PyData) (v : V), rJ M H v d → rJ M' H' v d
  | .none, v, h => by unfold rJ at h ⊢; exact h
  | .bool b, v, h => by unfold rJ at h ⊢; exact h
  | .int i, v, h => by unfold rJ at h ⊢; exact h
  | .str x, v, h => by unfold rJ at h ⊢; exact h
  | .list l, v, h => by
    unfold rJ at h ⊢
    obtain ⟨a, vs, h1, h2, h3, h4⟩ := h
    exact ⟨a, vs, h1, na a h2 (by rw [h3]; exact fun z => nomatch z), f a _ h2 h3, rJs_st na f l vs h4⟩
  | .tuple l, v, h => by
    unfold rJ at h ⊢
    obtain ⟨a, vs, h1, h2, h3, h4⟩ := h
    exact ⟨a, vs, h1, na a h2 (by rw [h3]; exact fun z => nomatch z), f a _ h2 h3, rJs_st na f l vs h4⟩
  | .dict _, v, h => by unfold rJ at h; exact h.elim
theorem rJs_st {M M' : MS} {H H' : Hp} (na : ∀ a, ¬ M a → H a ≠ none → ¬ M' a) (f : ∀ a o, ¬ M a → H a = some o → H' a = some o) : ∀ (ds : List PyData) (vs : List V), rJs M H vs ds → rJs M' H' vs ds
  | [], [], _ => by unfold rJs; trivial
  | d :: ds, v :: vs, h => by
    unfold rJs at h ⊢
    exact ⟨rJ_st na f d v h.1, rJs_st na f ds vs h.2⟩
  | [], _ :: _, h => by unfold rJs at h; exact h.elim
  | _ :: _, [], h => by unfold rJs at h; exact h.elim
end
instance : Rep rX := ⟨fun f h => rJ_st (fun _ n _ => n) f.keep _ _ h, fun s h => rJ_st (fun a n _ z => n (s a z)) (fun _ _ _ e => e) _ _ h,
  fun hD h => rJ_st (fun a n ne z => z.elim n (fun e => ne (by rw [e]; exact hD))) (fun _ _ _ e => e) _ _ h⟩
/-! ints as data -/
/-! ### things, rows of any data -/
end WD
/-! enumerate of a tuple -/
namespace WD
open PySem PySem.Spec PyProof.Rows L2
open AutoSeq1 (wpAny_loadPart')
section
variable {prog : Program} {w : World} {A : Around} {E : Value → Shared → Prop}
/-- a turn of an enumerate whose inner iterator gives x and then stands as P says -/
theorem enum_turn {s : Shared} {e it : Addr} {i : Nat} {x old : Value} {P : Heap → Prop} {Q : Value → Shared → Prop} (he : IsEnum s.heap e it i old) (hne : e ≠ it)
    (next : ∀ {Q' : Value → Shared → Prop}, (∀ h', P h' → Heap.SameBut it s.heap h' → Q' x { s with heap := h' }) → wpAny (model prog w) A (Builtin.SmallTypes.nextOf (.ref it)) Q' E s)
    (st : ∀ {h h'}, P h → Heap.ExtBut e h h' → P h')
    (hQ : ∀ h', IsEnumOut h' e it ((i : Int) + 1) x s.heap.objs.size → P h' → h'.get? s.heap.objs.size = some { cls := .type "tuple", data := .seq #[.int i s.toks, x] } →
      (∀ b o, b ≠ e → b ≠ it → s.heap.get? b = some o → h'.get? b = some o) → Q (.ref s.heap.objs.size) { s with heap := h', toks := s.toks + 1 }) :
    wpAny (model prog w) A (Builtin.«enumerate.__next__» ⟨[.ref e], []⟩) (fun fin s' => ∃ v, fin = .done (.ret v) ∧ Q v s') E s := by
  obtain ⟨hp, g, d, tk, os⟩ := s
  dsimp only at he next hQ
  have lt : e < hp.objs.size := Heap.lt_size he
  show wpAny _ _ (field (.ref e) 2 >>= _) _ _ ⟨hp, g, d, tk, os⟩
  refine wpAny_bind (wpAny_field he rfl (x := .ref it) rfl (wpAny_bind (next fun h1 p1 s1 => ?_)))
  have e1 : IsEnum h1 e it i old := (s1.2 e hne).trans he
  show wpAny _ _ (field (.ref e) 3 >>= _) _ _ _
  refine wpAny_bind (wpAny_field e1 rfl (x := rawInt i) rfl ?_)
  show wpAny _ _ (field (.ref e) 4 >>= _) _ _ _
  refine wpAny_bind (wpAny_field e1 rfl (x := .none) rfl ?_)
  show wpAny _ _ (mkInt i >>= _) _ _ _
  refine wpAny_bind (wpAny_mkInt ?_)
  show wpAny _ _ (setField (.ref e) 3 (rawInt ((i : Int) + 1)) >>= _) _ _ _
  refine wpAny_bind (wpAny_setField_rec e1 (by simp) fun h2 e2 s2 => ?_)
  have e2' : IsEnum h2 e it ((i : Int) + 1) old := e2
  show wpAny _ _ (setField (.ref e) 4 .none >>= _) _ _ _
  refine wpAny_bind (wpAny_setField_rec e2' (by simp) fun h3 e3 s3 => ?_)
  have e3' : IsEnum h3 e it ((i : Int) + 1) old := e3
  have p3 : P h3 := st (st p1 (Heap.SameBut.extBut s2)) (Heap.SameBut.extBut s3)
  have sz : h3.objs.size = hp.objs.size := s3.1.trans (s2.1.trans s1.1)
  have k3 : ∀ b o, b ≠ e → b ≠ it → hp.get? b = some o → h3.get? b = some o := fun b o n1 n2 q => (s3.2 b n1).trans ((s2.2 b n1).trans ((s1.2 b n2).trans q))
  show wpAny _ _ (newTuple [.int i tk, x] >>= _) _ _ _
  refine wpAny_bind (wpAny_newTuple ?_)
  have e4 : IsEnum (h3.push { cls := .type "tuple", data := .seq #[.int i tk, x] }) e it ((i : Int) + 1) old := Heap.get?_push_of_some _ e3'
  have t4 : (h3.push { cls := .type "tuple", data := .seq #[.int i tk, x] }).get? hp.objs.size = some { cls := .type "tuple", data := .seq #[.int i tk, x] } := sz ▸ Heap.get?_push_size _ rfl
  have p4 : P (h3.push { cls := .type "tuple", data := .seq #[.int i tk, x] }) := st p3 fun b o _ q => Heap.get?_push_of_some _ q
  have k4 : ∀ b o, b ≠ e → b ≠ it → hp.get? b = some o → (h3.push { cls := .type "tuple", data := .seq #[.int i tk, x] }).get? b = some o := fun b o n1 n2 q => Heap.get?_push_of_some _ (k3 b o n1 n2 q)
  generalize h3.push { cls := .type "tuple", data := .seq #[.int i tk, x] } = h4 at e4 t4 p4 k4
  show wpAny _ _ (Builtin.SmallTypes.ownedTupleIsFree (.ref e) >>= _) _ _ ⟨h4, g, d, tk + 1, os⟩
  rw [sz]
  refine wpAny_bind ?_
  unfold Builtin.SmallTypes.ownedTupleIsFree
  refine wpAny_bind (wpAny_field e4 rfl (x := .none) rfl (wpAny_pure ?_))
  simp only [if_true]
  refine wpAny_bind (wpAny_rule (wpAny_bind (wpAny_field e4 rfl (x := old) rfl (wpAny_bind (wpAny_setField_rec e4 (by simp) fun h5 e5 s5 => ?_)))))
  have e5' : IsEnum h5 e it ((i : Int) + 1) x := e5
  show wpAny _ _ (Builtin.SmallTypes.ownedTupleHandOut (.ref e) (.ref hp.objs.size) >>= _) _ _ _
  refine wpAny_bind ?_
  unfold Builtin.SmallTypes.ownedTupleHandOut
  refine wpAny_bind (wpAny_setField_rec e5' (by simp) fun h6 e6 s6 => ?_)
  have e6' : IsEnumOut h6 e it ((i : Int) + 1) x hp.objs.size := e6
  refine wpAny_setField_rec e6' (by simp) fun h7 e7 s7 => ?_
  refine wpAny_bind (wpAny_letGo (wpAny_pure ⟨_, rfl, hQ h7 e7 ?_ ?_ ?_⟩))
  · exact st (st (st p4 (Heap.SameBut.extBut s5)) (Heap.SameBut.extBut s6)) (Heap.SameBut.extBut s7)
  · exact (s7.2 _ (Nat.ne_of_gt lt)).trans ((s6.2 _ (Nat.ne_of_gt lt)).trans ((s5.2 _ (Nat.ne_of_gt lt)).trans t4))
  · exact fun b o n1 n2 q => (s7.2 b n1).trans ((s6.2 b n1).trans ((s5.2 b n1).trans (k4 b o n1 n2 q)))
theorem enumT_item {s : Shared} {e it l : Addr} {i : Nat} {items : Array Value} {x old : Value} {Q : Option Value → Shared → Prop} (he : IsEnum s.heap e it i old) (hit : s.heap.IsTupleIter it l i) (hl : s.heap.IsTuple l items) (hx : items[i]? = some x) (hne : e ≠ it)
    (hQ : ∀ h', IsEnumOut h' e it ((i : Int) + 1) x s.heap.objs.size → h'.IsTupleIter it l (i + 1) → h'.get? s.heap.objs.size = some { cls := .type "tuple", data := .seq #[.int i s.toks, x] } →
      (∀ b o, b ≠ e → b ≠ it → s.heap.get? b = some o → h'.get? b = some o) → Q (some (.ref s.heap.objs.size)) { s with heap := h', toks := s.toks + 1 }) : wpAny (model prog w) A (pyNext (.ref e)) Q E s := by
  have hT : s.TypeIs (.ref e) "enumerate" := ⟨_, he, rfl⟩
  unfold pyNext
  refine wpAny_bind (wpAny_attempt (wpAny_callSpecial?_slot (name := Str.ofString "__next__") hT F.slot_enumerate_next (wpAny_call_entry F.slot_enumerate_next hT F.entry_enumerate_next (enum_turn (x := x) (P := fun h => h.IsTupleIter it l (i + 1)) he hne ?_ ?_ ?_) (F.args_enumerate_next_1 _))))
  · exact fun q => RZ.nextOf_tuple_item hit hl hx q
  · exact fun {h h'} p k => p.extBut k (Ne.symm hne)
  · exact fun h' a b c k => wpAny_pure (hQ h' a b c k)
theorem enumT_end {s : Shared} {e it l : Addr} {i : Nat} {items : Array Value} {old : Value} {Q : Option Value → Shared → Prop} (hh : A.handled = none) (he : IsEnum s.heap e it i old) (hit : s.heap.IsTupleIter it l i) (hl : s.heap.IsTuple l items) (hx : items[i]? = none)
    (hQ : ∀ h', Heap.ExtBut it s.heap h' → Q none { s with heap := h' }) : wpAny (model prog w) A (pyNext (.ref e)) Q E s := by
  have hT : s.TypeIs (.ref e) "enumerate" := ⟨_, he, rfl⟩
  unfold pyNext
  refine wpAny_bind (wpAny_attempt (wpAny_callSpecial?_slot (name := Str.ofString "__next__") hT F.slot_enumerate_next (wpAny_call_entry F.slot_enumerate_next hT F.entry_enumerate_next ?_ (F.args_enumerate_next_1 _))))
  show wpAny _ _ (field (.ref e) 2 >>= _) _ _ _
  refine wpAny_bind (wpAny_field he rfl (x := .ref it) rfl (wpAny_bind (RZ.nextOf_tuple_end hh hit hl hx fun h' x he' hx' => ?_)))
  obtain ⟨o, ho, hc⟩ := hx'
  exact wpAny_bind (wpAny_isInstance (T := "StopIteration") (b := true) ⟨o, ho, hc⟩ isSubtype_stop (wpAny_pure (hQ _ he')))
theorem enumT_new (l : Addr) (items : Array Value) (n : Nat) (dct : Option Addr) (sl : Array (Option Value)) :
    Meets (Builtin.«enumerate.__new__» ⟨[.type "enumerate", .ref l], []⟩) (fun _ R s => s.heap.get? l = some { cls := .type "tuple", dict := dct, data := .seq items n, slots := sl } ∧
      R (.ok (.ret (.ref (s.heap.push { cls := .type "tuple_iterator", data := .fields #[.ref l, .int 0 0] }).objs.size)))
        { s with heap := (s.heap.push { cls := .type "tuple_iterator", data := .fields #[.ref l, .int 0 0] }).push { cls := .type "enumerate", data := .fields #[.none, .bool false, .ref s.heap.objs.size, rawInt 0, .none, .none] } }) :=
  .of_wp fun prog w A R s h => by
    obtain ⟨hp, g, d, tk, os⟩ := s
    obtain ⟨hl, h⟩ := h
    have hsub := sub_enumerate
    have hL : Heap.IsTuple (Shared.heap ⟨hp, g, d, tk, os⟩) l items := ⟨_, hl, rfl, n, rfl⟩
    wp_walk using wpAny_loadPart' hl
    refine wpAny_stack_any fun st => wpAny_pure ?_
    split
    · rename_i c _ _ _ _ _
      cases (c == Value.type "enumerate") <;> (wp_walk using wpAny_loadPart' hl, wpAny_pyIter_tuple hL; exact ⟨_, rfl, h⟩)
    · wp_walk using wpAny_loadPart' hl, wpAny_pyIter_tuple hL
      exact ⟨_, rfl, h⟩
theorem call_enumT {s : Shared} {l : Addr} {items : Array Value} {Q : Value → Shared → Prop} (hL : s.heap.IsTuple l items)
    (h : ∀ h', IsEnum h' (s.heap.objs.size + 1) s.heap.objs.size 0 .none → h'.IsTupleIter s.heap.objs.size l 0 → (∀ b o, s.heap.get? b = some o → h'.get? b = some o) → Q (.ref (s.heap.objs.size + 1)) { s with heap := h' }) :
    wpAny (model prog w) A (call (.type "enumerate") [.ref l]) Q E s := by
  obtain ⟨⟨c, dct, dt, sl⟩, hl, hc, n, hd⟩ := hL
  simp only at hc hd
  subst hc hd
  refine callType_new F.called_enumerate (by decide) (F.typeCall_enumerate_1 _) (F.newCall_enumerate_1 _) (fun obj => F.args_object_init_2 obj _) F.entry_enumerate_new (enumT_new l items n dct sl) ⟨hl, ?_⟩
  have hz : (s.heap.push { cls := .type "tuple_iterator", data := .fields #[.ref l, .int 0 0] }).objs.size = s.heap.objs.size + 1 := Heap.size_push ..
  show _ ∧ _
  rw [hz]
  have he : IsEnum ((s.heap.push { cls := .type "tuple_iterator", data := .fields #[.ref l, .int 0 0] }).push { cls := .type "enumerate", data := .fields #[.none, .bool false, .ref s.heap.objs.size, rawInt 0, .none, .none] }) (s.heap.objs.size + 1) s.heap.objs.size 0 .none := by
    have q := Heap.get?_push_size (s.heap.push { cls := .type "tuple_iterator", data := .fields #[.ref l, .int 0 0] }) (o := { cls := .type "enumerate", data := .fields #[.none, .bool false, .ref s.heap.objs.size, rawInt 0, .none, .none] }) rfl
    rw [hz] at q
    exact q
  exact ⟨⟨_, he, rfl⟩, h _ he ⟨_, Heap.get?_push_of_some _ (Heap.get?_push_size _ rfl), rfl, rfl⟩ fun b o x => Heap.get?_push_of_some _ (Heap.get?_push_of_some _ x)⟩
end
/-- the tuple at a, each item in a new pair -/
def ItEnT (K : PySem.W.Frag) (a : Addr) : It :=
  ⟨fun i H => ∃ (xs : List V) (x : V), SqT K H a xs ∧ xs[i]? = some x, fun i H v H' => ∃ T x, v = .ref T ∧ H T = none ∧ H' = upd H T (.tup [.int (i : Nat), x]) ∧ ∀ xs, SqT K H a xs → xs[i]? = some x, fun i H => ∃ xs : List V, SqT K H a xs ∧ xs.length ≤ i⟩
theorem turn_enT {P : Program} {w : World} {K : PySem.W.Frag} {elts : List Expr} {kk : Nat} {tpos : Pos} (a e it : Addr) : Turn P w K (.Tuple elts kk tpos) (ItEnT K a) [e, it] e (fun i h => (∃ old, IsEnum h e it ((i : Nat) : Int) old) ∧ h.IsTupleIter it a i ∧ e ≠ it) where
  mem := List.mem_cons_self
  obj := fun i h st b hb => by
    obtain ⟨⟨old, he⟩, ⟨o, ho, hc, hd⟩, _⟩ := st
    rcases List.mem_cons.mp hb with z | z
    · subst z; exact ⟨_, he, nofun⟩
    · exact ⟨o, (List.mem_singleton.mp z) ▸ ho, fun v q => by rw [hd] at q; cases q⟩
  keep := fun i h h' st k => ⟨st.1.imp fun old he => k e List.mem_cons_self _ he, st.2.1.at fun o q => k it (List.mem_cons_of_mem _ List.mem_cons_self) o q, st.2.2⟩
  item := by
    intro X hP hw hK hc i pins s σ H E I hf st hg
    subst hP hw hK
    obtain ⟨⟨old, he⟩, hit, hne⟩ := st
    obtain ⟨xs, x, hq, hx⟩ := hg
    obtain ⟨its, rv, p, hz⟩ := I.tuple hq
    obtain ⟨u, hu, ru⟩ := rv.get hx
    have le : e < s.heap.objs.size := Heap.lt_size he
    have li : it < s.heap.objs.size := let ⟨_, q, _⟩ := hit; Heap.lt_size q
    refine enumT_item he hit (show s.heap.IsTuple a its.toArray from p) (x := u) (by simpa using hu) hne fun h' ho hit' hT hk => ⟨_, rfl, wpAny_letOwnedTupleGo_enum (s := { s with heap := h', toks := s.toks + 1 }) ho fun h'' he' sb => ?_⟩
    have new : ObjOk X.prog X.w (upd H s.heap.objs.size (.tup [.int (i : Nat), x])) h'' s.heap.objs.size (.tup [.int (i : Nat), x]) := ⟨by show 2 ≤ sizeLine; decide, [.int i s.toks, u], .cons ⟨_, rfl⟩ (.cons ru .nil), ⟨_, (sb.2 _ (Nat.ne_of_gt le)).trans hT, rfl, _, rfl⟩⟩
    have no : ∀ {b : Addr}, b ∉ [e, it] → b ≠ e ∧ b ≠ it := fun {b} hb => ⟨fun z => hb (z ▸ List.mem_cons_self), fun z => hb (z ▸ List.mem_cons_of_mem _ List.mem_cons_self)⟩
    have I1 : Inv X pins σ (upd H s.heap.objs.size (.tup [.int (i : Nat), x])) { s with heap := h'', toks := s.toks + 1 } :=
      I.turnedNew (ch := [e, it]) (fun b ob hb q => (sb.2 b (no hb).1).trans (hk b ob (no hb).1 (no hb).2 q)) hf (Nat.le_refl _) new
    refine ⟨.ref s.heap.objs.size, _, I1, rfl, ⟨_, x, rfl, I.hok.fresh (Nat.le_refl _), rfl, fun ys hy => by rw [I.tuple_inj hy hq]; exact hx⟩, ⟨⟨u, ?_⟩, hit'.at fun o q => (sb.2 it (Ne.symm hne)).trans q, hne⟩, fun b hb => ?_⟩
    · rw [Int.natCast_add]; exact he'
    · have hb' : b < s.heap.objs.size := (List.mem_cons.mp hb).elim (fun z => z ▸ le) fun z => (List.mem_singleton.mp z) ▸ li
      rw [upd_ne (Nat.ne_of_lt hb')]
      exact (hf b hb).1
  done := by
    intro X hP hw hK hc i pins s σ H E I hf st hg
    subst hP hw hK
    obtain ⟨⟨old, he⟩, hit, hne⟩ := st
    obtain ⟨xs, hq, hx⟩ := hg
    obtain ⟨its, rv, p, hz⟩ := I.tuple hq
    obtain ⟨f0, f1, f2, f3, f4, f5⟩ := hf it (List.mem_cons_of_mem _ List.mem_cons_self)
    have hl := rv.length
    exact enumT_end (I.ok.hd hc) he hit (show s.heap.IsTuple a its.toArray from p) (by simp; omega) fun h' eb => ⟨rfl, I.turned (t' := s.toks) (fun b o hb q => eb b o hb q) f0 f1 f3 f4 f5⟩
  self := fun A i s Q E st h => let ⟨⟨_, he⟩, _⟩ := st; wpAny_pyIter_enum he h
def iEnT (K : PySem.W.Frag) (ta : TA) : TI := fun σ H R => ta σ H fun vs H1 => ∃ a xs, vs = [.ref a] ∧ SqT K H1 a xs ∧ R (ItEnT K a) H1
theorem pi_enumT {X : Cx} (K : PySem.W.Frag) {e : Expr} {ta : TA} {p pos tpos : Pos} {elts : List Expr} {kk : Nat} (hg : Gl X "enumerate") (hm : X.mg "enumerate" = none) (ha : PA X [e] ta) (hs : starEach [e] X.env = [(false, eval e X.env)] := by rfl) (hK : X.K = K := by rfl) :
    PI X (.Tuple elts kk tpos) (.Call (.Name "enumerate" p) [e] [] pos) (iEnT K ta) := by
  subst hK
  refine ⟨fun pins s σ H R I h => Call_ (ld_blt I hg hm boot_enumerate (PyProof.Rows.callWith_type1 (thn (ha.run pos pins s σ H _ I h) fun us s1 hh => ?_) hs rfl))⟩
  obtain ⟨vs, H1, I1, r1, a, xs, ex, hq, q⟩ := hh
  subst ex
  rw [Vals.ref1 r1]
  obtain ⟨its, rv, p', hz⟩ := I1.tuple hq
  refine call_enumT (show s1.heap.IsTuple a its.toArray from p') fun h' he hit hk => wpAny_pyIter_enum he ?_
  refine ⟨s1.heap.objs.size + 1, [s1.heap.objs.size + 1, s1.heap.objs.size], _, _, H1, rfl, I1.kept (t' := s1.toks) hk, turn_enT a (s1.heap.objs.size + 1) s1.heap.objs.size, ⟨⟨.none, he⟩, hit, Nat.succ_ne_self _⟩, fun b hb => ?_, q⟩
  have hle : s1.heap.objs.size ≤ b := (List.mem_cons.mp hb).elim (fun z => z ▸ Nat.le_succ _) fun z => (List.mem_singleton.mp z) ▸ Nat.le_refl _
  exact I1.fpOk hle (I1.hok.fresh hle)
end WD
/-! isinstance(e, (C, ..)) in an except suite -/
namespace WD
open PySem PySem.Spec PyProof.Rows L2
/-! ### t[::-1] of a tuple -/
section
variable {prog : Program} {w : World} {A : Around} {E : Value → Shared → Prop} {s : Shared}
end
end WD
/-! WDZip3: zip of three tuples, the items kept by a name -/
namespace WD
open PySem PySem.Spec PyProof.Rows L2
open PySem.Sem (wp)
section
variable {prog : Program} {w : World} {A : Around} {E : Value → Shared → Prop} {s : Shared} {z TI TO i1 i2 i3 l1 l2 l3 : Addr} {i : Nat} {xs ys us : Array Value}
end
end WD
/-! WDRep: a tuple once, or not at all -/
namespace WD
open PySem PySem.Spec PyProof.Rows L2
theorem tuple_mul1 (l : Addr) (items : Array Value) (n : Nat) (dd : Option Addr) (sl : Array (Option Value)) (u : Tok) :
    Meets (Builtin.«tuple.__mul__» ⟨[.ref l, .int 1 u], []⟩) (fun _ R s => s.heap.get? l = some { cls := .type "tuple", dict := dd, data := .seq items n, slots := sl } ∧ R (.ok (.ret (Value.ref l))) s) :=
  .of_wp fun prog w A R s h => by
    obtain ⟨hp, g, d, tk, os⟩ := s
    obtain ⟨hl, h⟩ := h
    have f1 := AutoSeq1.idx_int
    wp_walk using wpAny_loadPart' hl
    exact ⟨_, rfl, h⟩
theorem tuple_mul0 (l : Addr) (items : Array Value) (n : Nat) (dd : Option Addr) (sl : Array (Option Value)) (u : Tok) (hi : items.isEmpty = false) :
    Meets (Builtin.«tuple.__mul__» ⟨[.ref l, .int 0 u], []⟩) (fun _ R s => s.heap.get? l = some { cls := .type "tuple", dict := dd, data := .seq items n, slots := sl } ∧
      R (.ok (.ret (Value.ref s.heap.objs.size))) { s with heap := s.heap.push { cls := Value.type "tuple", data := Data.seq #[] }, toks := s.toks }) :=
  .of_wp fun prog w A R s h => by
    obtain ⟨hp, g, d, tk, os⟩ := s
    obtain ⟨hl, h⟩ := h
    have f1 := AutoSeq1.idx_int
    wp_walk using wpAny_loadPart' hl
    exact ⟨_, rfl, h⟩
def rRep1 (K : PySem.W.Frag) : R2 := fun x y H Q => ∃ l xs, x = .ref l ∧ y = .int 1 ∧ SqT K H l xs ∧ Q (.ref l) H
def rRep0 (K : PySem.W.Frag) : R2 := fun x y H Q => ∃ l xs, x = .ref l ∧ y = .int 0 ∧ SqT K H l xs ∧ xs ≠ [] ∧ ∀ p, H p = none → Q (.ref p) (upd H p (.tup []))
section
variable {X : Cx}
theorem op_rep1 : OpR X (binaryOp .Mult) (rRep1 X.K) := by
  intro pins s σ H x y v u Q I rx ry h
  obtain ⟨l, xs, rfl, rfl, hT, q⟩ := h
  cases rx
  obtain ⟨t, rfl⟩ := ry
  obtain ⟨its, r, ⟨⟨cls, dd, data, sl⟩, ho, hc, n, hd⟩, hs⟩ := I.tuple hT
  simp only at hc hd
  subst hc hd
  refine wpAny_binaryOp_repeat_ref (T := "tuple") (U := "int") (by decide) ⟨_, ho, rfl⟩ (fun s' => typeIs_int s' 1 t) noFill_tuple_mul F.fills_int_mul F.slot_int_rmul repeat_tuple F.slot_int_index.lookup
    (call_meets F.slot_int_rmul (typeIs_int s 1 t) F.entry_int_rmul (F.args_int_rmul_2 _ _) (int_rmul_tuple 1 t l its.toArray n dd sl)
      ⟨ho, rfl, ⟨_, ho, rfl⟩, call_meets F.slot_tuple_mul ⟨_, ho, rfl⟩ F.entry_tuple_mul (F.args_tuple_mul_2 _ _) (tuple_mul1 l its.toArray n dd sl t) ⟨ho, ?_⟩⟩)
  exact ⟨.ref l, H, I, rfl, q⟩
theorem op_rep0 : OpR X (binaryOp .Mult) (rRep0 X.K) := by
  intro pins s σ H x y v u Q I rx ry h
  obtain ⟨l, xs, rfl, rfl, hT, hne, q⟩ := h
  cases rx
  obtain ⟨t, rfl⟩ := ry
  obtain ⟨its, r, ⟨⟨cls, dd, data, sl⟩, ho, hc, n, hd⟩, hs⟩ := I.tuple hT
  simp only at hc hd
  subst hc hd
  have hle : its.length = xs.length := r.length.symm
  have hi : its.toArray.isEmpty = false := by
    cases its with
    | nil => exact absurd (List.eq_nil_of_length_eq_zero (by simpa using hle.symm)) hne
    | cons a b => rfl
  refine wpAny_binaryOp_repeat_ref (T := "tuple") (U := "int") (by decide) ⟨_, ho, rfl⟩ (fun s' => typeIs_int s' 0 t) noFill_tuple_mul F.fills_int_mul F.slot_int_rmul repeat_tuple F.slot_int_index.lookup
    (call_meets F.slot_int_rmul (typeIs_int s 0 t) F.entry_int_rmul (F.args_int_rmul_2 _ _) (int_rmul_tuple 0 t l its.toArray n dd sl)
      ⟨ho, rfl, ⟨_, ho, rfl⟩, call_meets F.slot_tuple_mul ⟨_, ho, rfl⟩ F.entry_tuple_mul (F.args_tuple_mul_2 _ _) (tuple_mul0 l its.toArray n dd sl t hi) ⟨ho, ?_⟩⟩)
  refine ⟨.ref s.heap.objs.size, _, I.laid (t' := s.toks) (o := .tup []) (fun b ob q => Heap.get?_push_of_some _ q) (Nat.le_refl _) ?_, rfl, q _ (I.hok.fresh (Nat.le_refl _))⟩
  exact ⟨Nat.zero_le _, [], .nil, IsTup.new _ _⟩
end
end WD
/-! WDSet: set(xs), xs a list or a tuple of ints -/
namespace WD
open PySem PySem.Spec PyProof.Rows L2
abbrev soNew (w : World) : Obj := { cls := .type "set", dict := none, data := .set #[] 0 (.fresh 0 0 (!w.params.followText "set-order")) }
section
variable {P : Program} {w : World} {A : Around} {E : Value → Shared → Prop} {s : Shared}
theorem set_of_list {x : Addr} {arr : Array Value} (zs : List Int) {Q : Value → Shared → Prop} (calm : A.handled = none) (isl : s.heap.IsList x arr) (iar : IntsAre arr.toList zs) (bd : zs.length + 1 < scanBound)
    (k : ∀ (h' : Heap) (tk c : Nat), SetR w h' s.heap.objs.size (fun j => decide (j ∈ zs)) c → c ≤ zs.length → (∀ b o, s.heap.get? b = some o → h'.get? b = some o) → Q (.ref s.heap.objs.size) { s with heap := h', toks := tk }) :
    wpAny (model P w) A (call (.type "set") [.ref x]) Q E s := by
  have sz : arr.size = zs.length := by
    have q := IntsAre.length iar
    rwa [Array.length_toList] at q
  obtain ⟨m0, m1, m2⟩ := F.called_set.mro
  have g1 := F.called_set.made; have g2 := F.called_set.sub
  refine wpAny_call (codeAny_of_tree (show wpAny _ _ (callAny (.type "set") _) _ _ _ from ?_))
  refine wpAny_pure (And.intro (Code.quiet_builtin _ (by decide +kernel)) (codeAny_builtin F.entry_type_call ?_))
  rw [Around.under_plain (weight_type_call_type "set" [.ref x] []) rfl]
  have g3 := F.called_set.notType; have g4 := F.called_set.canCreate; have g5 := F.typeCall_set_1 (.ref x)
  repeat any_goals (first | assumption | wp_step)
  refine codeAny_mono (code_set_led1 (.ref x) (E := E) (Q₁ := fun obj s₁ => obj = .ref s.heap.objs.size ∧ s₁ = { s with heap := s.heap.push (soNew w) }) ⟨rfl, rfl⟩) fun r s₁ hr => ?_
  cases r with
  | error e => exact hr
  | ok fl =>
    cases fl with
    | ret obj =>
      obtain ⟨rfl, rfl⟩ := hr
      have at0 : (s.heap.push (soNew w)).get? s.heap.objs.size = some (soNew w) := Heap.get?_push_size _ rfl
      have ty0 : Shared.TypeIs { s with heap := s.heap.push (soNew w) } (.ref s.heap.objs.size) "set" := ⟨_, at0, rfl⟩
      have g6 := F.called_set.init.lookup; have g7 := F.called_set.init.bind (.ref s.heap.objs.size)
      repeat any_goals (first | assumption | wp_step)
      refine codeAny_mono (codeAny_call_builtin (R := wants (fun r s₂ => r = .none ∧ ∃ h' tk c, s₂ = { s with heap := h', toks := tk } ∧ SetR w h' s.heap.objs.size (fun j => decide (j ∈ zs)) c ∧ c ≤ zs.length ∧ ∀ b o, s.heap.get? b = some o → h'.get? b = some o) E) F.called_set.init.plain F.entry_set_init (check_set_init_1 ty0 ?_)) fun r₂ s₂ hr₂ => ?_
      · obtain ⟨ob, hob, hcl, nl, hdl⟩ := isl
        obtain ⟨o1, o2, o3, o4⟩ := ob
        simp only at hcl hdl
        subst hcl; subst hdl
        have hob' : (s.heap.push (soNew w)).get? x = some { cls := .type "list", dict := o2, data := .seq arr nl, slots := o4 } := Heap.get?_push_of_some _ hob
        have g8 := F.sub_list_set; have g9 := F.sub_list_frozenset
        have ne0 : (Value.type "list" == Value.type "dict") = false := by decide
        have isl1 : (s.heap.push (soNew w)).IsList x arr := ⟨_, hob', rfl, nl, rfl⟩
        unfold Builtin.«set.__init__» noKeywords Builtin.Frozenset.updateFrom
        generalize hIt : pyIter = It0
        wp_walk
        subst hIt
        refine wpAny_pyIter_list isl1 (wpAny_bind (wpAny_runValue ?_))
        have lt0 : x < s.heap.objs.size := Heap.lt_size hob
        have calm3 : A.in1.in1.in1.handled = none := by simp [calm]
        have neI : x ≠ (s.heap.push (soNew w)).objs.size := by rw [Heap.size_push]; exact Nat.ne_of_lt (Nat.lt_succ_of_lt lt0)
        have outS : s.heap.objs.size ∉ [(s.heap.push (soNew w)).objs.size, x] := fun z => by
          rw [Heap.size_push] at z
          simp only [List.mem_cons, List.not_mem_nil, or_false] at z
          rcases z with z | z
          · exact absurd z (Nat.ne_of_lt (Nat.lt_succ_self _))
          · exact absurd z.symm (Nat.ne_of_lt lt0)
        have vals : ∀ (i : Nat) (v : Value), arr[i]? = some v → ∃ k t, zs[i]? = some k ∧ v = .int k t := fun i v hv => by
          have hi : i < zs.length := by rw [← sz]; exact (Array.getElem?_eq_some_iff.mp hv).1
          obtain ⟨t, e⟩ := PyProof.Rows.IntsAre.int_at iar i v ((Array.getElem?_toList ..).trans hv)
          exact ⟨zs[i], t, List.getElem?_eq_getElem hi, by rw [e, List.getD_eq_getElem?_getD, List.getElem?_eq_getElem hi]; rfl⟩
        refine set_update_ints ((Walks.list calm3 _ x neI arr).toS) s.heap.objs.size outS zs sz bd vals (arr.size - 0) 0 _ (by omega) (Nat.zero_le _) ⟨⟨_, Heap.get?_push_size _ rfl, rfl, rfl⟩, isl1.push _⟩ ?first ?last
        case first => exact ⟨0, Nat.le_refl 0, setR_new_at (Heap.get?_push_of_some _ at0)⟩
        case last =>
          intro s' c' mv hc' hS'
          obtain ⟨h', z1, z2, tk', z3⟩ := s'
          obtain rfl : z1 = s.gens := mv.gens
          obtain rfl : z2 = s.drawn := mv.drawn
          obtain rfl : z3 = s.os := mv.os
          refine wpAny_pure (show wpAny _ _ (ret Value.none) _ _ _ from wpAny_pure ⟨rfl, h', tk', c', rfl, hS', sz ▸ hc', fun b o e => ?_⟩)
          have lb : b < s.heap.objs.size := Heap.lt_size e
          exact mv.heap b o (fun z => by rw [Heap.size_push] at z; simp only [List.mem_cons, List.not_mem_nil, or_false] at z; rcases z with z | z; exact Nat.ne_of_lt lb z; exact Nat.ne_of_lt (Nat.lt_succ_of_lt lb) z) (Heap.get?_push_of_some _ (Heap.get?_push_of_some _ e))
      · cases r₂ with
        | error e => exact hr₂
        | ok fl₂ =>
          cases fl₂ with
          | ret r =>
            obtain ⟨rfl, h', tk, c', rfl, hS', hc', hk'⟩ := hr₂
            repeat any_goals (first | assumption | wp_step)
            exact k h' tk c' hS' hc' hk'
          | _ => exact hr₂.elim
    | _ => exact hr.elim
end
section
variable {X : Cx}
end
end WD
/-! WDSet2: set(xs) of ints, with the count of unlike ones told -/
namespace WD
open PySem PySem.Spec PyProof.Rows L2
theorem len_le_of {D E : List Int} : D.Nodup → (∀ k ∈ D, k ∈ E) → D.length ≤ E.length := by
  induction D generalizing E with
  | nil => intro _ _; exact Nat.zero_le _
  | cons x D ih =>
    intro nd h
    have hx := h x List.mem_cons_self
    have nd' := List.nodup_cons.mp nd
    have := ih (E := E.erase x) nd'.2 fun y hy => (List.mem_erase_of_ne (fun e : y = x => nd'.1 (e ▸ hy))).mpr (h y (List.mem_cons_of_mem _ hy))
    rw [List.length_erase_of_mem hx] at this
    have hp : 0 < E.length := List.length_pos_of_mem hx
    rw [List.length_cons]
    omega
theorem setR_count {w : World} {h : Heap} {a : Addr} {ns D : List Int} {c : Nat} (R : SetR w h a (fun j => decide (j ∈ ns)) c) (nd : D.Nodup) (hd : ∀ k, k ∈ D ↔ k ∈ ns) : c = D.length := by
  obtain ⟨o, es, ep, t, _, _, _, _, n1, m1, _, _, sz, _⟩ := R
  have e1 : es.toList.length = c := by rw [Array.length_toList]; exact sz
  have e2 : (es.toList.map L2.keyOf).length = c := by rw [List.length_map]; exact e1
  have h1 : ∀ k, k ∈ es.toList.map L2.keyOf ↔ k ∈ D := fun k => by
    rw [← m1 k, hd k, decide_eq_true_eq]
  have l1 := len_le_of n1 fun k hk => (h1 k).mp hk
  have l2 := len_le_of nd fun k hk => (h1 k).mpr hk
  omega
section
variable {X : Cx}
def rSetI2 (K : PySem.W.Frag) (w : World) : List V → Hp → VK → Prop := fun xs H Q => ∃ (l : Addr) (ns : List Int), xs = [V.ref l] ∧ (SqL K H l (ns.map V.int) ∨ SqT K H l (ns.map V.int)) ∧ ns.length ≤ 4000 ∧
  ∀ a c, H a = none → (∀ D : List Int, D.Nodup → (∀ k, k ∈ D ↔ k ∈ ns) → c = D.length) → Q (.ref a) (upd H a (SetO w a (fun j => decide (j ∈ ns)) c))
theorem cr_setI2 (hc : X.calm = true) : CallR X (.type "set") (rSetI2 X.K X.w) := by
  intro pins s σ H xs us Q I r h
  obtain ⟨l, ns, rfl, hl, hf, q⟩ := h
  rw [Vals.ref1 r]
  have hn : H s.heap.objs.size = none := I.hok.fresh (Nat.le_refl _)
  have sb : ns.length + 1 < scanBound := by unfold scanBound; omega
  have fin : ∀ (h' : Heap) (tk c : Nat), SetR X.w h' s.heap.objs.size (fun j => decide (j ∈ ns)) c → c ≤ ns.length → (∀ b o, s.heap.get? b = some o → h'.get? b = some o) → EP X pins σ Q (.ref s.heap.objs.size) { s with heap := h', toks := tk } := fun h' tk c R _ k =>
    ⟨.ref s.heap.objs.size, upd H s.heap.objs.size (SetO X.w s.heap.objs.size (fun j => decide (j ∈ ns)) c), I.laid (t' := tk) k (Nat.le_refl _) (setO_new R), rfl, q _ c hn fun D nd hd => setR_count R nd hd⟩
  rcases hl with hl | hl
  · obtain ⟨its, rv, pl, hz⟩ := I.list hl
    exact set_of_list (P := X.prog) (w := X.w) ns (I.ok.hd hc) pl.isList (by simpa using rv.ints) sb fin
  · obtain ⟨its, rv, pt, hz⟩ := I.tuple hl
    exact call_set_tupI (P := X.prog) (w := X.w) ns (I.ok.hd hc) pt (by simpa using rv.ints) sb fin
end
end WD
/-! WDST1: the round x -> 5 x + 1 by any power of two; tables of any mask -/
namespace WD
open PySem PySem.Spec PyProof.Rows L2
/-- n steps of the round, without a modulus -/
def rnd : Nat → Nat → Nat
  | 0, x => x
  | n + 1, x => rnd n (5 * x + 1)
theorem rnd_add : ∀ (a b x : Nat), rnd (a + b) x = rnd b (rnd a x)
  | 0, b, x => by rw [Nat.zero_add]; rfl
  | a + 1, b, x => by
    rw [show a + 1 + b = (a + b) + 1 by omega]
    exact rnd_add a b (5 * x + 1)
/-- 2^e steps are x -> (1 + 4·2^e·u) x + 2^e + 2·2^e·v -/
theorem rnd_pow : ∀ e : Nat, ∃ u v : Nat, ∀ x, rnd (2 ^ e) x = (1 + 4 * 2 ^ e * u) * x + (2 ^ e + 2 * 2 ^ e * v)
  | 0 => ⟨1, 0, fun x => by show 5 * x + 1 = _; simp⟩
  | e + 1 => by
    obtain ⟨u, v, h⟩ := rnd_pow e
    refine ⟨u + 2 * 2 ^ e * (u * u), 2 ^ e * u + v + 2 * 2 ^ e * (u * v), fun x => ?_⟩
    rw [show 2 ^ (e + 1) = 2 ^ e + 2 ^ e by omega, rnd_add, h, h]
    generalize 2 ^ e = p
    grind
theorem mod_two {y j p : Nat} (hp : 0 < p) (h : y % p = j % p) : y % (p * 2) = j % (p * 2) ∨ (y + p) % (p * 2) = j % (p * 2) := by
  have a := Nat.mod_mul (x := y) (a := p) (b := 2)
  have b := Nat.mod_mul (x := j) (a := p) (b := 2)
  have c := Nat.mod_mul (x := y + p) (a := p) (b := 2)
  rw [Nat.add_mod_right, Nat.add_div_right _ hp] at c
  rw [a, b, c, h]
  have d1 : y / p % 2 = 0 ∨ y / p % 2 = 1 := by omega
  have d2 : j / p % 2 = 0 ∨ j / p % 2 = 1 := by omega
  rcases d1 with d1 | d1 <;> rcases d2 with d2 | d2
  · left; rw [d1, d2]
  · right; rw [show (y / p + 1) % 2 = 1 by omega, d2]
  · right; rw [show (y / p + 1) % 2 = 0 by omega, d2]
  · left; rw [d1, d2]
/-- each number is met -/
theorem rnd_all : ∀ (e x j : Nat), ∃ k, k < 2 ^ e ∧ rnd k x % 2 ^ e = j % 2 ^ e
  | 0, x, j => ⟨0, by simp, by simp [Nat.mod_one]⟩
  | e + 1, x, j => by
    obtain ⟨k, h1, h2⟩ := rnd_all e x j
    have hp : 0 < 2 ^ e := Nat.pow_pos (by decide)
    rw [Nat.pow_succ]
    rcases mod_two hp h2 with h | h
    · exact ⟨k, by omega, h⟩
    · obtain ⟨u, v, hr⟩ := rnd_pow e
      refine ⟨k + 2 ^ e, by omega, ?_⟩
      rw [rnd_add, hr, ← h]
      generalize rnd k x = y
      generalize 2 ^ e = p
      have e1 : (1 + 4 * p * u) * y + (p + 2 * p * v) = (y + p) + p * 2 * (2 * u * y + v) := by grind
      rw [e1, Nat.add_mul_mod_self_left]
/-- the masks that come -/
def MG (m : Nat) : Prop := m = 7 ∨ m = 31 ∨ m = 127 ∨ m = 511 ∨ m = 2047 ∨ m = 8191
theorem MG.pow {m : Nat} (h : MG m) : ∃ e, m + 1 = 2 ^ e := by
  rcases h with rfl | rfl | rfl | rfl | rfl | rfl
  · exact ⟨3, rfl⟩
  · exact ⟨5, rfl⟩
  · exact ⟨7, rfl⟩
  · exact ⟨9, rfl⟩
  · exact ⟨11, rfl⟩
  · exact ⟨13, rfl⟩
theorem MG.le {m : Nat} (h : MG m) : m ≤ 8191 := by
  unfold MG at h; omega
theorem MG.odd {m : Nat} (h : MG m) : m % 2 = 1 := by
  unfold MG at h; omega
theorem lcgI_rnd (m i : Nat) (hi : i ≤ m) : ∀ k, lcgI m i k = rnd k i % (m + 1) := by
  have back : ∀ k x, rnd (k + 1) x = 5 * rnd k x + 1 := fun k x => by rw [rnd_add]; rfl
  intro k
  induction k with
  | zero => exact (Nat.mod_eq_of_lt (Nat.lt_succ_of_le hi)).symm
  | succ k ih =>
    show (lcgI m i k * 5 + 1) % (m + 1) = _
    rw [ih, back]
    rw [Nat.add_mod, Nat.mul_mod, Nat.mod_mod, ← Nat.mul_mod, ← Nat.add_mod, Nat.mul_comm]
theorem gI_all {m : Nat} (hm : MG m) {i j : Nat} (hi : i ≤ m) (hj : j ≤ m) : ∃ k, k ≤ m ∧ lcgI m i k = j := by
  obtain ⟨e, he⟩ := hm.pow
  obtain ⟨k, h1, h2⟩ := rnd_all e i j
  refine ⟨k, by omega, ?_⟩
  rw [lcgI_rnd m i hi, he, h2]
  exact Nat.mod_eq_of_lt (by omega)

/-! the way of a search, any mask -/
theorem gway_meets {m : Nat} (hm : MG m) (h : Int) {j : Nat} (hj : j ≤ m) : ∃ n, n ≤ m + 12 ∧ runI m (SetTable.bits h) n = j := by
  obtain ⟨k, a, b⟩ := gI_all hm (runI_le m (SetTable.bits h) 12) hj
  exact ⟨12 + k, by omega, (runI_tail (bits_lt h) k).trans b⟩
theorem gway_hits {m : Nat} (hm : MG m) (h : Int) {j : Nat} (hj : j ≤ m) : ∃ k, k < 10 * SetTable.turns m ∧ way m h k = j := by
  obtain ⟨n, a, b⟩ := gway_meets hm h hj
  obtain ⟨k, c, d⟩ := run_nth m (SetTable.bits h) n
  have q : k < 10 * SetTable.turns m := by unfold SetTable.turns; omega
  exact ⟨k, q, (congrArg SetTable.Probe.j d).trans b⟩
theorem gway_le (m : Nat) (h : Int) (k : Nat) : way m h k ≤ m := by
  have z : SetTable.bits h % (m + 1) ≤ m := Nat.le_of_lt_succ (Nat.mod_lt _ (Nat.succ_pos _))
  have y := runEnd_bd z
  have x := nth_in (m := m) k (runAt m (SetTable.bits h % (m + 1)) (SetTable.bits h)) (by simp only [runAt]; omega)
  have w : (nth m (runAt m (SetTable.bits h % (m + 1)) (SetTable.bits h)) k).j = way m h k := rfl
  omega
/-- each slot is found again from its hash: the pairs of hash and slot -/
structure GTab (t : SetTable) (hs : List Int) : Prop where
  up : Ris t.place.toList
  nodm : t.dummies = #[]
  same : t.place.toList.length = hs.length
  msk : MG t.mask
  low : ∀ x ∈ t.place.toList, x ≤ t.mask
  find : ∀ q ∈ hs.zip t.place.toList, ∃ k, way t.mask q.1 k = q.2 ∧ ∀ i, i < k → way t.mask q.1 i ∈ t.place.toList
theorem GTab.gap {t : SetTable} {hs : List Int} (T : GTab t hs) (hl : hs.length ≤ t.mask) (h : Int) : ∃ K, K < 10 * SetTable.turns t.mask ∧ way t.mask h K ∉ t.place.toList ∧ ∀ k, k < K → way t.mask h k ∈ t.place.toList := by
  obtain ⟨j, a, b⟩ := st_missing t.place.toList (t.mask + 1) (by rw [T.same]; omega)
  obtain ⟨k, c, d⟩ := gway_hits T.msk h (Nat.le_of_lt_succ a)
  obtain ⟨K, e, f, g⟩ := st_least (p := fun k => way t.mask h k ∉ t.place.toList) k (by rw [d]; exact b)
  exact ⟨K, by omega, f, fun i hi => Classical.byContradiction (g i hi)⟩
theorem zip_td {α β : Type} : ∀ (p : Nat) (a : List α) (b : List β), (a.take p).zip (b.take p) = (a.zip b).take p ∧ (a.drop p).zip (b.drop p) = (a.zip b).drop p
  | 0, _, _ => by simp
  | p + 1, [], _ => by simp
  | p + 1, _, [] => by simp
  | p + 1, x :: a, y :: b => by
    obtain ⟨h1, h2⟩ := zip_td p a b
    exact ⟨by simp [h1], by simpa using h2⟩
theorem zip_put {α β : Type} {a : List α} {b : List β} (e : a.length = b.length) (p : Nat) (x : α) (y : β) : (a.take p ++ x :: a.drop p).zip (b.take p ++ y :: b.drop p) = (a.zip b).take p ++ (x, y) :: (a.zip b).drop p := by
  rw [List.zip_append (by rw [List.length_take, List.length_take, e]), List.zip_cons_cons, (zip_td p a b).1, (zip_td p a b).2]
theorem GTab.ahead {t : SetTable} {hs : List Int} (T : GTab t hs) {h : Int} {K i j : Nat} (hK : way t.mask h K ∉ t.place.toList) (hi : hs[i]? = some h) (hj : t.place.toList[i]? = some j) : ∃ k, k < K ∧ way t.mask h k = j := by
  have hm : (h, j) ∈ hs.zip t.place.toList := List.mem_of_getElem? (i := i) (by rw [List.getElem?_zip_eq_some]; exact ⟨hi, hj⟩)
  obtain ⟨k, e, f⟩ := T.find _ hm
  refine ⟨k, Classical.byContradiction fun z => ?_, e⟩
  rcases Nat.lt_or_ge K k with c | c
  · exact hK (f K c)
  · have : k = K := by omega
    rw [← this] at hK
    exact hK (e ▸ List.mem_of_getElem? hj)
theorem GTab.lay {t : SetTable} {hs : List Int} (T : GTab t hs) {h : Int} {K : Nat} (hK : way t.mask h K ∉ t.place.toList) (hb : ∀ k, k < K → way t.mask h k ∈ t.place.toList) :
    SetTable.below t.place (way t.mask h K) ≤ hs.length ∧ GTab (t.put (way t.mask h K)).1 (hs.take (SetTable.below t.place (way t.mask h K)) ++ h :: hs.drop (SetTable.below t.place (way t.mask h K))) ∧
    (t.put (way t.mask h K)).1.fill = hs.length + 1 := by
  have jle := gway_le t.mask h K
  obtain ⟨j, ej⟩ : ∃ j, j = way t.mask h K := ⟨_, rfl⟩
  rw [← ej] at hK jle ⊢
  obtain ⟨c1, _, _⟩ := below_cut T.up j
  have pl := put_place t j
  have nin : t.place[SetTable.below t.place j]? ≠ some j := fun e => hK (List.mem_of_getElem? (by rw [Array.getElem?_toList]; exact e))
  have c2 : SetTable.below t.place j ≤ t.place.toList.length := by rw [Array.length_toList]; exact c1
  have more : ∀ x, x ∈ (t.put j).1.place.toList ↔ x = j ∨ x ∈ t.place.toList := fun x => by rw [pl]; exact mem_ins
  have len : (t.put j).1.place.toList.length = hs.length + 1 := by rw [pl, len_ins _ c2, T.same]
  have mk : (t.put j).1.mask = t.mask := rfl
  refine ⟨by rw [← T.same]; exact c2, ⟨ris_insert T.up nin, put_dm T.nodm j, ?_, T.msk, fun x hx => ?_, fun q hq => ?_⟩, ?_⟩
  · rw [len, len_ins _ (by rw [← T.same]; exact c2)]
  · rw [mk]
    rcases (more x).mp hx with rfl | z
    · exact jle
    · exact T.low x z
  · rw [pl, zip_put T.same.symm] at hq
    rw [mk]
    rcases mem_ins.mp hq with rfl | z
    · exact ⟨K, ej.symm, fun i hi => (more _).mpr (.inr (hb i hi))⟩
    · obtain ⟨k, e, f⟩ := T.find q z
      exact ⟨k, e, fun i hi => (more _).mpr (.inr (f i hi))⟩
  · unfold SetTable.fill
    rw [put_dm T.nodm j, ← Array.length_toList, len]; rfl
/-! laying all anew -/
theorem gfree {m : Nat} (hm : MG m) (owner : Array (Option Nat)) (h : Int) {j : Nat} (hj : j ≤ m) (hf : oAt owner j = none) :
    ∃ K, SetTable.layClean.free m owner (SetTable.turns m) (SetTable.bits h % (m + 1)) (SetTable.bits h) = some (way m h K) ∧ oAt owner (way m h K) = none ∧ ∀ k, k < K → oAt owner (way m h k) ≠ none := by
  obtain ⟨n, a, b⟩ := gway_meets hm h hj
  have at_n : way m h (off m (SetTable.bits h % (m + 1)) (SetTable.bits h) n) = j := by
    have z := nth_off m n (SetTable.bits h % (m + 1)) (SetTable.bits h)
    rw [itL_run] at z
    exact (congrArg SetTable.Probe.j z).trans b
  obtain ⟨K, c, d, e⟩ := st_least (p := fun k => oAt owner (way m h k) = none) (off m (SetTable.bits h % (m + 1)) (SetTable.bits h) n) (by rw [at_n]; exact hf)
  have big : n < SetTable.turns m := by unfold SetTable.turns; omega
  refine ⟨K, free_spec m owner (SetTable.turns m) n _ _ K big c (fun k hk => ?_) ?_, d, e⟩
  · have y := e k hk
    show (oAt owner (way m h k)).isNone = false
    cases z : oAt owner (way m h k) with
    | none => exact absurd z y
    | some _ => rfl
  · show (oAt owner (way m h K)).isNone = true
    rw [d]; rfl
/-- who sits where: those laid so far -/
structure GOwn (m : Nat) (done : List Int) (owner : Array (Option Nat)) : Prop where
  sz : owner.size = m + 1
  who : ∀ j k, j ≤ m → oAt owner j = some k → ∃ h K, done[k]? = some h ∧ way m h K = j ∧ ∀ i, i < K → oAt owner (way m h i) ≠ none
  each : ∀ k, k < done.length → ∃ j, j ≤ m ∧ oAt owner j = some k
  seats : ∃ ps : List Nat, ps.length = done.length ∧ ∀ j, j ≤ m → oAt owner j ≠ none → j ∈ ps
theorem GOwn.begin (m : Nat) : GOwn m [] (Array.replicate (m + 1) none) :=
  ⟨by simp, fun j k hj e => (by rw [oAt_init hj] at e; cases e), fun k hk => absurd hk (Nat.not_lt_zero _), ⟨[], rfl, fun j hj e => absurd (oAt_init hj) e⟩⟩
theorem GOwn.more {m : Nat} (hm : MG m) {done : List Int} {owner : Array (Option Nat)} (W : GOwn m done owner) (hl : done.length ≤ m) (h : Int) :
    ∃ j, SetTable.layClean.free m owner (SetTable.turns m) (SetTable.bits h % (m + 1)) (SetTable.bits h) = some j ∧ GOwn m (done ++ [h]) (owner.setIfInBounds j (some done.length)) := by
  obtain ⟨ps, l1, l2⟩ := W.seats
  obtain ⟨j0, a, b⟩ := st_missing ps (m + 1) (by omega)
  have f0 : oAt owner j0 = none := Classical.byContradiction fun z => b (l2 j0 (by omega) z)
  obtain ⟨K, c, d, e⟩ := gfree hm owner h (show j0 ≤ m by omega) f0
  have jm := gway_le m h K
  generalize ej : way m h K = j at c d jm
  have me := oAt_set_self (owner := owner) (j := j) (some done.length) (by rw [W.sz]; omega)
  have he : ∀ i, i ≠ j → oAt (owner.setIfInBounds j (some done.length)) i = oAt owner i := fun i hi => oAt_set_ne _ hi
  have keep : ∀ i, oAt owner i ≠ none → oAt (owner.setIfInBounds j (some done.length)) i ≠ none := fun i hi => by
    by_cases z : i = j
    · subst z; rw [me]; exact fun y => nomatch y
    · rw [he i z]; exact hi
  refine ⟨j, c, ⟨by rw [Array.size_setIfInBounds]; exact W.sz, fun i k hi hk => ?_, fun k hk => ?_, ⟨j :: ps, by simp [l1], fun i hi hn => ?_⟩⟩⟩
  · by_cases z : i = j
    · subst z
      rw [me] at hk
      cases hk
      exact ⟨h, K, by simp, ej, fun i hi => keep _ (e i hi)⟩
    · rw [he i z] at hk
      obtain ⟨h', K', x1, x2, x3⟩ := W.who i k hi hk
      refine ⟨h', K', ?_, x2, fun i hi => keep _ (x3 i hi)⟩
      rw [List.getElem?_append_left (List.getElem?_eq_some_iff.mp x1).1]; exact x1
  · simp at hk
    by_cases z : k = done.length
    · subst z; exact ⟨j, jm, me⟩
    · obtain ⟨i, x1, x2⟩ := W.each k (by omega)
      refine ⟨i, x1, ?_⟩
      rw [he i (fun y => by rw [y, d] at x2; cases x2)]; exact x2
  · by_cases z : i = j
    · subst z; simp
    · rw [he i z] at hn
      exact List.mem_cons_of_mem _ (l2 i hi hn)
theorem gfold {m : Nat} (hm : MG m) : ∀ (rest done : List Int) (owner : Array (Option Nat)), GOwn m done owner → done.length + rest.length ≤ m →
    ∃ o', rest.foldl (stepF m) (some (owner, done.length)) = some (o', done.length + rest.length) ∧ GOwn m (done ++ rest) o'
  | [], done, owner, W, _ => ⟨owner, rfl, by rw [List.append_nil]; exact W⟩
  | h :: rest, done, owner, W, hl => by
    rw [List.length_cons] at hl
    obtain ⟨j, a, b⟩ := W.more hm (by omega) h
    obtain ⟨o', c, d⟩ := gfold hm rest (done ++ [h]) _ b (by simp; omega)
    refine ⟨o', ?_, by rw [List.append_assoc] at d; exact d⟩
    rw [List.foldl_cons, stepF_some a]
    simp only [List.length_append, List.length_cons, List.length_nil] at c ⊢
    rw [show done.length + (rest.length + 1) = done.length + (0 + 1) + rest.length by omega]
    exact c
theorem glaid {m : Nat} (hm : MG m) {hs : Array Int} (hn : hs.size ≤ m) : ∃ o, SetTable.layClean m hs = some o ∧ GOwn m hs.toList o := by
  obtain ⟨o, a, b⟩ := gfold hm hs.toList [] _ (GOwn.begin m) (by rw [Array.length_toList]; show 0 + hs.size ≤ m; omega)
  refine ⟨o, ?_, b⟩
  rw [layClean_eq]
  have a' : hs.toList.foldl (stepF m) (some (Array.replicate (m + 1) none, 0)) = some (o, 0 + hs.toList.length) := a
  rw [a']; rfl
theorem grelaid (t : SetTable) {hs : Array Int} {wanted M : Nat} (hw : SetTable.sizeAbove wanted - 1 = M) (hM : MG M) (hn : hs.size ≤ M) :
    ∃ t' order, t.relaid hs wanted = some (t', order) ∧ order.toList.Perm (List.range hs.size) ∧ GTab t' (order.toList.map fun i => hs.getD i 0) ∧ t'.mask = M ∧ t'.led = t.led ∧ t'.plain = t.plain := by
  obtain ⟨o, e, W⟩ := glaid hM hn
  have re : t.relaid hs wanted = some (tabOf t M o, ((liveOf M o).map (·.2)).toArray) := by
    rw [relaid_eq, hw, e]; rfl
  have r0 := ris_live (fun j => o.getD j none) (List.range (M + 1)) List.pairwise_lt_range
  have r1 : Ris ((liveOf M o).map (·.1)) := r0.1
  have nd : ((liveOf M o).map (·.1)).Nodup := r1.imp fun h => Nat.ne_of_lt h
  have sz : (liveOf M o).length = hs.size := by
    obtain ⟨ps, p1, p2⟩ := W.seats
    have x := nat_nodup_len ((liveOf M o).map (·.1)) ps nd fun j hj => by
      obtain ⟨⟨j', k⟩, hq, rfl⟩ := List.mem_map.mp hj
      obtain ⟨b1, b2⟩ := (mem_live W.sz).mp hq
      exact p2 _ b1 (by rw [b2]; exact fun z => nomatch z)
    have y := nat_nodup_len (List.range hs.size) ((liveOf M o).map (·.2)) List.nodup_range fun k hk => by
      obtain ⟨j, b1, b2⟩ := W.each k (by rw [Array.length_toList]; exact List.mem_range.mp hk)
      exact List.mem_map.mpr ⟨(j, k), (mem_live W.sz).mpr ⟨b1, b2⟩, rfl⟩
    simp only [List.length_map, List.length_range, p1, Array.length_toList] at x y
    omega
  refine ⟨tabOf t M o, ((liveOf M o).map (·.2)).toArray, re, ?_, ⟨r1, rfl, ?_, hM, fun x hx => ?_, fun q hq => ?_⟩, rfl, rfl, rfl⟩
  · refine perm_range hs.size _ (by show ((liveOf M o).map (·.2)).length = _; rw [List.length_map, sz]) fun k hk => ?_
    obtain ⟨j, b1, b2⟩ := W.each k (by rw [Array.length_toList]; exact hk)
    exact List.mem_map.mpr ⟨(j, k), (mem_live W.sz).mpr ⟨b1, b2⟩, rfl⟩
  · show ((liveOf M o).map (·.1)).length = (((liveOf M o).map (·.2)).map _).length
    simp
  · obtain ⟨⟨j, k⟩, hq, rfl⟩ := List.mem_map.mp (show x ∈ (liveOf M o).map (·.1) from hx)
    exact ((mem_live W.sz).mp hq).1
  · have hq' : q ∈ (((liveOf M o).map (·.2)).map fun i => hs.getD i 0).zip ((liveOf M o).map (·.1)) := hq
    rw [List.map_map, List.zip_map', List.mem_map] at hq'
    obtain ⟨⟨j, k⟩, hm, rfl⟩ := hq'
    obtain ⟨b1, b2⟩ := (mem_live W.sz).mp hm
    obtain ⟨h, K, x1, x2, x3⟩ := W.who j k b1 b2
    have hh : hs.getD k 0 = h := by
      rw [Array.getD_eq_getD_getElem?, ← Array.getElem?_toList, x1]; rfl
    refine ⟨K, ?_, fun i hi => ?_⟩
    · show way M (hs.getD k 0) K = j
      rw [hh]; exact x2
    · show way M (hs.getD k 0) i ∈ (liveOf M o).map (·.1)
      rw [hh]
      cases z : oAt o (way M h i) with
      | none => exact absurd z (x3 i hi)
      | some k2 => exact List.mem_map.mpr ⟨(_, k2), (mem_live W.sz).mpr ⟨gway_le M h i, z⟩, rfl⟩
end WD
/-! WDST2: a set of tuples of ints, of up to 4000 -/
namespace WD
open PySem PySem.Spec PyProof.Rows L2
structure GSet (P : Program) (w : World) (h : Heap) (a : Addr) (L : List (Addr × List Int)) (es : Array (Int × Value)) (ep : Nat) (t : SetTable) : Prop where
  sits : ∃ o, h.get? a = some o ∧ o.ExactSet ∧ o.data = .set es ep t
  ent : es.toList = rowsOf P w L
  tab : GTab t (L.map fun p => thash P w p.2)
  unl : (L.map (·.2)).Nodup
  isT : ∀ p ∈ L, IsT P w h p.2 p.1
  pln : t.plain = true
  ldd : w.params.followText "set-order" = true ∨ t.led = true
  room : L.length * 5 < t.mask * 3
  few : L.length ≤ 4000
section
variable {P : Program} {w : World} {A : Around} {E : Value → Shared → Prop} {s : Shared} {a : Addr} {L : List (Addr × List Int)} {es : Array (Int × Value)} {ep : Nat} {t : SetTable}
theorem ent_len (e : es.toList = rowsOf P w L) : es.size = L.length := by
  have := congrArg List.length e
  simpa [rowsOf] using this
theorem ent_at (e : es.toList = rowsOf P w L) {i : Nat} {p : Addr × List Int} (h : L[i]? = some p) : es[i]? = some (thash P w p.2, Value.ref p.1) := by
  rw [← Array.getElem?_toList, e]
  simp [rowsOf, h]
theorem GSet.plen (R : GSet P w s.heap a L es ep t) : t.place.toList.length = L.length := by
  have := R.tab.same
  rwa [List.length_map] at this
theorem fits_of (h1 : t.place.size = es.size) (h2 : t.dummies = #[]) (h3 : es.size ≤ t.mask) : t.fits es.size = true := by
  simp [SetTable.fits, SetTable.fill, h1, h2, h3]
theorem GSet.fit (R : GSet P w s.heap a L es ep t) : t.fits es.size = true :=
  have e := ent_len R.ent
  have r := R.room
  have p := R.plen
  fits_of (by rw [← Array.length_toList, p, e]) R.tab.nodm (by omega)
theorem GSet.stays (R : GSet P w s.heap a L es ep t) : ¬ t.gaveWay = true := by
  simp [SetTable.gaveWay, R.tab.msk.odd]
/-- a point of the way -/
abbrev pt (m : Nat) (h : Int) (c : Nat) : SetTable.Probe := nth m (runAt m (SetTable.bits h % (m + 1)) (SetTable.bits h)) c
theorem pt_dm (m : Nat) (h : Int) (c : Nat) : (pt m h c).dummy = none := by
  have k : ∀ (n : Nat) (p : SetTable.Probe), p.dummy = none → (nth m p n).dummy = none := fun n => by
    induction n with
    | zero => exact fun _ z => z
    | succ n ih => exact fun p z => ih (adv m p) (by unfold adv; split <;> exact z)
  exact k c _ rfl
theorem pt_on (m : Nat) (h : Int) (c q : Nat) : nth m (pt m h c) q = pt m h (c + q) := (nth_add m c _ q).symm
theorem pt_way (m : Nat) (h : Int) (c q : Nat) : (nth m (pt m h c) q).j = way m h (c + q) := congrArg SetTable.Probe.j (pt_on m h c q)
/-- the search for k, from a point of its way on; z is the first free place -/
theorem gsearch (R : GSet P w s.heap a L es ep t) {x : Addr} {k : List Int} (kx : IsT P w s.heap k x) (units : A.units < cLine) {z : Nat} (zb : z < 10 * SetTable.turns t.mask)
    (zf : way t.mask (thash P w k) z ∉ t.place.toList) (zo : ∀ c, c < z → way t.mask (thash P w k) c ∈ t.place.toList) {Q : SetFound → Shared → Prop}
    (yes : k ∈ L.map (·.2) → Q (.there none) s) (no : k ∉ L.map (·.2) → Q (.free (way t.mask (thash P w k) z) false) s) :
    ∀ (n c : Nat) (st : Option SetTable.Probe), st.getD (t.probeStart (thash P w k)) = pt t.mask (thash P w k) c → c ≤ z → z - c < n →
      (∀ (i : Nat) p, L[i]? = some p → p.2 = k → ∃ c', c ≤ c' ∧ c' < z ∧ t.place.toList[i]? = some (way t.mask (thash P w k) c')) →
      wpAny (model P w) A (setSearchFrom a (.ref x) (thash P w k) true n st) Q E s
  | 0, _, _, _, _, lt, _ => absurd lt (Nat.not_lt_zero _)
  | n + 1, c, st, est, cz, lt, rest => by
    obtain ⟨o, get, exa, dat⟩ := R.sits
    generalize hh : thash P w k = hk at zf zo no est rest
    rw [setSearchFrom_succ]
    refine wpAny_bind (wpAny_setState_of get dat R.fit ?_)
    dsimp only
    refine wp_if_neg R.stays ?_
    try refine wpAny_bind (wpAny_pure ?_)
    have sp := go_spec t R.tab.up R.tab.nodm (fun i => (es[i]?.map (·.1)).getD 0) hk (10 * SetTable.turns t.mask) (z - c) (pt t.mask hk c) (pt_dm ..) (by omega)
      (fun q lq => by rw [pt_way]; exact zo _ (by omega)) (by rw [pt_way, Nat.add_sub_cancel' cz]; exact zf)
    have hat : ∀ (i : Nat) p, L[i]? = some p → (es[i]?.map (·.1)).getD 0 = thash P w p.2 := fun i p ip => by rw [ent_at R.ent ip]; rfl
    rcases sp with ⟨q, i, q1, q2, q3, q4, q5⟩ | ⟨q4, q5⟩
    · have pr : t.probe (fun i => (es[i]?.map (·.1)).getD 0) hk (st.getD (t.probeStart hk)) = some (.candidate (way t.mask hk (c + q)) i (pt t.mask hk (c + (q + 1)))) := by
        rw [est, ← pt_way, ← pt_on]; exact q5
      rw [pr]
      dsimp only
      rw [pt_way] at q2
      obtain ⟨il, _⟩ := List.getElem?_eq_some_iff.mp q2
      rw [R.plen] at il
      obtain ⟨p, ip⟩ : ∃ p, L[i]? = some p := ⟨_, List.getElem?_eq_getElem il⟩
      have pL := List.mem_of_getElem? ip
      have slot := slot_live R.tab.up q2
      have go : wpAny (model P w) A (searchRest a (.ref x) hk true n es t (way t.mask hk (c + q)) i (pt t.mask hk (c + (q + 1)))) Q E s := by
        unfold searchRest
        rw [ent_at R.ent ip]
        dsimp only
        refine wpAny_bind (wpAny_holding (wpAny_eqBool_tuple units (R.isT p pL) kx ?_))
        refine wpAny_bind (wpAny_setState_of get dat R.fit ?_)
        dsimp only
        by_cases eq : p.2 = k
        · exact wp_if_pos (by simp [eq]) (wpAny_pure (yes (List.mem_map.mpr ⟨p, pL, eq⟩)))
        · refine wp_if_neg (by simp [eq]) ?_
          try refine wpAny_bind (wpAny_pure ?_)
          rw [sameMem]
          dsimp only
          simp only [if_true, slot, ent_at R.ent ip]
          refine wpAny_bind (wpAny_isSame_ref_self (wpAny_bind (wpAny_pure ?_)))
          simp only [if_true]
          refine wp_if_neg (by simp [eq]) ?_
          subst hh
          refine gsearch R kx units zb zf zo yes no n (c + (q + 1)) _ rfl (by omega) (by omega) fun i0 p0 l0 k0 => ?_
          obtain ⟨c', b1, b2, b3⟩ := rest i0 p0 l0 k0
          refine ⟨c', ?_, b2, b3⟩
          have e0 := hat i0 p0 l0
          rw [k0] at e0
          rcases Nat.lt_trichotomy c' (c + q) with lo | same | hi
          · exact absurd e0 (q4 (c' - c) i0 (by omega) (by rw [pt_way, Nat.add_sub_cancel' b1]; exact b3))
          · rw [same] at b3
            have s2 := slot_live R.tab.up b3
            rw [slot] at s2
            injection s2 with s2
            rw [← s2, ip] at l0
            cases l0
            exact absurd k0 eq
          · omega
      by_cases ld : t.led = true
      · refine wp_if_neg (by simp [ld]) ?_
        try refine wpAny_bind (wpAny_pure ?_)
        exact go
      · refine wp_if_pos (by simp [ld]) ?_
        refine wpAny_bind (seen_tup kx (fun y iny => ?_) ?_)
        · obtain ⟨e, ine, rfl⟩ := List.mem_map.mp iny
          have ine1 : e ∈ es ∧ e.1 = hk := by simpa using ine
          have ine2 : e ∈ es.toList := by simpa using ine1.1
          rw [R.ent] at ine2
          obtain ⟨p2, in2, rfl⟩ := List.mem_map.mp ine2
          exact ⟨p2.2, p2.1, rfl, R.isT p2 in2⟩
        · refine wp_if_neg (by decide) ?_
          try refine wpAny_bind (wpAny_pure ?_)
          exact go
    · have pr : t.probe (fun i => (es[i]?.map (·.1)).getD 0) hk (st.getD (t.probeStart hk)) = some (.empty (way t.mask hk z) none) := by
        rw [est, show way t.mask hk z = (nth t.mask (pt t.mask hk c) (z - c)).j by rw [pt_way, Nat.add_sub_cancel' cz]]
        exact q5
      rw [pr]
      dsimp only
      refine wpAny_pure (no fun mem => ?_)
      obtain ⟨p0, in0, k0⟩ := List.mem_map.mp mem
      obtain ⟨i0, l0, e0⟩ := List.getElem_of_mem in0
      have l00 : L[i0]? = some p0 := by rw [List.getElem?_eq_getElem l0, e0]
      obtain ⟨c', b1, b2, b3⟩ := rest i0 p0 l00 k0
      have e1 := hat i0 p0 l00
      rw [k0, hh] at e1
      exact q4 (c' - c) i0 (by omega) (by rw [pt_way, Nat.add_sub_cancel' b1]; exact b3) e1
theorem gsearch_all (R : GSet P w s.heap a L es ep t) {x : Addr} {k : List Int} (kx : IsT P w s.heap k x) (units : A.units < cLine) {Q : SetFound → Shared → Prop}
    (yes : k ∈ L.map (·.2) → Q (.there none) s)
    (no : ∀ z, k ∉ L.map (·.2) → way t.mask (thash P w k) z ∉ t.place.toList → (∀ c, c < z → way t.mask (thash P w k) c ∈ t.place.toList) → Q (.free (way t.mask (thash P w k) z) false) s) :
    wpAny (model P w) A (setSearch a (.ref x) (thash P w k) true) Q E s := by
  have r := R.room
  obtain ⟨z, z1, z2, z3⟩ := R.tab.gap (by rw [List.length_map]; omega) (thash P w k)
  have mle := R.tab.msk.le
  have small : z < 100000 := by unfold SetTable.turns at z1; omega
  unfold setSearch
  refine gsearch R kx units z1 z2 z3 yes (fun out => no z out z2 z3) 100000 0 none rfl (Nat.zero_le _) (by omega) fun i p ip pk => ?_
  have ih : (L.map fun p => thash P w p.2)[i]? = some (thash P w k) := by rw [List.getElem?_map, ip, ← pk]; rfl
  have il : i < t.place.toList.length := by rw [R.plen]; exact (List.getElem?_eq_some_iff.mp ip).1
  obtain ⟨c, c1, c2⟩ := R.tab.ahead z2 ih (List.getElem?_eq_getElem il)
  exact ⟨c, Nat.zero_le _, c1, by rw [c2, List.getElem?_eq_getElem il]⟩
/-- the table laid anew -/
theorem grelay {o : Obj} (get : s.heap.get? a = some o) (exa : o.ExactSet) (dat : o.data = .set es ep t) (en : es.toList = rowsOf P w L) (ps : t.place.size = es.size) (dm : t.dummies = #[]) (fl : es.size ≤ t.mask)
    (unl : (L.map (·.2)).Nodup) (tup : ∀ p ∈ L, IsT P w s.heap p.2 p.1) (pl : t.plain = true) (ld : w.params.followText "set-order" = true ∨ t.led = true) (few : L.length ≤ 4000) {wanted M : Nat}
    (big : SetTable.sizeAbove wanted = M + 1) (mM : MG M) (rm : L.length * 5 < M * 3) {Q : Unit → Shared → Prop}
    (then_ : ∀ h' L' es' ep' t', Heap.SameBut a s.heap h' → GSet P w h' a L' es' ep' t' → L'.Perm L → Q () { s with heap := h' }) : wpAny (model P w) A (setRelay a wanted) Q E s := by
  have sz := ent_len en
  obtain ⟨t', order, y1, y2, y3, y4, y5, y6⟩ := grelaid t (hs := es.map (·.1)) (wanted := wanted) (M := M) (by omega) mM (by rw [Array.size_map, sz]; omega)
  rw [Array.size_map, sz] at y2
  obtain ⟨L2, r1, r2, r3⟩ := order_rows L es order en y2
  rw [← r3] at y3
  have sz2 : (order.filterMap (es[·]?)).size = es.size := by rw [ent_len r1, r2.length_eq, sz]
  have mle := mM.le
  rw [setRelay_eq]
  refine wpAny_bind (wpAny_setState_of get dat (fits_of ps dm fl) ?_)
  dsimp only
  refine wp_if_neg (by rw [sizeLine_eq]; omega) ?_
  try refine wpAny_bind (wpAny_pure ?_)
  rw [y1]
  dsimp only
  refine wpAny_bind ?_
  refine wp_if_neg (by rw [sz2]; simp) ?_
  try refine wpAny_bind (wpAny_pure ?_)
  refine wpAny_pure ?_
  dsimp only
  refine wpAny_storeSet_of get dat ?_ (by rw [sz2, sz, sizeLine_eq]; omega)
  have but : Heap.SameBut a s.heap (s.heap.update a (Obj.putSet (order.filterMap (es[·]?)) t')) := Heap.SameBut.update ..
  refine then_ _ L2 (order.filterMap (es[·]?)) (ep + 1) t' but ?_ r2
  exact ⟨⟨_, store_at get dat, ⟨exa.1, exa.2.1, exa.2.2⟩, rfl⟩, r1, y3, (r2.map (·.2)).nodup_iff.mpr unl, fun p ip => isT_same (tup p (r2.mem_iff.mp ip)) get dat but, by rw [y6]; exact pl, by rw [y5]; exact ld,
    by rw [r2.length_eq, y4]; exact rm, by rw [r2.length_eq]; exact few⟩

theorem sz_of : SetTable.sizeAbove (SetTable.grown 5) = 31 + 1 ∧ SetTable.sizeAbove (SetTable.grown 19) = 127 + 1 ∧ SetTable.sizeAbove (SetTable.grown 77) = 511 + 1 ∧ SetTable.sizeAbove (SetTable.grown 307) = 2047 + 1 ∧ SetTable.sizeAbove (SetTable.grown 1229) = 8191 + 1 := by decide +kernel
/-- the next mask -/
theorem next_mask {m c : Nat} (h : MG m) (r : c * 5 < m * 3) (f : (c + 1) * 5 ≥ m * 3) (few : c + 1 ≤ 4000) : ∃ M, SetTable.sizeAbove (SetTable.grown (c + 1)) = M + 1 ∧ MG M ∧ (c + 1) * 5 < M * 3 ∧ c + 1 ≤ m := by
  obtain ⟨s1, s2, s3, s4, s5⟩ := sz_of
  rcases h with rfl | rfl | rfl | rfl | rfl | rfl
  · obtain rfl : c = 4 := by omega
    exact ⟨31, s1, .inr (.inl rfl), by omega, by omega⟩
  · obtain rfl : c = 18 := by omega
    exact ⟨127, s2, .inr (.inr (.inl rfl)), by omega, by omega⟩
  · obtain rfl : c = 76 := by omega
    exact ⟨511, s3, .inr (.inr (.inr (.inl rfl))), by omega, by omega⟩
  · obtain rfl : c = 306 := by omega
    exact ⟨2047, s4, .inr (.inr (.inr (.inr (.inl rfl)))), by omega, by omega⟩
  · obtain rfl : c = 1228 := by omega
    exact ⟨8191, s5, .inr (.inr (.inr (.inr (.inr rfl)))), by omega, by omega⟩
  · omega
/-- one more, or the same -/
theorem gadd (R : GSet P w s.heap a L es ep t) {x : Addr} {k : List Int} (kx : IsT P w s.heap k x) (units : A.units < cLine) (more : k ∉ L.map (·.2) → L.length + 1 ≤ 4000) {Q : Bool → Shared → Prop}
    (then_ : ∀ b h' L' es' ep' t', Heap.SameBut a s.heap h' → GSet P w h' a L' es' ep' t' → (k ∈ L.map (·.2) → L' = L) → (k ∉ L.map (·.2) → L'.Perm ((x, k) :: L)) → Q b { s with heap := h' }) :
    wpAny (model P w) A (setAddHashed a (.ref x) (thash P w k)) Q E s := by
  obtain ⟨o, get, exa, dat⟩ := R.sits
  have sz := ent_len R.ent
  have room := R.room
  unfold setAddHashed
  refine wpAny_holding ?_
  rw [show (100000 : Nat) = Nat.succ 99999 from rfl, setAddHashedIn_succ]
  refine wpAny_bind (wpAny_setState_of get dat R.fit ?_)
  dsimp only
  refine wp_if_neg (by simp [byScan, Value.scannable]) ?_
  try refine wpAny_bind (wpAny_pure ?_)
  refine wpAny_bind (gsearch_all R kx units (fun mem => ?_) fun z out z2 z3 => ?_)
  · dsimp only
    exact wpAny_pure (then_ false s.heap L es ep t (Heap.SameBut.refl a s.heap) R (fun _ => rfl) fun y => absurd mem y)
  · dsimp only
    have few := more out
    refine wpAny_bind (wpAny_setState_of get dat R.fit ?_)
    dsimp only
    obtain ⟨g1, g2, g3⟩ := R.tab.lay z2 z3
    have p2 : (t.put (way t.mask (thash P w k) z)).2 = SetTable.below t.place (way t.mask (thash P w k) z) := rfl
    have p3 : (t.put (way t.mask (thash P w k) z)).1.mask = t.mask := rfl
    have p4 : (t.put (way t.mask (thash P w k) z)).1.led = t.led := rfl
    have p5 : (t.put (way t.mask (thash P w k) z)).1.plain = true := R.pln
    generalize t.put (way t.mask (thash P w k) z) = tp at g2 g3 p2 p3 p4 p5 ⊢
    obtain ⟨t1, i⟩ := tp
    dsimp only at g2 g3 p2 p3 p4 p5 ⊢
    subst p2
    first
      | (refine wpAny_bind ?_; refine wp_if_pos p5 ?_; refine hashBy_tup kx ?_)
      | refine wp_if_pos p5 (wpAny_bind (hashBy_tup kx ?_))
    simp only [if_true]
    have en1 : (SetTable.insertAt es (SetTable.below t.place (way t.mask (thash P w k) z)) (thash P w k, Value.ref x)).toList = rowsOf P w (L.take (SetTable.below t.place (way t.mask (thash P w k) z)) ++ (x, k) :: L.drop (SetTable.below t.place (way t.mask (thash P w k) z))) := by
      rw [SetTable.toList_insertAt, rows_put, R.ent]
    generalize SetTable.below t.place (way t.mask (thash P w k) z) = i at g1 g2 en1 ⊢
    have pm := put_perm L i (x, k)
    rw [← List.map_take, ← List.map_drop, ← List.map_cons (f := fun p : Addr × List Int => thash P w p.2) (a := (x, k)), ← List.map_append] at g2
    generalize L.take i ++ (x, k) :: L.drop i = L1 at pm g2 en1
    have sz1 := ent_len en1
    have ll : L1.length = L.length + 1 := pm.length_eq
    generalize SetTable.insertAt es i (thash P w k, Value.ref x) = es1 at en1 sz1 ⊢
    have unl1 : (L1.map (·.2)).Nodup := (pm.map (·.2)).nodup_iff.mpr (List.nodup_cons.mpr ⟨out, R.unl⟩)
    refine wpAny_bind (wpAny_storeSet_of get dat ?_ (by rw [sz1, ll, sizeLine_eq]; omega))
    have but : Heap.SameBut a s.heap (s.heap.update a (Obj.putSet es1 t1)) := Heap.SameBut.update ..
    have get1 := store_at (es' := es1) (t' := t1) get dat
    generalize s.heap.update a (Obj.putSet es1 t1) = hp1 at but get1 ⊢
    have tup1 : ∀ p ∈ L1, IsT P w hp1 p.2 p.1 := fun p ip => by
      rcases List.mem_cons.mp (pm.mem_iff.mp ip) with rfl | ip
      · exact isT_same kx get dat but
      · exact isT_same (R.isT p ip) get dat but
    have ld1 : w.params.followText "set-order" = true ∨ t1.led = true := by rw [p4]; exact R.ldd
    have tf : t1.tooFull = decide ((L.length + 1) * 5 ≥ t.mask * 3) := by
      unfold SetTable.tooFull
      rw [g3, List.length_map, p3]
    by_cases full : (L.length + 1) * 5 ≥ t.mask * 3
    · rw [decide_eq_true full] at tf
      obtain ⟨M, m1, m2, m3, m4⟩ := next_mask R.tab.msk room full few
      have pl1 : t1.place.size = es1.size := by
        have z := g2.same
        rw [Array.length_toList, List.length_map] at z
        rw [z, sz1]
      have lay := grelay (s := { s with heap := hp1 }) (A := A) (E := E) get1 ⟨exa.1, exa.2.1, exa.2.2⟩ rfl en1 pl1 g2.nodm (by rw [sz1, ll, p3]; exact m4) unl1 tup1 p5 ld1 (by omega) m1 m2 (by rw [ll]; exact m3)
        (Q := fun _ s' => wpAny (model P w) A (pure true) Q E s') fun h2 L2 es2 ep2 t2 but2 R2 pm2 => wpAny_pure (then_ true h2 L2 es2 ep2 t2 (but.trans but2) R2 (fun y => absurd y out) fun _ => pm2.trans pm)
      rw [sz]
      first
        | (refine wpAny_bind ?_; refine wp_if_pos (by simp [tf]) ?_; exact lay)
        | (refine wp_if_pos (by simp [tf]) ?_; refine wpAny_bind ?_; exact lay)
    · rw [decide_eq_false full] at tf
      first
        | refine wp_if_neg (by simp [tf]) ?_
        | (refine wpAny_bind ?_; refine wp_if_neg (by simp [tf]) ?_; refine wpAny_pure ?_)
      exact wpAny_pure (then_ true hp1 L1 es1 (ep + 1) t1 but ⟨⟨_, get1, ⟨exa.1, exa.2.1, exa.2.2⟩, rfl⟩, en1, g2, unl1, tup1, p5, ld1, by rw [ll, p3]; omega, by omega⟩ (fun y => absurd y out) fun _ => pm)
theorem GSet.keep {h h' : Heap} (R : GSet P w h a L es ep t) (ha : ∀ o, h.get? a = some o → h'.get? a = some o) (ht : ∀ p ∈ L, IsT P w h' p.2 p.1) : GSet P w h' a L es ep t :=
  let ⟨o, e, r⟩ := R.sits
  ⟨⟨o, ha o e, r⟩, R.ent, R.tab, R.unl, ht, R.pln, R.ldd, R.room, R.few⟩
abbrev tNew (w : World) : SetTable := .fresh 0 0 (!w.params.followText "set-order")
abbrev oNew (w : World) : Obj := { cls := .type "set", dict := none, data := .set #[] 0 (tNew w) }
theorem gset_new {h : Heap} (e : h.get? a = some (oNew w)) : GSet P w h a [] #[] 0 (tNew w) :=
  ⟨⟨_, e, ⟨rfl, rfl, rfl⟩, rfl⟩, rfl, ⟨List.Pairwise.nil, rfl, rfl, .inl rfl, fun x z => (by cases z), fun x z => (by cases z)⟩, List.nodup_nil, fun p z => (by cases z), rfl, (by
    show _ ∨ (!w.params.followText "set-order") = true
    cases w.params.followText "set-order" <;> simp), (by show 0 * 5 < 7 * 3; decide), Nat.zero_le _⟩
/-- unlike keys out of a list of keys are no more than its unlike ones -/
theorem unl_le {D : List (List Int)} : ∀ {l : List (List Int)}, l.Nodup → (∀ x ∈ l, x ∈ D) → l.length ≤ D.length
  | [], _, _ => Nat.zero_le _
  | x :: l, n, h => by
    obtain ⟨n1, n2⟩ := List.nodup_cons.mp n
    have ih : ∀ {l : List (List Int)} {D : List (List Int)}, l.Nodup → (∀ x ∈ l, x ∈ D) → l.length ≤ D.length := fun {l} => by
      induction l with
      | nil => exact fun _ _ => Nat.zero_le _
      | cons y l ih =>
        intro D n h
        obtain ⟨n1, n2⟩ := List.nodup_cons.mp n
        have q := ih (D := D.erase y) n2 fun z hz => (List.mem_erase_of_ne (fun e => n1 (by rw [← e]; exact hz))).mpr (h z (List.mem_cons_of_mem _ hz))
        have r := List.length_erase_of_mem (h y List.mem_cons_self)
        have r2 := List.length_pos_of_mem (h y List.mem_cons_self)
        rw [List.length_cons]; omega
    exact ih n h
/-- filling: the loop of set.update -/
theorem gfill {I : Addr} {fp wr : List Addr} {G : Array GenState → Array GenState → Prop} {n : Nat} {Pv : Nat → Value → Prop} {St : Nat → Shared → Prop} {R : Result → Shared → Prop}
    (W : WalksS P w A.in1 I fp wr G n Pv St) (S : Addr) (sf : S ∉ fp) (ks : List (Addr × List Int)) (nk : n = ks.length) {D : List (List Int)} (inD : ∀ p ∈ ks, p.2 ∈ D) (dl : D.length ≤ 4000) (val : ∀ i v, Pv i v → ∃ p, ks[i]? = some p ∧ v = .ref p.1)
    (h0 : Heap) (kt : ∀ p ∈ ks, IsT P w h0 p.2 p.1) (s0 : h0.get? S = none) (w0 : ∀ b ∈ wr, h0.get? b = none) (units : A.in1.units < cLine) :
    ∀ (m i : Nat) (s : Shared), n - i = m → i ≤ n → St i s → (∀ b o, h0.get? b = some o → s.heap.get? b = some o) → (∃ L es ep t, GSet P w s.heap S L es ep t ∧ Got ks i L) →
      (∀ s' L es ep t, Moved (S :: wr) G s s' → GSet P w s'.heap S L es ep t → Got ks n L → (∀ b o, h0.get? b = some o → s'.heap.get? b = some o) → R (.ok (.ret .none)) s') →
      codeAny (model P w) A (.builtin "set.update.loop" ⟨[.ref S, .ref I], []⟩) R s := by
  have sw : S ∉ wr := fun z => sf (W.sub _ z)
  have old : ∀ {u u' : Shared}, Moved wr G u u' → (∀ b o, h0.get? b = some o → u.heap.get? b = some o) → ∀ b o, h0.get? b = some o → u'.heap.get? b = some o := fun mv kp b o e =>
    mv.heap b o (fun z => by rw [w0 b z] at e; cases e) (kp b o e)
  intro m
  induction m with
  | zero =>
    intro i s em le st kp ⟨L, es, ep, t, gs, got⟩ done
    obtain rfl : i = n := by omega
    refine codeAny_builtin F.entry_set_update_loop ?_
    rw [Around.under_plainId F.plain_set_update_loop _]
    show wpAny _ A.in1 (pyNext (.ref I) >>= _) _ _ s
    refine wpAny_bind (W.done s _ _ st fun s' mv => ?_)
    show wpAny _ A.in1 (ret Value.none) _ _ s'
    have kp' := old mv kp
    exact wpAny_pure (done s' L es ep t (mv.mono fun b z => List.mem_cons_of_mem _ z) (gs.keep (fun o e => mv.heap S o sw e) fun p ip => isT_keep (kt p (List.mem_of_mem_take (got.sub p ip))) kp') got kp')
  | succ m ih =>
    intro i s em le st kp ⟨L, es, ep, t, gs, got⟩ done
    refine codeAny_builtin F.entry_set_update_loop ?_
    rw [Around.under_plainId F.plain_set_update_loop _]
    show wpAny _ A.in1 (pyNext (.ref I) >>= _) _ _ s
    refine wpAny_bind (W.item i s _ _ (by omega) st fun v s' pv st' mv => ?_)
    obtain ⟨p, ip, rfl⟩ := val i v pv
    have kp' := old mv kp
    have gs' := gs.keep (h' := s'.heap) (fun o e => mv.heap S o sw e) fun q iq => isT_keep (kt q (List.mem_of_mem_take (got.sub q iq))) kp'
    have pk := List.mem_of_getElem? ip
    have px : IsT P w s'.heap p.2 p.1 := isT_keep (kt p pk) kp'
    show wpAny _ A.in1 (holding [Value.ref p.1] (setAdd S (.ref p.1)) >>= _) _ _ s'
    refine wpAny_bind (wpAny_holding ?_)
    unfold setAdd
    refine wpAny_holding ?_
    refine wpAny_bind (wpAny_pyHash_tuple units px ?_)
    refine gadd (s := { s' with toks := s'.toks + (p.2.length + 1) }) gs' px units (fun out => ?_) fun b h' L' es' ep' t' but gs2 c1 c2 => ?_
    · have z := unl_le (l := p.2 :: L.map (·.2)) (D := D) (List.nodup_cons.mpr ⟨out, gs.unl⟩) fun y hy => by
        rcases List.mem_cons.mp hy with rfl | hy
        · exact inD p pk
        · obtain ⟨q, iq, rfl⟩ := List.mem_map.mp hy
          exact inD q (List.mem_of_mem_take (got.sub q iq))
      rw [List.length_cons, List.length_map] at z
      omega
    · have got' : Got ks (i + 1) L' := by
        by_cases c : p.2 ∈ L.map (·.2)
        · rw [c1 c]; exact got.same ip c
        · exact got.more ip (c2 c)
      have kp2 : ∀ b o, h0.get? b = some o → h'.get? b = some o := fun b o e => (but.2 b (fun z => by rw [z, s0] at e; cases e)).trans (kp' b o e)
      refine wpAny_pure ⟨plainId_quiet F.plain_set_update_loop _, ih (i + 1) _ (by omega) (by omega) (W.frame _ s' _ _ st' (Nat.le_add_right _ _) fun b z o e => ?_) kp2 ⟨L', es', ep', t', gs2, got'⟩ fun s2 L2 es2 ep2 t2 mv2 gs3 got2 kp3 => ?_⟩
      · rw [but.2 b (fun y : b = S => sf (by rw [← y]; exact z))]; exact e
      · refine done s2 L2 es2 ep2 t2 (Moved.trans W.gtrans ((mv.mono fun b z => List.mem_cons_of_mem _ z).then_heap (Nat.le_add_right _ _) fun b o z e => ?_) mv2) gs3 got2 kp3
        rw [but.2 b (fun y : b = S => z (by rw [y]; exact List.mem_cons_self))]; exact e
end
end WD
/-! WDST3: set(xs), sorted(set) of tuples of ints, of up to 4000 unlike ones -/
namespace WD
open PySem PySem.Spec PyProof.Rows L2
section
variable {P : Program} {w : World} {A : Around} {E : Value → Shared → Prop} {s : Shared}
theorem gset_of_list {x : Addr} {arr : Array Value} (ks : List (Addr × List Int)) {D : List (List Int)} {Q : Value → Shared → Prop} (calm : A.handled = none) (isl : s.heap.IsList x arr) (iar : arr.toList = ks.map fun p => Value.ref p.1)
    (kt : ∀ p ∈ ks, IsT P w s.heap p.2 p.1) (inD : ∀ p ∈ ks, p.2 ∈ D) (dl : D.length ≤ 4000) (units : A.units + 3 < cLine)
    (go : ∀ (h' : Heap) (tk : Nat) L es ep t, GSet P w h' s.heap.objs.size L es ep t → Got ks ks.length L → (∀ b o, s.heap.get? b = some o → h'.get? b = some o) → Q (.ref s.heap.objs.size) { s with heap := h', toks := tk }) :
    wpAny (model P w) A (call (.type "set") [.ref x]) Q E s := by
  have sz : arr.size = ks.length := by
    have q := congrArg List.length iar
    rwa [Array.length_toList, List.length_map] at q
  obtain ⟨m0, m1, m2⟩ := F.called_set.mro
  have g1 := F.called_set.made; have g2 := F.called_set.sub
  refine wpAny_call (codeAny_of_tree (show wpAny _ _ (callAny (.type "set") _) _ _ _ from ?_))
  refine wpAny_pure (And.intro (Code.quiet_builtin _ (by decide +kernel)) (codeAny_builtin F.entry_type_call ?_))
  rw [Around.under_plain (weight_type_call_type "set" [.ref x] []) rfl]
  have g3 := F.called_set.notType; have g4 := F.called_set.canCreate; have g5 := F.typeCall_set_1 (.ref x)
  repeat any_goals (first | assumption | wp_step)
  refine codeAny_mono (code_set_led1 (.ref x) (E := E) (Q₁ := fun obj s₁ => obj = .ref s.heap.objs.size ∧ s₁ = { s with heap := s.heap.push (oNew w) }) ⟨rfl, rfl⟩) fun r s₁ hr => ?_
  cases r with
  | error e => exact hr
  | ok fl =>
    cases fl with
    | ret obj =>
      obtain ⟨rfl, rfl⟩ := hr
      have at0 : (s.heap.push (oNew w)).get? s.heap.objs.size = some (oNew w) := Heap.get?_push_size _ rfl
      have ty0 : Shared.TypeIs { s with heap := s.heap.push (oNew w) } (.ref s.heap.objs.size) "set" := ⟨_, at0, rfl⟩
      have g6 := F.called_set.init.lookup; have g7 := F.called_set.init.bind (.ref s.heap.objs.size)
      repeat any_goals (first | assumption | wp_step)
      refine codeAny_mono (codeAny_call_builtin (R := wants (fun r s₂ => r = .none ∧ ∃ h' tk L es ep t, s₂ = { s with heap := h', toks := tk } ∧ GSet P w h' s.heap.objs.size L es ep t ∧ Got ks ks.length L ∧ ∀ b o, s.heap.get? b = some o → h'.get? b = some o) E) F.called_set.init.plain F.entry_set_init (check_set_init_1 ty0 ?_)) fun r₂ s₂ hr₂ => ?_
      · obtain ⟨ob, hob, hcl, nl, hdl⟩ := isl
        obtain ⟨o1, o2, o3, o4⟩ := ob
        simp only at hcl hdl
        subst hcl; subst hdl
        have hob' : (s.heap.push (oNew w)).get? x = some { cls := .type "list", dict := o2, data := .seq arr nl, slots := o4 } := Heap.get?_push_of_some _ hob
        have g8 := F.sub_list_set; have g9 := F.sub_list_frozenset
        have ne0 : (Value.type "list" == Value.type "dict") = false := by decide
        have isl1 : (s.heap.push (oNew w)).IsList x arr := ⟨_, hob', rfl, nl, rfl⟩
        unfold Builtin.«set.__init__» noKeywords Builtin.Frozenset.updateFrom
        generalize hIt : pyIter = It0
        wp_walk
        subst hIt
        refine wpAny_pyIter_list isl1 (wpAny_bind (wpAny_runValue ?_))
        have lt0 : x < s.heap.objs.size := Heap.lt_size hob
        have calm3 : A.in1.in1.in1.handled = none := by simp [calm]
        have neI : x ≠ (s.heap.push (oNew w)).objs.size := by rw [Heap.size_push]; exact Nat.ne_of_lt (Nat.lt_succ_of_lt lt0)
        have outS : s.heap.objs.size ∉ [(s.heap.push (oNew w)).objs.size, x] := fun z => by
          rw [Heap.size_push] at z
          simp only [List.mem_cons, List.not_mem_nil, or_false] at z
          rcases z with z | z
          · exact absurd z (Nat.ne_of_lt (Nat.lt_succ_self _))
          · exact absurd z.symm (Nat.ne_of_lt lt0)
        have vals : ∀ (i : Nat) (v : Value), arr[i]? = some v → ∃ p, ks[i]? = some p ∧ v = .ref p.1 := fun i v hv => by
          have q : arr.toList[i]? = some v := by rw [Array.getElem?_toList]; exact hv
          rw [iar, List.getElem?_map] at q
          obtain ⟨p, a1, a2⟩ := Option.map_eq_some_iff.mp q
          exact ⟨p, a1, a2.symm⟩
        have noneAt : ∀ b, s.heap.objs.size ≤ b → s.heap.get? b = none := fun b hb => by
          cases q : s.heap.get? b with
          | none => rfl
          | some o => exact absurd (Nat.lt_of_lt_of_le (Heap.lt_size q) hb) (Nat.lt_irrefl _)
        refine gfill ((Walks.list calm3 _ x neI arr).toS) s.heap.objs.size outS ks sz inD dl vals s.heap kt (noneAt _ (Nat.le_refl _)) (fun b hb => noneAt b (by rw [List.mem_singleton.mp hb, Heap.size_push]; exact Nat.le_succ _)) units (arr.size - 0) 0 _ (by omega) (Nat.zero_le _)
          ⟨⟨_, Heap.get?_push_size _ rfl, rfl, rfl⟩, isl1.push _⟩ (fun b o e => Heap.get?_push_of_some _ (Heap.get?_push_of_some _ e)) ⟨[], #[], 0, _, gset_new (Heap.get?_push_of_some _ at0), Got.zero ks⟩ ?last
        case last =>
          intro s' L es ep t mv gs got kp
          obtain ⟨h', z1, z2, tk', z3⟩ := s'
          obtain rfl : z1 = s.gens := mv.gens
          obtain rfl : z2 = s.drawn := mv.drawn
          obtain rfl : z3 = s.os := mv.os
          rw [sz] at got
          exact wpAny_pure (show wpAny _ _ (ret Value.none) _ _ _ from wpAny_pure ⟨rfl, h', tk', L, es, ep, t, rfl, gs, got, kp⟩)
      · cases r₂ with
        | error e => exact hr₂
        | ok fl₂ =>
          cases fl₂ with
          | ret r =>
            obtain ⟨rfl, h', tk, L, es, ep, t, rfl, gs, got, kp⟩ := hr₂
            repeat any_goals (first | assumption | wp_step)
            exact go h' tk L es ep t gs got kp
          | _ => exact hr₂.elim
    | _ => exact hr.elim
/-! sorted -/
theorem perm_of_map {α β : Type} {f : α → β} : ∀ {m k : List β}, m.Perm k → ∀ l : List α, k = l.map f → ∃ l' : List α, l'.Perm l ∧ m = l'.map f := by
  intro m k p
  induction p with
  | nil => intro l e; exact ⟨[], by cases l <;> simp_all, rfl⟩
  | cons x p ih =>
    intro l e
    cases l with
    | nil => simp at e
    | cons a l =>
      simp only [List.map_cons, List.cons.injEq] at e
      obtain ⟨l', h1, h2⟩ := ih l e.2
      exact ⟨a :: l', h1.cons a, by simp [h2, e.1]⟩
  | swap x y t =>
    intro l e
    match l, e with
    | [], e => simp at e
    | [a], e => simp at e
    | a :: b :: l, e =>
      simp only [List.map_cons, List.cons.injEq] at e
      exact ⟨b :: a :: l, List.Perm.swap _ _ _, by simp [e.1, e.2.1, e.2.2]⟩
  | trans p q ih1 ih2 =>
    intro l e
    obtain ⟨l1, h1, h2⟩ := ih2 l e
    obtain ⟨l2, h3, h4⟩ := ih1 l1 h2
    exact ⟨l2, h3.trans h1, h4⟩
def tDt (k : List Int) : PyData := .tuple (k.map .int)
theorem tDt_lt (x y : List Int) : PySem.W.dataLt (tDt x) (tDt y) = decide (x < y) := by
  unfold tDt
  rw [PySem.W.dataLt_tuple]
  exact PySem.W.dataLt_ints x y
theorem tDt_le {β : Type} (f : β → List Int) : PySem.W.dataLe false (fun b => tDt (f b)) = fun p q => decide (f p ≤ f q) := by
  funext p q
  show (!PySem.W.dataLt (tDt (f q)) (tDt (f p))) = _
  rw [tDt_lt]
  by_cases h : f q < f p
  · have : ¬ f p ≤ f q := fun z => List.not_lt.mpr z h
    simp [h, this]
  · have : f p ≤ f q := List.not_lt.mp h
    simp [h, this]
theorem reads_ints {h : Heap} : ∀ {k : List Int} {vs : List Value}, ItemsAre (intKind P w) k vs → ReadsAll h vs (k.map .int) [] := by
  intro k vs i
  induction i with
  | nil => exact .nil
  | @cons k0 v ks vs h1 _ ih =>
    obtain ⟨t, rfl⟩ := Value.isInt_shape h1
    exact .cons (as := []) (bs := []) (.int k0 t) ih
theorem reads_tup {h : Heap} {k : List Int} {b : Addr} (x : IsT P w h k b) : Reads h (.ref b) (tDt k) [] := by
  obtain ⟨o, items, n, ho, hc, hd, hi⟩ := x
  exact .tuple ho hc hd (reads_ints hi)
theorem tDt_depth (k : List Int) : (tDt k).depth ≤ 1 := by
  have := PySem.W.depth_ints k
  unfold tDt
  simp only [PyData.depth]
  omega
theorem perm_small {α : Type} {l k : List α} (h : ¬ 2 ≤ k.length) (p : l.Perm k) : l = k := by
  match k, h, p with
  | [], _, p => exact p.eq_nil
  | [b], _, p => exact List.perm_singleton.mp p
  | _ :: _ :: _, z, _ => exact absurd (by simp) z
/-- a list of tuples is sorted -/
theorem gsort {a : Addr} {n : Nat} {bs : List (Addr × List Int)} {Q : Value → Shared → Prop} (get : s.heap.get? a = some (seqObj "list" (bs.map fun p => Value.ref p.1).toArray n)) (kt : ∀ p ∈ bs, IsT P w s.heap p.2 p.1) (full : bs.length ≤ 1 ∨ ∀ p ∈ bs, p.2 ≠ [])
    (len : bs.length ≤ 16777216) (units : A.units + 2 < cLine)
    (go : ∀ bs' : List (Addr × List Int), bs'.Perm bs → bs'.Pairwise (fun p q => p.2 ≤ q.2) → Q .none { s with heap := sortedHeap s.heap a (bs.map fun p => Value.ref p.1) (bs'.map fun p => Value.ref p.1).toArray }) :
    wpAny (model P w) A (call (.builtin "list.sort") [.ref a]) Q E s := by
  by_cases l2 : 2 ≤ bs.length
  · have each : ∀ l : List (Addr × List Int), (∀ p ∈ l, IsT P w s.heap p.2 p.1) → PySem.W.EachIs (fun (v : Value) (b : Addr × List Int) => v = .ref b.1 ∧ ∃ as, Reads s.heap v (tDt b.2) as ∧ a ∉ as) (l.map fun p => Value.ref p.1) l := fun l => by
      induction l with
      | nil => exact fun _ => .nil
      | cons p l ih => exact fun h => .cons ⟨rfl, [], reads_tup (h p List.mem_cons_self), List.not_mem_nil⟩ (ih fun q hq => h q (List.mem_cons_of_mem _ hq))
    have e := each bs kt
    refine PySem.W.list_sort_data (enc := fun b : Addr × List Int => tDt b.2) get (e.mono fun _ _ h => h.1) (e.mono fun _ _ h => h.2) (PySem.W.AllAlike.of fun x y => ?_) ?_ (by rw [sizeLine_eq]; exact len) (fun b hb => by have := tDt_depth b.2; show A.units + 1 + (tDt b.2).depth < cLine; omega) fun out ol oe => ?_
    · show PySem.W.alike (tDt x.2) (tDt y.2) = true
      unfold tDt
      simp only [PySem.W.alike]
      exact PySem.W.alike_ints _ _
    · rcases full with f | f
      · omega
      · refine .inl fun d hd => ?_
        obtain ⟨b, hb, rfl⟩ := List.mem_map.mp hd
        cases hk : b.2 with
        | nil => exact absurd hk (f b hb)
        | cons x r => exact ⟨.int x, r.map .int, by simp [tDt, hk]⟩
    · have eo : out = (bs.mergeSort (PySem.W.dataLe false fun b : Addr × List Int => tDt b.2)).map fun p => Value.ref p.1 := by
        have key : ∀ {o : List Value} {l : List (Addr × List Int)}, PySem.W.EachIs (fun (v : Value) (b : Addr × List Int) => v = .ref b.1) o l → o = l.map fun p => Value.ref p.1 := fun {o l} z => by
          induction z with
          | nil => rfl
          | cons h _ ih => rw [List.map_cons, ← h, ← ih]
        exact key oe
      rw [eo, tDt_le]
      refine go _ (List.mergeSort_perm _ _) ?_
      have pw := List.pairwise_mergeSort (le := fun p q : Addr × List Int => decide (p.2 ≤ q.2)) (fun a b c h1 h2 => by
        rw [decide_eq_true_eq] at h1 h2 ⊢
        exact List.le_trans h1 h2) (fun a b => by
        have := List.le_total a.2 b.2
        simp [this]) bs
      exact pw.imp fun h => by simpa using h
  · have l1 : (bs.map fun p => Value.ref p.1).length < 64 := by rw [List.length_map]; omega
    refine wpAny_call_entry slot_list_sort ⟨_, get, rfl⟩ entry_list_sort (SK.plain_sort (r := fun _ => 0) get l1 (fun z => by rw [List.length_map] at z; omega) fun ps out o1 o2 _ => ⟨_, rfl, ?_⟩) (args_list_sort _)
    have eo : out = (bs.map fun p => Value.ref p.1).toArray := by
      have : out.toList = bs.map fun p => Value.ref p.1 := by
        rw [o1, perm_small (by simp; omega) o2, List.map_snd_zip (Nat.le_refl _)]
      rw [← this, Array.toArray_toList]
    rw [eo]
    refine go bs (List.Perm.refl _) ?_
    match bs, l2 with
    | [], _ => exact .nil
    | [b], _ => exact List.pairwise_singleton _ _
    | _ :: _ :: _, z => exact absurd (by simp) z
/-- sorted(s), s the set at a -/
theorem gsorted {a : Addr} {L : List (Addr × List Int)} {es : Array (Int × Value)} {ep : Nat} {t : SetTable} {Q : Value → Shared → Prop} (R : GSet P w s.heap a L es ep t) (calm : A.handled = none) (full : L.length ≤ 1 ∨ ∀ p ∈ L, p.2 ≠ []) (units : A.units + 3 < cLine)
    (go : ∀ s' p (out : Array Value) (c : Nat) (L' : List (Addr × List Int)), (∀ b o, s.heap.get? b = some o → s'.heap.get? b = some o) → s'.gens = s.gens → s'.os = s.os → s.heap.objs.size ≤ p →
      s'.heap.get? p = some (seqObj "list" out c) → out.toList = L'.map (fun q => Value.ref q.1) → L'.Perm L → L'.Pairwise (fun p q => p.2 ≤ q.2) → Q (.ref p) s') :
    wpAny (model P w) A (call (.builtin "sorted") [.ref a]) Q E s := by
  obtain ⟨o, get, exa, dat⟩ := R.sits
  have sz := ent_len R.ent
  have few := R.few
  refine Calls.call_function_entry kind_sorted plain_sorted entry_sorted (args_sorted1 _) ?_
  unfold Builtin.«sorted»
  refine wpAny_bind (m := checkCount "sorted" 1 1 _) (wpAny_pure ?_)
  refine wpAny_bind (collect_set (A := A.in1) calm ⟨o, get, exa.1, dat⟩ R.fit (by unfold scanBound; omega) R.tab.up R.ldd fun s1 vs k1 hz g1 o1 pm => ?_)
  have ev : es.toList.map (·.2) = L.map fun q => Value.ref q.1 := by
    rw [R.ent]
    unfold rowsOf
    rw [List.map_map]; rfl
  rw [ev] at pm
  obtain ⟨L1, pL, rfl⟩ := perm_of_map pm L rfl
  have l1 := pL.length_eq
  refine wpAny_bind (wpAny_newList ?_ (by rw [sizeLine_eq, List.length_map]; omega))
  have get2 : (s1.heap.push (seqObj "list" (L1.map fun p => Value.ref p.1).toArray 0)).get? s1.heap.objs.size = some (seqObj "list" (L1.map fun p => Value.ref p.1).toArray 0) := Heap.get?_push_size _ rfl
  refine wpAny_bind (wpAny_holding (gsort (s := { s1 with heap := s1.heap.push (seqObj "list" (L1.map fun p => Value.ref p.1).toArray 0) }) get2 (fun p ip => isT_keep (R.isT p (pL.mem_iff.mp ip)) fun b u e => Heap.get?_push_of_some _ (k1 b u e)) ?_ (by omega) (by show A.in1.units + 2 < cLine; exact (by simp; omega)) fun L2 p2 w2 => ?_))
  · rcases full with f | f
    · exact .inl (by omega)
    · exact .inr fun p ip => f p (pL.mem_iff.mp ip)
  · obtain ⟨c, hc⟩ := sortedHeap_at (vs := L1.map fun p => Value.ref p.1) (out := (L2.map fun p => Value.ref p.1).toArray) get2
    refine wpAny_pure ⟨_, rfl, go _ s1.heap.objs.size _ c L2 (fun b u e => ?_) g1 o1 hz hc (by simp) (p2.trans pL) w2⟩
    have q := k1 b u e
    have lt := Heap.lt_size q
    show (sortedHeap (s1.heap.push (seqObj "list" (L1.map fun p => Value.ref p.1).toArray 0)) s1.heap.objs.size _ _).get? b = some u
    rw [sortedHeap_old (Nat.ne_of_lt lt) (by rw [size_push']; exact Nat.lt_succ_of_lt lt)]
    exact Heap.get?_push_of_some _ q
end
/-! the rules -/
structure GSet0 (P : Program) (w : World) (h : Heap) (a : Addr) (L : List (Addr × List Int)) : Prop where
  ex : ∃ (es : Array (Int × Value)) (ep : Nat) (t : SetTable), (∃ o, h.get? a = some o ∧ o.ExactSet ∧ o.data = .set es ep t) ∧ ∀ h', (∃ o, h'.get? a = some o ∧ o.ExactSet ∧ o.data = .set es ep t) → (∀ p ∈ L, IsT P w h' p.2 p.1) → GSet P w h' a L es ep t
def GSetO (P : Program) (w : World) (a : Addr) (L : List (Addr × List Int)) : HO := .ext fun h => GSet0 P w h a L
theorem GSet.t0 {P : Program} {w : World} {h : Heap} {a : Addr} {L : List (Addr × List Int)} {es : Array (Int × Value)} {ep : Nat} {t : SetTable} (R : GSet P w h a L es ep t) : GSet0 P w h a L :=
  ⟨es, ep, t, R.sits, fun _ o z => ⟨o, R.ent, R.tab, R.unl, z, R.pln, R.ldd, R.room, R.few⟩⟩
theorem gsetO_new {P : Program} {w : World} {H : Hp} {h : Heap} {a : Addr} {L : List (Addr × List Int)} (R : GSet0 P w h a L) : ObjOk P w H h a (GSetO P w a L) := by
  have ⟨es, ep, t, ⟨o, ho, r⟩, q⟩ := R.ex
  refine ⟨R, ⟨o, ho⟩, fun h1 h2 p k => ?_⟩
  have ⟨es', ep', t', ⟨o', ho', r'⟩, q'⟩ := GSet0.ex p
  exact ⟨es', ep', t', ⟨o', k o' ho', r'⟩, q'⟩
section
variable {X : Cx}
/-- set(xs), xs a list of tuples of ints -/
def rSetTs (K : PySem.W.Frag) (P : Program) (w : World) : List V → Hp → VK → Prop := fun xs H Q => ∃ (l : Addr) (ks : List (Addr × List Int)) (D : List (List Int)), xs = [V.ref l] ∧ SqL K H l (ks.map fun p => V.ref p.1) ∧ (∀ p ∈ ks, SqT K H p.1 (p.2.map V.int)) ∧ (∀ p ∈ ks, p.2 ∈ D) ∧ D.length ≤ 4000 ∧
  ∀ a L, H a = none → (∀ p ∈ L, p ∈ ks) → (∀ p ∈ ks, p.2 ∈ L.map (·.2)) → (L.map (·.2)).Nodup → Q (.ref a) (upd H a (GSetO P w a L))
theorem cr_setTs (hc : X.calm = true) (hu : X.A.units + 64 < cLine) : CallR X (.type "set") (rSetTs X.K X.prog X.w) := by
  intro pins s σ H xs us Q I r h
  obtain ⟨l, ks, D, rfl, hl, hk, hd, dl, q⟩ := h
  rw [Vals.ref1 r]
  obtain ⟨its, rv, pl, hz⟩ := I.list hl
  have hn : H s.heap.objs.size = none := I.hok.fresh (Nat.le_refl _)
  refine gset_of_list (P := X.prog) (w := X.w) ks (D := D) (I.ok.hd hc) pl.isList (by simpa using refs_of_vals rv) (fun p ip => I.isT (hk p ip)) hd dl (by omega) fun h' tk L es ep t R g k => ?_
  refine ⟨.ref s.heap.objs.size, upd H s.heap.objs.size (GSetO X.prog X.w s.heap.objs.size L), I.laid (t' := tk) k (Nat.le_refl _) (gsetO_new R.t0), rfl, q _ L hn (fun p ip => ?_) (fun p ip => ?_) R.unl⟩
  · exact List.mem_of_mem_take (g.sub p ip)
  · exact g.all p (by rw [List.take_length]; exact ip)
/-- sorted(s), s such a set -/
def rSortTs (K : PySem.W.Frag) (P : Program) (w : World) : List V → Hp → VK → Prop := fun vs H Q => ∃ (a : Addr) (L : List (Addr × List Int)), vs = [V.ref a] ∧ H a = some (GSetO P w a L) ∧ (∀ p ∈ L, SqT K H p.1 (p.2.map V.int)) ∧ (L.length ≤ 1 ∨ ∀ p ∈ L, p.2 ≠ []) ∧
  ∀ (L' : List (Addr × List Int)) (p : Addr), L'.Perm L → L'.Pairwise (fun p q => p.2 ≤ q.2) → H p = none → Q (.ref p) (upd H p (.lst (L'.map fun q => V.ref q.1)))
theorem cr_sortTs (hc : X.calm = true) (hu : X.A.units + 64 < cLine) : CallR X (.builtin "sorted") (rSortTs X.K X.prog X.w) := by
  intro pins s σ H vs us Q I r h
  obtain ⟨a, L, rfl, ha, hk, full, q⟩ := h
  have R0 : GSet0 X.prog X.w s.heap a L := (I.hok a _ ha).1
  obtain ⟨es, ep, t, si, mk⟩ := R0.ex
  have R := mk s.heap si fun p ip => I.isT (hk p ip)
  rw [Vals.ref1 r]
  refine gsorted R (I.ok.hd hc) full (by omega) fun s' p out c L' k g o hp hg hout pm pw => ?_
  have few := R.few
  have hlen : (L'.map fun q => V.ref q.1).length ≤ sizeLine := by rw [List.length_map, sizeLine_eq, pm.length_eq]; omega
  have hn : H p = none := I.hok.fresh hp
  have hv : Vals (L'.map fun q => V.ref q.1) out.toList := by rw [hout]; exact vals_of_refs L'
  have J : Inv X pins σ (upd H p (.lst (L'.map fun q => V.ref q.1))) { s with heap := s'.heap, gens := s'.gens, drawn := s'.drawn, toks := s'.toks } :=
    I.call (ch := []) (Un.laid k hp hn) (I.hok.laid k hp ⟨hlen, out.toList, c, hv, hg⟩) (by rw [g]; exact I.bare) (fun _ z => nomatch z)
  have e : s' = { s with heap := s'.heap, gens := s'.gens, drawn := s'.drawn, toks := s'.toks } := by
    cases s'
    cases s
    cases o
    rfl
  rw [e]
  exact ⟨.ref p, _, J, rfl, q L' p pm pw hn⟩
end
end WD
/-! WDDicT: dict(pairs), keys that are tuples of ints and texts -/
namespace WD
open PySem PySem.Spec PyProof.Rows L2
def putsT (kvs : List (List Key × V)) (more : List (List Key × Addr × V)) : List (List Key × V) := more.foldl (fun acc q => putK acc q.1 q.2.2) kvs
theorem putsT_le : ∀ (more : List (List Key × Addr × V)) (kvs : List (List Key × V)), (putsT kvs more).length ≤ kvs.length + more.length
  | [], kvs => Nat.le_refl _
  | q :: more, kvs => by
    have h1 := putsT_le more (putK kvs q.1 q.2.2)
    have h2 := length_putK kvs q.1 q.2.2
    show (putsT (putK kvs q.1 q.2.2) more).length ≤ _
    rw [List.length_cons]
    omega
section
variable {X : Cx}
theorem tpairs_of {pins : List (Addr × Obj)} {σ : L2.St} {H : Hp} {s : Shared} (I : Inv X pins σ H s) : ∀ {ps : List Addr} {kvs : List (List Key × Addr × V)}, Paired (fun p q => SqT X.K H p [.ref q.2.1, q.2.2] ∧ H q.2.1 = some (.tup (q.1.map kV))) ps kvs →
    ∃ xs : List (List Key × Addr × Value), (∀ (acc : List (List Key × V)) (ys : List (List Key × Addr × Value)), L2.KT H acc ys → L2.KT H (putsT acc kvs) (storedAllH ys xs)) ∧ xs.length = ps.length ∧
      (∀ (j : Nat) (q : List Key × Addr × Value), xs[j]? = some q → ∃ b, ps[j]? = some b ∧ IsTup s.heap b #[.ref q.2.1, q.2.2] ∧ H q.2.1 = some (.tup (q.1.map kV)))
  | _, _, .nil => ⟨[], fun acc ys h => h, rfl, fun j q e => by simp at e⟩
  | _, _, .cons (a := p) (b := kv) h t => by
    obtain ⟨xs, r, hl, hp⟩ := tpairs_of I t
    obtain ⟨its, rv, ht, _⟩ := I.tuple h.1
    obtain ⟨u, y, ei, ru, ry⟩ := vals2 rv
    subst ei
    obtain rfl : u = .ref kv.2.1 := ru
    refine ⟨(kv.1, kv.2.1, y) :: xs, fun acc ys g => ?_, by rw [List.length_cons, List.length_cons, hl], fun j q e => ?_⟩
    · exact r _ _ (L2.KT.put g kv.1 h.2 ry)
    · cases j with
      | zero =>
        have e' : (kv.1, kv.2.1, y) = q := Option.some.inj e
        subst e'
        exact ⟨p, rfl, ht, h.2⟩
      | succ j =>
        obtain ⟨b, e1, e2⟩ := hp j q (by simpa using e)
        exact ⟨b, by simpa using e1, e2⟩
def rDictT (K : PySem.W.Frag) : List V → Hp → VK → Prop := fun xs H Q => ∃ (a : Addr) (ps : List Addr) (kvs : List (List Key × Addr × V)), xs = [.ref a] ∧ SqL K H a (ps.map V.ref) ∧ Paired (fun p q => SqT K H p [.ref q.2.1, q.2.2] ∧ H q.2.1 = some (.tup (q.1.map kV))) ps kvs ∧
    ∀ p, H p = none → Q (.ref p) (upd H p (.dT (putsT [] kvs)))
theorem call_dictT (hcalm : X.calm = true) (hu : X.A.units + 64 < cLine) : CallR X (.type "dict") (rDictT X.K) := by
  intro pins s σ H xs us Q I r q
  obtain ⟨a, ps, kvs, ex, hq, hp, q⟩ := q
  subst ex
  obtain ⟨u, eu, rx⟩ := vals1 r
  subst eu
  cases rx
  obtain ⟨its, rv, pl, hz⟩ := I.list hq
  have ei := refs_at rv
  subst ei
  rw [List.length_map] at hz
  have hpl : ps.length = kvs.length := Paired.length hp
  obtain ⟨ys, rel, hl, hpr⟩ := tpairs_of I hp
  have pits : PairItems s.heap (ps.map Value.ref).toArray (fun j => ps.getD j 0) (ys.map fun q => (Value.ref q.2.1, q.2.2)) := by
    refine ⟨by simp [hl], fun j k v e => ?_⟩
    rw [List.getElem?_map] at e
    obtain ⟨q, eq, e⟩ := Option.map_eq_some_iff.mp e
    cases e
    obtain ⟨b, e1, e2, _⟩ := hpr j q eq
    have eb : ps.getD j 0 = b := by rw [List.getD_eq_getElem?_getD, e1]; rfl
    refine ⟨by simp [e1, eb], ?_⟩
    show PairAt s.heap (ps.getD j 0) _ _
    rw [eb]
    exact .inl e2
  have hks : KeysStay (tupleKind (mixKind X.prog X.w)) s.heap s.heap.objs.size [] ys := fun h' hk x hx => by
    obtain ⟨j, hj⟩ := List.mem_iff_getElem?.mp hx
    obtain ⟨b, _, _, e3⟩ := hpr j x hj
    obtain ⟨o, its, n, h1, h2, h3, h4⟩ := key_of (P := X.prog) (w := X.w) I.hok e3
    exact ⟨o, its, n, hk _ _ (Nat.ne_of_lt (Heap.lt_size h1)) (fun z => nomatch z) h1, h2, h3, h4⟩
  refine call_dict_pairsH (knd := tupleKind (mixKind X.prog X.w)) (ps := ys) (PairArg.list a (ps.map Value.ref).toArray (fun j => ps.getD j 0) (ys.map fun q => (Value.ref q.2.1, q.2.2))) (I.ok.hd hcalm) ?_ ⟨pl, pits⟩ ⟨by simp, fun i key v e => ?_⟩ hks (by rw [List.length_map, hl]; exact hz) fun h' tk hd' k => ?_
  · exact tupleKind_room_in1 (by show X.A.in1.units + 1 < cLine; have : X.A.in1.units ≤ X.A.units + 1 := Nat.le_refl _; omega)
  · have e' : (ys.map fun q => (Value.ref q.2.1, q.2.2))[i]? = some (key, v) := e
    rw [List.getElem?_map] at e'
    obtain ⟨q, eq, e'⟩ := Option.map_eq_some_iff.mp e'
    cases e'
    exact ⟨q.1, q.2.1, eq, rfl⟩
  · have hm : (s.heap.objs.size == sysModules) = false := beq_eq_false_iff_ne.mpr (Nat.ne_of_gt I.big)
    have hlen : (putsT [] kvs).length ≤ sizeLine := by
      refine Nat.le_trans (putsT_le kvs []) ?_
      rw [List.length_nil, Nat.zero_add, ← hpl]
      exact hz
    obtain ⟨o, es, ep, h1, h2, h3, h4, _, h5⟩ := hd'
    have kt := rel [] [] .nil
    refine ⟨.ref s.heap.objs.size, upd H s.heap.objs.size (.dT (putsT [] kvs)), I.laid (t' := tk) (fun b u e => k b u (fun z => nomatch z) e) (Nat.le_refl _) (show ObjOk X.prog X.w _ _ _ (.dT (putsT [] kvs)) from ⟨hlen, hm, _, L2.KT.keeps kt fun b zs e => ?_, o, es, ep, h1, h2, h3, h4, h5⟩), rfl, q _ (I.hok.fresh (Nat.le_refl _))⟩
    rw [upd_ne (fun z => by rw [z, I.hok.fresh (Nat.le_refl _)] at e; cases e)]
    exact e
end
end WD
/-! WDSortT: sorted(t), t a tuple of ints -/
namespace WD
open PySem PySem.Spec PyProof.Rows L2
section
variable {P : Program} {w : World} {A : Around} {E : Value → Shared → Prop} {s : Shared}
theorem gather_tup {b : Addr} {ys : List Value} {Q : List Value → Shared → Prop} (ht : s.heap.IsTuple b ys.toArray)
    (go : Q ys { s with heap := (s.heap.push (seqObj "list" #[] 0)).update s.heap.objs.size (Obj.mapSeq (· ++ ys.toArray)) }) (len : ys.length ≤ sizeLine) :
    wpAny (model P w) A (collect (.ref b)) Q E s := by
  obtain ⟨ob, at0, cl, nn, dt⟩ := id ht
  unfold collect
  refine wpAny_bind (wpAny_runValue (codeAny_builtin entry_proto_collect' ?_))
  show wpAny _ _ (do again (.builtin "list.__iadd__" ⟨[← newList [], .ref b], []⟩)) _ _ s
  refine wpAny_bind (wpAny_newList (wpAny_pure ⟨Code.quiet_builtin _ (by decide +kernel), codeAny_builtin entry_list_iadd' ?_⟩))
  show wpAny _ _ (Builtin.List.listExtendWith (.ref s.heap.objs.size) (.ref b) (.ref s.heap.objs.size)) _ _ { s with heap := s.heap.push (seqObj "list" #[] 0) }
  unfold Builtin.List.listExtendWith
  have at1 : (s.heap.push (seqObj "list" #[] 0)).get? b = some ob := Heap.get?_push_of_some _ at0
  refine wpAny_bind (wpAny_typeOf (T := "tuple") ⟨ob, at1, cl⟩ ?_)
  have tt : (Value.type "tuple" == Value.type "tuple") = true := by rfl
  rw [if_pos (by rw [tt]; simp)]
  refine wpAny_bind (listItems_at at1 dt ?_)
  refine wpAny_bind (listItems_at (xs := #[]) (n := 0) (Heap.get?_push_size _ rfl) rfl ?_)
  rw [if_neg (by simp)]
  refine wpAny_bind (listUpdate_at (xs := #[]) (n := 0) (Heap.get?_push_size _ rfl) rfl ?_ (Nat.zero_le _) (by show (#[] ++ ys.toArray).size ≤ sizeLine + 1; simp only [Array.size_append, List.size_toArray, List.length_nil]; omega))
  refine wpAny_pure ?_
  show wpAny (model P w) A (do
      let o ← load s.heap.objs.size
      match o.data with
      | .seq xs _ => pure xs.toList
      | _ => unsupported "internal:collect") Q E { s with heap := (s.heap.push (seqObj "list" #[] 0)).update s.heap.objs.size (Obj.mapSeq (· ++ ys.toArray)) }
  refine wpAny_bind (wpAny_load (get?_update_seq (Heap.get?_push_size _ rfl) _) ?_)
  show wpAny _ _ (pure ((#[] : Array Value) ++ ys.toArray).toList) Q E _
  rw [show ((#[] : Array Value) ++ ys.toArray).toList = ys by simp]
  exact wpAny_pure go
theorem sortedT_ord {b : Addr} {ys : List Value} {less : Value → Value → Bool} {Q : Value → Shared → Prop} (O : SrtO.Swo less) (ht : s.heap.IsTuple b ys.toArray) (len : ys.length ≤ sizeLine)
    (srt : 2 ≤ ys.length → ∀ (h1 : Heap) (c : Addr), h1.get? c = some (seqObj "list" ys.toArray 0) → (∀ e o, s.heap.get? e = some o → e ≠ c ∧ h1.get? e = some o) → SrtO.SortableO P w A.in1.in1 { s with heap := h1 } c ys less)
    (go : ∀ out : List Value, SrtO.Srtd less out → SrtO.Stb less out ys → Q (.ref (s.heap.objs.size + 1)) { s with heap := sortedAll s.heap ys out.toArray }) :
    wpAny (model P w) A (call (.builtin "sorted") [.ref b]) Q E s := by
  refine Calls.call_function_entry kind_sorted plain_sorted entry_sorted (args_sorted1 _) ?_
  unfold Builtin.«sorted»
  refine wpAny_bind (m := checkCount "sorted" 1 1 _) (wpAny_pure ?_)
  refine wpAny_bind (gather_tup ht ?_ len)
  refine wpAny_bind (wpAny_newList ?_ len)
  have hz : ((s.heap.push (seqObj "list" #[] 0)).update s.heap.objs.size (Obj.mapSeq (· ++ ys.toArray))).objs.size = s.heap.objs.size + 1 := by
    rw [Heap.size_update, size_push']
  have at2 : (((s.heap.push (seqObj "list" #[] 0)).update s.heap.objs.size (Obj.mapSeq (· ++ ys.toArray))).push (seqObj "list" ys.toArray 0)).get? (s.heap.objs.size + 1) = some (seqObj "list" ys.toArray 0) := by
    rw [← hz]; exact Heap.get?_push_size _ rfl
  have old : ∀ e o, s.heap.get? e = some o → e ≠ s.heap.objs.size + 1 ∧ (((s.heap.push (seqObj "list" #[] 0)).update s.heap.objs.size (Obj.mapSeq (· ++ ys.toArray))).push (seqObj "list" ys.toArray 0)).get? e = some o := fun e o q => by
    have lt := Heap.lt_size q
    refine ⟨Nat.ne_of_lt (Nat.lt_succ_of_lt lt), Heap.get?_push_of_some _ ?_⟩
    rw [Heap.get?_update_ne _ _ _ _ (Nat.ne_of_lt lt)]
    exact Heap.get?_push_of_some _ q
  show wpAny _ _ _ _ _ { s with heap := ((s.heap.push (seqObj "list" #[] 0)).update s.heap.objs.size (Obj.mapSeq (· ++ ys.toArray))).push (seqObj "list" ys.toArray 0) }
  rw [hz]
  refine wpAny_bind (wpAny_holding (wpAny_call_entry slot_list_sort ⟨_, at2, rfl⟩ entry_list_sort (SrtO.list_sort_ord O at2 len (fun h2 => srt h2 _ _ at2 old) fun out hs hb => ⟨_, rfl, ?_⟩) (args_list_sort _)))
  exact wpAny_pure ⟨_, rfl, go out hs hb⟩
end
section
variable {X : Cx}
theorem cr_sortedTI : CallR X (.builtin "sorted") (fun vs H Q => ∃ (a : Addr) (ns : List Int), vs = [V.ref a] ∧ SqT X.K H a (ns.map V.int) ∧ ∀ (ns' : List Int) (p : Addr), ns'.Perm ns → ns'.Pairwise (· ≤ ·) → H p = none → Q (.ref p) (upd H p (.lst (ns'.map V.int)))) := by
  intro pins s σ H vs us Q I r h
  obtain ⟨b, ns, rfl, hs, q⟩ := h
  obtain ⟨its, rv, ⟨⟨cls, dd, data, sl⟩, ho, hc, n, hd⟩, hz⟩ := I.tuple hs
  rw [Vals.ref1 r]
  have hi := rv.ints
  refine sortedT_ord SrtO.swo_int ⟨_, ho, hc, n, hd⟩ (by rw [← rv.length]; exact hz) (fun h2 h₁ a' _ _ => SrtO.ints_sortable hi h2) fun out h1 h2 => ?_
  obtain ⟨k1, k2, k3⟩ := SrtO.ints_out hi h1 h2
  obtain ⟨ep, at3⟩ := PyProof.Rows.sortedAll_at s.heap its out.toArray
  have lz : ((out.map SrtO.iv).map V.int).length ≤ sizeLine := by
    rw [List.length_map, k2.length_eq]
    rw [List.length_map] at hz
    exact hz
  exact ⟨.ref _, upd H (s.heap.objs.size + 1) (.lst ((out.map SrtO.iv).map V.int)), I.laid (t' := s.toks) (fun _ _ => PyProof.Rows.sortedAll_old) (Nat.le_succ _) ⟨lz, out, ep, vals_of_ints k1, at3⟩, rfl, q _ _ k2 k3 (I.hok.fresh (Nat.le_succ _))⟩
end
end WD
/-! try with clauses whose test is a class or a tuple of two classes -/
namespace WD
open PySem PySem.Spec PyProof.Rows L2
def wClausesT (K : PySem.W.Frag) (Wout : WX) (D : Ends) : List (List Value × Nat × Su) → WX
  | [] => Wout
  | (cs, i, ts) :: r => fun cls d σ H => ∃ b, PySem.W.exmAny K cls cs = some b ∧
      (b = true → ∀ a, H a = none → ts a cls d { nx := fun σ' H' => D.nx (σ'.set i none) H', rt := D.rt, bk := fun σ' H' => D.bk (σ'.set i none) H', ct := fun σ' H' => D.ct (σ'.set i none) H' } (σ.set i (some (.ref a))) H) ∧ (b = false → wClausesT K Wout D r cls d σ H)
/-- a test: one class, or a tuple of two -/
inductive TestN (X : Cx) : Expr → List Value → Prop
  | one {x : Str} {c : Value} {np : Pos} (h : Names X x c) : TestN X (.Name x np) [c]
  | two {x1 x2 : Str} {c1 c2 : Value} {p1 p2 tp : Pos} {kk : Nat} (h1 : Names X x1 c1) (h2 : Names X x2 c2) : TestN X (.Tuple [.Name x1 p1, .Name x2 p2] kk tp) [c1, c2]
inductive ClausesT (X : Cx) : List ExceptHandler → List (List Value × Nat × Su) → Prop
  | nil : ClausesT X [] []
  | cons {t : Expr} {n : Str} {cs : List Value} {i : Nat} {ts : Su} {st : Stmt} {suite : List Stmt} {hp : Pos} {hds : List ExceptHandler} {l : List (List Value × Nat × Su)} (test : TestN X t cs) (slot : X.N[i]? = some n) (loc : X.env.kindOf n = some .local)
      (body : ∀ (a : Addr) (oe : Obj) (cls : Value) (d : Option Addr) (pn : List (Addr × Obj)), Zc cls d oe → (∃ vs, oe.data = .fields vs) → PSs (X.suite a ((a, oe) :: pn)) (st :: suite) (ts a cls d)) (more : ClausesT X hds l) :
      ClausesT X (.ExceptHandler (some t) (some n) (st :: suite) hp :: hds) ((cs, i, ts) :: l)
  | cons0 {t : Expr} {cs : List Value} {i : Nat} {ts : Su} {st : Stmt} {suite : List Stmt} {hp : Pos} {hds : List ExceptHandler} {l : List (List Value × Nat × Su)} (test : TestN X t cs) (out : X.N.length ≤ i)
      (body : ∀ (a : Addr) (oe : Obj) (cls : Value) (d : Option Addr) (pn : List (Addr × Obj)), Zc cls d oe → (∃ vs, oe.data = .fields vs) → PSs (X.suite a ((a, oe) :: pn)) (st :: suite) (ts a cls d)) (more : ClausesT X hds l) :
      ClausesT X (.ExceptHandler (some t) none (st :: suite) hp :: hds) ((cs, i, ts) :: l)
section
variable {X : Cx} {body : List Stmt} {hd0 : ExceptHandler} {hds : List ExceptHandler} {l : List (List Value × Nat × Su)} {pos : Pos} {tb : WX → TS} {Wout : WX}
theorem flyZ_keeps {B h h' : Heap} {l : List Env} {e : Addr} {Z : Obj → Prop} (R : HandSPX.FlyingZ B l e Z h) (k : ∀ b o, h.get? b = some o → h'.get? b = some o) : HandSPX.FlyingZ B l e Z h' := by
  obtain ⟨f1, f2, f3, oe, vs, T, oT, ts, he, hz, hd, h1, hn, hne, hT, hdT, h3⟩ := R
  exact ⟨fun b o q => k b o (f1 b o q), f2, f3.of_keeps fun b o q _ => ⟨o, k b o q, rfl⟩, oe, vs, T, oT, ts, k _ _ he, hz, hd, h1, hn, hne, k _ _ hT, hdT, h3⟩
theorem test_runs {t : Expr} {cs : List Value} (T : TestN X t cs) {a : Addr} {oe : Obj} {pn : List (Addr × Obj)} {σ : L2.St} {H : Hp} {s : Shared} {cls : Value} {b : Bool} (S : Inv (X.suite a ((a, oe) :: pn)) [] σ H s) (kin : X.K.In s.heap) (he : s.heap.get? a = some oe) (hc : oe.cls = cls) (hb : PySem.W.exmAny X.K cls cs = some b)
    {Q : Bool → Shared → Prop} {E : Value → Shared → Prop} (q : ∀ h', (∀ b o, s.heap.get? b = some o → h'.get? b = some o) → Q b { s with heap := h' }) :
    wpAny (model X.prog X.w) (X.A.mark (some (.ref a))) (eval t X.env) (fun c s1 => wpAny (model X.prog X.w) (X.A.mark (some (.ref a))) (excMatches (.ref a) c) Q E s1) E s := by
  have LT : PySem.W.Looks (model X.prog X.w) s.heap (typeOf (.ref a)) cls := fun A Q E s k q => wpAny_typeOf_ref (k _ _ he) (by rw [hc]; exact q)
  have name : ∀ {x : Str} {c : Value} {np : Pos} {Q : Value → Shared → Prop}, Names X x c → Q c s → wpAny (model X.prog X.w) (X.A.mark (some (.ref a))) (eval (.Name x np) X.env) Q E s := fun {x c np Q} names q => by
    obtain ⟨hg, hdbg, hm | ⟨hm, hv, hnn⟩⟩ := names
    · exact ld_glob (X := X.suite a ((a, oe) :: pn)) S hg hm q hdbg
    · exact ld_blt (X := X.suite a ((a, oe) :: pn)) S hg hm hv q hnn hdbg
  cases T with
  | @one x c np h =>
    obtain ⟨b1, d1, x1, y1, z1⟩ := PySem.W.exmAny_cons hb
    have w : some false = some d1 := y1
    cases w
    have hb1 : PySem.W.exmOne X.K cls c = some b := by rw [x1, z1, Bool.or_false]
    exact name h ((PySem.W.exm_one kin LT hb1).here (q s.heap fun _ _ z => z))
  | @two x1 x2 c1 c2 p1 p2 tp kk h1 h2 =>
    refine wpAny_Tuple ?_
    refine wpAny_items_cons (name h1 ?_)
    refine wpAny_items_cons (name h2 ?_)
    refine wpAny_items_nil ⟨by size_fits, ?_⟩
    have kp : ∀ q o, s.heap.get? q = some o → (s.heap.push { cls := .type "tuple", data := .seq [c1, c2].toArray }).get? q = some o := fun _ _ z => Heap.get?_push_of_some _ z
    exact (PySem.W.exm_tup2 (kin.keeps kp) (LT.keeps kp) (Heap.get?_push_size s.heap rfl) hb).here (q _ kp)
theorem ps_try_clausesT (hs : X.stack = X.env :: X.outer) (hf : X.env.frame = some X.env.locals) (hN : X.N.Nodup) (tk : Takes X Wout)
    (bd : ∀ (W : WX) (pn : List (Addr × Obj)) (xe : Value → Shared → Prop), Takes (X.tr pn xe) W → PSs (X.tr pn xe) body (tb W)) (cl : ClausesT X (hd0 :: hds) l) : PS X (.Try body (hd0 :: hds) [] [] pos) (fun D σ H => tb (wClausesT X.K Wout D l) D σ H) := by
  refine ⟨fun pins s σ H D I h => ?_⟩
  have ok := I.ok; have frm : X.A.frames = some (X.env :: X.outer) := ok.frames.trans (congrArg some hs)
  refine wpAny_Try_except (wpAny_mono ((bd (wClausesT X.K Wout D l) (X.pn ++ pins) (fun e s₁ => wpAny (model X.prog X.w) X.A (noteFrame e X.env) (fun _ s₂ => wpAny (model X.prog X.w) X.A (setFlight e none) (fun _ s₃ => wpAny (model X.prog X.w) X.A (handleBy e X.env (hd0 :: hds)) (SP X pins D) X.xe s₃) X.xe s₂) X.xe s₁) (fun u s' xx => ?_)).run [] s σ H D (I.toTry _) h) (fun f s1 hsp => ?_) (fun e s1 he => he))
  · obtain ⟨a, B, sI, pins', σ', H', cls, d, rfl, J', nb, up, sky, na, os, ag, wish⟩ := xx
    have J : Inv X pins σ' H' sI := J'.ofTry ok; rw [hs] at sky
    show wpAny (model X.prog X.w) X.A (noteFrame (.ref a) X.env) _ _ _
    refine Sky.land Zc.steady frm hf sky fun h3 fl up3 => ?_
    have walk : ∀ {hds' : List ExceptHandler} {l' : List (List Value × Nat × Su)}, ClausesT X hds' l' → wClausesT X.K Wout D l' cls d σ' H' → ∀ h3, HandSPX.FlyingZ B (X.env :: X.outer) a (Zc cls d) h3 → s'.heap.UpToSlots h3 → wpAny (model X.prog X.w) X.A (handleBy (.ref a) X.env hds') (SP X pins D) X.xe { s' with heap := h3 } := by
      intro hds' l' hk
      induction hk with
      | nil =>
        intro wish h3 fl up3; refine wpAny_handleBy_nil ?_
        obtain ⟨k1, k2, k3, oe, vs, T, oT, ts', he, hz, hd, h1, hr⟩ := id fl; unfold PySem.passOn
        refine wpAny_bind (wpAny_field he hd h1 ?_); rw [if_neg (show ¬ ((Value.ref T == Value.none) = true) from fun z => by simp at z)]
        have fin : wpAny (model X.prog X.w) X.A (setFlight (.ref a) X.env.frame) (fun _ s4 => wpAny (model X.prog X.w) X.A (throw (.ref a) : Sem Flow) (SP X pins D) X.xe s4) X.xe { s' with heap := h3 } := by
          rw [hf]; refine HandSPX.setFlight_upZ fl fun h4 hh4 up4 => wpAny_throw (tk _ _ ⟨a, B, sI, pins, σ', H', cls, d, rfl, J, nb, (up.trans up3).trans up4, .inr (.inr ?_), na, os, ag, wish⟩); rw [hs]; exact hh4
        first | exact wpAny_bind (wpAny_pure (wpAny_bind fin)) | exact wpAny_bind fin
      | @cons t n cs i ts st suite hp hds2 l2 test slot loc body more ih =>
        intro wish h3 fl up3; obtain ⟨b, hb1, hyes, hno⟩ := wish
        have J3 : Inv X pins σ' H' { s' with heap := h3 } := J.landed nb fl.1 (up.trans up3) os ag; obtain ⟨oe3, vs3, he3, hz3, hd3⟩ := fl.there
        have outs : a ∉ frs (X.env :: X.outer) := fun hm => by
          obtain ⟨_, o', e', hnf⟩ := fl.2.2.1.mem hm; rw [he3] at e'; cases e'; exact hnf _ hd3
        have nL : a ≠ X.env.locals := fun z => outs (List.mem_filterMap.mpr ⟨X.env, List.mem_cons_self, hf.trans (congrArg some z.symm)⟩)
        have nF : a ∉ X.fs := fun hm => by
          obtain ⟨e, he, q⟩ := List.mem_filterMap.mp hm; exact outs (List.mem_filterMap.mpr ⟨e, List.mem_cons_of_mem _ he, q⟩)
        have S3 := J3.suite he3 hd3 na nL nF
        refine wpAny_handleBy_cons (codeAny_handlers_test (test_runs test S3 J3.kIn he3 hz3.1 hb1 fun h5 kp => ?_)) (by intro q; cases q)
        have fl := flyZ_keeps fl kp
        have up3 := up3.trans (Heap.UpToSlots.of_keeps kp)
        cases b with
        | true =>
          refine codeAny_handlers_suite_as (HandSPX.lands_againZ fl fun h4 fl4 up4 => ?_)
          have J4 : Inv X pins σ' H' { s' with heap := h4 } := J.landed nb fl4.1 ((up.trans up3).trans up4) os ag; obtain ⟨oe4, vs4, he4, hz4, hd4⟩ := fl4.there
          refine store_ok (X := X.suite a ((a, oe4) :: (X.pn ++ pins))) (v := .ref a) (J4.suite he4 hd4 na nL nF) hN slot (.inl loc) rfl (fun s5 S5 => ?_) (.inr loc)
          refine wpAny_mono ((body a oe4 cls d (X.pn ++ pins) hz4 ⟨_, hd4⟩).run [] s5 _ H' _ S5 (hyes rfl a na)) (fun f s6 hsp => ?_) (fun _ _ z => False.elim z)
          have goes : ∀ {σ6 : L2.St} {H6 : Hp} {Q : Shared → Prop}, Inv (X.suite a ((a, oe4) :: (X.pn ++ pins))) [] σ6 H6 s6 → (∀ s7, Inv X pins (σ6.set i none) H6 s7 → Q s7) → wpAny (model X.prog X.w) X.A (do bindName X.env n .none; unbindBehindTheSuite X.env n hp) (fun _ s7 => Q s7) X.xe s6 := fun {σ6 H6 Q} S6 hq => gone_ok (S6.unsuite ok) hN slot loc hq
          cases f with
          | next => obtain ⟨σ6, H6, S6, q6⟩ := hsp; exact goes S6 fun s7 J7 => ⟨_, _, J7, q6⟩
          | brk => obtain ⟨σ6, H6, S6, q6⟩ := hsp; exact goes S6 fun s7 J7 => ⟨_, _, J7, q6⟩
          | cont => obtain ⟨σ6, H6, S6, q6⟩ := hsp; exact goes S6 fun s7 J7 => ⟨_, _, J7, q6⟩
          | ret u => obtain ⟨v6, σ6, H6, S6, r6, q6⟩ := hsp; exact goes S6 fun s7 J7 => ⟨_, _, _, J7, r6, q6⟩
        | false =>
          show wpAny _ X.A (handleBy (.ref a) X.env hds2) _ _ _
          exact ih (hno rfl) h5 fl up3
      | @cons0 t cs i ts st suite hp hds2 l2 test out body more ih =>
        intro wish h3 fl up3; obtain ⟨b, hb1, hyes, hno⟩ := wish
        have J3 : Inv X pins σ' H' { s' with heap := h3 } := J.landed nb fl.1 (up.trans up3) os ag; obtain ⟨oe3, vs3, he3, hz3, hd3⟩ := fl.there
        have outs : a ∉ frs (X.env :: X.outer) := fun hm => by
          obtain ⟨_, o', e', hnf⟩ := fl.2.2.1.mem hm; rw [he3] at e'; cases e'; exact hnf _ hd3
        have nL : a ≠ X.env.locals := fun z => outs (List.mem_filterMap.mpr ⟨X.env, List.mem_cons_self, hf.trans (congrArg some z.symm)⟩)
        have nF : a ∉ X.fs := fun hm => by
          obtain ⟨e, he, q⟩ := List.mem_filterMap.mp hm; exact outs (List.mem_filterMap.mpr ⟨e, List.mem_cons_of_mem _ he, q⟩)
        have S3 := J3.suite he3 hd3 na nL nF
        refine wpAny_handleBy_cons (codeAny_handlers_test (test_runs test S3 J3.kIn he3 hz3.1 hb1 fun h5 kp => ?_)) (by intro q; cases q)
        have fl := flyZ_keeps fl kp
        have up3 := up3.trans (Heap.UpToSlots.of_keeps kp)
        cases b with
        | true =>
          refine codeAny_handlers_suite (HandSPX.lands_againZ fl fun h4 fl4 up4 => ?_)
          have J4 : Inv X pins σ' H' { s' with heap := h4 } := J.landed nb fl4.1 ((up.trans up3).trans up4) os ag; obtain ⟨oe4, vs4, he4, hz4, hd4⟩ := fl4.there
          have S4 := J4.suite he4 hd4 na nL nF
          have idle : ∀ {v : Option V}, σ'.set i v = σ' := List.set_eq_of_length_le (by rw [J4.len]; exact out)
          have run := hyes rfl a na
          rw [idle] at run
          refine wpAny_mono ((body a oe4 cls d (X.pn ++ pins) hz4 ⟨_, hd4⟩).run [] _ _ H' _ S4 run) (fun f s6 hsp => ?_) (fun _ _ z => False.elim z)
          have still : ∀ {σ6 : L2.St} {H6 : Hp}, Inv X pins σ6 H6 s6 → σ6.set i none = σ6 := fun {σ6 H6} I6 => List.set_eq_of_length_le (by rw [I6.len]; exact out)
          cases f with
          | next => obtain ⟨σ6, H6, S6, q6⟩ := hsp; have I6 := S6.unsuite ok; exact ⟨_, _, I6, by have q : D.nx (σ6.set i none) H6 := q6; rw [still I6] at q; exact q⟩
          | brk => obtain ⟨σ6, H6, S6, q6⟩ := hsp; have I6 := S6.unsuite ok; exact ⟨_, _, I6, by have q : D.bk (σ6.set i none) H6 := q6; rw [still I6] at q; exact q⟩
          | cont => obtain ⟨σ6, H6, S6, q6⟩ := hsp; have I6 := S6.unsuite ok; exact ⟨_, _, I6, by have q : D.ct (σ6.set i none) H6 := q6; rw [still I6] at q; exact q⟩
          | ret u => obtain ⟨v6, σ6, H6, S6, r6, q6⟩ := hsp; exact ⟨_, _, _, S6.unsuite ok, r6, q6⟩
        | false =>
          show wpAny _ X.A (handleBy (.ref a) X.env hds2) _ _ _
          exact ih (hno rfl) h5 fl up3
    exact walk cl wish h3 fl up3
  · cases f with
    | next => obtain ⟨σ', H', J', q⟩ := hsp; exact wpAny_execs_nil ⟨σ', H', J'.ofTry ok, q⟩
    | brk => obtain ⟨σ', H', J', q⟩ := hsp; exact ⟨σ', H', J'.ofTry ok, q⟩
    | cont => obtain ⟨σ', H', J', q⟩ := hsp; exact ⟨σ', H', J'.ofTry ok, q⟩
    | ret u => obtain ⟨v, σ', H', J', r, q⟩ := hsp; exact ⟨v, σ', H', J'.ofTry ok, r, q⟩
end
end WD
/-! PM23a: the Hook that tells code objects and tables of those that make lambdas -/
namespace PM
open PySem PySem.Spec PyProof.Rows L2
open WD (MS upd_none)
def codeOf (K : PySem.W.Frag) (f : Addr) : Value := match K.lookup f with
  | some ⟨_, _, .func fd, _⟩ => fd.code
  | _ => .none
def codeA (K : PySem.W.Frag) (f : Addr) : Addr := match codeOf K f with
  | .ref c => c
  | _ => 0
def tabA (K : PySem.W.Frag) (c : Addr) : Addr := match K.lookup c with
  | some ⟨_, _, .fields vs, _⟩ => (match (vs[11]? : Option Value) with
    | some (.ref P) => P
    | _ => 0)
  | _ => 0
abbrev cdA (K : PySem.W.Frag) (x : Str) : Addr := codeA K (He.ga K x)
abbrev tbA (K : PySem.W.Frag) (x : Str) : Addr := tabA K (cdA K x)
def tabsOf (K : PySem.W.Frag) (mk : List Str) : List (Addr × Str) := mk.map fun x => (tbA K x, (x ++ ".<locals>.") ++ "<lambda>")
def codB (K : PySem.W.Frag) (c P : Addr) : Bool := match K.lookup c with
  | some ⟨.type t, _, .fields vs, _⟩ => decide (t = "code") && ((match (vs[11]? : Option Value) with
    | some (.ref p) => decide (p = P)
    | _ => false) && ((match vs.getD 18 .none with
    | .str _ _ => true
    | _ => false) && ((match vs.getD 7 .none with
    | .int _ _ => true
    | _ => false) && ((match vs.getD 9 .none with
    | .bool _ => true
    | _ => false) && ((match vs.getD 10 .none with
    | .int _ _ => true
    | _ => false) && !decide (c = P))))))
  | _ => false
theorem codB_ok {K : PySem.W.Frag} {h : Heap} {c P : Addr} (X : K.In h) (e : codB K c P = true) : PySem.W.CodeHd h c P := by
  unfold codB at e
  split at e
  case h_2 => cases e
  rename_i t od vs sl lk
  obtain ⟨e1, e⟩ := He.ba e
  obtain ⟨e2, e⟩ := He.ba e
  obtain ⟨e3, e⟩ := He.ba e
  obtain ⟨e4, e⟩ := He.ba e
  obtain ⟨e5, e⟩ := He.ba e
  obtain ⟨e6, e7⟩ := He.ba e
  have h1 := X _ _ lk
  split at e2
  case h_2 => cases e2
  rename_i p hp
  split at e3
  case h_2 => cases e3
  rename_i f1 f2 hf
  split at e4
  case h_2 => cases e4
  rename_i g1 g2 hg
  split at e5
  case h_2 => cases e5
  rename_i b1 hb
  split at e6
  case h_2 => cases e6
  rename_i i1 i2 hi
  have ep : p = P := of_decide_eq_true e2
  subst ep
  refine ⟨_, vs, f1, f2, g1, g2, b1, i1, i2, h1, by rw [of_decide_eq_true e1], rfl, hp, ?_, hf, hg, hb, hi, fun z => by rw [z] at e7; simp at e7⟩
  rw [Array.getD_eq_getD_getElem?, hp]
  rfl
def eTab : Option Obj → Bool
  | some ⟨.none, none, .fields vs, sl⟩ => decide (vs.size = 0) && decide (sl.size = 0)
  | _ => false
/-- one that makes lambdas: its code object, its table, which is empty -/
structure TabK (K : PySem.W.Frag) (h : Heap) (x : Str) : Prop where
  code : codeOf K (He.ga K x) = .ref (cdA K x)
  hd : PySem.W.CodeHd h (cdA K x) (tbA K x)
  tab : h.get? (tbA K x) = some { cls := .none, data := .fields #[] }
  no : K.lookup (tbA K x) = none
def isRef : Value → Bool
  | .ref _ => true
  | _ => false
theorem eTab_ok {x : Option Obj} (h : eTab x = true) : x = some { cls := .none, data := .fields #[] } := by
  unfold eTab at h
  split at h
  case h_2 => cases h
  rename_i vs sl
  obtain ⟨h1, h2⟩ := He.ba h
  rw [Array.eq_empty_of_size_eq_zero (of_decide_eq_true h1), Array.eq_empty_of_size_eq_zero (of_decide_eq_true h2)]
def tabB (g : Addr → Option Obj) (K : PySem.W.Frag) (x : Str) : Bool := isRef (codeOf K (He.ga K x)) && (codB K (cdA K x) (tbA K x) && (eTab (g (tbA K x)) && (K.lookup (tbA K x)).isNone))
theorem tabB_ok {K : PySem.W.Frag} {h : Heap} {x : Str} (X : K.In h) (e : tabB h.get? K x = true) : TabK K h x := by
  obtain ⟨e1, e⟩ := He.ba e
  obtain ⟨e2, e⟩ := He.ba e
  obtain ⟨e3, e4⟩ := He.ba e
  refine ⟨?_, codB_ok X e2, eTab_ok e3, Option.isNone_iff_eq_none.mp e4⟩
  unfold cdA codeA
  cases q : codeOf K (He.ga K x) with
  | ref c => rfl
  | _ => rw [q] at e1; cases e1
theorem TabK.keeps {K : PySem.W.Frag} {h h' : Heap} {x : Str} (t : TabK K h x) (k : ∀ b o, h.get? b = some o → h'.get? b = some o) : TabK K h' x := ⟨t.code, t.hd.keeps k, k _ _ t.tab, t.no⟩
def ndB (l : List Addr) : Bool := decide l.Nodup
structure SaysL (fa : List He.Fa) (fn : List He.DefD) (fx : List WD.Fx) (mk : List Str) (K : PySem.W.Frag) (h : Heap) : Prop where
  says : WD.SaysE fa fn fx K
  tabs : ∀ x ∈ mk, TabK K h x
  nd : ((tabsOf K mk).map Prod.fst).Nodup
def obsL (g : Addr → Option Obj) (fa : List He.Fa) (fn : List He.DefD) (fx : List WD.Fx) (mk : List Str) (K : PySem.W.Frag) : He.AlD := ((WD.obsE fa fn fx K).1 && ((mk.all fun x => tabB g K x) && ndB ((tabsOf K mk).map Prod.fst)), (WD.obsE fa fn fx K).2)
/-! the same Hook, the fragment's addresses told -/
def obsLA (as : List Addr) (fa : List He.Fa) (fn : List He.DefD) (fx : List WD.Fx) (mk : List Str) (g : Addr → Option Obj) : He.AlD := obsL g fa fn fx mk (He.frG g as)
def hookLA (as : List Addr) (fa : List He.Fa) (fn : List He.DefD) (fx : List WD.Fx) (mk : List Str) : PySem.W.Hook where
  α := He.AlD
  obs := fun s => obsLA as fa fn fx mk s.heap.get?
  val := fun _ => He.valD fn
  says := fun _ h => ∃ K : PySem.W.Frag, K.In h ∧ SaysL fa fn fx mk K h
  of := fun _ s e => by
    refine ⟨_, He.frG_in (as := as), ?_⟩
    have e1 : ((WD.obsE fa fn fx (He.frG s.heap.get? as)).1 && ((mk.all fun x => tabB s.heap.get? (He.frG s.heap.get? as) x) && ndB ((tabsOf (He.frG s.heap.get? as) mk).map Prod.fst))) = true := congrArg (fun z : He.AlD => z.1) e
    have e2 : (WD.obsE fa fn fx (He.frG s.heap.get? as)).2 = (He.valD fn).2 := by
      have e3 := congrArg (fun z : He.AlD => z.2) e
      exact e3
    obtain ⟨a1, a2⟩ := He.ba e1
    obtain ⟨a3, a4⟩ := He.ba a2
    exact ⟨Prod.ext a1 e2, fun x hx => tabB_ok He.frG_in (List.all_eq_true.mp a3 x hx), of_decide_eq_true a4⟩
  keeps := fun _ _ _ ⟨K, hK, c⟩ k => ⟨K, PySem.W.Frag.In.keeps hK k, ⟨c.says, fun x hx => (c.tabs x hx).keeps k, c.nd⟩⟩
theorem obsLA_eq {as : List Addr} {fa : List He.Fa} {fn : List He.DefD} {fx : List WD.Fx} {mk : List Str} {g : Addr → Option Obj} {s : Shared} (h : ∀ a, g a = s.heap.get? a) : obsLA as fa fn fx mk g = (hookLA as fa fn fx mk).obs s := by
  rw [show g = s.heap.get? from funext h]; rfl
end PM
namespace K31
open PySem PySem.Spec PyProof.Rows L2
def topS (i : Nat) : Stmt := PySem.Challenge.pw_wishdeeds_k31_relations_made.main.body.getD i (.Pass ⟨0, 0, 0, 0⟩)
abbrev s__law_draw : Stmt := topS 21
theorem sc__law_draw : FnScope ["_law_well_here", "_law_many", "_law_found", "_law_number"] ["_law_well_here", "_law_many"] (defScope s__law_draw) := ⟨rfl, rfl, rfl, by decide +kernel, rfl, by decide +kernel, by decide +kernel⟩
abbrev s__law_relation : Stmt := topS 26
theorem sc__law_relation : FnScope ["_law_well_here", "_law_size", "_law_wide", "_law_many", "_law_rows", "_law_j", "_law_k"] ["_law_well_here", "_law_size", "_law_wide", "_law_many"] (defScope s__law_relation) := ⟨rfl, rfl, rfl, by decide +kernel, rfl, by decide +kernel, by decide +kernel⟩
abbrev s_NoLot_init : Stmt := inClass (topS 3) 0
theorem sc_NoLot_init : FnScope ["self", "at"] ["self", "at"] (defScope s_NoLot_init) := ⟨rfl, rfl, rfl, by decide +kernel, rfl, by decide +kernel, by decide +kernel⟩
abbrev s_NoRow_init : Stmt := inClass (topS 2) 0
theorem sc_NoRow_init : FnScope ["self", "at"] ["self", "at"] (defScope s_NoRow_init) := ⟨rfl, rfl, rfl, by decide +kernel, rfl, by decide +kernel, by decide +kernel⟩
abbrev s_TooMany_init : Stmt := inClass (topS 5) 0
theorem sc_TooMany_init : FnScope ["self", "many"] ["self", "many"] (defScope s_TooMany_init) := ⟨rfl, rfl, rfl, by decide +kernel, rfl, by decide +kernel, by decide +kernel⟩
abbrev s__law_said : Stmt := topS 27
theorem sc__law_said : FnScope ["_law_ask", "e"] ["_law_ask"] (defScope s__law_said) := ⟨rfl, rfl, rfl, by decide +kernel, rfl, by decide +kernel, by decide +kernel⟩
abbrev s_is_whole : Stmt := topS 7
theorem sc_is_whole : FnScope ["thing"] ["thing"] (defScope s_is_whole) := ⟨rfl, rfl, rfl, by decide +kernel, rfl, by decide +kernel, by decide +kernel⟩
abbrev s_is_thing : Stmt := topS 8
theorem sc_is_thing : FnScope ["thing", "size"] ["thing", "size"] (defScope s_is_thing) := ⟨rfl, rfl, rfl, by decide +kernel, rfl, by decide +kernel, by decide +kernel⟩
abbrev s_is_row : Stmt := topS 9
theorem sc_is_row : FnScope ["row", "wide", "size", "one"] ["row", "wide", "size"] (defScope s_is_row) := ⟨rfl, rfl, rfl, by decide +kernel, rfl, by decide +kernel, by decide +kernel⟩
abbrev s_check_relation : Stmt := topS 14
theorem sc_check_relation : FnScope ["size", "relation", "wide", "lot", "at", "row"] ["size", "relation"] (defScope s_check_relation) := ⟨rfl, rfl, rfl, by decide +kernel, rfl, by decide +kernel, by decide +kernel⟩
abbrev s_beside : Stmt := topS 18
theorem sc_beside : FnScope ["size", "one", "other", "found", "row", "behind"] ["size", "one", "other"] (defScope s_beside) := ⟨rfl, rfl, rfl, by decide +kernel, rfl, by decide +kernel, by decide +kernel⟩
abbrev s__law_plain : Stmt := topS 28
theorem sc__law_plain : FnScope ["_law_found", "_law_numbers", "_law_row", "_law_one"] ["_law_found"] (defScope s__law_plain) := ⟨rfl, rfl, rfl, by decide +kernel, rfl, by decide +kernel, by decide +kernel⟩
abbrev s__law_told_right : Stmt := topS 29
theorem sc__law_told_right : FnScope ["_law_size", "_law_said_here", "_law_wide", "_law_rows"] ["_law_size", "_law_said_here", "_law_wide", "_law_rows"] (defScope s__law_told_right) := ⟨rfl, rfl, rfl, by decide +kernel, rfl, by decide +kernel, by decide +kernel⟩
abbrev s__law_beside_right : Stmt := topS 31
theorem sc__law_beside_right : FnScope ["_law_size", "_law_one", "_law_other", "_law_said_here", "_law_rows", "_law_row", "_law_behind"] ["_law_size", "_law_one", "_law_other"] (defScope s__law_beside_right) := ⟨rfl, rfl, rfl, by decide +kernel, rfl, by decide +kernel, by decide +kernel⟩
abbrev s_crossed : Stmt := topS 17
theorem sc_crossed : FnScope ["size", "one", "other", "known", "row"] ["size", "one", "other"] (defScope s_crossed) := ⟨rfl, rfl, rfl, by decide +kernel, rfl, by decide +kernel, by decide +kernel⟩
abbrev s__law_crossed_right : Stmt := topS 30
theorem sc__law_crossed_right : FnScope ["_law_size", "_law_one", "_law_other", "_law_said_here", "_law_row"] ["_law_size", "_law_one", "_law_other"] (defScope s__law_crossed_right) := ⟨rfl, rfl, rfl, by decide +kernel, rfl, by decide +kernel, by decide +kernel⟩
abbrev s_chosen : Stmt := topS 19
theorem sc_chosen : FnScope ["size", "relation", "places", "at", "place", "row"] ["size", "relation", "places"] (defScope s_chosen) := ⟨rfl, rfl, rfl, by decide +kernel, rfl, by decide +kernel, by decide +kernel⟩
abbrev s__law_chosen_right : Stmt := topS 32
theorem sc__law_chosen_right : FnScope ["_law_well_here", "_law_size", "_law_one", "_law_places", "_law_handed", "_law_said_here", "_law_rows", "_law_row", "_law_k", "_law_place"] ["_law_well_here", "_law_size", "_law_one"] (defScope s__law_chosen_right) := ⟨rfl, rfl, rfl, by decide +kernel, rfl, by decide +kernel, by decide +kernel⟩
abbrev s_equal_things : Stmt := topS 15
theorem sc_equal_things : FnScope ["size", "one"] ["size"] (defScope s_equal_things) := ⟨rfl, rfl, rfl, by decide +kernel, rfl, by decide +kernel, by decide +kernel⟩
abbrev s__law_all : Stmt := topS 23
theorem sc__law_all : FnScope ["_law_size", "_law_places", "_law_found", "_law_k", "_law_longer", "_law_row", "_law_thing"] ["_law_size", "_law_places"] (defScope s__law_all) := ⟨rfl, rfl, rfl, by decide +kernel, rfl, by decide +kernel, by decide +kernel⟩
abbrev s__law_worth : Stmt := topS 24
theorem sc__law_worth : FnScope ["_law_way", "_law_number", "_law_things", "_law_size", "_law_some"] ["_law_way", "_law_number", "_law_things", "_law_size"] (defScope s__law_worth) := ⟨rfl, rfl, rfl, by decide +kernel, rfl, by decide +kernel, by decide +kernel⟩
abbrev s__law_table : Stmt := topS 25
theorem sc__law_table : FnScope ["_law_well_here", "_law_size", "_law_places", "_law_way", "_law_number", "_law_rows", "_law_things"] ["_law_well_here", "_law_size", "_law_places"] (defScope s__law_table) := ⟨rfl, rfl, rfl, by decide +kernel, rfl, by decide +kernel, by decide +kernel⟩
abbrev s_things_at : Stmt := topS 10
theorem sc_things_at : FnScope ["spot", "places", "size", "found", "k"] ["spot", "places", "size"] (defScope s_things_at) := ⟨rfl, rfl, rfl, by decide +kernel, rfl, by decide +kernel, by decide +kernel⟩
abbrev s_graph : Stmt := topS 16
theorem sc_graph : FnScope ["size", "deed", "name", "places", "table", "spot", "one"] ["size", "deed"] (defScope s_graph) := ⟨rfl, rfl, rfl, by decide +kernel, rfl, by decide +kernel, by decide +kernel⟩
abbrev s__law_graph_right : Stmt := topS 33
theorem sc__law_graph_right : FnScope ["_law_well_here", "_law_size", "_law_places", "_law_table_here", "_law_rows", "_law_k", "_law_things"] ["_law_well_here"] (defScope s__law_graph_right) := ⟨rfl, rfl, rfl, by decide +kernel, rfl, by decide +kernel, by decide +kernel⟩
abbrev s__law_right : Stmt := topS 34
theorem sc__law_right : FnScope ["_law_well_here", "_law_way", "_law_size", "_law_some", "_law_one", "_law_other", "_law_handed", "_law_left", "_law_right_here", "_law_row", "_law_k"] ["_law_well_here"] (defScope s__law_right) := ⟨rfl, rfl, rfl, by decide +kernel, rfl, by decide +kernel, by decide +kernel⟩
abbrev s__law_well : Stmt := topS 22
theorem sc__law_well : FnScope ["_law_cell", "_law_k"] ["_law_cell", "_law_k"] (defScope s__law_well) := ⟨rfl, rfl, rfl, by decide +kernel, rfl, by decide +kernel, by decide +kernel⟩
abbrev s_law : Stmt := topS 35
theorem sc_law : FnScope ["_law_script", "_law_k", "_law_cell"] ["_law_script"] (defScope s_law) := ⟨rfl, rfl, rfl, by decide +kernel, rfl, by decide +kernel, by decide +kernel⟩
def d__law_draw : He.DefD := ⟨("_law_draw", none), "_law_draw", "_law_draw", defArgs s__law_draw, defBody s__law_draw, defScope s__law_draw, [], []⟩
def d__law_relation : He.DefD := ⟨("_law_relation", none), "_law_relation", "_law_relation", defArgs s__law_relation, defBody s__law_relation, defScope s__law_relation, [], []⟩
def d_NoLot_init : He.DefD := ⟨("NoLot", some "__init__"), "__init__", "NoLot.__init__", defArgs s_NoLot_init, defBody s_NoLot_init, defScope s_NoLot_init, [], []⟩
def d_NoRow_init : He.DefD := ⟨("NoRow", some "__init__"), "__init__", "NoRow.__init__", defArgs s_NoRow_init, defBody s_NoRow_init, defScope s_NoRow_init, [], []⟩
def d_TooMany_init : He.DefD := ⟨("TooMany", some "__init__"), "__init__", "TooMany.__init__", defArgs s_TooMany_init, defBody s_TooMany_init, defScope s_TooMany_init, [], []⟩
def d__law_said : He.DefD := ⟨("_law_said", none), "_law_said", "_law_said", defArgs s__law_said, defBody s__law_said, defScope s__law_said, [], []⟩
def d_is_whole : He.DefD := ⟨("is_whole", none), "is_whole", "is_whole", defArgs s_is_whole, defBody s_is_whole, defScope s_is_whole, [], []⟩
def d_is_thing : He.DefD := ⟨("is_thing", none), "is_thing", "is_thing", defArgs s_is_thing, defBody s_is_thing, defScope s_is_thing, [], []⟩
def d_is_row : He.DefD := ⟨("is_row", none), "is_row", "is_row", defArgs s_is_row, defBody s_is_row, defScope s_is_row, [], []⟩
def d_check_relation : He.DefD := ⟨("check_relation", none), "check_relation", "check_relation", defArgs s_check_relation, defBody s_check_relation, defScope s_check_relation, [], []⟩
def d_beside : He.DefD := ⟨("beside", none), "beside", "beside", defArgs s_beside, defBody s_beside, defScope s_beside, [], []⟩
def d__law_plain : He.DefD := ⟨("_law_plain", none), "_law_plain", "_law_plain", defArgs s__law_plain, defBody s__law_plain, defScope s__law_plain, [], []⟩
def d__law_told_right : He.DefD := ⟨("_law_told_right", none), "_law_told_right", "_law_told_right", defArgs s__law_told_right, defBody s__law_told_right, defScope s__law_told_right, [], []⟩
def d__law_beside_right : He.DefD := ⟨("_law_beside_right", none), "_law_beside_right", "_law_beside_right", defArgs s__law_beside_right, defBody s__law_beside_right, defScope s__law_beside_right, [], []⟩
def d_crossed : He.DefD := ⟨("crossed", none), "crossed", "crossed", defArgs s_crossed, defBody s_crossed, defScope s_crossed, [], []⟩
def d__law_crossed_right : He.DefD := ⟨("_law_crossed_right", none), "_law_crossed_right", "_law_crossed_right", defArgs s__law_crossed_right, defBody s__law_crossed_right, defScope s__law_crossed_right, [], []⟩
def d_chosen : He.DefD := ⟨("chosen", none), "chosen", "chosen", defArgs s_chosen, defBody s_chosen, defScope s_chosen, [], []⟩
def d__law_chosen_right : He.DefD := ⟨("_law_chosen_right", none), "_law_chosen_right", "_law_chosen_right", defArgs s__law_chosen_right, defBody s__law_chosen_right, defScope s__law_chosen_right, [], []⟩
def d_equal_things : He.DefD := ⟨("equal_things", none), "equal_things", "equal_things", defArgs s_equal_things, defBody s_equal_things, defScope s_equal_things, [], []⟩
def d__law_all : He.DefD := ⟨("_law_all", none), "_law_all", "_law_all", defArgs s__law_all, defBody s__law_all, defScope s__law_all, [], []⟩
def d__law_worth : He.DefD := ⟨("_law_worth", none), "_law_worth", "_law_worth", defArgs s__law_worth, defBody s__law_worth, defScope s__law_worth, [], []⟩
def d__law_table : He.DefD := ⟨("_law_table", none), "_law_table", "_law_table", defArgs s__law_table, defBody s__law_table, defScope s__law_table, [], []⟩
def d_things_at : He.DefD := ⟨("things_at", none), "things_at", "things_at", defArgs s_things_at, defBody s_things_at, defScope s_things_at, [], []⟩
def d_graph : He.DefD := ⟨("graph", none), "graph", "graph", defArgs s_graph, defBody s_graph, defScope s_graph, [], []⟩
def d__law_graph_right : He.DefD := ⟨("_law_graph_right", none), "_law_graph_right", "_law_graph_right", defArgs s__law_graph_right, defBody s__law_graph_right, defScope s__law_graph_right, [], []⟩
def d__law_right : He.DefD := ⟨("_law_right", none), "_law_right", "_law_right", defArgs s__law_right, defBody s__law_right, defScope s__law_right, [], []⟩
def d__law_well : He.DefD := ⟨("_law_well", none), "_law_well", "_law_well", defArgs s__law_well, defBody s__law_well, defScope s__law_well, [], []⟩
def d_law : He.DefD := ⟨("law", none), "law", "law", defArgs s_law, defBody s_law, defScope s_law, [], []⟩
abbrev mks : List Str := ["_law_beside_right", "_law_crossed_right", "_law_chosen_right", "_law_right", "_law_graph_right"]
def fn : List He.DefD := [d__law_draw, d__law_relation, d_NoLot_init, d_NoRow_init, d_TooMany_init, d__law_said, d_is_whole, d_is_thing, d_is_row, d_check_relation, d_beside, d__law_plain, d__law_told_right, d__law_beside_right, d_crossed, d__law_crossed_right, d_chosen, d__law_chosen_right, d_equal_things, d__law_all, d__law_worth, d__law_table, d_things_at, d_graph, d__law_graph_right, d__law_right, d__law_well, d_law]
def fa : List He.Fa := [.int "MOST_IN_LOT" 400, .int "MOST_WIDE" 12, .free "all", .free "bool", .free "dict", .free "enumerate", .free "int", .free "isinstance", .free "len", .free "list", .free "max", .free "min", .free "range", .free "set", .free "sorted", .free "sum", .free "tuple", .glo "NoFit", .glo "NoLot", .glo "NoRow", .glo "TooMany", .glo "WishError", .glo "_law_said", .glo "_law_draw", .glo "_law_relation", .glo "is_whole", .glo "is_thing", .glo "is_row", .glo "check_relation", .glo "beside", .glo "_law_plain", .glo "_law_told_right", .glo "_law_beside_right", .glo "crossed", .glo "_law_crossed_right", .glo "chosen", .glo "_law_chosen_right", .glo "equal_things", .glo "_law_all", .glo "_law_worth", .glo "_law_table", .glo "things_at", .glo "graph", .glo "_law_graph_right", .glo "_law_right", .glo "_law_well", .glo "law", .exc "NoFit", .exm "NoFit" "NoFit" true, .exm "NoFit" "NoLot" false, .exm "NoFit" "NoRow" false, .exm "NoFit" "TooMany" false, .exm "NoFit" "WishError" true, .exm "NoLot" "NoFit" false, .exm "NoLot" "NoLot" true, .exm "NoLot" "NoRow" false, .exm "NoLot" "TooMany" false, .exm "NoLot" "WishError" true, .exm "NoRow" "NoFit" false, .exm "NoRow" "NoLot" false, .exm "NoRow" "NoRow" true, .exm "NoRow" "TooMany" false, .exm "NoRow" "WishError" true, .exm "TooMany" "NoFit" false, .exm "TooMany" "NoLot" false, .exm "TooMany" "NoRow" false, .exm "TooMany" "TooMany" true, .exm "TooMany" "WishError" true]
def fx : List WD.Fx := [.oex "NoLot", .ini "NoLot", .noa "NoLot" "at", .exd "NoLot", .oex "NoRow", .ini "NoRow", .noa "NoRow" "at", .exd "NoRow", .oex "TooMany", .ini "TooMany", .noa "TooMany" "many", .exd "TooMany", .par "WishError", .exd "NoFit", .kit "NoFit" "NoFit" true, .kit "NoFit" "NoLot" false, .kit "NoFit" "NoRow" false, .kit "NoFit" "TooMany" false, .kit "NoFit" "WishError" true, .kiv "NoFit" "ValueError" true, .kit "NoLot" "NoFit" false, .kit "NoLot" "NoLot" true, .kit "NoLot" "NoRow" false, .kit "NoLot" "TooMany" false, .kit "NoLot" "WishError" true, .kiv "NoLot" "ValueError" true, .kit "NoRow" "NoFit" false, .kit "NoRow" "NoLot" false, .kit "NoRow" "NoRow" true, .kit "NoRow" "TooMany" false, .kit "NoRow" "WishError" true, .kiv "NoRow" "ValueError" true, .kit "TooMany" "NoFit" false, .kit "TooMany" "NoLot" false, .kit "TooMany" "NoRow" false, .kit "TooMany" "TooMany" true, .kit "TooMany" "WishError" true, .kiv "TooMany" "ValueError" true]
abbrev RowR : PySem.W.OpenRow := PySem.W.OpenLaw.row PySem.Challenge.rw_wishdeeds_k31_relations_made
def adr : List Addr := ([3, 2, 6, 4, 24, 44, 63, 75, 94, 103, 110, 115, 122, 129, 134, 139, 144, 149, 154, 161, 168, 173, 180, 185, 190, 197, 202, 209, 214, 219] : List Addr) ++ ([224, 229, 234, 241, 0, 23, 43, 62, 74, 93, 102, 109, 114, 121, 128, 133, 138, 143, 148, 153, 160, 167, 172, 179, 184, 189, 196, 201, 208, 213] : List Addr) ++ ([218, 223, 228, 233, 240, 22, 25, 41, 42, 60, 61, 73, 91, 92, 97, 99, 100, 101, 104, 106, 107, 108, 111, 113, 116, 118, 119, 120, 123, 125] : List Addr) ++ ([126, 127, 130, 132, 135, 137, 140, 142, 145, 147, 150, 152, 155, 157, 158, 159, 162, 164, 165, 166, 169, 171, 174, 176, 177, 178, 181, 183, 186, 188] : List Addr) ++ ([191, 193, 194, 195, 198, 200, 203, 205, 206, 207, 210, 212, 215, 217, 220, 222, 225, 227, 230, 232, 235, 237, 238, 239, 40, 59, 90, 35, 37, 38] : List Addr) ++ ([39, 54, 56, 57, 58, 85, 87, 88, 89] : List Addr)
abbrev hk : PySem.W.Hook := PM.hookLA adr fa fn fx mks
def ob (s : PySem.W.SharedT) : He.AlD   := PM.obsLA adr fa fn fx mks (HandSHeadRun.getT s)
theorem ob_eq (s : PySem.W.SharedT) : ob s = hk.obs s.abs := PM.obsLA_eq (HandSHeadRun.getT_eq s)
def loose : List PySem.Str := (["WishError", "NoRow", "NoLot", "NoFit", "TooMany", "is_whole", "is_thing", "is_row", "things_at", "MOST_WIDE", "MOST_IN_LOT", "check_relation", "equal_things", "graph", "crossed", "beside", "chosen", "_law_draw", "_law_well", "_law_all", "_law_worth", "_law_table", "_law_relation", "_law_said", "_law_plain", "_law_told_right", "_law_crossed_right", "_law_beside_right", "_law_chosen_right", "_law_graph_right"] : List PySem.Str) ++ (["_law_right"] : List PySem.Str)
theorem map3 {α β γ δ : Type} {o : Option α} {f : α → β} {g : α → γ} {h : α → δ} {a : β} {b : γ} {c : δ} (x : o.map f = some a) (y : o.map g = some b) (z : o.map h = some c) : o.map (fun s => (f s, g s, h s)) = some (a, b, c) := by
  cases o with
  | none => cases x
  | some s =>
    have x := Option.some.inj x
    have y := Option.some.inj y
    have z := Option.some.inj z
    show some (f s, g s, h s) = _
    rw [x, y, z]
section
open PySem.W HandSHeadRun
theorem run_a (w : World) (os : OsState) : (endF (stepQ (denQ tabQ) RowR.prog w) 6000 RowR.prog w os).map (fun s => looksF RowR.prog (boot_heap w.params) s.abs) = some true := by kernel_rfl
theorem run_b (w : World) (os : OsState) : (endF (stepQ (denQ tabQ) RowR.prog w) 6000 RowR.prog w os).map (fun s => seenQ (PySem.W.view RowR.prog [35]) loose (importedModules RowR.prog.main.body) (fun s => xlAt (PySem.W.view RowR.prog [35]) [] s && recOk RowR.toRowW.records s) s.abs) = some (openGood (PySem.W.view RowR.prog [35]) loose) := by kernel_rfl
theorem run_c (w : World) (os : OsState) : (endF (stepQ (denQ tabQ) RowR.prog w) 6000 RowR.prog w os).map (fun s => ob s) = some (hk.val w) := by kernel_rfl
end
theorem run (w : World) : HandSHeadRun.RunEq RowR (PySem.W.view RowR.prog [35]) hk ob 6000 loose w := fun os => map3 (run_a w os) (run_b w os) (run_c w os)
end K31
/-! PM: a machine over plain values, and what holds of the model's heap when it runs -/
namespace PM
open PySem PySem.Spec PyProof.Rows L2
open WD (MS upd_none)

/-- the fragment, with the tables of the code objects of those that make lambdas -/
structure KT where
  fr : PySem.W.Frag
  tb : List (Addr × Str)
instance : Coe KT PySem.W.Frag := ⟨KT.fr⟩
def isTb : HO → Bool
  | .tbl _ => true
  | _ => false
/-- no table, or none is to change -/
abbrev nt (T : List (Addr × Str)) (o : HO) : Prop := (isTb o && !T.isEmpty) = false
theorem nt_ne {o : HO} (h : isTb o = false) (ps : Array Value) : o ≠ .tbl ps := fun z => by rw [z] at h; cases h
theorem nt_nil {o : HO} : nt [] o := Bool.and_false _
/-- nothing that lasts -/
def nn (T : List (Addr × Str)) (x : Option HO) : Prop := ∀ o, x = some o → ¬ nt T o
theorem nn_none {T : List (Addr × Str)} {x : Option HO} (h : x = none) : nn T x := fun o e => by rw [h] at e; cases e
theorem nnn {T : List (Addr × Str)} {x : Option HO} {o : HO} (h : x = some o) (n : nt T o := by rfl) : ¬ nn T x := fun z => z o h n
def isX : HO → Bool
  | .ext _ => true
  | .tup _ => true
  | _ => false
/-- something of the program's own -/
def Ob (x : Option HO) : Prop := ∃ o, x = some o ∧ isTb o = false ∧ isX o = false
theorem nt_of {T : List (Addr × Str)} {o : HO} (h : isTb o = false) : nt T o := by show (isTb o && _) = false; rw [h]; rfl
theorem Ob.nn {T : List (Addr × Str)} {x : Option HO} (h : Ob x) : ¬ nn T x := fun z => let ⟨o, e, n, _⟩ := h; z o e (nt_of n)
theorem Ob.ne {x : Option HO} (h : Ob x) : x ≠ none := fun z => by obtain ⟨o, e, _⟩ := h; rw [z] at e; cases e
structure Fr (T : List (Addr × Str)) (M : MS) (H H' : Hp) : Prop where
  keep : ∀ a o, nt T o → ¬ M a → H a = some o → H' a = some o
  dom : ∀ a, nn T (H' a) → nn T (H a)
theorem Fr.refl {T : List (Addr × Str)} {M : MS} (H : Hp) : Fr T M H H := ⟨fun _ _ _ _ h => h, fun _ h => h⟩
theorem Fr.new {T : List (Addr × Str)} {M : MS} {H : Hp} {p : Addr} {o : HO} (h : H p = none) : Fr T M H (upd H p o) := ⟨fun a u _ _ e => by rw [upd_ne (ne_of_none e h)]; exact e, fun a z u e n => z u (by rw [upd_ne (ne_of_none e h)]; exact e) n⟩
theorem Fr.mut {T : List (Addr × Str)} {M : MS} {H : Hp} {p : Addr} {o : HO} (h : M p) (no : isTb o = false) : Fr T M H (upd H p o) := ⟨fun a u _ n e => by rw [upd_ne fun z => n (by rw [z]; exact h)]; exact e, fun a z u e n => by
  by_cases q : a = p
  · rw [q] at z; exact z o upd_same (nt_of no)
  · exact z u (by rw [upd_ne q]; exact e) n⟩
theorem Fr.mutNew {T : List (Addr × Str)} {M : MS} {H H1 : Hp} {D : Addr} {o : HO} (f : Fr T M H H1) (h : nn T (H D)) : Fr T M H (upd H1 D o) := by
  have ne : ∀ a u, nt T u → H a = some u → a ≠ D := fun a u t e z => h u (by rw [← z]; exact e) t
  refine ⟨fun a u t n e => by rw [upd_ne (ne a u t e)]; exact f.keep a u t n e, fun a z u e n => ?_⟩
  refine f.dom a (fun u' e' n' => ?_) u e n
  exact z u' (by rw [upd_ne (ne a u n e)]; exact e') n'
/-- the tables stay where something else is changed -/
theorem tabs_mut {T : List (Addr × Str)} {H : Hp} {a : Addr} {o o' : HO} (h : H a = some o) (n : isTb o = false) (x : isX o = false) (t : LamX.Tabs T H) : LamX.Tabs T (upd H a o') := fun p hp => by
  obtain ⟨ps, h1, h2, h3⟩ := t p hp
  refine ⟨ps, ?_, h2, fun pos cv hc => ?_⟩
  · rw [upd_ne fun z => nt_ne n ps (Option.some.inj (h.symm.trans (by rw [← z]; exact h1)))]
    exact h1
  · obtain ⟨c, e1, e2⟩ := h3 pos cv hc
    refine ⟨c, e1, ?_⟩
    rw [upd_ne fun z => by rw [z, h] at e2; rw [Option.some.inj e2] at x; cases x]
    exact e2
/-- a datum: a tree without names -/
inductive PV where
  | non
  | bl (b : Bool)
  | int (i : Int)
  | str (x : Str)
  | tup (xs : List PV)
  | lst (xs : List PV)
  | ktp (xs : List PV)
  | dic (b : Bool) (ks vs : List PV)
  | obj (C : Str) (ns : List Str) (vs : List PV)
/-- a part of what holds others: a datum, or a thing that changes (by its number) -/
inductive Fl where
  | t (d : PV)
  | c (k : Nat)
/-- what holds others: a tuple, an instance of an own class -/
inductive Gd where
  | tup
  | two
  | ob (C : Str) (ns : List Str)
/-- a thing that changes -/
inductive Cell where
  | lst (xs : List PV)
  | dic (b : Bool) (ks vs : List PV)
  | ob (C : Str) (ns : List Str) (fs : List Fl)
abbrev Store := List (Option Cell)
/-- what a name holds: a datum, a thing that changes (by its number), a caught exception, the script, what holds things that change, an instance in the making -/
inductive Val where
  | t (d : PV)
  | c (k : Nat)
  | x (cls : Str) (f : Option (Str × PV))
  | s (ns : List Int)
  | g (h : Gd) (fs : List Fl)
  | self
  | lam (L : Addr × Addr × Str × L2.St) (fs : List (Option Fl))
inductive R (α : Type) where
  | ok (a : α) (μ : Store)
  | ex (c : Str) (f : Option (Str × PV)) (μ : Store)
  | stuck
abbrev Sl := List (Option Val)
abbrev ME := Sl → Store → R Val
inductive RS where
  | nx (σ : Sl) (μ : Store)
  | rt (w : Val) (μ : Store)
  | bk (σ : Sl) (μ : Store)
  | ct (σ : Sl) (μ : Store)
  | ex (c : Str) (f : Option (Str × PV)) (σ : Sl) (μ : Store)
  | stuck
abbrev MSt := Sl → Store → RS

/-! ### a datum in the heap -/
def kPV : Key → PV
  | .inl i => .int i
  | .inr x => .str x
def kOk : Key → Prop
  | .inl _ => True
  | .inr x => PyData.strOk x = true
def DicR (b : Bool) (H : Hp) (a : Addr) (ks : List PV) (vs : List V) : Prop := match b with
  | false => ∃ kl : List Key, ks = kl.map kPV ∧ kl.length = vs.length ∧ (∀ k ∈ kl, kOk k) ∧ H a = some (.dK (kl.zip vs))
  | true => ∃ kl : List (List Key), ks = kl.map (fun k => PV.tup (k.map kPV)) ∧ kl.length = vs.length ∧ (∀ k ∈ kl, ∀ z ∈ k, kOk z) ∧ H a = some (.dT (kl.zip vs))
theorem DicR.has {b : Bool} {H : Hp} {a : Addr} {ks : List PV} {vs : List V} (h : DicR b H a ks vs) : ∃ o, H a = some o := by
  cases b <;> obtain ⟨_, _, _, _, h⟩ := h <;> exact ⟨_, h⟩
theorem DicR.ob {b : Bool} {H : Hp} {a : Addr} {ks : List PV} {vs : List V} (h : DicR b H a ks vs) : Ob (H a) := by
  cases b <;> obtain ⟨_, _, _, _, h⟩ := h <;> exact ⟨_, h, rfl, rfl⟩
theorem DicR.to {T : List (Addr × Str)} {b : Bool} {H H' : Hp} {a : Addr} {ks : List PV} {vs : List V} (h : DicR b H a ks vs) (k : ∀ o, nt T o → H a = some o → H' a = some o) : DicR b H' a ks vs := by
  cases b <;> obtain ⟨kl, h1, h2, h3, h4⟩ := h <;> exact ⟨kl, h1, h2, h3, k _ rfl h4⟩
theorem DicR.len {b : Bool} {H : Hp} {a : Addr} {ks : List PV} {vs : List V} (h : DicR b H a ks vs) : ks.length = vs.length := by
  cases b <;> obtain ⟨kl, h1, h2, h3, h4⟩ := h <;> rw [h1, List.length_map, h2]
/-- a tuple whose one object is known: it has no dict of its own -/
def KtR (K : KT) (M : MS) (H : Hp) (a : Addr) (vs : List V) : Prop :=
  (¬ M a ∧ ∃ o : Obj, H a = some (.frz o (.tup vs)) ∧ o.dict = none) ∨
    ∃ (o : Obj) (its : Array Value) (n : Nat), K.fr.lookup a = some o ∧ o.cls = .type "tuple" ∧ o.dict = none ∧ o.data = .seq its n ∧ its.size ≤ sizeLine ∧ Vals vs its.toList
theorem KtR.sq {K : KT} {M : MS} {H : Hp} {a : Addr} {vs : List V} (h : KtR K M H a vs) : SqT K.fr H a vs := by
  rcases h with ⟨_, o, h, _⟩ | ⟨o, its, n, h1, h2, _, h3, h4, h5⟩
  · exact .inl (.inr ⟨o, h⟩)
  · exact .inr ⟨o, its, n, h1, h2, h3, h4, h5⟩
theorem KtR.st {K : KT} {M M' : MS} {H H' : Hp} {a : Addr} {vs : List V} (na : ∀ a, ¬ M a → ¬ nn K.tb (H a) → ¬ M' a) (f : ∀ a o, nt K.tb o → ¬ M a → H a = some o → H' a = some o) (h : KtR K M H a vs) : KtR K M' H' a vs := by
  rcases h with ⟨n, o, h, d⟩ | h
  · exact .inl ⟨na a n (nnn h), o, f a _ rfl n h, d⟩
  · exact .inr h
mutual
def rv (K : KT) (M : MS) (H : Hp) : V → PV → Prop
  | v, .non => v = .non
  | v, .bl b => v = .bl b
  | v, .int i => v = .int i
  | v, .str x => v = .str x ∧ PyData.strOk x = true
  | v, .tup l => ∃ a vs, v = .ref a ∧ ¬ M a ∧ H a = some (.tup vs) ∧ rvs K M H vs l
  | v, .lst l => ∃ a vs, v = .ref a ∧ ¬ M a ∧ H a = some (.lst vs) ∧ rvs K M H vs l
  | v, .ktp l => ∃ a vs, v = .ref a ∧ KtR K M H a vs ∧ rvs K M H vs l
  | v, .dic b ks l => ∃ a vs, v = .ref a ∧ ¬ M a ∧ DicR b H a ks vs ∧ rvs K M H vs l
  | v, .obj C ns l => ∃ a dx vs, v = .ref a ∧ ¬ M a ∧ ¬ M dx ∧ H a = some (.ins (He.ga K C) dx (ns.zip vs)) ∧ H dx = some (.own a) ∧ vs.length = ns.length ∧ rvs K M H vs l
def rvs (K : KT) (M : MS) (H : Hp) : List V → List PV → Prop
  | [], [] => True
  | v :: vs, d :: ds => rv K M H v d ∧ rvs K M H vs ds
  | _, _ => False
end
section
variable {K : KT} {M M' : MS} {H H' : Hp} {v : V} {vs : List V}
theorem rv_non : rv K M H v .non ↔ v = .non := by unfold rv; exact Iff.rfl
theorem rv_bl {b : Bool} : rv K M H v (.bl b) ↔ v = .bl b := by unfold rv; exact Iff.rfl
theorem rv_int {i : Int} : rv K M H v (.int i) ↔ v = .int i := by unfold rv; exact Iff.rfl
theorem rv_str {x : Str} : rv K M H v (.str x) ↔ v = .str x ∧ PyData.strOk x = true := by unfold rv; exact Iff.rfl
theorem rv_tup {l : List PV} : rv K M H v (.tup l) ↔ ∃ a vs, v = .ref a ∧ ¬ M a ∧ H a = some (.tup vs) ∧ rvs K M H vs l := by rw [rv]
theorem rv_lst {l : List PV} : rv K M H v (.lst l) ↔ ∃ a vs, v = .ref a ∧ ¬ M a ∧ H a = some (.lst vs) ∧ rvs K M H vs l := by rw [rv]
theorem rv_ktp {l : List PV} : rv K M H v (.ktp l) ↔ ∃ a vs, v = .ref a ∧ KtR K M H a vs ∧ rvs K M H vs l := by rw [rv]
theorem rv_dic {b : Bool} {ks l : List PV} : rv K M H v (.dic b ks l) ↔ ∃ a vs, v = .ref a ∧ ¬ M a ∧ DicR b H a ks vs ∧ rvs K M H vs l := by rw [rv]
theorem rv_obj {C : Str} {ns : List Str} {l : List PV} : rv K M H v (.obj C ns l) ↔ ∃ a dx vs, v = .ref a ∧ ¬ M a ∧ ¬ M dx ∧ H a = some (.ins (He.ga K C) dx (ns.zip vs)) ∧ H dx = some (.own a) ∧ vs.length = ns.length ∧ rvs K M H vs l := by rw [rv]
theorem rvs_nil : rvs K M H [] [] := by unfold rvs; trivial
theorem rvs_cons {d : PV} {ds : List PV} : rvs K M H (v :: vs) (d :: ds) ↔ rv K M H v d ∧ rvs K M H vs ds := by rw [rvs]
mutual
theorem rv_st (na : ∀ a, ¬ M a → ¬ nn K.tb (H a) → ¬ M' a) (f : ∀ a o, nt K.tb o → ¬ M a → H a = some o → H' a = some o) : ∀ (d : PV) (v : V), rv K M H v d → rv K M' H' v d
  | .non, v, h => by rw [rv_non] at h ⊢; exact h
  | .bl b, v, h => by rw [rv_bl] at h ⊢; exact h
  | .int i, v, h => by rw [rv_int] at h ⊢; exact h
  | .str x, v, h => by rw [rv_str] at h ⊢; exact h
  | .tup l, v, h => by
    rw [rv_tup] at h ⊢
    obtain ⟨a, vs, h1, h2, h3, h4⟩ := h
    exact ⟨a, vs, h1, na a h2 (nnn h3), f a _ rfl h2 h3, rvs_st na f l vs h4⟩
  | .lst l, v, h => by
    rw [rv_lst] at h ⊢
    obtain ⟨a, vs, h1, h2, h3, h4⟩ := h
    exact ⟨a, vs, h1, na a h2 (nnn h3), f a _ rfl h2 h3, rvs_st na f l vs h4⟩
  | .ktp l, v, h => by
    rw [rv_ktp] at h ⊢
    obtain ⟨a, vs, h1, h2, h3⟩ := h
    exact ⟨a, vs, h1, h2.st na f, rvs_st na f l vs h3⟩
  | .dic b ks l, v, h => by
    rw [rv_dic] at h ⊢
    obtain ⟨a, vs, h1, h2, h3, h4⟩ := h
    exact ⟨a, vs, h1, na a h2 h3.ob.nn, h3.to fun o t e => f a o t h2 e, rvs_st na f l vs h4⟩
  | .obj C ns l, v, h => by
    rw [rv_obj] at h ⊢
    obtain ⟨a, dx, vs, h1, h2, h3, h4, h5, h6, h7⟩ := h
    exact ⟨a, dx, vs, h1, na a h2 (nnn h4), na dx h3 (nnn h5), f a _ rfl h2 h4, f dx _ rfl h3 h5, h6, rvs_st na f l vs h7⟩
theorem rvs_st (na : ∀ a, ¬ M a → ¬ nn K.tb (H a) → ¬ M' a) (f : ∀ a o, nt K.tb o → ¬ M a → H a = some o → H' a = some o) : ∀ (ds : List PV) (vs : List V), rvs K M H vs ds → rvs K M' H' vs ds
  | [], [], _ => rvs_nil
  | d :: ds, v :: vs, h => by
    rw [rvs_cons] at h ⊢
    exact ⟨rv_st na f d v h.1, rvs_st na f ds vs h.2⟩
  | [], _ :: _, h => by unfold rvs at h; exact h.elim
  | _ :: _, [], h => by unfold rvs at h; exact h.elim
end
theorem rvs_len : ∀ {vs : List V} {ds : List PV}, rvs K M H vs ds → vs.length = ds.length
  | [], [], _ => rfl
  | _ :: _, _ :: _, h => by rw [rvs_cons] at h; exact congrArg Nat.succ (rvs_len h.2)
  | [], _ :: _, h => by unfold rvs at h; exact h.elim
  | _ :: _, [], h => by unfold rvs at h; exact h.elim
theorem rvs_app : ∀ {vs ws : List V} {ds es : List PV}, rvs K M H vs ds → rvs K M H ws es → rvs K M H (vs ++ ws) (ds ++ es)
  | [], _, [], _, _, h => h
  | _ :: _, _, _ :: _, _, g, h => by rw [rvs_cons] at g; exact rvs_cons.mpr ⟨g.1, rvs_app g.2 h⟩
  | [], _, _ :: _, _, g, _ => by unfold rvs at g; exact g.elim
  | _ :: _, _, [], _, g, _ => by unfold rvs at g; exact g.elim
theorem rvs_at : ∀ {vs : List V} {ds : List PV} {i : Nat} {d : PV}, rvs K M H vs ds → ds[i]? = some d → ∃ v, vs[i]? = some v ∧ rv K M H v d
  | [], [], _, _, _, e => by simp at e
  | x :: _, a :: _, 0, d, h, e => by
    rw [rvs_cons] at h
    obtain rfl : a = d := Option.some.inj e
    exact ⟨x, rfl, h.1⟩
  | _ :: _, _ :: _, i + 1, v, h, e => by rw [rvs_cons] at h; exact rvs_at (i := i) h.2 e
  | [], _ :: _, _, _, h, _ => by unfold rvs at h; exact h.elim
  | _ :: _, [], _, _, h, _ => by unfold rvs at h; exact h.elim
theorem rvs_take : ∀ {vs : List V} {ds : List PV} (n : Nat), rvs K M H vs ds → rvs K M H (vs.take n) (ds.take n)
  | [], [], n, _ => by cases n <;> exact rvs_nil
  | _ :: _, _ :: _, 0, _ => rvs_nil
  | _ :: _, _ :: _, n + 1, h => by rw [rvs_cons] at h; exact rvs_cons.mpr ⟨h.1, rvs_take n h.2⟩
  | [], _ :: _, _, h => by unfold rvs at h; exact h.elim
  | _ :: _, [], _, h => by unfold rvs at h; exact h.elim
theorem rvs_drop : ∀ {vs : List V} {ds : List PV} (n : Nat), rvs K M H vs ds → rvs K M H (vs.drop n) (ds.drop n)
  | [], [], n, _ => by cases n <;> exact rvs_nil
  | _ :: _, _ :: _, 0, h => h
  | _ :: _, _ :: _, n + 1, h => by rw [rvs_cons] at h; exact rvs_drop n h.2
  | [], _ :: _, _, h => by unfold rvs at h; exact h.elim
  | _ :: _, [], _, h => by unfold rvs at h; exact h.elim
theorem rvs_set {v : V} {d : PV} (h : rv K M H v d) : ∀ {vs : List V} {ds : List PV} (j : Nat), rvs K M H vs ds → rvs K M H (vs.set j v) (ds.set j d)
  | [], [], _, _ => rvs_nil
  | _ :: _, _ :: _, 0, g => by rw [rvs_cons] at g; exact rvs_cons.mpr ⟨h, g.2⟩
  | _ :: _, _ :: _, j + 1, g => by rw [rvs_cons] at g; exact rvs_cons.mpr ⟨g.1, rvs_set h j g.2⟩
  | [], _ :: _, _, g => by unfold rvs at g; exact g.elim
  | _ :: _, [], _, g => by unfold rvs at g; exact g.elim
theorem rvs_ad {D : Addr} {ds : List PV} (hD : H D = none) (h : rvs K M H vs ds) : rvs K (WD.plus M D) H vs ds := rvs_st (fun a n ne z => z.elim n fun e => ne (nn_none (by rw [e]; exact hD))) (fun _ _ _ _ e => e) ds vs h
theorem rv_wk {d : PV} (s : ∀ a, M' a → M a) (h : rv K M H v d) : rv K M' H v d := rv_st (fun a n _ z => n (s a z)) (fun _ _ _ _ e => e) d v h
theorem rvs_wk {ds : List PV} (s : ∀ a, M' a → M a) (h : rvs K M H vs ds) : rvs K M' H vs ds := rvs_st (fun a n _ z => n (s a z)) (fun _ _ _ _ e => e) ds vs h
end

/-! ### the world: the things that change -/
def Mof (ζ : List Addr) (μ : Store) : MS := fun a => ∃ (k : Nat) (c : Cell), ζ[k]? = some a ∧ μ[k]? = some (some c)
/-- .. with those that are set aside -/
def MM (N : MS) (ζ : List Addr) (μ : Store) : MS := fun a => Mof ζ μ a ∨ N a
def FR (K : KT) (ζ : List Addr) (M : MS) (H : Hp) (v : V) : Fl → Prop
  | .t d => rv K M H v d
  | .c k => ∃ a, ζ[k]? = some a ∧ v = .ref a
def FRs (K : KT) (ζ : List Addr) (M : MS) (H : Hp) : List V → List Fl → Prop
  | [], [] => True
  | v :: vs, w :: ws => FR K ζ M H v w ∧ FRs K ζ M H vs ws
  | _, _ => False
theorem FR.st {K : KT} {ζ ζ' : List Addr} {M M' : MS} {H H' : Hp} {v : V} (pre : ∀ (k : Nat) (a : Addr), ζ[k]? = some a → ζ'[k]? = some a) (na : ∀ a, ¬ M a → ¬ nn K.tb (H a) → ¬ M' a) (f : ∀ a o, nt K.tb o → ¬ M a → H a = some o → H' a = some o) : ∀ {w : Fl}, FR K ζ M H v w → FR K ζ' M' H' v w
  | .t d, h => rv_st na f d v h
  | .c k, ⟨a, h1, h2⟩ => ⟨a, pre k a h1, h2⟩
theorem FRs.st {K : KT} {ζ ζ' : List Addr} {M M' : MS} {H H' : Hp} (pre : ∀ (k : Nat) (a : Addr), ζ[k]? = some a → ζ'[k]? = some a) (na : ∀ a, ¬ M a → ¬ nn K.tb (H a) → ¬ M' a) (f : ∀ a o, nt K.tb o → ¬ M a → H a = some o → H' a = some o) : ∀ {vs : List V} {ws : List Fl}, FRs K ζ M H vs ws → FRs K ζ' M' H' vs ws
  | [], [], _ => trivial
  | _ :: _, _ :: _, h => ⟨FR.st pre na f h.1, FRs.st pre na f h.2⟩
  | [], _ :: _, h => h.elim
  | _ :: _, [], h => h.elim
theorem FRs.len {K : KT} {ζ : List Addr} {M : MS} {H : Hp} : ∀ {vs : List V} {ws : List Fl}, FRs K ζ M H vs ws → vs.length = ws.length
  | [], [], _ => rfl
  | _ :: _, _ :: _, h => congrArg Nat.succ (FRs.len h.2)
  | [], _ :: _, h => h.elim
  | _ :: _, [], h => h.elim
def cellR (K : KT) (ζ : List Addr) (M : MS) (H : Hp) (a : Addr) : Cell → Prop
  | .lst ds => ∃ vs, H a = some (.lst vs) ∧ rvs K M H vs ds
  | .dic b ks ds => ∃ vs, DicR b H a ks vs ∧ rvs K M H vs ds
  | .ob C ns fs => ∃ dx vs, ¬ M dx ∧ H a = some (.ins (He.ga K C) dx (ns.zip vs)) ∧ H dx = some (.own a) ∧ vs.length = ns.length ∧ FRs K ζ M H vs fs
theorem cellR.has {K : KT} {ζ : List Addr} {M : MS} {H : Hp} {a : Addr} {c : Cell} (h : cellR K ζ M H a c) : ∃ o, H a = some o := by
  cases c with
  | lst ds => obtain ⟨vs, e, _⟩ := h; exact ⟨_, e⟩
  | dic b ks ds => obtain ⟨vs, e, _⟩ := h; exact e.has
  | ob C ns ds => obtain ⟨dx, vs, _, e, _⟩ := h; exact ⟨_, e⟩
theorem cellR.obj {K : KT} {ζ : List Addr} {M : MS} {H : Hp} {a : Addr} {c : Cell} (h : cellR K ζ M H a c) : Ob (H a) := by
  cases c with
  | lst ds => obtain ⟨vs, e, _⟩ := h; exact ⟨_, e, rfl, rfl⟩
  | dic b ks ds => obtain ⟨vs, e, _⟩ := h; cases b <;> obtain ⟨_, _, _, _, e⟩ := e <;> exact ⟨_, e, rfl, rfl⟩
  | ob C ns ds => obtain ⟨dx, vs, _, e, _⟩ := h; exact ⟨_, e, rfl, rfl⟩
theorem cellR.st {K : KT} {ζ ζ' : List Addr} {M M' : MS} {H H' : Hp} {a : Addr} {c : Cell} (pre : ∀ (k : Nat) (a : Addr), ζ[k]? = some a → ζ'[k]? = some a) (na : ∀ a, ¬ M a → ¬ nn K.tb (H a) → ¬ M' a) (f : ∀ a o, nt K.tb o → ¬ M a → H a = some o → H' a = some o) (fa : ∀ o, nt K.tb o → H a = some o → H' a = some o) (h : cellR K ζ M H a c) : cellR K ζ' M' H' a c := by
  cases c with
  | lst ds => obtain ⟨vs, e, r⟩ := h; exact ⟨vs, fa _ rfl e, rvs_st na f _ _ r⟩
  | dic b ks ds => obtain ⟨vs, e, r⟩ := h; exact ⟨vs, e.to fa, rvs_st na f _ _ r⟩
  | ob C ns ds => obtain ⟨dx, vs, nd, e, e2, l, r⟩ := h; exact ⟨dx, vs, na dx nd (nnn e2), fa _ rfl e, f _ _ rfl nd e2, l, FRs.st pre na f r⟩
structure Wd (K : KT) (N : MS) (ζ : List Addr) (μ : Store) (H : Hp) : Prop where
  len : ζ.length = μ.length
  inj : ∀ (i j : Nat) (a : Addr) (c c' : Cell), ζ[i]? = some a → ζ[j]? = some a → μ[i]? = some (some c) → μ[j]? = some (some c') → i = j
  cell : ∀ (k : Nat) (c : Cell) (a : Addr), μ[k]? = some (some c) → ζ[k]? = some a → cellR K (ζ.take k) (MM N ζ μ) H a c
  nd : ∀ a, N a → ¬ Mof ζ μ a ∧ Ob (H a)
  tb : LamX.Tabs K.tb H
structure Ev (T : List (Addr × Str)) (ζ : List Addr) (μ : Store) (H : Hp) (ζ' : List Addr) (μ' : Store) (H' : Hp) : Prop where
  pre : ∀ (k : Nat) (a : Addr), ζ[k]? = some a → ζ'[k]? = some a
  fr : Fr T (Mof ζ μ) H H'
  ml : ∀ a, Mof ζ' μ' a → Mof ζ μ a ∨ nn T (H a)
section
variable {K : KT} {N : MS} {ζ ζ1 ζ2 : List Addr} {μ μ1 μ2 : Store} {H H1 H2 : Hp} {v : V} {d : PV} {vs : List V} {ds : List PV}
theorem Ev.refl : Ev K.tb ζ μ H ζ μ H := ⟨fun _ _ h => h, Fr.refl _, fun _ h => .inl h⟩
theorem Ev.trans (a : Ev K.tb ζ μ H ζ1 μ1 H1) (b : Ev K.tb ζ1 μ1 H1 ζ2 μ2 H2) : Ev K.tb ζ μ H ζ2 μ2 H2 := by
  refine ⟨fun k x h => b.pre k x (a.pre k x h), ⟨fun x o t n h => b.fr.keep x o t (fun z => (a.ml x z).elim n fun q => q o h t) (a.fr.keep x o t n h), fun x h => a.fr.dom x (b.fr.dom x h)⟩, fun x h => ?_⟩
  rcases b.ml x h with h | h
  · exact a.ml x h
  · exact .inr (a.fr.dom x h)
theorem Ev.na (e : Ev K.tb ζ μ H ζ1 μ1 H1) : ∀ a, ¬ MM N ζ μ a → ¬ nn K.tb (H a) → ¬ MM N ζ1 μ1 a := fun a n ne z => z.elim (fun z => (e.ml a z).elim (fun q => n (.inl q)) ne) fun q => n (.inr q)
theorem Ev.keep (e : Ev K.tb ζ μ H ζ1 μ1 H1) : ∀ a o, nt K.tb o → ¬ MM N ζ μ a → H a = some o → H1 a = some o := fun a o t n h => e.fr.keep a o t (fun z => n (.inl z)) h
theorem Ev.rv (e : Ev K.tb ζ μ H ζ1 μ1 H1) (h : rv K (MM N ζ μ) H v d) : rv K (MM N ζ1 μ1) H1 v d := rv_st e.na e.keep d v h
theorem Ev.rvs (e : Ev K.tb ζ μ H ζ1 μ1 H1) (h : rvs K (MM N ζ μ) H vs ds) : rvs K (MM N ζ1 μ1) H1 vs ds := rvs_st e.na e.keep ds vs h
theorem Wd.min (w : Wd K N ζ μ H) : ∀ a, MM N ζ μ a → Ob (H a) := fun a h => by
  rcases h with ⟨k, c, h1, h2⟩ | h
  case inr => exact (w.nd a h).2
  exact (w.cell k c a h2 h1).obj
theorem Wd.no (w : Wd K N ζ μ H) {p : Addr} (h : H p = none) : ¬ MM N ζ μ p := fun z => (w.min p z).ne h
/-- something new is laid -/
theorem Ev.new {p : Addr} {o : HO} (h : H p = none) : Ev K.tb ζ μ H ζ μ (upd H p o) := ⟨fun _ _ e => e, Fr.new h, fun _ e => .inl e⟩
theorem Wd.new (w : Wd K N ζ μ H) {p : Addr} {o : HO} (h : H p = none) : Wd K N ζ μ (upd H p o) := by
  refine ⟨w.len, w.inj, fun k c a h1 h2 => ?_, fun a h' => ⟨(w.nd a h').1, (by obtain ⟨u, e, r⟩ := (w.nd a h').2; exact ⟨u, by rw [upd_ne (ne_of_none e h)]; exact e, r⟩)⟩, w.tb.ext fun b u e => by rw [upd_ne (ne_of_none e h)]; exact e⟩
  exact (w.cell k c a h1 h2).st (fun _ _ h => h) (fun _ n _ => n) (fun b u _ _ e => by rw [upd_ne (ne_of_none e h)]; exact e) (fun u _ e => by rw [upd_ne (ne_of_none e h)]; exact e)
/-- the heap may grow -/
theorem Wd.fr0 (w : Wd K N ζ μ H) (f : ∀ a o, H a = some o → H1 a = some o) : Wd K N ζ μ H1 :=
  ⟨w.len, w.inj, fun k c a h1 h2 => (w.cell k c a h1 h2).st (fun _ _ h => h) (fun _ n _ => n) (fun b u _ _ e => f b u e) (fun o _ => f a o), fun a h => ⟨(w.nd a h).1, let ⟨u, e, r⟩ := (w.nd a h).2; ⟨u, f a u e, r⟩⟩, w.tb.ext f⟩
end

/-! ### values, slots -/
abbrev Xi := Option (Addr × Value × Option Addr)
def XR (K : KT) (M : MS) (H : Hp) (d : Option Addr) : Option (Str × PV) → Prop
  | none => d = none
  | some (n, p) => ∃ dd v, d = some dd ∧ ¬ M dd ∧ H dd = some (.xd [(n, v)]) ∧ rv K M H v p
def RV (K : KT) (ξ : Xi) (ζ : List Addr) (M : MS) (H : Hp) (v : V) : Val → Prop
  | .t d => rv K M H v d
  | .c k => ∃ a, ζ[k]? = some a ∧ v = .ref a
  | .x c f => ∃ a d, ξ = some (a, .ref (He.ga K c), d) ∧ v = .ref a ∧ XR K M H d f
  | .s ns => ∃ a, v = .ref a ∧ ((¬ M a ∧ Rd H a (.lst (ns.map V.int))) ∨ ∀ H', SqL K H' a (ns.map V.int))
  | .g .tup fs => ∃ a vs, v = .ref a ∧ ¬ M a ∧ H a = some (.tup vs) ∧ FRs K ζ M H vs fs
  | .g .two fs => ∃ (a b : Addr) (x y z : V), v = .ref a ∧ ¬ M a ∧ ¬ M b ∧ H a = some (.tup [x, .ref b]) ∧ H b = some (.tup [y, z]) ∧ FRs K ζ M H [x, y, z] fs
  | .g (.ob C ns) fs => ∃ a dx vs, v = .ref a ∧ ¬ M a ∧ ¬ M dx ∧ H a = some (.ins (He.ga K C) dx (ns.zip vs)) ∧ H dx = some (.own a) ∧ vs.length = ns.length ∧ FRs K ζ M H vs fs
  | .self => ∃ a cv d, ξ = some (a, cv, d) ∧ v = .ref a
  | .lam L fs => v = .ref L.1 ∧ ¬ M L.2.1 ∧ H L.2.1 = some (LamX.CodeO L.2.1 L.2.2.1) ∧ L.2.2.2.length = fs.length ∧ ∀ (i : Nat) (w : Fl), fs[i]? = some (some w) → ∃ u, L.2.2.2[i]? = some (some u) ∧ FR K ζ M H u w
def RVs (K : KT) (ξ : Xi) (ζ : List Addr) (M : MS) (H : Hp) : List V → List Val → Prop
  | [], [] => True
  | v :: vs, w :: ws => RV K ξ ζ M H v w ∧ RVs K ξ ζ M H vs ws
  | _, _ => False
def Sok (K : KT) (ξ : Xi) (ζ : List Addr) (M : MS) (H : Hp) (σr : L2.St) (σ : Sl) : Prop :=
  σr.length = σ.length ∧ ∀ (i : Nat) (w : Val), σ[i]? = some (some w) → ∃ v, σr[i]? = some (some v) ∧ RV K ξ ζ M H v w
section
variable {K : KT} {ξ : Xi} {N : MS} {ζ ζ1 : List Addr} {μ μ1 : Store} {M : MS} {H H1 : Hp} {v : V} {w : Val} {vs : List V} {ws : List Val} {σr : L2.St} {σ : Sl}
theorem XR.st {M' : MS} {d : Option Addr} (na : ∀ a, ¬ M a → ¬ nn K.tb (H a) → ¬ M' a) (f : ∀ a o, nt K.tb o → ¬ M a → H a = some o → H1 a = some o) : ∀ {x : Option (Str × PV)}, XR K M H d x → XR K M' H1 d x
  | none, h => h
  | some (n, p), ⟨dd, v, h1, h2, h3, h4⟩ => ⟨dd, v, h1, na dd h2 (nnn h3), f _ _ rfl h2 h3, rv_st na f _ _ h4⟩
theorem XR.ev {d : Option Addr} {f : Option (Str × PV)} (e : Ev K.tb ζ μ H ζ1 μ1 H1) (h : XR K (MM N ζ μ) H d f) : XR K (MM N ζ1 μ1) H1 d f := h.st e.na e.keep
theorem RV.st {M' : MS} (pre : ∀ (k : Nat) (a : Addr), ζ[k]? = some a → ζ1[k]? = some a) (na : ∀ a, ¬ M a → ¬ nn K.tb (H a) → ¬ M' a) (f : ∀ a o, nt K.tb o → ¬ M a → H a = some o → H1 a = some o) : ∀ {w : Val}, RV K ξ ζ M H v w → RV K ξ ζ1 M' H1 v w
  | .t d, h => rv_st na f d v h
  | .c _, ⟨a, h1, h2⟩ => ⟨a, pre _ _ h1, h2⟩
  | .x _ _, ⟨a, d, h1, h2, h3⟩ => ⟨a, d, h1, h2, h3.st na f⟩
  | .s _, ⟨a, h1, .inr h⟩ => ⟨a, h1, .inr h⟩
  | .s _, ⟨a, h1, .inl ⟨h2, h3⟩⟩ => by
    refine ⟨a, h1, .inl ⟨?_, ?_⟩⟩
    · rcases h3 with h3 | ⟨o, h3⟩ <;> exact na a h2 (nnn h3)
    · rcases h3 with h3 | ⟨o, h3⟩
      · exact .inl (f a _ rfl h2 h3)
      · exact .inr ⟨o, f a _ rfl h2 h3⟩
  | .g .tup fs, ⟨a, vs, h1, h2, h3, h4⟩ => ⟨a, vs, h1, na a h2 (nnn h3), f _ _ rfl h2 h3, FRs.st pre na f h4⟩
  | .g .two fs, ⟨a, b, x, y, z, h1, h2, h3, h4, h5, h6⟩ => ⟨a, b, x, y, z, h1, na a h2 (nnn h4), na b h3 (nnn h5), f _ _ rfl h2 h4, f _ _ rfl h3 h5, FRs.st pre na f h6⟩
  | .g (.ob C ns) fs, ⟨a, dx, vs, h1, h2, h3, h4, h5, h6, h7⟩ => ⟨a, dx, vs, h1, na a h2 (nnn h4), na dx h3 (nnn h5), f _ _ rfl h2 h4, f _ _ rfl h3 h5, h6, FRs.st pre na f h7⟩
  | .self, h => h
  | .lam _ _, ⟨h1, h2, h3, h4, h5⟩ => ⟨h1, na _ h2 (nnn h3), f _ _ rfl h2 h3, h4, fun i w e => let ⟨u, e1, e2⟩ := h5 i w e; ⟨u, e1, e2.st pre na f⟩⟩
theorem RV.ev (e : Ev K.tb ζ μ H ζ1 μ1 H1) {w : Val} (h : RV K ξ ζ (MM N ζ μ) H v w) : RV K ξ ζ1 (MM N ζ1 μ1) H1 v w := h.st e.pre e.na e.keep
theorem RVs.ev (e : Ev K.tb ζ μ H ζ1 μ1 H1) : ∀ {vs : List V} {ws : List Val}, RVs K ξ ζ (MM N ζ μ) H vs ws → RVs K ξ ζ1 (MM N ζ1 μ1) H1 vs ws
  | [], [], _ => trivial
  | _ :: _, _ :: _, h => ⟨RV.ev e h.1, RVs.ev e h.2⟩
  | [], _ :: _, h => h.elim
  | _ :: _, [], h => h.elim
theorem RVs.len : ∀ {vs : List V} {ws : List Val}, RVs K ξ ζ M H vs ws → vs.length = ws.length
  | [], [], _ => rfl
  | _ :: _, _ :: _, h => congrArg Nat.succ (RVs.len h.2)
  | [], _ :: _, h => h.elim
  | _ :: _, [], h => h.elim
theorem Sok.ev (e : Ev K.tb ζ μ H ζ1 μ1 H1) (h : Sok K ξ ζ (MM N ζ μ) H σr σ) : Sok K ξ ζ1 (MM N ζ1 μ1) H1 σr σ :=
  ⟨h.1, fun i w hw => let ⟨v, h1, h2⟩ := h.2 i w hw; ⟨v, h1, h2.ev e⟩⟩
theorem Sok.set {i : Nat} (h : Sok K ξ ζ M H σr σ) (r : RV K ξ ζ M H v w) : Sok K ξ ζ M H (σr.set i (some v)) (σ.set i (some w)) := by
  refine ⟨by rw [List.length_set, List.length_set]; exact h.1, fun j u hu => ?_⟩
  by_cases e : i = j
  · subst e
    have hl : i < σ.length := by
      have := (List.getElem?_eq_some_iff.mp hu).1
      rwa [List.length_set] at this
    rw [List.getElem?_set_self hl] at hu
    cases hu
    exact ⟨v, by rw [List.getElem?_set_self (by rw [h.1]; exact hl)], r⟩
  · rw [List.getElem?_set_ne e] at hu
    rw [List.getElem?_set_ne e]
    exact h.2 j u hu
theorem Sok.drop {i : Nat} (h : Sok K ξ ζ M H σr σ) : Sok K ξ ζ M H (σr.set i none) (σ.set i none) := by
  refine ⟨by rw [List.length_set, List.length_set]; exact h.1, fun j u hu => ?_⟩
  by_cases e : i = j
  · subst e
    have hl : i < σ.length := by
      have := (List.getElem?_eq_some_iff.mp hu).1
      rwa [List.length_set] at this
    rw [List.getElem?_set_self hl] at hu
    cases hu
  · rw [List.getElem?_set_ne e] at hu
    rw [List.getElem?_set_ne e]
    exact h.2 j u hu
end

/-! ### readings -/
def PostE (K : KT) (ξ : Xi) (W : WX) (N : MS) (ζ : List Addr) (μ : Store) (H : Hp) (σr : L2.St) (Q : VK) : R Val → Prop
  | .ok w μ' => ∀ ζ' H' v, Ev K.tb ζ μ H ζ' μ' H' → Wd K N ζ' μ' H' → RV K ξ ζ' (MM N ζ' μ') H' v w → Q v H'
  | .ex c f μ' => ∀ ζ' H' d, Ev K.tb ζ μ H ζ' μ' H' → Wd K N ζ' μ' H' → XR K (MM N ζ' μ') H' d f → W (.ref (He.ga K c)) d σr H'
  | .stuck => False
def tE (K : KT) (ξ : Xi) (W : WX) (f : ME) : TE := fun σr H Q => ∃ N ζ μ σ, Wd K N ζ μ H ∧ Sok K ξ ζ (MM N ζ μ) H σr σ ∧ PostE K ξ W N ζ μ H σr Q (f σ μ)
def PostT {α : Type} (K : KT) (W : WX) (N : MS) (ζ : List Addr) (μ : Store) (H : Hp) (σr : L2.St) (Q : α → Hp → Prop) : R α → Prop
  | .ok b μ' => ∀ ζ' H', Ev K.tb ζ μ H ζ' μ' H' → Wd K N ζ' μ' H' → Q b H'
  | .ex c f μ' => ∀ ζ' H' d, Ev K.tb ζ μ H ζ' μ' H' → Wd K N ζ' μ' H' → XR K (MM N ζ' μ') H' d f → W (.ref (He.ga K c)) d σr H'
  | .stuck => False
def tT (K : KT) (ξ : Xi) (W : WX) (f : Sl → Store → R Bool) : TT := fun σr H Q => ∃ N ζ μ σ, Wd K N ζ μ H ∧ Sok K ξ ζ (MM N ζ μ) H σr σ ∧ PostT K W N ζ μ H σr Q (f σ μ)
def PostA (K : KT) (ξ : Xi) (W : WX) (N : MS) (ζ : List Addr) (μ : Store) (H : Hp) (σr : L2.St) (Q : List V → Hp → Prop) : R (List Val) → Prop
  | .ok ws μ' => ∀ ζ' H' vs, Ev K.tb ζ μ H ζ' μ' H' → Wd K N ζ' μ' H' → RVs K ξ ζ' (MM N ζ' μ') H' vs ws → Q vs H'
  | .ex c f μ' => ∀ ζ' H' d, Ev K.tb ζ μ H ζ' μ' H' → Wd K N ζ' μ' H' → XR K (MM N ζ' μ') H' d f → W (.ref (He.ga K c)) d σr H'
  | .stuck => False
def tA (K : KT) (ξ : Xi) (W : WX) (f : Sl → Store → R (List Val)) : TA := fun σr H Q => ∃ N ζ μ σ, Wd K N ζ μ H ∧ Sok K ξ ζ (MM N ζ μ) H σr σ ∧ PostA K ξ W N ζ μ H σr Q (f σ μ)
/-- a new list -/
def PostF (K : KT) (W : WX) (N : MS) (ζ : List Addr) (μ : Store) (H : Hp) (σr : L2.St) (Q : VK) : R (List PV) → Prop
  | .ok ds μ' => ∀ ζ' H' a vs, Ev K.tb ζ μ H ζ' μ' H' → Wd K (WD.plus N a) ζ' μ' H' → nn K.tb (H a) → H' a = some (.lst vs) → rvs K (MM (WD.plus N a) ζ' μ') H' vs ds → Q (.ref a) H'
  | .ex c f μ' => ∀ ζ' H' d, Ev K.tb ζ μ H ζ' μ' H' → Wd K N ζ' μ' H' → XR K (MM N ζ' μ') H' d f → W (.ref (He.ga K c)) d σr H'
  | .stuck => False
def tF (K : KT) (ξ : Xi) (W : WX) (f : Sl → Store → R (List PV)) : TE := fun σr H Q => ∃ N ζ μ σ, Wd K N ζ μ H ∧ Sok K ξ ζ (MM N ζ μ) H σr σ ∧ PostF K W N ζ μ H σr Q (f σ μ)
def PostS (K : KT) (ξ : Xi) (W : WX) (N : MS) (ζ : List Addr) (μ : Store) (H : Hp) (D : Ends) : RS → Prop
  | .nx σ' μ' => ∀ ζ' H' σr', Ev K.tb ζ μ H ζ' μ' H' → Wd K N ζ' μ' H' → Sok K ξ ζ' (MM N ζ' μ') H' σr' σ' → D.nx σr' H'
  | .bk σ' μ' => ∀ ζ' H' σr', Ev K.tb ζ μ H ζ' μ' H' → Wd K N ζ' μ' H' → Sok K ξ ζ' (MM N ζ' μ') H' σr' σ' → D.bk σr' H'
  | .ct σ' μ' => ∀ ζ' H' σr', Ev K.tb ζ μ H ζ' μ' H' → Wd K N ζ' μ' H' → Sok K ξ ζ' (MM N ζ' μ') H' σr' σ' → D.ct σr' H'
  | .rt w μ' => ∀ ζ' H' v, Ev K.tb ζ μ H ζ' μ' H' → Wd K N ζ' μ' H' → RV K ξ ζ' (MM N ζ' μ') H' v w → D.rt v H'
  | .ex c f σ' μ' => ∀ ζ' H' d σr', Ev K.tb ζ μ H ζ' μ' H' → Wd K N ζ' μ' H' → XR K (MM N ζ' μ') H' d f → Sok K ξ ζ' (MM N ζ' μ') H' σr' σ' → W (.ref (He.ga K c)) d σr' H'
  | .stuck => False
def tS (K : KT) (ξ : Xi) (W : WX) (F : MSt) : TS := fun D σr H => ∃ N ζ μ σ, Wd K N ζ μ H ∧ Sok K ξ ζ (MM N ζ μ) H σr σ ∧ PostS K ξ W N ζ μ H D (F σ μ)

/-! ### judgements -/
abbrev IE (K : KT) (ξ : Xi) (W : WX) (X : Cx) (e : Expr) (f : ME) : Prop := PE X e (tE K ξ W f)
abbrev IT (K : KT) (ξ : Xi) (W : WX) (X : Cx) (e : Expr) (f : Sl → Store → R Bool) : Prop := PT X e (tT K ξ W f)
abbrev IA (K : KT) (ξ : Xi) (W : WX) (X : Cx) (es : List Expr) (f : Sl → Store → R (List Val)) : Prop := PA X es (tA K ξ W f)
abbrev IF (K : KT) (ξ : Xi) (W : WX) (X : Cx) (e : Expr) (f : Sl → Store → R (List PV)) : Prop := PE X e (tF K ξ W f)
abbrev IS (K : KT) (ξ : Xi) (W : WX) (X : Cx) (s : Stmt) (F : MSt) : Prop := PS X s (tS K ξ W F)
abbrev ISs (K : KT) (ξ : Xi) (W : WX) (X : Cx) (ss : List Stmt) (F : MSt) : Prop := PSs X ss (tS K ξ W F)
theorem PE.of {X : Cx} {e : Expr} {t t' : TE} (h : PE X e t) (k : ∀ σ H Q, t' σ H Q → t σ H Q) : PE X e t' := ⟨fun pins s σ H Q I q => h.run pins s σ H Q I (k σ H Q q)⟩
theorem PT.of {X : Cx} {e : Expr} {t t' : TT} (h : PT X e t) (k : ∀ σ H Q, t' σ H Q → t σ H Q) : PT X e t' := ⟨fun pins s σ H Q I q => h.run pins s σ H Q I (k σ H Q q)⟩
theorem PW.of {X : Cx} {e : Expr} {t t' : TT} (h : PW X e t) (k : ∀ σ H Q, t' σ H Q → t σ H Q) : PW X e t' := ⟨fun wh pins s σ H Q I q => h.run wh pins s σ H Q I (k σ H Q q)⟩
theorem PA.of {X : Cx} {e : List Expr} {t t' : TA} (h : PA X e t) (k : ∀ σ H Q, t' σ H Q → t σ H Q) : PA X e t' := ⟨fun p pins s σ H Q I q => h.run p pins s σ H Q I (k σ H Q q)⟩
theorem PS.of {X : Cx} {e : Stmt} {t t' : TS} (h : PS X e t) (k : ∀ D σ H, t' D σ H → t D σ H) : PS X e t' := ⟨fun pins s σ H D I q => h.run pins s σ H D I (k D σ H q)⟩
theorem PSs.of {X : Cx} {e : List Stmt} {t t' : TS} (h : PSs X e t) (k : ∀ D σ H, t' D σ H → t D σ H) : PSs X e t' := ⟨fun pins s σ H D I q => h.run pins s σ H D I (k D σ H q)⟩
/-- a rule chosen by what is read -/
theorem PE.pick {X : Cx} {e : Expr} {t' : TE} (k : ∀ σ H Q, t' σ H Q → ∃ t, PE X e t ∧ t σ H Q) : PE X e t' := ⟨fun pins s σ H Q I q => let ⟨_, h, q'⟩ := k σ H Q q; h.run pins s σ H Q I q'⟩
end PM
namespace PM
open PySem PySem.Spec PyProof.Rows L2
open WD (MS upd_none)

/-! ### what is written out of readings -/
section
variable {K : KT} {ξ : Xi} {W : WX} {N : MS} {ζ ζ1 : List Addr} {μ μ1 : Store} {H H1 : Hp} {σr : L2.St}
theorem PostE.ev {Q : VK} (e : Ev K.tb ζ μ H ζ1 μ1 H1) : ∀ {r : R Val}, PostE K ξ W N ζ μ H σr Q r → PostE K ξ W N ζ1 μ1 H1 σr Q r
  | .ok _ _, h => fun ζ' H' v a b c => h ζ' H' v (e.trans a) b c
  | .ex _ _ _, h => fun ζ' H' d a b c => h ζ' H' d (e.trans a) b c
  | .stuck, h => h
theorem PostT.ev {α : Type} {Q : α → Hp → Prop} (e : Ev K.tb ζ μ H ζ1 μ1 H1) : ∀ {r : R α}, PostT K W N ζ μ H σr Q r → PostT K W N ζ1 μ1 H1 σr Q r
  | .ok _ _, h => fun ζ' H' a b => h ζ' H' (e.trans a) b
  | .ex _ _ _, h => fun ζ' H' d a b c => h ζ' H' d (e.trans a) b c
  | .stuck, h => h
theorem PostA.ev {Q : List V → Hp → Prop} (e : Ev K.tb ζ μ H ζ1 μ1 H1) : ∀ {r : R (List Val)}, PostA K ξ W N ζ μ H σr Q r → PostA K ξ W N ζ1 μ1 H1 σr Q r
  | .ok _ _, h => fun ζ' H' v a b c => h ζ' H' v (e.trans a) b c
  | .ex _ _ _, h => fun ζ' H' d a b c => h ζ' H' d (e.trans a) b c
  | .stuck, h => h
theorem PostF.ev {Q : VK} (e : Ev K.tb ζ μ H ζ1 μ1 H1) : ∀ {r : R (List PV)}, PostF K W N ζ μ H σr Q r → PostF K W N ζ1 μ1 H1 σr Q r
  | .ok _ _, h => fun ζ' H' a vs e' b c d f => h ζ' H' a vs (e.trans e') b (e.fr.dom a c) d f
  | .ex _ _ _, h => fun ζ' H' d a b c => h ζ' H' d (e.trans a) b c
  | .stuck, h => h
theorem PostS.ev {D : Ends} (e : Ev K.tb ζ μ H ζ1 μ1 H1) : ∀ {r : RS}, PostS K ξ W N ζ μ H D r → PostS K ξ W N ζ1 μ1 H1 D r
  | .nx _ _, h => fun ζ' H' v a b c => h ζ' H' v (e.trans a) b c
  | .bk _ _, h => fun ζ' H' v a b c => h ζ' H' v (e.trans a) b c
  | .ct _ _, h => fun ζ' H' v a b c => h ζ' H' v (e.trans a) b c
  | .rt _ _, h => fun ζ' H' v a b c => h ζ' H' v (e.trans a) b c
  | .ex _ _ _ _, h => fun ζ' H' d s a b c f => h ζ' H' d s (e.trans a) b c f
  | .stuck, h => h
end

def R.bind {α β : Type} : R α → (α → Store → R β) → R β
  | .ok a μ, k => k a μ
  | .ex c f μ, _ => .ex c f μ
  | .stuck, _ => .stuck
/-- what of a value is to be read -/
def view (μ : Store) : Val → Option PV
  | .t d => some d
  | .c k => match μ[k]? with
    | some (some (.lst ds)) => some (.lst ds)
    | some (some (.dic b ks vs)) => some (.dic b ks vs)
    | _ => none
  | _ => none
def vv (K : KT) (M : MS) (H : Hp) (v : V) : PV → Prop
  | .lst l => ∃ a vs, v = .ref a ∧ H a = some (.lst vs) ∧ rvs K M H vs l
  | .dic b ks l => ∃ a vs, v = .ref a ∧ DicR b H a ks vs ∧ rvs K M H vs l
  | .obj C ns l => ∃ a dx vs, v = .ref a ∧ H a = some (.ins (He.ga K C) dx (ns.zip vs)) ∧ vs.length = ns.length ∧ rvs K M H vs l
  | d => rv K M H v d
section
variable {K : KT} {ξ : Xi} {N : MS} {ζ : List Addr} {μ : Store} {M : MS} {H : Hp} {v : V}
theorem vv_of : ∀ {d : PV}, rv K M H v d → vv K M H v d
  | .lst l, h => let ⟨a, vs, h1, _, h3, h4⟩ := rv_lst.mp h; ⟨a, vs, h1, h3, h4⟩
  | .dic b ks l, h => let ⟨a, vs, h1, _, h3, h4⟩ := rv_dic.mp h; ⟨a, vs, h1, h3, h4⟩
  | .obj C ns l, h => let ⟨a, dx, vs, h1, _, _, h3, _, h5, h6⟩ := rv_obj.mp h; ⟨a, dx, vs, h1, h3, h5, h6⟩
  | .non, h => h
  | .bl _, h => h
  | .int _, h => h
  | .str _, h => h
  | .tup _, h => h
  | .ktp _, h => h
theorem RV.view {w : Val} {d : PV} (wd : Wd K N ζ μ H) (h : RV K ξ ζ (MM N ζ μ) H v w) (e : view μ w = some d) : vv K (MM N ζ μ) H v d := by
  cases w with
  | t d' => cases e; exact vv_of h
  | c k =>
    obtain ⟨a, ha, rfl⟩ := h
    simp only [PM.view] at e
    split at e
    · rename_i ds hk
      cases e
      obtain ⟨vs, h1, h2⟩ := wd.cell k _ a hk ha
      exact ⟨a, vs, rfl, h1, h2⟩
    · rename_i b ks ds hk
      cases e
      obtain ⟨vs, h1, h2⟩ := wd.cell k _ a hk ha
      exact ⟨a, vs, rfl, h1, h2⟩
    · cases e
  | x _ _ => cases e
  | s _ => cases e
  | g _ _ => cases e
  | self => cases e
  | lam _ _ => cases e
/-- the heap grows -/
def Grow (H H' : Hp) : Prop := ∀ a o, H a = some o → H' a = some o
theorem Grow.refl : Grow H H := fun _ _ h => h
theorem Grow.upd {p : Addr} {o : HO} (h : H p = none) : Grow H (upd H p o) := fun a u e => by rw [upd_ne (ne_of_none e h)]; exact e
theorem Grow.trans {H1 H2 : Hp} (a : Grow H H1) (b : Grow H1 H2) : Grow H H2 := fun x o h => b x o (a x o h)
theorem Grow.dom {H' : Hp} (g : Grow H H') {a : Addr} (h : H' a = none) : H a = none := by
  cases e : H a with
  | none => rfl
  | some o => rw [g a o e] at h; cases h
theorem Grow.ev {H' : Hp} (g : Grow H H') : Ev K.tb ζ μ H ζ μ H' := ⟨fun _ _ h => h, ⟨fun a o _ _ h => g a o h, fun a z o e => z o (g a o e)⟩, fun _ h => .inl h⟩
theorem Grow.rv {H' : Hp} {d : PV} (g : Grow H H') (h : rv K M H v d) : rv K M H' v d := rv_st (fun _ n _ => n) (fun a o _ _ e => g a o e) d v h
theorem Grow.rvs {H' : Hp} {vs : List V} {ds : List PV} (g : Grow H H') (h : rvs K M H vs ds) : rvs K M H' vs ds := rvs_st (fun _ n _ => n) (fun a o _ _ e => g a o e) ds vs h
end
def Fre (M : MS) (H : Hp) : Prop := ∀ p, H p = none → ¬ M p
/-- what a pure answer is to give -/
def Gives (K : KT) (M : MS) (H : Hp) (Q : VK) (d : PV) : Prop := ∀ H' v, Grow H H' → rv K M H' v d → Q v H'
def GivesF (K : KT) (M : MS) (H : Hp) (Q : VK) (ds : List PV) : Prop := ∀ H' a vs, Grow H H' → H a = none → H' a = some (.lst vs) → rvs K (WD.plus M a) H' vs ds → Q (.ref a) H'
section
variable {K : KT} {M : MS} {H : Hp} {Q : VK}
theorem Gives.int {i : Int} (g : Gives K M H Q (.int i)) : Q (.int i) H := g H _ Grow.refl (rv_int.mpr rfl)
theorem Gives.bl {i : Bool} (g : Gives K M H Q (.bl i)) : Q (.bl i) H := g H _ Grow.refl (rv_bl.mpr rfl)
theorem Gives.str {i : Str} (g : Gives K M H Q (.str i)) (h : PyData.strOk i = true) : Q (.str i) H := g H _ Grow.refl (rv_str.mpr ⟨rfl, h⟩)
theorem Gives.tup {vs : List V} {ds : List PV} {p : Addr} (g : Gives K M H Q (.tup ds)) (f : Fre M H) (r : rvs K M H vs ds) (hp : H p = none) : Q (.ref p) (upd H p (.tup vs)) :=
  g _ _ (Grow.upd hp) (rv_tup.mpr ⟨p, vs, rfl, f p hp, upd_same, (Grow.upd hp).rvs r⟩)
theorem Gives.lst {vs : List V} {ds : List PV} {p : Addr} (g : Gives K M H Q (.lst ds)) (f : Fre M H) (r : rvs K M H vs ds) (hp : H p = none) : Q (.ref p) (upd H p (.lst vs)) :=
  g _ _ (Grow.upd hp) (rv_lst.mpr ⟨p, vs, rfl, f p hp, upd_same, (Grow.upd hp).rvs r⟩)
theorem GivesF.lst {vs : List V} {ds : List PV} {p : Addr} (g : GivesF K M H Q ds) (r : rvs K M H vs ds) (hp : H p = none) : Q (.ref p) (upd H p (.lst vs)) :=
  g _ p vs (Grow.upd hp) hp upd_same (Grow.rvs_ad (Grow.upd hp) hp r)
where Grow.rvs_ad {K : KT} {M : MS} {H H' : Hp} {p : Addr} {vs : List V} {ds : List PV} (g : Grow H H') (hp : H p = none) (r : rvs K M H vs ds) : rvs K (WD.plus M p) H' vs ds := rvs_st (fun a n ne z => z.elim n fun e => ne (nn_none (by rw [e]; exact hp))) (fun a o _ _ e => g a o e) ds vs r
end
/-- readings of pure operators -/
def rP1 (K : KT) (g : PV → Option PV) : V → Hp → VK → Prop := fun x H Q => ∃ M d1 d, vv K M H x d1 ∧ Fre M H ∧ g d1 = some d ∧ Gives K M H Q d
def rP2 (K : KT) (g : PV → PV → Option PV) : R2 := fun x y H Q => ∃ M d1 d2 d, vv K M H x d1 ∧ vv K M H y d2 ∧ Fre M H ∧ g d1 d2 = some d ∧ Gives K M H Q d
def rPF1 (K : KT) (g : PV → Option (List PV)) : V → Hp → VK → Prop := fun x H Q => ∃ M d1 d, vv K M H x d1 ∧ Fre M H ∧ g d1 = some d ∧ GivesF K M H Q d
def rPF2 (K : KT) (g : PV → PV → Option (List PV)) : R2 := fun x y H Q => ∃ M d1 d2 d, vv K M H x d1 ∧ vv K M H y d2 ∧ Fre M H ∧ g d1 d2 = some d ∧ GivesF K M H Q d
def vvs (K : KT) (M : MS) (H : Hp) : List V → List PV → Prop
  | [], [] => True
  | v :: vs, d :: ds => vv K M H v d ∧ vvs K M H vs ds
  | _, _ => False
def rPN (K : KT) (g : List PV → Option PV) : List V → Hp → VK → Prop := fun xs H Q => ∃ M ds d, vvs K M H xs ds ∧ Fre M H ∧ g ds = some d ∧ Gives K M H Q d
def rPFN (K : KT) (g : List PV → Option (List PV)) : List V → Hp → VK → Prop := fun xs H Q => ∃ M ds d, vvs K M H xs ds ∧ Fre M H ∧ g ds = some d ∧ GivesF K M H Q d
def OR.ok {α : Type} (μ : Store) : Option α → R α
  | some d => .ok d μ
  | none => .stuck
/-- .. in the machine -/
def views (μ : Store) : List Val → Option (List PV)
  | [] => some []
  | w :: ws => match view μ w, views μ ws with
    | some d, some ds => some (d :: ds)
    | _, _ => none
def p1 (g : PV → Option PV) (w : Val) (μ : Store) : R Val := match view μ w with
  | some d => OR.ok μ ((g d).map .t)
  | none => .stuck
def p2 (g : PV → PV → Option PV) (w u : Val) (μ : Store) : R Val := match view μ w, view μ u with
  | some d, some e => OR.ok μ ((g d e).map .t)
  | _, _ => .stuck
def pf1 (g : PV → Option (List PV)) (w : Val) (μ : Store) : R (List PV) := match view μ w with
  | some d => OR.ok μ (g d)
  | none => .stuck
def pf2 (g : PV → PV → Option (List PV)) (w u : Val) (μ : Store) : R (List PV) := match view μ w, view μ u with
  | some d, some e => OR.ok μ (g d e)
  | _, _ => .stuck
def pN (g : List PV → Option PV) (ws : List Val) (μ : Store) : R Val := match views μ ws with
  | some ds => OR.ok μ ((g ds).map .t)
  | none => .stuck
def pfN (g : List PV → Option (List PV)) (ws : List Val) (μ : Store) : R (List PV) := match views μ ws with
  | some ds => OR.ok μ (g ds)
  | none => .stuck
def e1 {α : Type} (g : Val → Store → R α) (a : ME) : Sl → Store → R α := fun σ μ => (a σ μ).bind g
def e2 {α : Type} (g : Val → Val → Store → R α) (a b : ME) : Sl → Store → R α := fun σ μ => (a σ μ).bind fun w μ1 => (b σ μ1).bind fun u μ2 => g w u μ2
def eN {α : Type} (g : List Val → Store → R α) (a : Sl → Store → R (List Val)) : Sl → Store → R α := fun σ μ => (a σ μ).bind g

section
variable {K : KT} {ξ : Xi} {W : WX} {N : MS} {ζ : List Addr} {μ : Store} {H : Hp} {σr : L2.St} {Q : VK} {x y : V} {w u : Val} {xs : List V} {ws : List Val}
theorem Wd.fre (h : Wd K N ζ μ H) : Fre (MM N ζ μ) H := fun _ e => h.no e
theorem postE_p {d : PV} (wd : Wd K N ζ μ H) (h : PostE K ξ W N ζ μ H σr Q (.ok (.t d) μ)) : Gives K (MM N ζ μ) H Q d := fun H' v g r => h ζ H' v g.ev (wd.fr0 g) r
theorem Wd.aside {H' : Hp} {a : Addr} (wd : Wd K N ζ μ H) (g : Grow H H') (n : H a = none) (e : Ob (H' a)) : Wd K (WD.plus N a) ζ μ H' := by
  refine ⟨wd.len, wd.inj, fun k c b h1 h2 => ?_, fun b h => ?_, wd.tb.ext g⟩
  · exact (wd.cell k c b h1 h2).st (fun _ _ h => h) (fun x nx ne z => z.elim (fun z => nx (.inl z)) fun z => z.elim (fun z => nx (.inr z)) fun z => ne (nn_none (by rw [z]; exact n))) (fun x o _ _ hx => g x o hx) (fun o _ => g b o)
  · rcases h with h | h
    · exact ⟨(wd.nd b h).1, let ⟨u, e, r⟩ := (wd.nd b h).2; ⟨u, g b u e, r⟩⟩
    · rw [show b = a from h]
      exact ⟨fun z => wd.no n (.inl z), e⟩
theorem MM_aside {a : Addr} : ∀ x, MM (WD.plus N a) ζ μ x → WD.plus (MM N ζ μ) a x := fun x h => h.elim (fun h => .inl (.inl h)) fun h => h.elim (fun h => .inl (.inr h)) fun h => .inr h
theorem postF_p {d : List PV} (wd : Wd K N ζ μ H) (h : PostF K W N ζ μ H σr Q (.ok d μ)) : GivesF K (MM N ζ μ) H Q d := fun H' a vs g n e r => h ζ H' a vs g.ev (wd.aside g n ⟨_, e, rfl, rfl⟩) (nn_none n) e (rvs_wk MM_aside r)
theorem read_p1 {g : PV → Option PV} (wd : Wd K N ζ μ H) (r : RV K ξ ζ (MM N ζ μ) H x w) (h : PostE K ξ W N ζ μ H σr Q (p1 g w μ)) : rP1 K g x H Q := by
  unfold p1 at h
  split at h
  · rename_i d e
    cases e2 : g d with
    | none => rw [e2] at h; exact h.elim
    | some d' => rw [e2] at h; exact ⟨_, d, d', r.view wd e, wd.fre, e2, postE_p wd h⟩
  · exact h.elim
theorem read_pf1 {g : PV → Option (List PV)} (wd : Wd K N ζ μ H) (r : RV K ξ ζ (MM N ζ μ) H x w) (h : PostF K W N ζ μ H σr Q (pf1 g w μ)) : rPF1 K g x H Q := by
  unfold pf1 at h
  split at h
  · rename_i d e
    cases e2 : g d with
    | none => rw [e2] at h; exact h.elim
    | some d' => rw [e2] at h; exact ⟨_, d, d', r.view wd e, wd.fre, e2, postF_p wd h⟩
  · exact h.elim
theorem read_p2 {g : PV → PV → Option PV} (wd : Wd K N ζ μ H) (r : RV K ξ ζ (MM N ζ μ) H x w) (r' : RV K ξ ζ (MM N ζ μ) H y u) (h : PostE K ξ W N ζ μ H σr Q (p2 g w u μ)) : rP2 K g x y H Q := by
  unfold p2 at h
  split at h
  · rename_i d d2 e e'
    cases e2 : g d d2 with
    | none => rw [e2] at h; exact h.elim
    | some d' => rw [e2] at h; exact ⟨_, d, d2, d', r.view wd e, r'.view wd e', wd.fre, e2, postE_p wd h⟩
  · exact h.elim
theorem read_pf2 {g : PV → PV → Option (List PV)} (wd : Wd K N ζ μ H) (r : RV K ξ ζ (MM N ζ μ) H x w) (r' : RV K ξ ζ (MM N ζ μ) H y u) (h : PostF K W N ζ μ H σr Q (pf2 g w u μ)) : rPF2 K g x y H Q := by
  unfold pf2 at h
  split at h
  · rename_i d d2 e e'
    cases e2 : g d d2 with
    | none => rw [e2] at h; exact h.elim
    | some d' => rw [e2] at h; exact ⟨_, d, d2, d', r.view wd e, r'.view wd e', wd.fre, e2, postF_p wd h⟩
  · exact h.elim
theorem RVs.views (wd : Wd K N ζ μ H) : ∀ {xs : List V} {ws : List Val} {ds : List PV}, RVs K ξ ζ (MM N ζ μ) H xs ws → views μ ws = some ds → vvs K (MM N ζ μ) H xs ds
  | [], [], ds, _, e => by cases e; exact trivial
  | x :: xs, w :: ws, ds, h, e => by
    unfold PM.views at e
    split at e
    · rename_i d ds' e1 e2
      cases e
      exact ⟨h.1.view wd e1, RVs.views wd h.2 e2⟩
    · cases e
  | [], _ :: _, _, h, _ => h.elim
  | _ :: _, [], _, h, _ => h.elim
theorem read_pN {g : List PV → Option PV} (wd : Wd K N ζ μ H) (r : RVs K ξ ζ (MM N ζ μ) H xs ws) (h : PostE K ξ W N ζ μ H σr Q (pN g ws μ)) : rPN K g xs H Q := by
  unfold pN at h
  split at h
  · rename_i d e
    cases e2 : g d with
    | none => rw [e2] at h; exact h.elim
    | some d' => rw [e2] at h; exact ⟨_, d, d', r.views wd e, wd.fre, e2, postE_p wd h⟩
  · exact h.elim
theorem read_pfN {g : List PV → Option (List PV)} (wd : Wd K N ζ μ H) (r : RVs K ξ ζ (MM N ζ μ) H xs ws) (h : PostF K W N ζ μ H σr Q (pfN g ws μ)) : rPFN K g xs H Q := by
  unfold pfN at h
  split at h
  · rename_i d e
    cases e2 : g d with
    | none => rw [e2] at h; exact h.elim
    | some d' => rw [e2] at h; exact ⟨_, d, d', r.views wd e, wd.fre, e2, postF_p wd h⟩
  · exact h.elim
end
theorem RV.blI {K : KT} {ξ : Xi} {ζ : List Addr} {M : MS} {H : Hp} {b : Bool} : RV K ξ ζ M H (.bl b) (.t (.bl b)) := (rv_bl (K := K) (M := M) (H := H)).mpr rfl
section
variable {K : KT} {ξ : Xi} {W : WX} {N : MS} {ζ : List Addr} {μ : Store} {H : Hp} {σr : L2.St} {σ : Sl} {Q : VK}
/-- a, then a step g whose answer is an R Val -/
theorem then1 {a : ME} {g : Val → Store → R Val} (wd : Wd K N ζ μ H) (so : Sok K ξ ζ (MM N ζ μ) H σr σ) (h : PostE K ξ W N ζ μ H σr Q ((a σ μ).bind g)) :
    tE K ξ W a σr H fun x H1 => ∃ ζ1 μ1 w1, Ev K.tb ζ μ H ζ1 μ1 H1 ∧ Wd K N ζ1 μ1 H1 ∧ Sok K ξ ζ1 (MM N ζ1 μ1) H1 σr σ ∧ RV K ξ ζ1 (MM N ζ1 μ1) H1 x w1 ∧ PostE K ξ W N ζ1 μ1 H1 σr Q (g w1 μ1) := by
  refine ⟨N, ζ, μ, σ, wd, so, ?_⟩
  cases e : a σ μ with
  | ok w1 μ1 => rw [e] at h; exact fun ζ' H' v ev w r => ⟨ζ', μ1, w1, ev, w, so.ev ev, r, h.ev ev⟩
  | ex c f μ1 => rw [e] at h; exact h
  | stuck => rw [e] at h; exact h
theorem then1F {a : ME} {g : Val → Store → R (List PV)} (wd : Wd K N ζ μ H) (so : Sok K ξ ζ (MM N ζ μ) H σr σ) (h : PostF K W N ζ μ H σr Q ((a σ μ).bind g)) :
    tE K ξ W a σr H fun x H1 => ∃ ζ1 μ1 w1, Ev K.tb ζ μ H ζ1 μ1 H1 ∧ Wd K N ζ1 μ1 H1 ∧ Sok K ξ ζ1 (MM N ζ1 μ1) H1 σr σ ∧ RV K ξ ζ1 (MM N ζ1 μ1) H1 x w1 ∧ PostF K W N ζ1 μ1 H1 σr Q (g w1 μ1) := by
  refine ⟨N, ζ, μ, σ, wd, so, ?_⟩
  cases e : a σ μ with
  | ok w1 μ1 => rw [e] at h; exact fun ζ' H' v ev w r => ⟨ζ', μ1, w1, ev, w, so.ev ev, r, h.ev ev⟩
  | ex c f μ1 => rw [e] at h; exact h
  | stuck => rw [e] at h; exact h
theorem then1T {α : Type} {a : ME} {P : α → Hp → Prop} {g : Val → Store → R α} (wd : Wd K N ζ μ H) (so : Sok K ξ ζ (MM N ζ μ) H σr σ) (h : PostT K W N ζ μ H σr P ((a σ μ).bind g)) :
    tE K ξ W a σr H fun x H1 => ∃ ζ1 μ1 w1, Ev K.tb ζ μ H ζ1 μ1 H1 ∧ Wd K N ζ1 μ1 H1 ∧ Sok K ξ ζ1 (MM N ζ1 μ1) H1 σr σ ∧ RV K ξ ζ1 (MM N ζ1 μ1) H1 x w1 ∧ PostT K W N ζ1 μ1 H1 σr P (g w1 μ1) := by
  refine ⟨N, ζ, μ, σ, wd, so, ?_⟩
  cases e : a σ μ with
  | ok w1 μ1 => rw [e] at h; exact fun ζ' H' v ev w r => ⟨ζ', μ1, w1, ev, w, so.ev ev, r, h.ev ev⟩
  | ex c f μ1 => rw [e] at h; exact h
  | stuck => rw [e] at h; exact h
theorem thenN {a : Sl → Store → R (List Val)} {g : List Val → Store → R Val} (wd : Wd K N ζ μ H) (so : Sok K ξ ζ (MM N ζ μ) H σr σ) (h : PostE K ξ W N ζ μ H σr Q ((a σ μ).bind g)) :
    tA K ξ W a σr H fun xs H1 => ∃ ζ1 μ1 ws, Ev K.tb ζ μ H ζ1 μ1 H1 ∧ Wd K N ζ1 μ1 H1 ∧ Sok K ξ ζ1 (MM N ζ1 μ1) H1 σr σ ∧ RVs K ξ ζ1 (MM N ζ1 μ1) H1 xs ws ∧ PostE K ξ W N ζ1 μ1 H1 σr Q (g ws μ1) := by
  refine ⟨N, ζ, μ, σ, wd, so, ?_⟩
  cases e : a σ μ with
  | ok w1 μ1 => rw [e] at h; exact fun ζ' H' v ev w r => ⟨ζ', μ1, w1, ev, w, so.ev ev, r, h.ev ev⟩
  | ex c f μ1 => rw [e] at h; exact h
  | stuck => rw [e] at h; exact h
theorem thenNF {a : Sl → Store → R (List Val)} {g : List Val → Store → R (List PV)} (wd : Wd K N ζ μ H) (so : Sok K ξ ζ (MM N ζ μ) H σr σ) (h : PostF K W N ζ μ H σr Q ((a σ μ).bind g)) :
    tA K ξ W a σr H fun xs H1 => ∃ ζ1 μ1 ws, Ev K.tb ζ μ H ζ1 μ1 H1 ∧ Wd K N ζ1 μ1 H1 ∧ Sok K ξ ζ1 (MM N ζ1 μ1) H1 σr σ ∧ RVs K ξ ζ1 (MM N ζ1 μ1) H1 xs ws ∧ PostF K W N ζ1 μ1 H1 σr Q (g ws μ1) := by
  refine ⟨N, ζ, μ, σ, wd, so, ?_⟩
  cases e : a σ μ with
  | ok w1 μ1 => rw [e] at h; exact fun ζ' H' v ev w r => ⟨ζ', μ1, w1, ev, w, so.ev ev, r, h.ev ev⟩
  | ex c f μ1 => rw [e] at h; exact h
  | stuck => rw [e] at h; exact h
/-- a reading is monotone -/
theorem tE.mono {a : ME} {Q' : VK} (h : tE K ξ W a σr H Q) (k : ∀ v H', Q v H' → Q' v H') : tE K ξ W a σr H Q' := by
  obtain ⟨N, ζ, μ, σ, wd, so, h⟩ := h
  refine ⟨N, ζ, μ, σ, wd, so, ?_⟩
  cases e : a σ μ with
  | ok w1 μ1 => rw [e] at h; exact fun ζ' H' v ev w r => k _ _ (h ζ' H' v ev w r)
  | ex c f μ1 => rw [e] at h; exact h
  | stuck => rw [e] at h; exact h
theorem tA.mono {a : Sl → Store → R (List Val)} {Q Q' : List V → Hp → Prop} (h : tA K ξ W a σr H Q) (k : ∀ v H', Q v H' → Q' v H') : tA K ξ W a σr H Q' := by
  obtain ⟨N, ζ, μ, σ, wd, so, h⟩ := h
  refine ⟨N, ζ, μ, σ, wd, so, ?_⟩
  cases e : a σ μ with
  | ok w1 μ1 => rw [e] at h; exact fun ζ' H' v ev w r => k _ _ (h ζ' H' v ev w r)
  | ex c f μ1 => rw [e] at h; exact h
  | stuck => rw [e] at h; exact h
end

/-! ### expressions -/
def eV (i : Nat) : ME := fun σ μ => match σ[i]? with
  | some (some w) => .ok w μ
  | _ => .stuck
def eC (d : PV) : ME := fun _ μ => .ok (.t d) μ
def asBl : Val → Option Bool
  | .t (.bl b) => some b
  | _ => none
def gBl {α : Type} (k : Bool → Store → R α) (w : Val) (μ : Store) : R α := match asBl w with
  | some b => k b μ
  | none => .stuck
def eAnd (a b : ME) : ME := fun σ μ => (a σ μ).bind (gBl fun c μ1 => if c then b σ μ1 else .ok (.t (.bl false)) μ1)
def eNot (a : ME) : ME := e1 (gBl fun c μ1 => .ok (.t (.bl (!c))) μ1) a
def tVal (a : ME) : Sl → Store → R Bool := e1 (gBl fun c μ1 => .ok c μ1) a
def tAnd' (a b : Sl → Store → R Bool) : Sl → Store → R Bool := fun σ μ => (a σ μ).bind fun k μ1 => if k then b σ μ1 else .ok false μ1
def tOr' (a b : Sl → Store → R Bool) : Sl → Store → R Bool := fun σ μ => (a σ μ).bind fun k μ1 => if k then .ok true μ1 else b σ μ1
def tNot' (a : Sl → Store → R Bool) : Sl → Store → R Bool := fun σ μ => (a σ μ).bind fun k μ1 => .ok (!k) μ1
def aNil : Sl → Store → R (List Val) := fun _ μ => .ok [] μ
def aCons (a : ME) (b : Sl → Store → R (List Val)) : Sl → Store → R (List Val) := fun σ μ => (a σ μ).bind fun w μ1 => (b σ μ1).bind fun ws μ2 => .ok (w :: ws) μ2
def asT : List Val → Option (List PV)
  | [] => some []
  | .t d :: ws => (asT ws).map (d :: ·)
  | _ :: _ => none
def gTup (ws : List Val) (μ : Store) : R Val := if ws.length ≤ sizeLine then OR.ok μ ((asT ws).map fun ds => .t (.tup ds)) else .stuck
def gLst (ws : List Val) (μ : Store) : R (List PV) := if ws.length ≤ sizeLine then OR.ok μ (asT ws) else .stuck
/-- a new list as a datum; as a thing that changes -/
def eOfF (f : Sl → Store → R (List PV)) : ME := fun σ μ => (f σ μ).bind fun ds μ1 => .ok (.t (.lst ds)) μ1
def eCellF (f : Sl → Store → R (List PV)) : ME := fun σ μ => (f σ μ).bind fun ds μ1 => .ok (.c μ1.length) (μ1 ++ [some (.lst ds)])

section
variable {X : Cx} {K : KT} {ξ : Xi} {W : WX} {a b c e : Expr} {es : List Expr} {fa fb fc : ME} {ta tb tc : Sl → Store → R Bool} {fs : Sl → Store → R (List Val)} {pos : Pos}
theorem i_pv {i : Nat} {x : Str} (h : PE X (.Name x pos) (tVar i)) : IE K ξ W X (.Name x pos) (eV i) := PE.of h fun σr H Q q => by
  obtain ⟨N, ζ, μ, σ, wd, so, q⟩ := q
  unfold eV at q
  split at q
  · rename_i w hw
    obtain ⟨v, h1, h2⟩ := so.2 i w hw
    exact ⟨v, h1, q ζ H v Ev.refl wd h2⟩
  · exact q.elim
theorem i_c {v : V} {d : PV} (h : PE X e (tC v)) (r : ∀ M H, rv K M H v d) : IE K ξ W X e (eC d) := PE.of h fun σr H Q q => by
  obtain ⟨N, ζ, μ, σ, wd, so, q⟩ := q
  exact q ζ H v Ev.refl wd (r _ _)
theorem i_int {i : Int} {j pos} : IE K ξ W X (.Constant (.int i) j pos) (eC (.int i)) := i_c pe_int fun _ _ => rv_int.mpr rfl
theorem i_bl {i : Bool} {j pos} : IE K ξ W X (.Constant (.bool i) j pos) (eC (.bl i)) := i_c pe_bl fun _ _ => rv_bl.mpr rfl
theorem i_non {j pos} : IE K ξ W X (.Constant .none j pos) (eC .non) := i_c pe_non fun _ _ => rv_non.mpr rfl
theorem i_str {x : Str} {j pos} (h : PyData.strOk x = true := by decide +kernel) : IE K ξ W X (.Constant (.str x) j pos) (eC (.str x)) := i_c pe_str fun _ _ => rv_str.mpr ⟨rfl, h⟩
theorem i_gi {x : Str} {i : Int} (hg : Gl X x) (h : ∃ t, X.mg x = some (.int i t)) (hd : (x == ("__debug__" : Str)) = false := by decide) : IE K ξ W X (.Name x pos) (eC (.int i)) := i_c (WD.pe_gi hg h hd) fun _ _ => rv_int.mpr rfl
theorem i_op {op : Operator} {g : PV → PV → Option PV} (r : OpR X (binaryOp op) (rP2 K g)) (ha : IE K ξ W X a fa) (hb : IE K ξ W X b fb) : IE K ξ W X (.BinOp a op b pos) (e2 (p2 g) fa fb) := PE.of (pe_op r ha hb) fun σr H Q q => by
  obtain ⟨N, ζ, μ, σ, wd, so, q⟩ := q
  refine (then1 wd so q).mono fun x H1 ⟨ζ1, μ1, w1, ev1, wd1, so1, r1, q1⟩ => ?_
  refine (then1 wd1 so1 q1).mono fun y H2 ⟨ζ2, μ2, w2, ev2, wd2, so2, r2, q2⟩ => ?_
  exact read_p2 wd2 (r1.ev ev2) r2 q2
theorem f_op {op : Operator} {g : PV → PV → Option (List PV)} (r : OpR X (binaryOp op) (rPF2 K g)) (ha : IE K ξ W X a fa) (hb : IE K ξ W X b fb) : IF K ξ W X (.BinOp a op b pos) (e2 (pf2 g) fa fb) := PE.of (pe_op r ha hb) fun σr H Q q => by
  obtain ⟨N, ζ, μ, σ, wd, so, q⟩ := q
  refine (then1F wd so q).mono fun x H1 ⟨ζ1, μ1, w1, ev1, wd1, so1, r1, q1⟩ => ?_
  refine (then1F wd1 so1 q1).mono fun y H2 ⟨ζ2, μ2, w2, ev2, wd2, so2, r2, q2⟩ => ?_
  exact read_pf2 wd2 (r1.ev ev2) r2 q2
theorem i_cmp {op : CmpOp} {g : PV → PV → Option PV} (r : OpR X (compareOp op) (rP2 K g)) (ha : IE K ξ W X a fa) (hb : IE K ξ W X b fb) (hm : behindInMarks op b = false) : IE K ξ W X (.Compare a [op] [b] pos) (e2 (p2 g) fa fb) := PE.of (pe_cmpR r ha hb hm) fun σr H Q q => by
  obtain ⟨N, ζ, μ, σ, wd, so, q⟩ := q
  refine (then1 wd so q).mono fun x H1 ⟨ζ1, μ1, w1, ev1, wd1, so1, r1, q1⟩ => ?_
  refine (then1 wd1 so1 q1).mono fun y H2 ⟨ζ2, μ2, w2, ev2, wd2, so2, r2, q2⟩ => ?_
  exact read_p2 wd2 (r1.ev ev2) r2 q2
/-- a value that is True or False, at once -/
theorem PostT.bl {N : MS} {ζ : List Addr} {μ : Store} {H : Hp} {σr : L2.St} {v : V} {w : Val} {P : Bool → Hp → Prop} {k : Bool → Store → R Bool} (wd : Wd K N ζ μ H) (r : RV K ξ ζ (MM N ζ μ) H v w) (h : PostT K W N ζ μ H σr P (gBl k w μ)) : ∃ c, v = .bl c ∧ PostT K W N ζ μ H σr P (k c μ) := by
  unfold gBl at h
  split at h
  · rename_i c e
    unfold asBl at e
    split at e
    · cases e; exact ⟨c, rv_bl.mp (show rv K (MM N ζ μ) H v (.bl c) from r), h⟩
    · cases e
  · exact h.elim
theorem PostE.bl {N : MS} {ζ : List Addr} {μ : Store} {H : Hp} {σr : L2.St} {v : V} {w : Val} {Q : VK} {k : Bool → Store → R Val} (wd : Wd K N ζ μ H) (r : RV K ξ ζ (MM N ζ μ) H v w) (h : PostE K ξ W N ζ μ H σr Q (gBl k w μ)) : ∃ c, v = .bl c ∧ PostE K ξ W N ζ μ H σr Q (k c μ) := by
  unfold gBl at h
  split at h
  · rename_i c e
    unfold asBl at e
    split at e
    · cases e; exact ⟨c, rv_bl.mp (show rv K (MM N ζ μ) H v (.bl c) from r), h⟩
    · cases e
  · exact h.elim
theorem t_cmp {op : CmpOp} {g : PV → PV → Option PV} (r : OpR X (compareOp op) (rP2 K g)) (ha : IE K ξ W X a fa) (hb : IE K ξ W X b fb) (hm : behindInMarks op b = false) : IT K ξ W X (.Compare a [op] [b] pos) (tVal (e2 (p2 g) fa fb)) := PT.of (pt_cmpR r ha hb hm) fun σr H Q q => by
  obtain ⟨N, ζ, μ, σ, wd, so, q⟩ := q
  have q' := then1T (a := e2 (p2 g) fa fb) wd so q
  obtain ⟨N, ζ', μ', σ', wd', so', q'⟩ := q'
  refine (then1 wd' so' q').mono fun x H1 ⟨ζ1, μ1, w1, ev1, wd1, so1, r1, q1⟩ => ?_
  refine (then1 wd1 so1 q1).mono fun y H2 ⟨ζ2, μ2, w2, ev2, wd2, so2, r2, q2⟩ => ?_
  obtain ⟨M, d1, d2, d, h1, h2, h3, h4, h5⟩ := read_p2 wd2 (r1.ev ev2) r2 q2
  refine ⟨M, d1, d2, d, h1, h2, h3, h4, fun H' v gr rr => ?_⟩
  obtain ⟨ζ3, μ3, w3, ev3, wd3, so3, r3, q3⟩ := h5 H' v gr rr
  obtain ⟨c, hc, q3⟩ := PostT.bl wd3 r3 q3
  exact ⟨c, hc, q3 ζ3 H' Ev.refl wd3⟩
theorem i_and {rest : List Expr} (ha : IE K ξ W X a fa) (hb : IE K ξ W X (.BoolOp .And (b :: rest) pos) fb) : IE K ξ W X (.BoolOp .And (a :: b :: rest) pos) (eAnd fa fb) := PE.of (pe_and ha hb) fun σr H Q q => by
  obtain ⟨N, ζ, μ, σ, wd, so, q⟩ := q
  refine (then1 wd so q).mono fun x H1 ⟨ζ1, μ1, w1, ev1, wd1, so1, r1, q1⟩ => ?_
  obtain ⟨c, hc, q2⟩ := PostE.bl wd1 r1 q1
  refine ⟨c, hc, ?_⟩
  cases c with
  | true => exact iteT ⟨N, ζ1, μ1, σ, wd1, so1, q2⟩
  | false => exact iteF (q2 ζ1 H1 _ Ev.refl wd1 RV.blI)
theorem i_not (ha : IE K ξ W X a fa) : IE K ξ W X (.UnaryOp .Not a pos) (eNot fa) := PE.of (pe_not ha) fun σr H Q q => by
  obtain ⟨N, ζ, μ, σ, wd, so, q⟩ := q
  refine (then1 wd so q).mono fun x H1 ⟨ζ1, μ1, w1, ev1, wd1, so1, r1, q1⟩ => ?_
  obtain ⟨c, hc, q2⟩ := PostE.bl wd1 r1 q1
  exact ⟨c, hc, q2 ζ1 H1 _ Ev.refl wd1 RV.blI⟩
theorem thenTT {N : MS} {ζ : List Addr} {μ : Store} {H : Hp} {σr : L2.St} {σ : Sl} {Q : Bool → Hp → Prop} {t : Sl → Store → R Bool} {g : Bool → Store → R Bool} (wd : Wd K N ζ μ H) (so : Sok K ξ ζ (MM N ζ μ) H σr σ) (h : PostT K W N ζ μ H σr Q ((t σ μ).bind g)) :
    tT K ξ W t σr H fun b H1 => ∃ ζ1 μ1, Ev K.tb ζ μ H ζ1 μ1 H1 ∧ Wd K N ζ1 μ1 H1 ∧ Sok K ξ ζ1 (MM N ζ1 μ1) H1 σr σ ∧ PostT K W N ζ1 μ1 H1 σr Q (g b μ1) := by
  refine ⟨N, ζ, μ, σ, wd, so, ?_⟩
  cases e : t σ μ with
  | ok w1 μ1 => rw [e] at h; exact fun ζ' H' ev w => ⟨ζ', μ1, ev, w, so.ev ev, h.ev ev⟩
  | ex c f μ1 => rw [e] at h; exact h
  | stuck => rw [e] at h; exact h
theorem tT.mono {σr : L2.St} {H : Hp} {t : Sl → Store → R Bool} {Q Q' : Bool → Hp → Prop} (h : tT K ξ W t σr H Q) (k : ∀ v H', Q v H' → Q' v H') : tT K ξ W t σr H Q' := by
  obtain ⟨N, ζ, μ, σ, wd, so, h⟩ := h
  refine ⟨N, ζ, μ, σ, wd, so, ?_⟩
  cases e : t σ μ with
  | ok w1 μ1 => rw [e] at h; exact fun ζ' H' ev w => k _ _ (h ζ' H' ev w)
  | ex c f μ1 => rw [e] at h; exact h
  | stuck => rw [e] at h; exact h
theorem t_val (ha : IE K ξ W X a fa) (hv : ∀ (whole : Sem Value), PySem.isTrue a X.env whole = (do
            let v ← whole
            standAt (Expr.pos a)
            holding [v] (truthy v)) := by intro _; rfl) : IT K ξ W X a (tVal fa) := PT.of (pt_val ha hv) fun σr H Q q => by
  obtain ⟨N, ζ, μ, σ, wd, so, q⟩ := q
  refine (then1T wd so q).mono fun x H1 ⟨ζ1, μ1, w1, ev1, wd1, so1, r1, q1⟩ => ?_
  obtain ⟨c, hc, q2⟩ := PostT.bl wd1 r1 q1
  exact ⟨c, hc, q2 ζ1 H1 Ev.refl wd1⟩
theorem t_not (ha : IT K ξ W X a ta) : IT K ξ W X (.UnaryOp .Not a pos) (tNot' ta) := PT.of (pt_not ha) fun σr H Q q => by
  obtain ⟨N, ζ, μ, σ, wd, so, q⟩ := q
  refine (thenTT wd so q).mono fun k H1 ⟨ζ1, μ1, ev1, wd1, so1, q1⟩ => q1 ζ1 H1 Ev.refl wd1
abbrev IW (K : KT) (ξ : Xi) (W : WX) (X : Cx) (e : Expr) (f : Sl → Store → R Bool) : Prop := PW X e (tT K ξ W f)
theorem w_and {rest : List Expr} (ha : IT K ξ W X a ta) (hb : IW K ξ W X (.BoolOp .And (b :: rest) pos) tb) : IW K ξ W X (.BoolOp .And (a :: b :: rest) pos) (tAnd' ta tb) := PW.of (pw_and ha hb) fun σr H Q q => by
  obtain ⟨N, ζ, μ, σ, wd, so, q⟩ := q
  refine (thenTT wd so q).mono fun k H1 ⟨ζ1, μ1, ev1, wd1, so1, q1⟩ => ?_
  cases k with
  | true => exact iteT ⟨N, ζ1, μ1, σ, wd1, so1, q1⟩
  | false => exact iteF (q1 ζ1 H1 Ev.refl wd1)
theorem w_or {rest : List Expr} (ha : IT K ξ W X a ta) (hb : IW K ξ W X (.BoolOp .Or (b :: rest) pos) tb) : IW K ξ W X (.BoolOp .Or (a :: b :: rest) pos) (tOr' ta tb) := PW.of (pw_or ha hb) fun σr H Q q => by
  obtain ⟨N, ζ, μ, σ, wd, so, q⟩ := q
  refine (thenTT wd so q).mono fun k H1 ⟨ζ1, μ1, ev1, wd1, so1, q1⟩ => ?_
  cases k with
  | true => exact iteT (q1 ζ1 H1 Ev.refl wd1)
  | false => exact iteF ⟨N, ζ1, μ1, σ, wd1, so1, q1⟩
theorem a_nil : IA K ξ W X [] aNil := PA.of pa_nil fun σr H Q q => by
  obtain ⟨N, ζ, μ, σ, wd, so, q⟩ := q
  exact q ζ H [] Ev.refl wd trivial
theorem thenNA {N : MS} {ζ : List Addr} {μ : Store} {H : Hp} {σr : L2.St} {σ : Sl} {Q : List V → Hp → Prop} {a : Sl → Store → R (List Val)} {g : List Val → Store → R (List Val)} (wd : Wd K N ζ μ H) (so : Sok K ξ ζ (MM N ζ μ) H σr σ) (h : PostA K ξ W N ζ μ H σr Q ((a σ μ).bind g)) :
    tA K ξ W a σr H fun xs H1 => ∃ ζ1 μ1 ws, Ev K.tb ζ μ H ζ1 μ1 H1 ∧ Wd K N ζ1 μ1 H1 ∧ RVs K ξ ζ1 (MM N ζ1 μ1) H1 xs ws ∧ PostA K ξ W N ζ1 μ1 H1 σr Q (g ws μ1) := by
  refine ⟨N, ζ, μ, σ, wd, so, ?_⟩
  cases e : a σ μ with
  | ok w1 μ1 => rw [e] at h; exact fun ζ' H' v ev w r => ⟨ζ', μ1, w1, ev, w, r, h.ev ev⟩
  | ex c f μ1 => rw [e] at h; exact h
  | stuck => rw [e] at h; exact h
theorem then1A {N : MS} {ζ : List Addr} {μ : Store} {H : Hp} {σr : L2.St} {σ : Sl} {Q : List V → Hp → Prop} {a : ME} {g : Val → Store → R (List Val)} (wd : Wd K N ζ μ H) (so : Sok K ξ ζ (MM N ζ μ) H σr σ) (h : PostA K ξ W N ζ μ H σr Q ((a σ μ).bind g)) :
    tE K ξ W a σr H fun x H1 => ∃ ζ1 μ1 w1, Ev K.tb ζ μ H ζ1 μ1 H1 ∧ Wd K N ζ1 μ1 H1 ∧ Sok K ξ ζ1 (MM N ζ1 μ1) H1 σr σ ∧ RV K ξ ζ1 (MM N ζ1 μ1) H1 x w1 ∧ PostA K ξ W N ζ1 μ1 H1 σr Q (g w1 μ1) := by
  refine ⟨N, ζ, μ, σ, wd, so, ?_⟩
  cases e : a σ μ with
  | ok w1 μ1 => rw [e] at h; exact fun ζ' H' v ev w r => ⟨ζ', μ1, w1, ev, w, so.ev ev, r, h.ev ev⟩
  | ex c f μ1 => rw [e] at h; exact h
  | stuck => rw [e] at h; exact h
theorem a_cons (ha : IE K ξ W X a fa) (hs : IA K ξ W X es fs) (h : starEach (a :: es) X.env = (false, eval a X.env) :: starEach es X.env := by rfl) : IA K ξ W X (a :: es) (aCons fa fs) := PA.of (pa_cons ha hs h) fun σr H Q q => by
  obtain ⟨N, ζ, μ, σ, wd, so, q⟩ := q
  refine (then1A wd so q).mono fun x H1 ⟨ζ1, μ1, w1, ev1, wd1, so1, r1, q1⟩ => ?_
  refine (thenNA wd1 so1 q1).mono fun xs H2 ⟨ζ2, μ2, ws, ev2, wd2, r2, q2⟩ => ?_
  exact q2 ζ2 H2 (x :: xs) Ev.refl wd2 ⟨r1.ev ev2, r2⟩
theorem asT_rvs {ζ : List Addr} {M : MS} {H : Hp} : ∀ {vs : List V} {ws : List Val} {ds : List PV}, RVs K ξ ζ M H vs ws → asT ws = some ds → rvs K M H vs ds
  | [], [], ds, _, e => by cases e; exact rvs_nil
  | v :: vs, .t d :: ws, ds, h, e => by
    obtain ⟨ds', e1, rfl⟩ := Option.map_eq_some_iff.mp e
    exact rvs_cons.mpr ⟨h.1, asT_rvs h.2 e1⟩
  | _ :: _, .c _ :: _, _, _, e => by cases e
  | _ :: _, .x _ _ :: _, _, _, e => by cases e
  | _ :: _, .s _ :: _, _, _, e => by cases e
  | _ :: _, .g _ _ :: _, _, _, e => by cases e
  | _ :: _, .self :: _, _, _, e => by cases e
  | [], _ :: _, _, h, _ => h.elim
  | _ :: _, [], _, h, _ => h.elim
theorem i_tup {x1 : Nat} (hs : IA K ξ W X es fs) : IE K ξ W X (.Tuple es x1 pos) (eN gTup fs) := PE.of (pe_tup hs) fun σr H Q q => by
  obtain ⟨N, ζ, μ, σ, wd, so, q⟩ := q
  refine (thenN wd so q).mono fun xs H1 ⟨ζ1, μ1, ws, ev1, wd1, so1, r1, q1⟩ => ?_
  unfold gTup at q1
  split at q1
  · rename_i hl
    cases e : asT ws with
    | none => rw [e] at q1; exact q1.elim
    | some ds =>
      rw [e] at q1
      exact ⟨by rw [r1.len]; exact hl, fun p hp => (postE_p wd1 q1).tup wd1.fre (asT_rvs r1 e) hp⟩
  · exact q1.elim
theorem f_lst (hs : IA K ξ W X es fs) : IF K ξ W X (.List es pos) (eN gLst fs) := PE.of (pe_lst hs) fun σr H Q q => by
  obtain ⟨N, ζ, μ, σ, wd, so, q⟩ := q
  refine (thenNF wd so q).mono fun xs H1 ⟨ζ1, μ1, ws, ev1, wd1, so1, r1, q1⟩ => ?_
  unfold gLst at q1
  split at q1
  · rename_i hl
    cases e : asT ws with
    | none => rw [e] at q1; exact q1.elim
    | some ds =>
      rw [e] at q1
      exact ⟨by rw [r1.len]; exact hl, fun p hp => (postF_p wd1 q1).lst (asT_rvs r1 e) hp⟩
  · exact q1.elim
/-- what was set aside is let go -/
theorem Wd.unside {N : MS} {ζ : List Addr} {μ : Store} {H : Hp} {a : Addr} (wd : Wd K (WD.plus N a) ζ μ H) : Wd K N ζ μ H :=
  ⟨wd.len, wd.inj, fun k c b h1 h2 => (wd.cell k c b h1 h2).st (fun _ _ h => h) (fun x nx _ z => nx (z.elim .inl fun z => .inr (.inl z))) (fun _ _ _ _ e => e) (fun _ _ e => e), fun b h => wd.nd b (.inl h), wd.tb⟩
/-- a new list as a datum -/
theorem i_ofF {f : Sl → Store → R (List PV)} (h : IF K ξ W X e f) : IE K ξ W X e (eOfF f) := PE.of h fun σr H Q q => by
  obtain ⟨N, ζ, μ, σ, wd, so, q⟩ := q
  refine ⟨N, ζ, μ, σ, wd, so, ?_⟩
  unfold eOfF at q
  cases e : f σ μ with
  | ok ds μ1 =>
    rw [e] at q
    intro ζ' H' a vs ev w hn ha r
    refine q ζ' H' _ ev w.unside (rv_lst.mpr ⟨a, vs, rfl, fun z => ?_, ha, rvs_wk (fun x z => z.elim .inl fun z => .inr (.inl z)) r⟩)
    rcases z with z | z
    · exact (w.nd a (.inr rfl)).1 z
    · exact (wd.nd a z).2.nn hn
  | ex c f μ1 => rw [e] at q; exact q
  | stuck => rw [e] at q; exact q
theorem Mof_snoc {ζ : List Addr} {μ : Store} {a : Addr} {c : Cell} (hl : ζ.length = μ.length) : ∀ x, Mof (ζ ++ [a]) (μ ++ [some c]) x ↔ WD.plus (Mof ζ μ) a x := by
  intro x
  constructor
  · rintro ⟨k, c', h1, h2⟩
    by_cases hk : k < ζ.length
    · rw [List.getElem?_append_left hk] at h1
      rw [List.getElem?_append_left (by omega)] at h2
      exact .inl ⟨k, c', h1, h2⟩
    · rw [List.getElem?_append_right (by omega)] at h1
      have h0 : k - ζ.length = 0 := by
        have := (List.getElem?_eq_some_iff.mp h1).1
        simp at this; omega
      rw [h0] at h1
      exact .inr (Option.some.inj h1).symm
  · rintro (⟨k, c', h1, h2⟩ | h)
    · have hk := (List.getElem?_eq_some_iff.mp h1).1
      exact ⟨k, c', by rw [List.getElem?_append_left hk]; exact h1, by rw [List.getElem?_append_left (by omega)]; exact h2⟩
    · exact ⟨ζ.length, c, by rw [List.getElem?_append_right (Nat.le_refl _), Nat.sub_self, h]; rfl, by rw [hl, List.getElem?_append_right (Nat.le_refl _), Nat.sub_self]; rfl⟩
theorem snoc_at {α : Type} {l : List α} {x y : α} {i : Nat} (h : (l ++ [x])[i]? = some y) : (i < l.length ∧ l[i]? = some y) ∨ (i = l.length ∧ y = x) := by
  by_cases hi : i < l.length
  · rw [List.getElem?_append_left hi] at h
    exact .inl ⟨hi, h⟩
  · rw [List.getElem?_append_right (by omega)] at h
    have h0 : i - l.length = 0 := by
      have := (List.getElem?_eq_some_iff.mp h).1
      simp at this; omega
    rw [h0] at h
    exact .inr ⟨by omega, (Option.some.inj h).symm⟩
theorem MM_snoc {N : MS} {ζ : List Addr} {μ : Store} {a : Addr} {c : Cell} (hl : ζ.length = μ.length) : ∀ x, MM N (ζ ++ [a]) (μ ++ [some c]) x → MM (WD.plus N a) ζ μ x := fun x h => by
  rcases h with h | h
  · rcases (Mof_snoc hl x).mp h with h | h
    · exact .inl h
    · exact .inr (.inr h)
  · exact .inr (.inl h)
/-- what was set aside becomes a thing that changes -/
theorem Wd.push {N : MS} {ζ : List Addr} {μ : Store} {H : Hp} {a : Addr} {c : Cell} (wd : Wd K (WD.plus N a) ζ μ H) (nN : ¬ N a) (hc : cellR K ζ (MM (WD.plus N a) ζ μ) H a c) : Wd K N (ζ ++ [a]) (μ ++ [some c]) H := by
  have hM := MM_snoc (N := N) (a := a) (c := c) wd.len
  have na : ¬ Mof ζ μ a := (wd.nd a (.inr rfl)).1
  have up : ∀ {b : Addr} {c' : Cell} {k : Nat}, k ≤ ζ.length → cellR K (ζ.take k) (MM (WD.plus N a) ζ μ) H b c' → cellR K ((ζ ++ [a]).take k) (MM N (ζ ++ [a]) (μ ++ [some c])) H b c' := fun {b c' k} hk r => r.st (fun j x h => by rw [List.take_append_of_le_length hk]; exact h) (fun x nx _ z => nx (hM x z)) (fun _ _ _ _ e => e) (fun _ _ e => e)
  refine ⟨by rw [List.length_append, List.length_append, wd.len]; rfl, fun i j b c1 c2 h1 h2 h3 h4 => ?_, fun k c' b h1 h2 => ?_, fun b hb => ?_, wd.tb⟩
  · have hl := wd.len
    rcases snoc_at h1 with ⟨i1, g1⟩ | ⟨i1, g1⟩ <;> rcases snoc_at h2 with ⟨j1, g2⟩ | ⟨j1, g2⟩ <;> rcases snoc_at h3 with ⟨i2, g3⟩ | ⟨i2, g3⟩ <;> rcases snoc_at h4 with ⟨j2, g4⟩ | ⟨j2, g4⟩ <;> first
      | omega
      | exact wd.inj i j b c1 c2 g1 g2 g3 g4
      | (subst g2; exact absurd ⟨i, c1, g1, g3⟩ na)
      | (subst g1; exact absurd ⟨j, c2, g2, g4⟩ na)
  · have hl := wd.len
    rcases snoc_at h1 with ⟨i1, g1⟩ | ⟨i1, g1⟩ <;> rcases snoc_at h2 with ⟨j1, g2⟩ | ⟨j1, g2⟩
    · exact up (by omega) (wd.cell k c' b g1 g2)
    · omega
    · omega
    · cases g1
      rw [g2]
      exact up (by omega) (by rw [List.take_of_length_le (by omega)]; exact hc)
  · refine ⟨fun z => ?_, (wd.nd b (.inl hb)).2⟩
    rcases (Mof_snoc wd.len b).mp z with z | z
    · exact (wd.nd b (.inl hb)).1 z
    · exact nN (z ▸ hb)
/-- a new list as a thing that changes -/
theorem i_cellF {f : Sl → Store → R (List PV)} (h : IF K ξ W X e f) : IE K ξ W X e (eCellF f) := PE.of h fun σr H Q q => by
  obtain ⟨N, ζ, μ, σ, wd, so, q⟩ := q
  refine ⟨N, ζ, μ, σ, wd, so, ?_⟩
  unfold eCellF at q
  cases e : f σ μ with
  | ok ds μ1 =>
    rw [e] at q
    intro ζ' H' a vs ev w hn ha r
    refine q (ζ' ++ [a]) H' _ ⟨fun k b hb => ?_, ev.fr, fun b hb => ?_⟩ (w.push (fun z => (wd.nd a z).2.nn hn) ⟨vs, ha, r⟩) ⟨a, by rw [← w.len, List.getElem?_append_right (Nat.le_refl _), Nat.sub_self]; rfl, rfl⟩
    · have := ev.pre k b hb
      rw [List.getElem?_append_left (List.getElem?_eq_some_iff.mp this).1]
      exact this
    · rcases (Mof_snoc w.len b).mp hb with z | z
      · exact ev.ml b z
      · exact .inr (by rw [z]; exact hn)
  | ex c f μ1 => rw [e] at q; exact q
  | stuck => rw [e] at q; exact q
end
end PM
namespace PM
open PySem PySem.Spec PyProof.Rows L2
open WD (MS upd_none)

/-! ### data to be compared -/
mutual
def PV.data : PV → PyData
  | .non => .none
  | .bl b => .bool b
  | .int i => .int i
  | .str x => .str x
  | .tup xs => .tuple (datas xs)
  | .lst xs => .list (datas xs)
  | .ktp xs => .tuple (datas xs)
  | .dic _ _ _ => .none
  | .obj _ _ _ => .none
def datas : List PV → List PyData
  | [] => []
  | x :: xs => x.data :: datas xs
end
mutual
def PV.flat : PV → Bool
  | .tup xs => flats xs
  | .lst xs => flats xs
  | .ktp xs => flats xs
  | .dic _ _ _ => false
  | .obj _ _ _ => false
  | _ => true
def flats : List PV → Bool
  | [] => true
  | x :: xs => x.flat && flats xs
end
/-- to be compared -/
def okD (d : PV) : Bool := d.flat && decide (d.data.depth ≤ 64)
def eqB (x y : PV) : Bool := PyData.eqv x.data y.data
def eqV (x y : PV) : Option PV := if okD x && okD y then some (.bl (eqB x y)) else none
def neV (x y : PV) : Option PV := if okD x && okD y then some (.bl (!eqB x y)) else none
section
variable {K : KT} {M : MS} {H : Hp}
mutual
theorem rv_dp : ∀ (d : PV) (v : V), d.flat = true → rv K M H v d → Dp K H v d.data ∧ d.data.canLay0 = true
  | .non, v, _, h => by rw [rv_non] at h; subst h; exact ⟨.non, rfl⟩
  | .bl b, v, _, h => by rw [rv_bl] at h; subst h; exact ⟨.bl b, rfl⟩
  | .int i, v, _, h => by rw [rv_int] at h; subst h; exact ⟨.int i, rfl⟩
  | .str x, v, _, h => by
    rw [rv_str] at h
    obtain ⟨rfl, h⟩ := h
    exact ⟨.str x, by show PyData.canLay0 (.str x) = true; exact h⟩
  | .tup l, v, f, h => by
    rw [rv_tup] at h
    obtain ⟨a, vs, rfl, _, h3, h4⟩ := h
    obtain ⟨g1, g2⟩ := rvs_dp l vs (by unfold PV.flat at f; exact f) h4
    unfold PV.data
    exact ⟨.tup (SqT.of h3) g1, g2⟩
  | .lst l, v, f, h => by
    rw [rv_lst] at h
    obtain ⟨a, vs, rfl, _, h3, h4⟩ := h
    obtain ⟨g1, g2⟩ := rvs_dp l vs (by unfold PV.flat at f; exact f) h4
    unfold PV.data
    exact ⟨.lst (SqL.of h3) g1, g2⟩
  | .ktp l, v, f, h => by
    rw [rv_ktp] at h
    obtain ⟨a, vs, rfl, h3, h4⟩ := h
    obtain ⟨g1, g2⟩ := rvs_dp l vs (by unfold PV.flat at f; exact f) h4
    unfold PV.data
    exact ⟨.tup h3.sq g1, g2⟩
  | .dic _ _ _, v, f, _ => by unfold PV.flat at f; cases f
  | .obj _ _ _, v, f, _ => by unfold PV.flat at f; cases f
theorem rvs_dp : ∀ (ds : List PV) (vs : List V), flats ds = true → rvs K M H vs ds → DpAll K H vs (datas ds) ∧ PyData.canLayAll0 (datas ds) = true
  | [], [], _, _ => by unfold datas; exact ⟨.nil, rfl⟩
  | d :: ds, v :: vs, f, h => by
    rw [rvs_cons] at h
    unfold flats at f
    rw [Bool.and_eq_true] at f
    obtain ⟨h1, h2⟩ := rv_dp d v f.1 h.1
    obtain ⟨h3, h4⟩ := rvs_dp ds vs f.2 h.2
    unfold datas
    exact ⟨.cons h1 h3, by show (d.data.canLay0 && PyData.canLayAll0 (datas ds)) = true; rw [h2, h4]; rfl⟩
  | [], _ :: _, _, h => by unfold rvs at h; exact h.elim
  | _ :: _, [], _, h => by unfold rvs at h; exact h.elim
end
theorem vv_dp : ∀ {d : PV} {v : V}, d.flat = true → vv K M H v d → Dp K H v d.data ∧ d.data.canLay0 = true
  | .lst l, v, f, h => by
    obtain ⟨a, vs, rfl, h3, h4⟩ := h
    obtain ⟨g1, g2⟩ := rvs_dp l vs (by unfold PV.flat at f; exact f) h4
    unfold PV.data
    exact ⟨.lst (SqL.of h3) g1, g2⟩
  | .dic _ _ _, v, f, _ => by unfold PV.flat at f; cases f
  | .obj _ _ _, v, f, _ => by unfold PV.flat at f; cases f
  | .non, v, f, h => rv_dp (M := M) _ v f h
  | .bl b, v, f, h => rv_dp (M := M) _ v f h
  | .int i, v, f, h => rv_dp (M := M) _ v f h
  | .str x, v, f, h => rv_dp (M := M) _ v f h
  | .tup l, v, f, h => rv_dp (M := M) _ v f h
  | .ktp l, v, f, h => rv_dp (M := M) _ v f h
theorem okD_dp {d : PV} {v : V} (f : okD d = true) (h : vv K M H v d) : Dp K H v d.data ∧ SeqAt.shaped d.data = true := by
  unfold okD at f
  rw [Bool.and_eq_true] at f
  obtain ⟨h1, h2⟩ := vv_dp f.1 h
  exact ⟨h1, by unfold SeqAt.shaped; rw [h2, f.2]; rfl⟩
end
section
variable {X : Cx} {K : KT}
theorem op_eqV (hu : X.A.units + 64 < cLine) (hK : X.K = K := by rfl) : OpR X (compareOp .Eq) (rP2 K eqV) := by
  obtain ⟨K, Kt⟩ := K; obtain rfl : X.K = K := hK
  intro pins s σ H x y v u Q I rx ry h
  obtain ⟨M, d1, d2, d, h1, h2, fr, e, g⟩ := h
  unfold eqV at e
  split at e
  · rename_i hc
    cases e
    rw [Bool.and_eq_true] at hc
    obtain ⟨p1, p2⟩ := okD_dp hc.1 h1
    obtain ⟨q1, q2⟩ := okD_dp hc.2 h2
    exact op_eqD hu pins s σ H x y v u Q I rx ry ⟨_, _, p1, q1, p2, q2, g.bl⟩
  · cases e
theorem op_neV (hu : X.A.units + 64 < cLine) (hK : X.K = K := by rfl) : OpR X (compareOp .NotEq) (rP2 K neV) := by
  obtain ⟨K, Kt⟩ := K; obtain rfl : X.K = K := hK
  intro pins s σ H x y v u Q I rx ry h
  obtain ⟨M, d1, d2, d, h1, h2, fr, e, g⟩ := h
  unfold neV at e
  split at e
  · rename_i hc
    cases e
    rw [Bool.and_eq_true] at hc
    obtain ⟨p1, p2⟩ := okD_dp hc.1 h1
    obtain ⟨q1, q2⟩ := okD_dp hc.2 h2
    exact op_neD hu pins s σ H x y v u Q I rx ry ⟨_, _, p1, q1, p2, q2, g.bl⟩
  · cases e
end

/-! ### arithmetic -/
def addV : PV → PV → Option PV
  | .int i, .int j => some (.int (i + j))
  | .str a, .str b => if a.length + b.length ≤ sizeLine then some (.str (a ++ b)) else none
  | .tup a, .tup b => if a.length + b.length ≤ sizeLine then some (.tup (a ++ b)) else none
  | .lst a, .lst b => if a.length + b.length ≤ sizeLine then some (.lst (a ++ b)) else none
  | _, _ => none
def addF : PV → PV → Option (List PV)
  | .lst a, .lst b => if a.length + b.length ≤ sizeLine then some (a ++ b) else none
  | _, _ => none
def subV : PV → PV → Option PV
  | .int i, .int j => some (.int (i - j))
  | _, _ => none
/-- bounds, so said that the kernel never counts down from them -/
def inW (i : Int) : Bool := Nat.ble i.natAbs 18446744073709551615
def bnd (i : Int) : Bool := Nat.ble i.natAbs 1000000000000
theorem bnd_ok {i : Int} (h : bnd i = true) : -(2 ^ 62) ≤ i ∧ i < 2 ^ 62 := by
  have := Nat.le_of_ble_eq_true h
  omega
theorem bnd_of {i : Int} (h1 : -1000000000000 ≤ i) (h2 : i ≤ 1000000000000) : bnd i = true := Nat.ble_eq_true_of_le (by omega)
def rep {α : Type} (k : Int) (l : List α) : List α := (List.replicate k.toNat l).flatten
def mulV : PV → PV → Option PV
  | .int i, .int j => if inW i || inW j then some (.int (i * j)) else none
  | .tup a, .int k => if !a.isEmpty && (decide (0 ≤ k) && (Nat.ble k.toNat 1000 && Nat.ble a.length 1000)) then some (.tup (rep k a)) else none
  | _, _ => none
def modV : PV → PV → Option PV
  | .int i, .int j => if 0 < j then some (.int (i % j)) else none
  | _, _ => none
def fdivV : PV → PV → Option PV
  | .int i, .int j => if Nat.ble 1 j.toNat && Nat.ble j.toNat 1073741823 then some (.int (i / j)) else none
  | _, _ => none
def powV : PV → PV → Option PV
  | .int i, .int j => if decide (0 ≤ j) && (Nat.ble j.toNat 1000000 && inW i) then some (.int (i ^ j.toNat)) else none
  | _, _ => none
def negV : PV → Option PV
  | .int i => some (.int (-i))
  | _ => none
theorem strOk_app {a b : Str} (ha : PyData.strOk a = true) (hb : PyData.strOk b = true) : PyData.strOk (a ++ b) = true := by
  unfold PyData.strOk at *
  show (a.cps ++ b.cps).all (· < 0x110000) = true
  rw [Array.all_append, ha, hb]; rfl
section
variable {X : Cx} {K : KT} {M : MS} {H : Hp} {v : V}
theorem vv_int {i : Int} (h : vv K M H v (.int i)) : v = .int i := (rv_int (K := K) (M := M) (H := H)).mp h
theorem vv_bl {i : Bool} (h : vv K M H v (.bl i)) : v = .bl i := (rv_bl (K := K) (M := M) (H := H)).mp h
theorem vv_non (h : vv K M H v .non) : v = .non := (rv_non (K := K) (M := M) (H := H)).mp h
theorem vv_str {x : Str} (h : vv K M H v (.str x)) : v = .str x ∧ PyData.strOk x = true := (rv_str (K := K) (M := M) (H := H)).mp h
theorem vv_ktp {l : List PV} (h : vv K M H v (.ktp l)) : ∃ a vs, v = .ref a ∧ KtR K M H a vs ∧ rvs K M H vs l := (rv_ktp (K := K) (M := M) (H := H)).mp h
theorem vv_tup {l : List PV} (h : vv K M H v (.tup l)) : ∃ a vs, v = .ref a ∧ ¬ M a ∧ H a = some (.tup vs) ∧ rvs K M H vs l := (rv_tup (K := K) (M := M) (H := H)).mp h
theorem op_addV (hK : X.K = K := by rfl) : OpR X (binaryOp .Add) (rP2 K addV) := by
  obtain ⟨K, Kt⟩ := K; obtain rfl : X.K = K := hK
  intro pins s σ H x y v u Q I rx ry h
  obtain ⟨M, d1, d2, d, h1, h2, fr, e, g⟩ := h
  unfold addV at e
  split at e
  · cases e
    cases vv_int h1; cases vv_int h2
    exact op_add pins s σ H _ _ v u Q I rx ry ⟨_, _, rfl, rfl, g.int⟩
  · split at e
    · cases e
      obtain ⟨rfl, s1⟩ := vv_str h1
      obtain ⟨rfl, s2⟩ := vv_str h2
      exact op_add_str pins s σ H _ _ v u Q I rx ry ⟨_, _, rfl, rfl, by assumption, g.str (strOk_app s1 s2)⟩
    · cases e
  · split at e
    · rename_i a b hl
      cases e
      obtain ⟨p, vs, rfl, n1, g1, r1⟩ := vv_tup h1
      obtain ⟨q, ws, rfl, n2, g2, r2⟩ := vv_tup h2
      have l1 := rvs_len r1
      have l2 := rvs_len r2
      refine op_catA pins s σ H _ _ v u Q I rx ry ⟨p, q, vs, ws, rfl, rfl, SqT.of g1, SqT.of g2, by omega, fun z => ?_, fun z1 z2 => ?_, fun _ _ r hr => g.tup fr (rvs_app r1 r2) hr⟩
      · have e1 : a = [] := List.eq_nil_of_length_eq_zero (by rw [← l1, z]; rfl)
        subst e1
        exact g H _ Grow.refl (rv_tup.mpr ⟨q, ws, rfl, n2, g2, r2⟩)
      · have e1 : b = [] := List.eq_nil_of_length_eq_zero (by rw [← l2, z2]; rfl)
        subst e1
        rw [List.append_nil] at g
        exact g H _ Grow.refl (rv_tup.mpr ⟨p, vs, rfl, n1, g1, r1⟩)
    · cases e
  · split at e
    · rename_i a b hl
      cases e
      obtain ⟨p, vs, rfl, g1, r1⟩ := h1
      obtain ⟨q, ws, rfl, g2, r2⟩ := h2
      have l1 := rvs_len r1
      have l2 := rvs_len r2
      exact WD.op_catL pins s σ H _ _ v u Q I rx ry ⟨p, q, vs, ws, rfl, rfl, SqL.of g1, SqL.of g2, by omega, fun r hr => g.lst fr (rvs_app r1 r2) hr⟩
    · cases e
  · cases e
theorem op_addF (hK : X.K = K := by rfl) : OpR X (binaryOp .Add) (rPF2 K addF) := by
  obtain ⟨K, Kt⟩ := K; obtain rfl : X.K = K := hK
  intro pins s σ H x y v u Q I rx ry h
  obtain ⟨M, d1, d2, d, h1, h2, fr, e, g⟩ := h
  unfold addF at e
  split at e
  · split at e
    · rename_i a b hl
      cases e
      obtain ⟨p, vs, rfl, g1, r1⟩ := h1
      obtain ⟨q, ws, rfl, g2, r2⟩ := h2
      have l1 := rvs_len r1
      have l2 := rvs_len r2
      exact WD.op_catL pins s σ H _ _ v u Q I rx ry ⟨p, q, vs, ws, rfl, rfl, SqL.of g1, SqL.of g2, by omega, fun r hr => g.lst (rvs_app r1 r2) hr⟩
    · cases e
  · cases e
theorem op_subV (hK : X.K = K := by rfl) : OpR X (binaryOp .Sub) (rP2 K subV) := by
  intro pins s σ H x y v u Q I rx ry h
  obtain ⟨M, d1, d2, d, h1, h2, fr, e, g⟩ := h
  unfold subV at e
  split at e
  · cases e
    cases vv_int h1; cases vv_int h2
    exact op_sub pins s σ H _ _ v u Q I rx ry ⟨_, _, rfl, rfl, g.int⟩
  · cases e
theorem op_modV (hK : X.K = K := by rfl) : OpR X (binaryOp .Mod) (rP2 K modV) := by
  intro pins s σ H x y v u Q I rx ry h
  obtain ⟨M, d1, d2, d, h1, h2, fr, e, g⟩ := h
  unfold modV at e
  split at e
  · split at e
    · cases e
      cases vv_int h1; cases vv_int h2
      exact op_mod pins s σ H _ _ v u Q I rx ry ⟨_, _, rfl, rfl, by assumption, g.int⟩
    · cases e
  · cases e
theorem op_fdivV (hK : X.K = K := by rfl) : OpR X (binaryOp .FloorDiv) (rP2 K fdivV) := by
  intro pins s σ H x y v u Q I rx ry h
  obtain ⟨M, d1, d2, d, h1, h2, fr, e, g⟩ := h
  unfold fdivV at e
  split at e
  · split at e
    · cases e
      rename_i hc
      cases vv_int h1; cases vv_int h2
      rw [Bool.and_eq_true] at hc
      have c1 := Nat.le_of_ble_eq_true hc.1
      have c2 := Nat.le_of_ble_eq_true hc.2
      exact op_fdiv pins s σ H _ _ v u Q I rx ry ⟨_, _, rfl, rfl, ⟨by omega, by omega⟩, g.int⟩
    · cases e
  · cases e
theorem op_powV (hK : X.K = K := by rfl) : OpR X (binaryOp .Pow) (rP2 K powV) := by
  intro pins s σ H x y v u Q I rx ry h
  obtain ⟨M, d1, d2, d, h1, h2, fr, e, g⟩ := h
  unfold powV at e
  split at e
  · split at e
    · cases e
      rename_i hc
      cases vv_int h1; cases vv_int h2
      rw [Bool.and_eq_true, Bool.and_eq_true] at hc
      have c1 := of_decide_eq_true hc.1
      have c2 := Nat.le_of_ble_eq_true hc.2.1
      have c3 := Nat.le_of_ble_eq_true hc.2.2
      exact op_pow pins s σ H _ _ v u Q I rx ry ⟨_, _, rfl, rfl, ⟨c1, by omega, by omega⟩, g.int⟩
    · cases e
  · cases e
theorem inW_ok {i : Int} (h : inW i = true) : -(2 ^ 64) < i ∧ i < 2 ^ 64 := by
  have := Nat.le_of_ble_eq_true h
  omega
theorem rvs_rep {vs : List V} {ds : List PV} (h : rvs K M H vs ds) : ∀ n : Nat, rvs K M H ((List.replicate n vs).flatten) ((List.replicate n ds).flatten)
  | 0 => rvs_nil
  | n + 1 => by
    rw [List.replicate_succ, List.replicate_succ, List.flatten_cons, List.flatten_cons]
    exact rvs_app h (rvs_rep h n)
end
end PM
/-! dicts: what is looked up, what is put -/
namespace PM
open PySem PySem.Spec PyProof.Rows L2
open WD (MS upd_none)
def keyOf : PV → Option Key
  | .int i => some (.inl i)
  | .str x => some (.inr x)
  | _ => none
def keysOf : List PV → Option (List Key)
  | [] => some []
  | d :: ds => match keyOf d, keysOf ds with
    | some k, some ks => some (k :: ks)
    | _, _ => none
/-- may it be a key of such a dict? -/
def keyB : Bool → PV → Bool
  | false, d => (keyOf d).isSome
  | true, .tup l => (keysOf l).isSome
  | true, _ => false
def kEq1 : PV → PV → Bool
  | .int i, .int j => decide (i = j)
  | .str x, .str y => decide (x = y)
  | _, _ => false
def kEqs : List PV → List PV → Bool
  | [], [] => true
  | a :: as, b :: bs => kEq1 a b && kEqs as bs
  | _, _ => false
def keyEq : PV → PV → Bool
  | .tup a, .tup b => kEqs a b
  | a, b => kEq1 a b
def dfind : List PV → List PV → PV → Option PV
  | x :: ks, v :: vs, k => if keyEq x k then some v else dfind ks vs k
  | _, _, _ => none
def dset : List PV → List PV → PV → PV → List PV
  | x :: ks, v :: vs, k, d => (if keyEq x k then d else v) :: dset ks vs k d
  | _, _, _, _ => []
def dput (ks vs : List PV) (k d : PV) : List PV × List PV := if ks.any (keyEq · k) then (ks, dset ks vs k d) else (ks ++ [k], vs ++ [d])
theorem kEq1_k (a b : Key) : kEq1 (kPV a) (kPV b) = decide (a = b) := by
  cases a <;> cases b <;> simp [kPV, kEq1]
theorem keyEq_k (a b : Key) : keyEq (kPV a) (kPV b) = decide (a = b) := by
  rw [← kEq1_k]
  cases a <;> cases b <;> rfl
theorem kEqs_k : ∀ (a b : List Key), kEqs (a.map kPV) (b.map kPV) = decide (a = b)
  | [], [] => by simp [kEqs]
  | [], _ :: _ => by simp [kEqs]
  | _ :: _, [] => by simp [kEqs]
  | a :: as, b :: bs => by simp [kEqs, kEq1_k, kEqs_k as bs]
theorem keyEq_t (a b : List Key) : keyEq (.tup (a.map kPV)) (.tup (b.map kPV)) = decide (a = b) := kEqs_k a b
theorem keyOf_some {d : PV} {k : Key} (h : keyOf d = some k) : d = kPV k := by
  unfold keyOf at h
  split at h <;> cases h <;> rfl
theorem keysOf_some : ∀ {l : List PV} {ks : List Key}, keysOf l = some ks → l = ks.map kPV
  | [], ks, h => by cases h; rfl
  | d :: ds, ks, h => by
    unfold keysOf at h
    split at h
    · rename_i k ks' h1 h2
      cases h
      rw [keyOf_some h1, keysOf_some h2]
      rfl
    · cases h
section
variable {K : KT} {M : MS} {H : Hp} {κ : Type} [DecidableEq κ] {φ : κ → PV}
theorem dfind_ok (hφ : ∀ a b, keyEq (φ a) (φ b) = decide (a = b)) (k : κ) : ∀ {kl : List κ} {vs : List V} {ds : List PV}, kl.length = vs.length → rvs K M H vs ds →
    (∃ d v, dfind (kl.map φ) ds (φ k) = some d ∧ valV (kl.zip vs) k = some v ∧ rv K M H v d) ∨ (dfind (kl.map φ) ds (φ k) = none ∧ valV (kl.zip vs) k = none)
  | [], [], [], _, _ => .inr ⟨rfl, rfl⟩
  | x :: kl, v :: vs, d :: ds, hl, r => by
    rw [rvs_cons] at r
    by_cases e : x = k
    · refine .inl ⟨d, v, ?_, valV_pos (p := (x, v)) e, r.1⟩
      show (if keyEq (φ x) (φ k) then some d else _) = _
      rw [hφ, decide_eq_true e]; rfl
    · have e1 : dfind ((x :: kl).map φ) (d :: ds) (φ k) = dfind (kl.map φ) ds (φ k) := by
        show (if keyEq (φ x) (φ k) then some d else _) = _
        rw [hφ, decide_eq_false e]; rfl
      have e2 : valV ((x :: kl).zip (v :: vs)) k = valV (kl.zip vs) k := valV_neg (p := (x, v)) e
      rw [e1, e2]
      exact dfind_ok hφ k (Nat.succ.inj hl) r.2
  | [], _ :: _, _, hl, _ => by cases hl
  | _ :: _, [], _, hl, _ => by cases hl
  | [], [], _ :: _, _, r => by unfold rvs at r; exact r.elim
  | _ :: _, _ :: _, [], _, r => by unfold rvs at r; exact r.elim
theorem any_ok (hφ : ∀ a b, keyEq (φ a) (φ b) = decide (a = b)) (k : κ) : ∀ {kl : List κ} {vs : List V}, kl.length = vs.length → ((kl.map φ).any (keyEq · (φ k))) = ((kl.zip vs).any fun kv => decide (kv.1 = k))
  | [], [], _ => rfl
  | x :: kl, v :: vs, hl => by
    show (keyEq (φ x) (φ k) || (kl.map φ).any (keyEq · (φ k))) = (decide (x = k) || (kl.zip vs).any fun kv => decide (kv.1 = k))
    rw [hφ, any_ok hφ k (Nat.succ.inj hl)]
  | [], _ :: _, hl => by cases hl
  | _ :: _, [], hl => by cases hl
def vset {κ : Type} [DecidableEq κ] : List κ → List V → κ → V → List V
  | x :: ks, u :: vs, k, v => (if x = k then v else u) :: vset ks vs k v
  | _, _, _, _ => []
theorem vset_zip (k : κ) (v : V) : ∀ {kl : List κ} {vs : List V}, kl.length = vs.length → (kl.zip vs).map (fun kv => if kv.1 = k then (kv.1, v) else kv) = kl.zip (vset kl vs k v) ∧ kl.length = (vset kl vs k v).length
  | [], [], _ => ⟨rfl, rfl⟩
  | x :: kl, u :: vs, hl => by
    obtain ⟨h1, h2⟩ := vset_zip k v (Nat.succ.inj hl)
    refine ⟨?_, congrArg Nat.succ h2⟩
    show (if x = k then (x, v) else (x, u)) :: (kl.zip vs).map _ = (x, if x = k then v else u) :: kl.zip (vset kl vs k v)
    rw [h1]
    split <;> rfl
  | [], _ :: _, hl => by cases hl
  | _ :: _, [], hl => by cases hl
theorem dset_ok (hφ : ∀ a b, keyEq (φ a) (φ b) = decide (a = b)) {k : κ} {v : V} {d : PV} (hv : rv K M H v d) : ∀ {kl : List κ} {vs : List V} {ds : List PV}, kl.length = vs.length → rvs K M H vs ds → rvs K M H (vset kl vs k v) (dset (kl.map φ) ds (φ k) d)
  | [], [], [], _, _ => rvs_nil
  | x :: kl, u :: vs, e :: ds, hl, r => by
    rw [rvs_cons] at r
    refine rvs_cons.mpr ⟨?_, dset_ok hφ hv (Nat.succ.inj hl) r.2⟩
    rw [hφ]
    by_cases hx : x = k
    · rw [if_pos hx, if_pos (decide_eq_true hx)]; exact hv
    · rw [if_neg hx, if_neg (by rw [decide_eq_false hx]; exact Bool.false_ne_true)]; exact r.1
  | [], _ :: _, _, hl, _ => by cases hl
  | _ :: _, [], _, hl, _ => by cases hl
  | [], [], _ :: _, _, r => by unfold rvs at r; exact r.elim
  | _ :: _, _ :: _, [], _, r => by unfold rvs at r; exact r.elim
theorem dput_ok (hφ : ∀ a b, keyEq (φ a) (φ b) = decide (a = b)) {k : κ} {v : V} {d : PV} {kl : List κ} {vs : List V} {ds : List PV} (hv : rv K M H v d) (hl : kl.length = vs.length) (r : rvs K M H vs ds) {P : κ → Prop} (hp : ∀ x ∈ kl, P x) (hk : P k) :
    ∃ (kl' : List κ) (vs' : List V), putK (kl.zip vs) k v = kl'.zip vs' ∧ (dput (kl.map φ) ds (φ k) d).1 = kl'.map φ ∧ kl'.length = vs'.length ∧ rvs K M H vs' (dput (kl.map φ) ds (φ k) d).2 ∧ ∀ x ∈ kl', P x := by
  unfold putK dput
  rw [← any_ok hφ k hl]
  split
  · obtain ⟨h1, h2⟩ := vset_zip k v hl
    exact ⟨kl, vset kl vs k v, h1, rfl, h2, dset_ok hφ hv hl r, hp⟩
  · refine ⟨kl ++ [k], vs ++ [v], by rw [List.zip_append hl]; rfl, by simp, by simp [hl], rvs_app r (rvs_cons.mpr ⟨hv, rvs_nil⟩), fun x hx => ?_⟩
    rcases List.mem_append.mp hx with h | h
    · exact hp x h
    · rw [List.mem_singleton.mp h]; exact hk
end
section
variable {X : Cx} {K : KT} {M : MS} {H : Hp} {v : V}
theorem kV_of {k : Key} (h : rv K M H v (kPV k)) : v = kV k ∧ kOk k := by
  cases k with
  | inl i => exact ⟨rv_int.mp h, trivial⟩
  | inr x => exact ⟨(rv_str.mp h).1, (rv_str.mp h).2⟩
theorem kVs_of : ∀ {vs : List V} {ks : List Key}, rvs K M H vs (ks.map kPV) → vs = ks.map kV ∧ ∀ k ∈ ks, kOk k
  | [], [], _ => ⟨rfl, fun _ h => nomatch h⟩
  | v :: vs, k :: ks, h => by
    have h : rvs K M H (v :: vs) (kPV k :: ks.map kPV) := h
    rw [rvs_cons] at h
    obtain ⟨h1, h2⟩ := kV_of h.1
    obtain ⟨h3, h4⟩ := kVs_of h.2
    refine ⟨by rw [h1, h3]; rfl, fun z hz => ?_⟩
    rcases List.mem_cons.mp hz with e | e
    · rw [e]; exact h2
    · exact h4 z e
  | [], _ :: _, h => by
    have := rvs_len h
    simp at this
  | _ :: _, [], h => by
    have := rvs_len h
    simp at this
theorem vv_key : ∀ {d : PV} {k : Key}, keyOf d = some k → vv K M H v d → v = kV k ∧ kOk k := by
  intro d k e h
  rw [keyOf_some e] at h
  refine kV_of (K := K) (M := M) (H := H) ?_
  cases k <;> exact h
/-- what is looked up -/
theorem dget_rel {b : Bool} {a : Addr} {ks ds : List PV} {vs : List V} {y : V} {k : PV} (h : DicR b H a ks vs) (r : rvs K M H vs ds) (hy : vv K M H y k) (hk : keyB b k = true) :
    (∃ d v, dfind ks ds k = some d ∧ DGet H a y (some v) ∧ rv K M H v d) ∨ (dfind ks ds k = none ∧ DGet H a y none) := by
  cases b with
  | false =>
    obtain ⟨kl, rfl, hl, hok, ha⟩ := h
    obtain ⟨k', hk'⟩ := Option.isSome_iff_exists.mp hk
    obtain ⟨rfl, _⟩ := vv_key hk' hy
    rw [keyOf_some hk']
    rcases dfind_ok keyEq_k k' hl r with ⟨d, v, h1, h2, h3⟩ | ⟨h1, h2⟩
    · exact .inl ⟨d, v, h1, by rw [← h2]; exact DGet.k ha, h3⟩
    · exact .inr ⟨h1, by rw [← h2]; exact DGet.k ha⟩
  | true =>
    obtain ⟨kl, rfl, hl, hok, ha⟩ := h
    cases k with
    | tup l =>
      obtain ⟨k', hk'⟩ := Option.isSome_iff_exists.mp (show (keysOf l).isSome = true from hk)
      rw [keysOf_some hk'] at hy ⊢
      obtain ⟨p, us, rfl, _, hp, ru⟩ := vv_tup hy
      obtain ⟨rfl, _⟩ := kVs_of ru
      rcases dfind_ok (φ := fun k => PV.tup (k.map kPV)) keyEq_t k' hl r with ⟨d, v, h1, h2, h3⟩ | ⟨h1, h2⟩
      · exact .inl ⟨d, v, h1, by rw [← h2]; exact DGet.t ha hp, h3⟩
      · exact .inr ⟨h1, by rw [← h2]; exact DGet.t ha hp⟩
    | _ => cases hk
theorem ix_dict (hu : X.A.units + 1 < cLine) : IxR X (fun x y H Q => ∃ a v, x = .ref a ∧ DGet H a y (some v) ∧ Q v H) := by
  intro value slice pins s σ H x y v u Q I rx ry h hs
  obtain ⟨a, z, rfl, g, q⟩ := h
  obtain rfl : v = Value.ref a := rx
  have hT := dict_typeIs I g
  unfold subscriptTail
  refine wpAny_bind ?_
  rw [getitemInPython_of_ne hT.not_modules]
  refine wpAny_bind (wpAny_specialOf hT PySem.F.slot_dict_getitem.lookup ?_)
  have fin : wpAny (model X.prog X.w) X.A (subscripted slice false (.ref a) u) (fun r s₃ => wpAny (model X.prog X.w) X.A (letTemporaryGo value (.ref a) r >>= fun _ => pure r) (EP X pins σ Q) X.xe s₃) X.xe s := by
    rw [hs]
    exact wpAny_operating (wpAny_mono (d_getItem hu I g ry fun w' s3 I3 rw' => (⟨z, H, I3, rw', q⟩ : EP X pins σ Q w' s3)) (fun r s₃ h₃ => wpAny_bind (wpAny_letTemporaryGo (wpAny_pure h₃))) fun _ _ x => x)
  first
    | exact wpAny_pure (wpAny_bind fin)
    | exact wpAny_bind (wpAny_pure (wpAny_bind fin))
    | exact wpAny_bind fin
theorem op_inDict (hu : X.A.units + 1 < cLine) : OpR X (compareOp .In) (fun y x H Q => ∃ a o, x = .ref a ∧ DGet H a y o ∧ Q (.bl o.isSome) H) := by
  intro pins s σ H x y v u Q I rx ry h
  obtain ⟨a, o, rfl, g, q⟩ := h
  obtain rfl : u = Value.ref a := ry
  exact d_in hu I g rx fun s3 I3 => ⟨.bl o.isSome, H, I3, rfl, q⟩
theorem op_notInDict (hu : X.A.units + 1 < cLine) : OpR X (compareOp .NotIn) (fun y x H Q => ∃ a o, x = .ref a ∧ DGet H a y o ∧ Q (.bl (!o.isSome)) H) := by
  intro pins s σ H x y v u Q I rx ry h
  obtain ⟨a, o, rfl, g, q⟩ := h
  obtain rfl : u = Value.ref a := ry
  exact d_notIn hu I g rx fun s3 I3 => ⟨.bl (!o.isSome), H, I3, rfl, q⟩
end
end PM
namespace PM
open PySem PySem.Spec PyProof.Rows L2
open WD (MS upd_none)
section
variable {X : Cx} {K : KT} {M : MS} {H : Hp} {v : V}
theorem op_mulV (hK : X.K = K := by rfl) : OpR X (binaryOp .Mult) (rP2 K mulV) := by
  obtain ⟨K, Kt⟩ := K; obtain rfl : X.K = K := hK
  intro pins s σ H x y v u Q I rx ry h
  obtain ⟨M, d1, d2, d, h1, h2, fr, e, g⟩ := h
  unfold mulV at e
  split at e
  · split at e
    · rename_i i j hc
      cases e
      cases vv_int h1; cases vv_int h2
      refine op_mul pins s σ H _ _ v u Q I rx ry ⟨_, _, rfl, rfl, ?_, g.int⟩
      rw [Bool.or_eq_true] at hc
      rcases hc with hc | hc
      · exact .inl (inW_ok hc)
      · exact .inr (inW_ok hc)
    · cases e
  · split at e
    · rename_i a k hc
      cases e
      obtain ⟨p, vs, rfl, n1, g1, r1⟩ := vv_tup h1
      cases vv_int h2
      have l1 := rvs_len r1
      rw [Bool.and_eq_true, Bool.and_eq_true, Bool.and_eq_true] at hc
      have c1 : 0 ≤ k := of_decide_eq_true hc.2.1
      have c2 := Nat.le_of_ble_eq_true hc.2.2.1
      have c3 := Nat.le_of_ble_eq_true hc.2.2.2
      have hne : vs ≠ [] := fun z => by
        have e0 : a = [] := List.eq_nil_of_length_eq_zero (by rw [← l1, z]; rfl)
        rw [e0] at hc
        simp at hc
      by_cases k0 : k = 0
      · subst k0
        refine WD.op_rep0 pins s σ H _ _ v u Q I rx ry ⟨p, vs, rfl, rfl, SqT.of g1, hne, fun r hr => ?_⟩
        exact g.tup fr (vs := []) rvs_nil hr
      · by_cases k1 : k = 1
        · subst k1
          refine WD.op_rep1 pins s σ H _ _ v u Q I rx ry ⟨p, vs, rfl, rfl, SqT.of g1, ?_⟩
          refine g H _ Grow.refl (rv_tup.mpr ⟨p, vs, rfl, n1, g1, ?_⟩)
          have e : rep 1 a = a := by unfold rep; simp
          rw [e]; exact r1
        · refine op_repT pins s σ H _ _ v u Q I rx ry ⟨p, k, vs, rfl, rfl, SqT.of g1, hne, by omega, by omega, by omega, fun r hr => g.tup fr (rvs_rep r1 _) hr⟩
    · cases e
  · cases e
theorem un_negV (hK : X.K = K := by rfl) : UnR X (unaryOp .USub) (rP1 K negV) := by
  intro pins s σ H x v Q I rx h
  obtain ⟨M, d1, d, h1, fr, e, g⟩ := h
  unfold negV at e
  split at e
  · cases e
    cases vv_int h1
    exact un_neg pins s σ H _ v Q I rx ⟨_, rfl, g.int⟩
  · cases e
end
/-! ### comparisons -/
def intsOf : List PV → Option (List Int)
  | [] => some []
  | .int i :: r => (intsOf r).map (i :: ·)
  | _ :: _ => none
theorem intsOf_map (l : List Int) : intsOf (l.map .int) = some l := by
  induction l with
  | nil => rfl
  | cons a l ih => show (intsOf (l.map .int)).map _ = _; rw [ih]; rfl
def ltV : PV → PV → Option PV
  | .int i, .int j => some (.bl (decide (i < j)))
  | .tup a, .tup b => match intsOf a, intsOf b with
    | some l, some m => some (.bl (HT.lexLt l m))
    | _, _ => none
  | _, _ => none
def leV : PV → PV → Option PV
  | .int i, .int j => some (.bl (decide (i ≤ j)))
  | _, _ => none
def gtV : PV → PV → Option PV
  | .int i, .int j => some (.bl (decide (j < i)))
  | _, _ => none
def geV : PV → PV → Option PV
  | .int i, .int j => some (.bl (decide (j ≤ i)))
  | _, _ => none
def isNon : PV → Bool
  | .non => true
  | _ => false
def isntV : PV → PV → Option PV
  | x, .non => some (.bl (!isNon x))
  | _, _ => none
def scalB : PV → Bool
  | .non => true
  | .bl _ => true
  | .int _ => true
  | .str _ => true
  | _ => false
/-- x in y -/
def inV' : PV → PV → Option Bool
  | .str c, .str z => match c.cps.toList with
    | [k] => some (decide (k ∈ z.cps.toList))
    | _ => none
  | d, .lst l => if okD d && okD (.lst l) then some (l.any fun z => eqB z d) else none
  | d, .tup l => if scalB d && l.all scalB then some (l.any fun z => eqB z d) else none
  | d, .ktp l => if scalB d && l.all scalB then some (l.any fun z => eqB z d) else none
  | d, .dic b ks vs => if keyB b d then some (dfind ks vs d).isSome else none
  | _, _ => none
def inPV (x y : PV) : Option PV := (inV' x y).map .bl
def notInPV (x y : PV) : Option PV := (inV' x y).map fun b => .bl (!b)
section
variable {X : Cx} {K : KT} {M : MS} {H : Hp} {v : V}
theorem ints_vals : ∀ {vs : List V} {ds : List PV} {l : List Int}, rvs K M H vs ds → intsOf ds = some l → vs = l.map V.int
  | [], [], l, _, e => by cases e; rfl
  | v :: vs, .int i :: ds, l, h, e => by
    rw [rvs_cons] at h
    obtain ⟨l', e1, rfl⟩ := Option.map_eq_some_iff.mp e
    rw [rv_int.mp h.1, ints_vals h.2 e1]
    rfl
  | _ :: _, .non :: _, _, _, e => by cases e
  | _ :: _, .bl _ :: _, _, _, e => by cases e
  | _ :: _, .str _ :: _, _, _, e => by cases e
  | _ :: _, .tup _ :: _, _, _, e => by cases e
  | _ :: _, .lst _ :: _, _, _, e => by cases e
  | _ :: _, .ktp _ :: _, _, _, e => by cases e
  | _ :: _, .dic _ _ _ :: _, _, _, e => by cases e
  | _ :: _, .obj _ _ _ :: _, _, _, e => by cases e
  | [], _ :: _, _, h, _ => by unfold rvs at h; exact h.elim
  | _ :: _, [], _, h, _ => by unfold rvs at h; exact h.elim
theorem op_ltV (hu : X.A.units < cLine) (hK : X.K = K := by rfl) : OpR X (compareOp .Lt) (rP2 K ltV) := by
  obtain ⟨K, Kt⟩ := K; obtain rfl : X.K = K := hK
  intro pins s σ H x y v u Q I rx ry h
  obtain ⟨M, d1, d2, d, h1, h2, fr, e, g⟩ := h
  unfold ltV at e
  split at e
  · cases e
    cases vv_int h1; cases vv_int h2
    exact op_lt pins s σ H _ _ v u Q I rx ry ⟨_, _, rfl, rfl, g.bl⟩
  · split at e
    · rename_i a b l m e1 e2
      cases e
      obtain ⟨p, vs, rfl, n1, g1, r1⟩ := vv_tup h1
      obtain ⟨q, ws, rfl, n2, g2, r2⟩ := vv_tup h2
      have z1 := ints_vals r1 e1
      have z2 := ints_vals r2 e2
      subst z1 z2
      exact op_ltT hu pins s σ H _ _ v u Q I rx ry ⟨p, q, l, m, rfl, rfl, SqT.of g1, SqT.of g2, g.bl⟩
    · cases e
  · cases e
theorem op_leV (hK : X.K = K := by rfl) : OpR X (compareOp .LtE) (rP2 K leV) := by
  intro pins s σ H x y v u Q I rx ry h
  obtain ⟨M, d1, d2, d, h1, h2, fr, e, g⟩ := h
  unfold leV at e
  split at e
  · cases e
    cases vv_int h1; cases vv_int h2
    exact op_le pins s σ H _ _ v u Q I rx ry ⟨_, _, rfl, rfl, g.bl⟩
  · cases e
theorem op_gtV (hK : X.K = K := by rfl) : OpR X (compareOp .Gt) (rP2 K gtV) := by
  intro pins s σ H x y v u Q I rx ry h
  obtain ⟨M, d1, d2, d, h1, h2, fr, e, g⟩ := h
  unfold gtV at e
  split at e
  · cases e
    cases vv_int h1; cases vv_int h2
    exact op_gt pins s σ H _ _ v u Q I rx ry ⟨_, _, rfl, rfl, g.bl⟩
  · cases e
theorem op_geV (hK : X.K = K := by rfl) : OpR X (compareOp .GtE) (rP2 K geV) := by
  intro pins s σ H x y v u Q I rx ry h
  obtain ⟨M, d1, d2, d, h1, h2, fr, e, g⟩ := h
  unfold geV at e
  split at e
  · cases e
    cases vv_int h1; cases vv_int h2
    exact op_ge pins s σ H _ _ v u Q I rx ry ⟨_, _, rfl, rfl, g.bl⟩
  · cases e
theorem isNon_v : ∀ {d : PV}, vv K M H v d → decide (v = .non) = isNon d
  | .non, h => by rw [vv_non h]; rfl
  | .bl _, h => by rw [vv_bl h]; rfl
  | .int _, h => by rw [vv_int h]; rfl
  | .str _, h => by rw [(vv_str h).1]; rfl
  | .tup _, h => by obtain ⟨a, _, rfl, _⟩ := vv_tup h; rfl
  | .lst _, h => by obtain ⟨a, _, rfl, _⟩ := h; rfl
  | .ktp _, h => by obtain ⟨a, _, rfl, _⟩ := vv_ktp h; rfl
  | .dic _ _ _, h => by obtain ⟨a, _, rfl, _⟩ := h; rfl
  | .obj _ _ _, h => by obtain ⟨a, _, _, rfl, _⟩ := h; rfl
theorem op_isntV (hK : X.K = K := by rfl) : OpR X (compareOp .IsNot) (rP2 K isntV) := by
  intro pins s σ H x y v u Q I rx ry h
  obtain ⟨M, d1, d2, d, h1, h2, fr, e, g⟩ := h
  unfold isntV at e
  split at e
  · cases e
    cases vv_non h2
    refine op_notN pins s σ H _ _ v u Q I rx ry ⟨rfl, ?_⟩
    rw [isNon_v h1]
    exact g.bl
  · cases e
theorem datas_any (l : List PV) (p : PyData → Bool) : (datas l).any p = l.any fun z => p z.data := by
  induction l with
  | nil => unfold datas; rfl
  | cons a l ih => unfold datas; rw [List.any_cons, List.any_cons, ih]
theorem scal_flat : ∀ {d : PV}, scalB d = true → vv K M H v d → flatV v = true
  | .non, _, h => by rw [vv_non h]; rfl
  | .bl _, _, h => by rw [vv_bl h]; rfl
  | .int _, _, h => by rw [vv_int h]; rfl
  | .str _, _, h => by rw [(vv_str h).1]; rfl
  | .tup _, f, _ => by cases f
  | .lst _, f, _ => by cases f
  | .ktp _, f, _ => by cases f
  | .dic _ _ _, f, _ => by cases f
  | .obj _ _ _, f, _ => by cases f
theorem scal_eq : ∀ {d e : PV} {u : V}, scalB d = true → scalB e = true → vv K M H v d → rv K M H u e → L2.eqV v u = eqB d e := by
  intro d e u f1 f2 h1 h2
  have h2 := vv_of h2
  cases d <;> (first | cases f1 | skip) <;> cases e <;> (first | cases f2 | skip) <;> (
    first
    | rw [vv_non h1] | rw [vv_bl h1] | rw [vv_int h1] | rw [(vv_str h1).1]) <;> (
    first
    | rw [vv_non h2] | rw [vv_bl h2] | rw [vv_int h2] | rw [(vv_str h2).1]) <;> simp only [L2.eqV, eqB, PV.data, PyData.eqv]
theorem scal_any {d : PV} {u : V} (f : scalB d = true) (h : vv K M H u d) : ∀ {vs : List V} {ds : List PV}, ds.all scalB = true → rvs K M H vs ds → vs.all flatV = true ∧ inV u vs = ds.any fun z => eqB z d := by
  intro vs ds
  induction ds generalizing vs with
  | nil => intro _ r; have := rvs_len r; cases List.eq_nil_of_length_eq_zero this; exact ⟨rfl, rfl⟩
  | cons e ds ih =>
    intro hf r
    cases vs with
    | nil => unfold rvs at r; exact r.elim
    | cons w vs =>
      rw [rvs_cons] at r
      rw [List.all_cons, Bool.and_eq_true] at hf
      obtain ⟨g1, g2⟩ := ih hf.2 r.2
      have k1 := scal_flat hf.1 (vv_of r.1)
      have k2 : L2.eqV w u = eqB e d := by
        have hd : rv K M H u d := by
          cases d <;> first | exact h | cases f
        exact scal_eq hf.1 f (vv_of r.1) hd
      refine ⟨by rw [List.all_cons, k1, g1]; rfl, ?_⟩
      show (L2.eqV w u || inV u vs) = _
      rw [k2, g2, List.any_cons]
theorem op_inX (neg : Bool) (hu : X.A.units + 65 < cLine) (hK : X.K = K := by rfl) : OpR X (compareOp (if neg then .NotIn else .In)) (rP2 K fun x y => (inV' x y).map fun b => .bl (if neg then !b else b)) := by
  obtain ⟨K, Kt⟩ := K; obtain rfl : X.K = K := hK
  intro pins s σ H x y v u Q I rx ry h
  obtain ⟨M, d1, d2, d, h1, h2, fr, e0, g⟩ := h
  obtain ⟨b, e, ed⟩ := Option.map_eq_some_iff.mp e0
  subst ed
  clear e0
  have g := g.bl
  unfold inV' at e
  split at e
  · split at e
    · rename_i c z _ k hk
      cases e
      obtain ⟨rfl, _⟩ := vv_str h1
      obtain ⟨rfl, _⟩ := vv_str h2
      have hc : c = ⟨#[k]⟩ := by
        obtain ⟨cp⟩ := c
        congr 1
        have : cp.toList = [k] := hk
        rw [← Array.toArray_toList (xs := cp), this]
      subst hc
      cases neg
      · exact op_inS pins s σ H _ _ v u Q I rx ry ⟨k, z, rfl, rfl, g⟩
      · exact op_notInS pins s σ H _ _ v u Q I rx ry ⟨k, z, rfl, rfl, g⟩
    · cases e
  · split at e
    · rename_i l hc
      cases e
      rw [Bool.and_eq_true] at hc
      obtain ⟨p1, p2⟩ := okD_dp hc.1 h1
      obtain ⟨q1, q2⟩ := okD_dp hc.2 h2
      have ea : (l.any fun z => eqB z d1) = (datas l).any fun z => PyData.eqv z d1.data := (datas_any l (fun z => PyData.eqv z d1.data)).symm
      rw [ea] at g
      unfold PV.data at q1 q2
      cases neg
      · exact op_inD hu pins s σ H _ _ v u Q I rx ry ⟨_, _, p1, q1, p2, q2, g⟩
      · exact op_notInD hu pins s σ H _ _ v u Q I rx ry ⟨_, _, p1, q1, p2, q2, g⟩
    · cases e
  · split at e
    · rename_i l hc
      cases e
      rw [Bool.and_eq_true] at hc
      obtain ⟨p, vs, rfl, n1, g1, r1⟩ := vv_tup h2
      obtain ⟨k1, k2⟩ := scal_any hc.1 h1 hc.2 r1
      have k3 := scal_flat hc.1 h1
      cases neg
      · refine op_in_seq pins s σ H _ _ v u Q I rx ry ⟨p, vs, rfl, .inr (SqT.of g1), k3, k1, ?_⟩
        rw [k2]
        exact g
      · refine op_notIn_seq pins s σ H _ _ v u Q I rx ry ⟨p, vs, rfl, .inr (SqT.of g1), k3, k1, ?_⟩
        rw [k2]
        exact g
    · cases e
  · split at e
    · rename_i l hc
      cases e
      rw [Bool.and_eq_true] at hc
      obtain ⟨p, vs, rfl, g1, r1⟩ := vv_ktp h2
      obtain ⟨k1, k2⟩ := scal_any hc.1 h1 hc.2 r1
      have k3 := scal_flat hc.1 h1
      cases neg
      · refine op_in_seq pins s σ H _ _ v u Q I rx ry ⟨p, vs, rfl, .inr g1.sq, k3, k1, ?_⟩
        rw [k2]
        exact g
      · refine op_notIn_seq pins s σ H _ _ v u Q I rx ry ⟨p, vs, rfl, .inr g1.sq, k3, k1, ?_⟩
        rw [k2]
        exact g
    · cases e
  · split at e
    · rename_i b ks ds hk
      cases e
      obtain ⟨a, vs, rfl, hd, r⟩ := h2
      have hu1 : X.A.units + 1 < cLine := by omega
      rcases dget_rel hd r h1 hk with ⟨d, z, e1, g1, _⟩ | ⟨e1, g1⟩
      · rw [e1] at g
        cases neg
        · exact op_inDict hu1 pins s σ H _ _ v u Q I rx ry ⟨a, _, rfl, g1, g⟩
        · exact op_notInDict hu1 pins s σ H _ _ v u Q I rx ry ⟨a, _, rfl, g1, g⟩
      · rw [e1] at g
        cases neg
        · exact op_inDict hu1 pins s σ H _ _ v u Q I rx ry ⟨a, _, rfl, g1, g⟩
        · exact op_notInDict hu1 pins s σ H _ _ v u Q I rx ry ⟨a, _, rfl, g1, g⟩
    · cases e
  · cases e
theorem op_inV (hu : X.A.units + 65 < cLine) (hK : X.K = K := by rfl) : OpR X (compareOp .In) (rP2 K inPV) := op_inX false hu hK
end
end PM
namespace PM
open PySem PySem.Spec PyProof.Rows L2
open WD (MS upd_none)
/-! ### items, slices -/
def atV : PV → PV → Option PV
  | .lst l, .int i => atI l i
  | .tup l, .int i => atI l i
  | .ktp l, .int i => atI l i
  | .str z, .int i => if z.length ≤ sizeLine then (atI z.cps.toList i).map fun c => .str ⟨#[c]⟩ else none
  | .dic b ks vs, k => if keyB b k then dfind ks vs k else none
  | _, _ => none
def cutG {α : Type} (xs : List α) (lo hi : Option Int) : List α := (xs.drop (HT.sIx xs.length 0 lo)).take (HT.sIx xs.length xs.length hi - HT.sIx xs.length 0 lo)
def slF (lo hi : Option Int) : PV → Option (List PV)
  | .lst l => some (cutG l lo hi)
  | _ => none
abbrev MO := Sl → Store → R (Option Int)
def oNone : MO := fun _ μ => .ok none μ
def gOpt : Val → Store → R (Option Int)
  | .t (.int i), μ => .ok (some i) μ
  | _, _ => .stuck
def oSome (f : ME) : MO := e1 gOpt f
def eSl {α : Type} (g : Option Int → Option Int → Val → Store → R α) (a : ME) (lo hi : MO) : Sl → Store → R α := fun σ μ => (a σ μ).bind fun w μ1 => (lo σ μ1).bind fun l μ2 => (hi σ μ2).bind fun h μ3 => g l h w μ3
def tO (K : KT) (ξ : Xi) (W : WX) (f : MO) : TO := fun σr H Q => ∃ N ζ μ σ, Wd K N ζ μ H ∧ Sok K ξ ζ (MM N ζ μ) H σr σ ∧ PostT K W N ζ μ H σr Q (f σ μ)
abbrev IO (K : KT) (ξ : Xi) (W : WX) (X : Cx) (e : Option Expr) (f : MO) : Prop := PO X e (tO K ξ W f)
theorem PO.of {X : Cx} {e : Option Expr} {t t' : TO} (h : PO X e t) (k : ∀ σ H Q, t' σ H Q → t σ H Q) : PO X e t' := ⟨fun pins s σ H Q I q => h.run pins s σ H Q I (k σ H Q q)⟩
section
variable {X : Cx} {K : KT} {ξ : Xi} {W : WX} {M : MS} {H : Hp} {v : V} {a b e : Expr} {fa fb : ME} {pos : Pos}
theorem rvs_atI {vs : List V} {ds : List PV} {i : Int} {d : PV} (h : rvs K M H vs ds) (e : atI ds i = some d) : ∃ v, atI vs i = some v ∧ rv K M H v d := by
  unfold atI at e ⊢
  rw [rvs_len h]
  cases e2 : ixN ds.length i with
  | none => rw [e2] at e; cases e
  | some j =>
    rw [e2] at e
    obtain ⟨v, h1, h2⟩ := rvs_at h e
    exact ⟨v, h1, h2⟩
theorem rvs_cut {vs : List V} {ds : List PV} (h : rvs K M H vs ds) (lo hi : Option Int) : rvs K M H (cutV vs lo hi) (cutG ds lo hi) := by
  unfold cutV cutG
  rw [rvs_len h]
  exact rvs_take _ (rvs_drop _ h)
theorem strOk_sub {z : Str} {l : List Nat} (h : PyData.strOk z = true) (s : ∀ c ∈ l, c ∈ z.cps.toList) : PyData.strOk ⟨l.toArray⟩ = true := by
  unfold PyData.strOk at *
  rw [Array.all_eq_true_iff_forall_mem] at h ⊢
  intro c hc
  exact h c (by rw [← Array.mem_toList_iff]; exact s c (by simpa using hc))
theorem ix_V (hu : X.A.units + 1 < cLine) (hK : X.K = K := by rfl) : IxR X (rP2 K atV) := by
  obtain ⟨K, Kt⟩ := K; obtain rfl : X.K = K := hK
  intro val sl pins s σ H x y v u Q I rx ry h hs
  obtain ⟨M, d1, d2, d, h1, h2, fr, e, g⟩ := h
  unfold atV at e
  split at e
  · obtain ⟨p, vs, rfl, g1, r1⟩ := h1
    cases vv_int h2
    obtain ⟨z, z1, z2⟩ := rvs_atI r1 e
    exact ix_list val sl pins s σ H _ _ v u Q I rx ry ⟨p, vs, _, z, rfl, rfl, SqL.of g1, z1, g H _ Grow.refl z2⟩ hs
  · obtain ⟨p, vs, rfl, n1, g1, r1⟩ := vv_tup h1
    cases vv_int h2
    obtain ⟨z, z1, z2⟩ := rvs_atI r1 e
    exact ix_tup val sl pins s σ H _ _ v u Q I rx ry ⟨p, vs, _, z, rfl, rfl, SqT.of g1, z1, g H _ Grow.refl z2⟩ hs
  · obtain ⟨p, vs, rfl, g1, r1⟩ := vv_ktp h1
    cases vv_int h2
    obtain ⟨z, z1, z2⟩ := rvs_atI r1 e
    exact ix_tup val sl pins s σ H _ _ v u Q I rx ry ⟨p, vs, _, z, rfl, rfl, g1.sq, z1, g H _ Grow.refl z2⟩ hs
  · split at e
    · rename_i z i hz
      obtain ⟨rfl, so⟩ := vv_str h1
      cases vv_int h2
      obtain ⟨c, c1, c2⟩ := Option.map_eq_some_iff.mp e
      subst c2
      refine ix_str val sl pins s σ H _ _ v u Q I rx ry ⟨z, i, c, rfl, rfl, hz, c1, g.str (strOk_sub (l := [c]) so fun c' hc' => ?_)⟩ hs
      rw [List.mem_singleton.mp hc']
      unfold atI at c1
      cases e2 : ixN z.cps.toList.length i with
      | none => rw [e2] at c1; cases c1
      | some j => rw [e2] at c1; exact List.mem_of_getElem? c1
    · cases e
  · split at e
    · rename_i b ks ds k hk
      obtain ⟨a, vs, rfl, hd, r⟩ := h1
      rcases dget_rel hd r h2 hk with ⟨d', z, e1, g1, r1⟩ | ⟨e1, g1⟩
      · rw [e1] at e
        cases e
        exact ix_dict hu val sl pins s σ H _ _ v u Q I rx ry ⟨a, z, rfl, g1, g H _ Grow.refl r1⟩ hs
      · rw [e1] at e
        cases e
    · cases e
  · cases e
theorem i_ix (hu : X.A.units + 1 < cLine) (ha : IE K ξ W X a fa) (hb : IE K ξ W X b fb) (hp : PlainIx b) (hK : X.K = K := by rfl) : IE K ξ W X (.Subscript a b pos) (e2 (p2 atV) fa fb) := PE.of (pe_ix (ix_V hu hK) ha hb hp) fun σr H Q q => by
  obtain ⟨N, ζ, μ, σ, wd, so, q⟩ := q
  refine (then1 wd so q).mono fun x H1 ⟨ζ1, μ1, w1, ev1, wd1, so1, r1, q1⟩ => ?_
  refine (then1 wd1 so1 q1).mono fun y H2 ⟨ζ2, μ2, w2, ev2, wd2, so2, r2, q2⟩ => ?_
  exact read_p2 wd2 (r1.ev ev2) r2 q2
theorem sl_F (hK : X.K = K := by rfl) : SlR X (fun x lo hi H Q => rPF1 K (slF lo hi) x H Q) := by
  obtain ⟨K, Kt⟩ := K; obtain rfl : X.K = K := hK
  intro pins s σ H x v vl vu lo hi sl Q I rx hsl hl hu h
  obtain ⟨M, d1, d, h1, fr, e, g⟩ := h
  unfold slF at e
  split at e
  · cases e
    obtain ⟨p, vs, rfl, g1, r1⟩ := h1
    exact sl_list pins s σ H _ v vl vu lo hi sl Q I rx hsl hl hu ⟨p, vs, rfl, SqL.of g1, fun q hq => g.lst (rvs_cut r1 lo hi) hq⟩
  · cases e
theorem o_none : IO K ξ W X none oNone := PO.of po_none fun σr H Q q => by
  obtain ⟨N, ζ, μ, σ, wd, so, q⟩ := q
  exact q ζ H Ev.refl wd
theorem o_some (ha : IE K ξ W X a fa) : IO K ξ W X (some a) (oSome fa) := PO.of (po_some ha) fun σr H Q q => by
  obtain ⟨N, ζ, μ, σ, wd, so, q⟩ := q
  refine (then1T wd so q).mono fun x H1 ⟨ζ1, μ1, w1, ev1, wd1, so1, r1, q1⟩ => ?_
  unfold gOpt at q1
  split at q1
  · rename_i i
    exact ⟨i, rv_int.mp (show rv K (MM N ζ1 μ1) H1 x (.int i) from r1), q1 ζ1 H1 Ev.refl wd1⟩
  · exact q1.elim
variable {N : MS} {ζ : List Addr} {μ : Store} {σr : L2.St} {σ : Sl}
theorem thenOF {Q : VK} {t : MO} {g : Option Int → Store → R (List PV)} (wd : Wd K N ζ μ H) (so : Sok K ξ ζ (MM N ζ μ) H σr σ) (h : PostF K W N ζ μ H σr Q ((t σ μ).bind g)) :
    tO K ξ W t σr H fun b H1 => ∃ ζ1 μ1, Ev K.tb ζ μ H ζ1 μ1 H1 ∧ Wd K N ζ1 μ1 H1 ∧ Sok K ξ ζ1 (MM N ζ1 μ1) H1 σr σ ∧ PostF K W N ζ1 μ1 H1 σr Q (g b μ1) := by
  refine ⟨N, ζ, μ, σ, wd, so, ?_⟩
  cases e : t σ μ with
  | ok w1 μ1 => rw [e] at h; exact fun ζ' H' ev w => ⟨ζ', μ1, ev, w, so.ev ev, h.ev ev⟩
  | ex c f μ1 => rw [e] at h; exact h
  | stuck => rw [e] at h; exact h
theorem tO.mono {t : MO} {Q Q' : Option Int → Hp → Prop} (h : tO K ξ W t σr H Q) (k : ∀ v H', Q v H' → Q' v H') : tO K ξ W t σr H Q' := by
  obtain ⟨N, ζ, μ, σ, wd, so, h⟩ := h
  refine ⟨N, ζ, μ, σ, wd, so, ?_⟩
  cases e : t σ μ with
  | ok w1 μ1 => rw [e] at h; exact fun ζ' H' ev w => k _ _ (h ζ' H' ev w)
  | ex c f μ1 => rw [e] at h; exact h
  | stuck => rw [e] at h; exact h
theorem f_sl {lo hi : Option Expr} {fl fh : MO} {p2 : Pos} (ha : IE K ξ W X a fa) (hl : IO K ξ W X lo fl) (hh : IO K ξ W X hi fh) (hK : X.K = K := by rfl) : IF K ξ W X (.Subscript a (.Slice lo hi none p2) pos) (eSl (fun l h => pf1 (slF l h)) fa fl fh) := PE.of (pe_slice (sl_F hK) ha hl hh) fun σr H Q q => by
  obtain ⟨N, ζ, μ, σ, wd, so, q⟩ := q
  refine (then1F wd so q).mono fun x H1 ⟨ζ1, μ1, w1, ev1, wd1, so1, r1, q1⟩ => ?_
  refine (thenOF wd1 so1 q1).mono fun l H2 ⟨ζ2, μ2, ev2, wd2, so2, q2⟩ => ?_
  refine (thenOF wd2 so2 q2).mono fun h H3 ⟨ζ3, μ3, ev3, wd3, so3, q3⟩ => ?_
  exact read_pf1 wd3 ((r1.ev ev2).ev ev3) q3
theorem i_un {op : UnaryOp} {g : PV → Option PV} (r : UnR X (unaryOp op) (rP1 K g)) (ha : IE K ξ W X a fa) : IE K ξ W X (.UnaryOp op a pos) (e1 (p1 g) fa) := PE.of (pe_un r ha) fun σr H Q q => by
  obtain ⟨N, ζ, μ, σ, wd, so, q⟩ := q
  refine (then1 wd so q).mono fun x H1 ⟨ζ1, μ1, w1, ev1, wd1, so1, r1, q1⟩ => ?_
  exact read_p1 wd1 r1 q1
/-- a < b < c -/
def eChain (g h : PV → PV → Option PV) (a b c : ME) : ME := fun σ μ => (a σ μ).bind fun w μ1 => (b σ μ1).bind fun u μ2 => (p2 g w u μ2).bind (gBl fun k μ3 => if k then (c σ μ3).bind fun z μ4 => p2 h u z μ4 else .ok (.t (.bl false)) μ3)
end
end PM
namespace PM
open PySem PySem.Spec PyProof.Rows L2
open WD (MS upd_none)
section
variable {X : Cx} {K : KT} {ξ : Xi} {W : WX} {N : MS} {ζ : List Addr} {μ : Store} {H : Hp} {σr : L2.St} {σ : Sl} {v : V} {a b c e : Expr} {es : List Expr} {fa fb fc : ME} {fs : Sl → Store → R (List Val)} {pos : Pos}
/-- a pure operator, then a step -/
theorem read_p2then {x y : V} {w u : Val} {g : PV → PV → Option PV} {Q : VK} {k : Val → Store → R Val} (wd : Wd K N ζ μ H) (r : RV K ξ ζ (MM N ζ μ) H x w) (r' : RV K ξ ζ (MM N ζ μ) H y u) (h : PostE K ξ W N ζ μ H σr Q ((p2 g w u μ).bind k)) :
    rP2 K g x y H fun z H' => ∃ d, Grow H H' ∧ rv K (MM N ζ μ) H' z d ∧ PostE K ξ W N ζ μ H' σr Q (k (.t d) μ) := by
  unfold p2 at h
  split at h
  · rename_i d d2 e e'
    cases e2 : g d d2 with
    | none => rw [e2] at h; exact h.elim
    | some d' =>
      rw [e2] at h
      exact ⟨_, d, d2, d', r.view wd e, r'.view wd e', wd.fre, e2, fun H' v gr rr => ⟨d', gr, rr, PostE.ev gr.ev h⟩⟩
  · exact h.elim
theorem i_chain {op op' : CmpOp} {g h : PV → PV → Option PV} (r : OpR X (compareOp op) (rP2 K g)) (r' : OpR X (compareOp op') (rP2 K h)) (ha : IE K ξ W X a fa) (hb : IE K ξ W X b fb) (hc : IE K ξ W X c fc) (hm : lastMarks [op, op'] [b, c] = false := by rfl) :
    IE K ξ W X (.Compare a [op, op'] [b, c] pos) (eChain g h fa fb fc) := PE.of (pe_chain r r' ha hb hc hm) fun σr H Q q => by
  obtain ⟨N, ζ, μ, σ, wd, so, q⟩ := q
  refine (then1 wd so q).mono fun x H1 ⟨ζ1, μ1, w1, ev1, wd1, so1, r1, q1⟩ => ?_
  refine (then1 wd1 so1 q1).mono fun y H2 ⟨ζ2, μ2, w2, ev2, wd2, so2, r2, q2⟩ => ?_
  obtain ⟨M, d1, d2, d, h1, h2, fr, e, gv⟩ := read_p2then wd2 (r1.ev ev2) r2 q2
  refine ⟨M, d1, d2, d, h1, h2, fr, e, fun H' z gr rz => ?_⟩
  obtain ⟨d', gr', rz', q3⟩ := gv H' z gr rz
  have wd3 := wd2.fr0 gr'
  obtain ⟨k, hk, q3⟩ := PostE.bl (w := .t d') wd3 rz' q3
  refine ⟨k, hk, ?_⟩
  cases k with
  | false => exact iteF (q3 ζ2 H' _ Ev.refl wd3 RV.blI)
  | true =>
    refine iteT ?_
    refine (then1 wd3 (so2.ev gr'.ev) q3).mono fun z H3 ⟨ζ3, μ3, w3, ev3, wd4, so3, r3, q4⟩ => ?_
    exact read_p2 wd4 ((r2.ev gr'.ev).ev ev3) r3 q4
theorem t_chain {op op' : CmpOp} {g h : PV → PV → Option PV} (r : OpR X (compareOp op) (rP2 K g)) (r' : OpR X (compareOp op') (rP2 K h)) (ha : IE K ξ W X a fa) (hb : IE K ξ W X b fb) (hc : IE K ξ W X c fc) (hm : lastMarks [op, op'] [b, c] = false := by rfl) :
    IT K ξ W X (.Compare a [op, op'] [b, c] pos) (tVal (eChain g h fa fb fc)) := PT.of (pt_chain r r' ha hb hc hm) fun σr H Q q => by
  obtain ⟨N, ζ, μ, σ, wd, so, q⟩ := q
  have q' := then1T (a := eChain g h fa fb fc) wd so q
  obtain ⟨N', ζ', μ', σ', wd', so', q'⟩ := q'
  refine (then1 wd' so' q').mono fun x H1 ⟨ζ1, μ1, w1, ev1, wd1, so1, r1, q1⟩ => ?_
  refine (then1 wd1 so1 q1).mono fun y H2 ⟨ζ2, μ2, w2, ev2, wd2, so2, r2, q2⟩ => ?_
  obtain ⟨M, d1, d2, d, h1, h2, fr, e, gv⟩ := read_p2then wd2 (r1.ev ev2) r2 q2
  refine ⟨M, d1, d2, d, h1, h2, fr, e, fun H' z gr rz => ?_⟩
  obtain ⟨d', gr', rz', q3⟩ := gv H' z gr rz
  have wd3 := wd2.fr0 gr'
  obtain ⟨k, hk, q3⟩ := PostE.bl (w := .t d') wd3 rz' q3
  refine ⟨k, hk, ?_⟩
  have fin : ∀ {z : V} {H3 : Hp}, (∃ ζ1 μ1 w1, Ev K.tb ζ μ H ζ1 μ1 H3 ∧ Wd K N ζ1 μ1 H3 ∧ Sok K ξ ζ1 (MM N ζ1 μ1) H3 σr σ ∧ RV K ξ ζ1 (MM N ζ1 μ1) H3 z w1 ∧ PostT K W N ζ1 μ1 H3 σr Q (gBl (fun c μ1 => .ok c μ1) w1 μ1)) → ∃ k, z = .bl k ∧ Q k H3 := by
    rintro z H3 ⟨ζ5, μ5, w5, ev5, wd5, so5, r5, q5⟩
    obtain ⟨c, hc, q5⟩ := PostT.bl wd5 r5 q5
    exact ⟨c, hc, q5 ζ5 H3 Ev.refl wd5⟩
  cases k with
  | false => exact iteF (fin (q3 ζ2 H' _ Ev.refl wd3 RV.blI))
  | true =>
    refine iteT ?_
    refine (then1 wd3 (so2.ev gr'.ev) q3).mono fun z H3 ⟨ζ3, μ3, w3, ev3, wd4, so3, r3, q4⟩ => ?_
    obtain ⟨M, d1, d2, d, h1, h2, h3, h4, h5⟩ := read_p2 wd4 ((r2.ev gr'.ev).ev ev3) r3 q4
    exact ⟨M, d1, d2, d, h1, h2, h3, h4, fun H4 v4 g4 r4 => fin (h5 H4 v4 g4 r4)⟩

/-! ### built-in calls -/
theorem i_callB {x : Str} {p : Pos} {id : String} {g : List PV → Option PV} (r : CallR X (.builtin id) (rPN K g)) (hg : Gl X x) (hm : X.mg x = none) (hb : bootBuiltins x = some (.builtin id)) (ha : IA K ξ W X (e :: es) fs) (hn : x ≠ "__name__" := by decide) (hd : (x == ("__debug__" : Str)) = false := by decide)
    (hs : starEach (e :: es) X.env = (false, eval e X.env) :: starEach es X.env := by rfl) (hp : ((backTo pos (starEach es X.env)).any (·.1)) = false := by rfl) : IE K ξ W X (.Call (.Name x p) (e :: es) [] pos) (eN (pN g) fs) := PE.of (pe_callB r hg hm hb ha hn hd hs hp) fun σr H Q q => by
  obtain ⟨N, ζ, μ, σ, wd, so, q⟩ := q
  refine (thenN wd so q).mono fun xs H1 ⟨ζ1, μ1, ws, ev1, wd1, so1, r1, q1⟩ => read_pN wd1 r1 q1
theorem i_callTy {x : Str} {p : Pos} {T : String} {g : List PV → Option PV} (r : CallR X (.type T) (rPN K g)) (hg : Gl X x) (hm : X.mg x = none) (hb : bootBuiltins x = some (.type T)) (ha : IA K ξ W X (e :: es) fs) (hn : x ≠ "__name__" := by decide) (hd : (x == ("__debug__" : Str)) = false := by decide)
    (hs : starEach (e :: es) X.env = (false, eval e X.env) :: starEach es X.env := by rfl) (hp : ((backTo pos (starEach es X.env)).any (·.1)) = false := by rfl) : IE K ξ W X (.Call (.Name x p) (e :: es) [] pos) (eN (pN g) fs) := PE.of (pe_callTy r hg hm hb ha hn hd hs hp) fun σr H Q q => by
  obtain ⟨N, ζ, μ, σ, wd, so, q⟩ := q
  refine (thenN wd so q).mono fun xs H1 ⟨ζ1, μ1, ws, ev1, wd1, so1, r1, q1⟩ => read_pN wd1 r1 q1
theorem f_callB {x : Str} {p : Pos} {id : String} {g : List PV → Option (List PV)} (r : CallR X (.builtin id) (rPFN K g)) (hg : Gl X x) (hm : X.mg x = none) (hb : bootBuiltins x = some (.builtin id)) (ha : IA K ξ W X (e :: es) fs) (hn : x ≠ "__name__" := by decide) (hd : (x == ("__debug__" : Str)) = false := by decide)
    (hs : starEach (e :: es) X.env = (false, eval e X.env) :: starEach es X.env := by rfl) (hp : ((backTo pos (starEach es X.env)).any (·.1)) = false := by rfl) : IF K ξ W X (.Call (.Name x p) (e :: es) [] pos) (eN (pfN g) fs) := PE.of (pe_callB r hg hm hb ha hn hd hs hp) fun σr H Q q => by
  obtain ⟨N, ζ, μ, σ, wd, so, q⟩ := q
  refine (thenNF wd so q).mono fun xs H1 ⟨ζ1, μ1, ws, ev1, wd1, so1, r1, q1⟩ => read_pfN wd1 r1 q1
theorem f_callTy {x : Str} {p : Pos} {T : String} {g : List PV → Option (List PV)} (r : CallR X (.type T) (rPFN K g)) (hg : Gl X x) (hm : X.mg x = none) (hb : bootBuiltins x = some (.type T)) (ha : IA K ξ W X (e :: es) fs) (hn : x ≠ "__name__" := by decide) (hd : (x == ("__debug__" : Str)) = false := by decide)
    (hs : starEach (e :: es) X.env = (false, eval e X.env) :: starEach es X.env := by rfl) (hp : ((backTo pos (starEach es X.env)).any (·.1)) = false := by rfl) : IF K ξ W X (.Call (.Name x p) (e :: es) [] pos) (eN (pfN g) fs) := PE.of (pe_callTy r hg hm hb ha hn hd hs hp) fun σr H Q q => by
  obtain ⟨N, ζ, μ, σ, wd, so, q⟩ := q
  refine (thenNF wd so q).mono fun xs H1 ⟨ζ1, μ1, ws, ev1, wd1, so1, r1, q1⟩ => read_pfN wd1 r1 q1
end
section
variable {X : Cx} {K : KT} {M : MS} {H : Hp}
theorem vvs1 {xs : List V} {d : PV} (h : vvs K M H xs [d]) : ∃ v, xs = [v] ∧ vv K M H v d := by
  match xs, h with
  | [v], h => exact ⟨v, rfl, h.1⟩
  | [], h => exact h.elim
  | _ :: _ :: _, h => exact h.2.elim
/-- len -/
def lenV : List PV → Option PV
  | [.lst l] => some (.int l.length)
  | [.tup l] => some (.int l.length)
  | [.ktp l] => some (.int l.length)
  | [.str z] => if z.length ≤ sizeLine then some (.int z.length) else none
  | [.dic _ ks _] => some (.int ks.length)
  | _ => none
theorem cr_lenV (hK : X.K = K := by rfl) : CallR X (.builtin "len") (rPN K lenV) := by
  obtain ⟨K, Kt⟩ := K; obtain rfl : X.K = K := hK
  intro pins s σ H xs us Q I r h
  obtain ⟨M, ds, d, hv, fr, e, g⟩ := h
  unfold lenV at e
  split at e
  · cases e
    obtain ⟨v, rfl, h1⟩ := vvs1 hv
    obtain ⟨p, vs, rfl, g1, r1⟩ := h1
    refine call_len_seq pins s σ H _ us Q I r ⟨p, vs, rfl, .inl (SqL.of g1), ?_⟩
    rw [rvs_len r1]; exact g.int
  · cases e
    obtain ⟨v, rfl, h1⟩ := vvs1 hv
    obtain ⟨p, vs, rfl, _, g1, r1⟩ := vv_tup h1
    refine call_len_seq pins s σ H _ us Q I r ⟨p, vs, rfl, .inr (SqT.of g1), ?_⟩
    rw [rvs_len r1]; exact g.int
  · cases e
    obtain ⟨v, rfl, h1⟩ := vvs1 hv
    obtain ⟨p, vs, rfl, g1, r1⟩ := vv_ktp h1
    refine call_len_seq pins s σ H _ us Q I r ⟨p, vs, rfl, .inr g1.sq, ?_⟩
    rw [rvs_len r1]; exact g.int
  · split at e
    · cases e
      obtain ⟨v, rfl, h1⟩ := vvs1 hv
      obtain ⟨rfl, _⟩ := vv_str h1
      exact call_len_str pins s σ H _ us Q I r ⟨_, rfl, by assumption, g.int⟩
    · cases e
  · rename_i b ks ds
    cases e
    obtain ⟨v, rfl, h1⟩ := vvs1 hv
    obtain ⟨p, vs, rfl, g1, r1⟩ := h1
    cases b with
    | false =>
      obtain ⟨kl, rfl, hl, _, ha⟩ := g1
      have e : (kl.zip vs).length = (kl.map kPV).length := by rw [List.length_zip, ← hl, Nat.min_self, List.length_map]
      refine call_lenD pins s σ H _ us Q I r ⟨p, _, rfl, ha, ?_⟩
      rw [e]; exact g.int
    | true =>
      obtain ⟨kl, rfl, hl, _, ha⟩ := g1
      have e : (kl.zip vs).length = (kl.map fun k => PV.tup (k.map kPV)).length := by rw [List.length_zip, ← hl, Nat.min_self, List.length_map]
      refine call_len_dT pins s σ H _ us Q I r ⟨p, _, rfl, ha, ?_⟩
      rw [e]; exact g.int
  · cases e
/-- int(x) -/
def intV : List PV → Option PV
  | [.int i] => some (.int i)
  | [.bl k] => some (.int (if k then 1 else 0))
  | _ => none
theorem cr_intV : CallR X (.type "int") (rPN K intV) := by
  intro pins s σ H xs us Q I r h
  obtain ⟨M, ds, d, hv, fr, e, g⟩ := h
  unfold intV at e
  split at e
  · cases e
    obtain ⟨v, rfl, h1⟩ := vvs1 hv
    cases vv_int h1
    exact call_int1 pins s σ H _ us Q I r (.inl ⟨_, rfl, g.int⟩)
  · cases e
    obtain ⟨v, rfl, h1⟩ := vvs1 hv
    cases vv_bl h1
    exact call_int1 pins s σ H _ us Q I r (.inr ⟨_, rfl, g.int⟩)
  · cases e
/-- all, any of a list of bools -/
def blsOf : List PV → Option (List Bool)
  | [] => some []
  | .bl i :: r => (blsOf r).map (i :: ·)
  | _ :: _ => none
theorem blsOf_map (l : List Bool) : blsOf (l.map .bl) = some l := by
  induction l with
  | nil => rfl
  | cons a l ih => show (blsOf (l.map .bl)).map _ = _; rw [ih]; rfl
theorem bls_vals : ∀ {vs : List V} {ds : List PV} {l : List Bool}, rvs K M H vs ds → blsOf ds = some l → vs = l.map V.bl
  | [], [], l, _, e => by cases e; rfl
  | v :: vs, .bl i :: ds, l, h, e => by
    rw [rvs_cons] at h
    obtain ⟨l', e1, rfl⟩ := Option.map_eq_some_iff.mp e
    rw [rv_bl.mp h.1, bls_vals h.2 e1]
    rfl
  | _ :: _, .non :: _, _, _, e => by cases e
  | _ :: _, .int _ :: _, _, _, e => by cases e
  | _ :: _, .str _ :: _, _, _, e => by cases e
  | _ :: _, .tup _ :: _, _, _, e => by cases e
  | _ :: _, .lst _ :: _, _, _, e => by cases e
  | _ :: _, .ktp _ :: _, _, _, e => by cases e
  | _ :: _, .dic _ _ _ :: _, _, _, e => by cases e
  | _ :: _, .obj _ _ _ :: _, _, _, e => by cases e
  | [], _ :: _, _, h, _ => by unfold rvs at h; exact h.elim
  | _ :: _, [], _, h, _ => by unfold rvs at h; exact h.elim
def allV : List PV → Option PV
  | [.lst l] => (blsOf l).map fun bs => .bl (bs.all id)
  | _ => none
theorem cr_allV (hc : X.calm = true) (hK : X.K = K := by rfl) : CallR X (.builtin "all") (rPN K allV) := by
  obtain ⟨K, Kt⟩ := K; obtain rfl : X.K = K := hK
  intro pins s σ H xs us Q I r h
  obtain ⟨M, ds, d, hv, fr, e, g⟩ := h
  unfold allV at e
  split at e
  · obtain ⟨bs, e1, e2⟩ := Option.map_eq_some_iff.mp e
    subst e2
    obtain ⟨v, rfl, h1⟩ := vvs1 hv
    obtain ⟨p, vs, rfl, g1, r1⟩ := h1
    have z := bls_vals r1 e1
    subst z
    exact cr_all hc pins s σ H _ us Q I r ⟨p, bs, rfl, SqL.of g1, g.bl⟩
  · cases e
/-- tuple(x), list(x) -/
def tupleV : List PV → Option PV
  | [.lst l] => some (.tup l)
  | [.tup l] => some (.tup l)
  | [.ktp l] => some (.ktp l)
  | _ => none
def listF : List PV → Option (List PV)
  | [.lst l] => some l
  | [.tup l] => some l
  | [.ktp l] => some l
  | [.dic false ks _] => some ks
  | _ => none
theorem rvs_keys : ∀ {kl : List Key}, (∀ k ∈ kl, kOk k) → rvs K M H (kl.map kV) (kl.map kPV)
  | [], _ => rvs_nil
  | k :: kl, h => by
    refine rvs_cons.mpr ⟨?_, rvs_keys fun z hz => h z (List.mem_cons_of_mem _ hz)⟩
    have := h k List.mem_cons_self
    cases k with
    | inl i => exact rv_int.mpr rfl
    | inr x => exact rv_str.mpr ⟨rfl, this⟩
theorem cr_tupleV (hK : X.K = K := by rfl) : CallR X (.type "tuple") (rPN K tupleV) := by
  obtain ⟨K, Kt⟩ := K; obtain rfl : X.K = K := hK
  intro pins s σ H xs us Q I r h
  obtain ⟨M, ds, d, hv, fr, e, g⟩ := h
  unfold tupleV at e
  split at e
  · cases e
    obtain ⟨v, rfl, h1⟩ := vvs1 hv
    obtain ⟨p, vs, rfl, g1, r1⟩ := h1
    exact call_tuple_of pins s σ H _ us Q I r ⟨p, vs, rfl, .inl ⟨SqL.of g1, fun l hl => g.tup fr r1 hl⟩⟩
  · cases e
    obtain ⟨v, rfl, h1⟩ := vvs1 hv
    obtain ⟨p, vs, rfl, n1, g1, r1⟩ := vv_tup h1
    exact call_tuple_of pins s σ H _ us Q I r ⟨p, vs, rfl, .inr ⟨SqT.of g1, g H _ Grow.refl (rv_tup.mpr ⟨p, vs, rfl, n1, g1, r1⟩)⟩⟩
  · cases e
    obtain ⟨v, rfl, h1⟩ := vvs1 hv
    obtain ⟨p, vs, rfl, g1, r1⟩ := vv_ktp h1
    exact call_tuple_of pins s σ H _ us Q I r ⟨p, vs, rfl, .inr ⟨g1.sq, g H _ Grow.refl (rv_ktp.mpr ⟨p, vs, rfl, g1, r1⟩)⟩⟩
  · cases e
theorem cr_listF (hc : X.calm = true) (hK : X.K = K := by rfl) : CallR X (.type "list") (rPFN K listF) := by
  obtain ⟨K, Kt⟩ := K; obtain rfl : X.K = K := hK
  intro pins s σ H xs us Q I r h
  obtain ⟨M, ds, d, hv, fr, e, g⟩ := h
  unfold listF at e
  split at e
  · cases e
    obtain ⟨v, rfl, h1⟩ := vvs1 hv
    obtain ⟨p, vs, rfl, g1, r1⟩ := h1
    exact call_list_of pins s σ H _ us Q I r ⟨p, vs, rfl, .inl (SqL.of g1), fun l hl => g.lst r1 hl⟩
  · cases e
    obtain ⟨v, rfl, h1⟩ := vvs1 hv
    obtain ⟨p, vs, rfl, n1, g1, r1⟩ := vv_tup h1
    exact call_list_of pins s σ H _ us Q I r ⟨p, vs, rfl, .inr (SqT.of g1), fun l hl => g.lst r1 hl⟩
  · cases e
    obtain ⟨v, rfl, h1⟩ := vvs1 hv
    obtain ⟨p, vs, rfl, g1, r1⟩ := vv_ktp h1
    exact call_list_of pins s σ H _ us Q I r ⟨p, vs, rfl, .inr g1.sq, fun l hl => g.lst r1 hl⟩
  · cases e
    obtain ⟨v, rfl, h1⟩ := vvs1 hv
    obtain ⟨p, vs, rfl, g1, r1⟩ := h1
    obtain ⟨kl, rfl, hl, hok, ha⟩ := g1
    refine call_listD hc pins s σ H _ us Q I r ⟨p, _, rfl, .inl ha, fun l hl' => ?_⟩
    have e : ((kl.zip vs).map fun kv => kV kv.1) = kl.map kV := by
      have h1 : ((kl.zip vs).map fun kv => kV kv.1) = ((kl.zip vs).map Prod.fst).map kV := by rw [List.map_map]; rfl
      rw [h1, List.map_fst_zip (by omega)]
    rw [e]
    exact g.lst (rvs_keys hok) hl'
  · cases e
/-- sorted(x), of ints -/
def sortI (l : List Int) : List Int := l.mergeSort (fun a b => decide (a ≤ b))
theorem rvs_ints (l : List Int) : rvs K M H (l.map V.int) (l.map PV.int) := by
  induction l with
  | nil => exact rvs_nil
  | cons a l ih => exact rvs_cons.mpr ⟨rv_int.mpr rfl, ih⟩
theorem perm_sorted_eq {l m : List Int} (h : l.Perm m) (hl : l.Pairwise (· ≤ ·)) (hm : m.Pairwise (· ≤ ·)) : l = m := h.eq_of_pairwise (fun a b _ _ h1 h2 => Int.le_antisymm h1 h2) hl hm
end
end PM
namespace PM
open PySem PySem.Spec PyProof.Rows L2
open WD (MS upd_none)
/-! ### targets -/
inductive Tgt where
  | nm (i : Nat)
  | tp (ts : List Tgt)
def Fl.v : Fl → Val
  | .t d => .t d
  | .c k => .c k
mutual
def asg : Tgt → Val → Sl → Option Sl
  | .nm i, w, σ => some (σ.set i (some w))
  | .tp ts, .t (.tup ds), σ => asgs ts (ds.map .t) σ
  | .tp ts, .t (.ktp ds), σ => asgs ts (ds.map .t) σ
  | .tp ts, .g .tup fs, σ => asgs ts (fs.map Fl.v) σ
  | .tp _, _, _ => none
def asgs : List Tgt → List Val → Sl → Option Sl
  | [], [], σ => some σ
  | t :: ts, w :: ws, σ => match asg t w σ with
    | some σ1 => asgs ts ws σ1
    | none => none
  | _, _, _ => none
end
mutual
def Tgt.sl : Tgt → List Nat
  | .nm i => [i]
  | .tp ts => sls ts
def sls : List Tgt → List Nat
  | [] => []
  | t :: ts => t.sl ++ sls ts
end
def Agree (σ' σ : L2.St) (s : List Nat) : Prop := σ'.length = σ.length ∧ ∀ j, j ∉ s → σ'[j]? = σ[j]?
theorem wipe_get (σ : L2.St) : ∀ (s : List Nat) (j : Nat), (wipe σ s)[j]? = if j ∈ s then (if j < σ.length then some none else none) else σ[j]?
  | [], j => by simp [wipe]
  | v :: vs, j => by
    unfold wipe
    by_cases hv : v = j
    · subst hv
      by_cases hl : v < σ.length
      · rw [List.getElem?_set_self (by rw [wipe_length]; exact hl)]
        simp [hl]
      · rw [List.getElem?_eq_none (by rw [List.length_set, wipe_length]; omega)]
        simp [hl]
    · rw [List.getElem?_set_ne hv, wipe_get σ vs j]
      have : (j ∈ v :: vs) ↔ j ∈ vs := by
        rw [List.mem_cons]
        exact ⟨fun h => h.elim (fun e => absurd e.symm hv) id, .inr⟩
      simp only [this]
theorem Agree.wipe {σ' σ : L2.St} {s : List Nat} (h : Agree σ' σ s) : L2.wipe σ' s = L2.wipe σ s := by
  refine List.ext_getElem? fun j => ?_
  rw [wipe_get, wipe_get, h.1]
  by_cases hj : j ∈ s
  · rw [if_pos hj, if_pos hj]
  · rw [if_neg hj, if_neg hj, h.2 j hj]
theorem Agree.refl {σ : L2.St} {s : List Nat} : Agree σ σ s := ⟨rfl, fun _ _ => rfl⟩
theorem Agree.trans {σ σ1 σ2 : L2.St} {s t : List Nat} (h : Agree σ1 σ s) (g : Agree σ2 σ1 t) : Agree σ2 σ (s ++ t) :=
  ⟨g.1.trans h.1, fun j hj => (g.2 j fun z => hj (List.mem_append_right _ z)).trans (h.2 j fun z => hj (List.mem_append_left _ z))⟩
theorem Agree.set {σ : L2.St} {i : Nat} {v : Option V} : Agree (σ.set i v) σ [i] := ⟨List.length_set, fun j hj => by
  rw [List.getElem?_set_ne fun z => hj (by rw [z]; exact List.mem_singleton.mpr rfl)]⟩
def tG (K : KT) (ξ : Xi) (T : Tgt) : TG := fun v σr H Q => ∃ N ζ μ σ w σ', Wd K N ζ μ H ∧ Sok K ξ ζ (MM N ζ μ) H σr σ ∧ RV K ξ ζ (MM N ζ μ) H v w ∧ asg T w σ = some σ' ∧ ∀ σr', Sok K ξ ζ (MM N ζ μ) H σr' σ' → Agree σr' σr T.sl → Q σr' H
def tGs (K : KT) (ξ : Xi) (ts : List Tgt) : TGs := fun vs σr H Q => ∃ N ζ μ σ ws σ', Wd K N ζ μ H ∧ Sok K ξ ζ (MM N ζ μ) H σr σ ∧ RVs K ξ ζ (MM N ζ μ) H vs ws ∧ asgs ts ws σ = some σ' ∧ ∀ σr', Sok K ξ ζ (MM N ζ μ) H σr' σ' → Agree σr' σr (sls ts) → Q σr' H
abbrev IG (K : KT) (ξ : Xi) (X : Cx) (tg : Expr) (T : Tgt) : Prop := PG X tg (tG K ξ T)
abbrev IGs (K : KT) (ξ : Xi) (X : Cx) (tg : List Expr) (T : List Tgt) : Prop := PGs X tg (tGs K ξ T)
theorem PG.of {X : Cx} {e : Expr} {t t' : TG} (h : PG X e t) (k : ∀ v σ H Q, t' v σ H Q → t v σ H Q) : PG X e t' := by
  obtain ⟨r⟩ := h
  exact ⟨fun pins s σ H v u Q I ru q => r pins s σ H v u Q I ru (k _ _ _ _ q)⟩
theorem PGs.of {X : Cx} {e : List Expr} {t t' : TGs} (h : PGs X e t) (k : ∀ v σ H Q, t' v σ H Q → t v σ H Q) : PGs X e t' := by
  obtain ⟨r⟩ := h
  exact ⟨fun pins s σ H v u Q I ru q => r pins s σ H v u Q I ru (k _ _ _ _ q)⟩
section
variable {X : Cx} {K : KT} {ξ : Xi} {W : WX} {e : Expr} {es : List Expr} {pos : Pos} {T : Tgt} {Ts : List Tgt}
theorem g_name {i : Nat} {x : Str} (h : PG X (.Name x pos) (gName i)) : IG K ξ X (.Name x pos) (.nm i) := PG.of h fun v σr H Q q => by
  obtain ⟨N, ζ, μ, σ, w, σ', wd, so, r, e, k⟩ := q
  unfold asg at e
  cases e
  exact k _ (so.set r) (by unfold Tgt.sl; exact Agree.set)
theorem gs_nil : IGs K ξ X [] [] := PGs.of pgs_nil fun vs σr H Q q => by
  obtain ⟨N, ζ, μ, σ, ws, σ', wd, so, r, e, k⟩ := q
  cases ws with
  | nil =>
    cases List.eq_nil_of_length_eq_zero r.len
    unfold asgs at e
    cases e
    exact ⟨rfl, k σr so Agree.refl⟩
  | cons d ds => unfold asgs at e; cases e
theorem gs_cons (h : IG K ξ X e T) (hs : IGs K ξ X es Ts) (hz : (assignEach (e :: es) X.env).map (·.2) = assign e X.env :: (assignEach es X.env).map (·.2) := by rfl) : IGs K ξ X (e :: es) (T :: Ts) := PGs.of (pgs_cons h hs hz) fun vs σr H Q q => by
  obtain ⟨N, ζ, μ, σ, ws, σ', wd, so, r, e, k⟩ := q
  cases ws with
  | nil => unfold asgs at e; cases e
  | cons w ws =>
    cases vs with
    | nil => exact r.elim
    | cons v vs =>
      unfold asgs at e
      split at e
      · rename_i σ1 e1
        refine ⟨v, vs, rfl, N, ζ, μ, σ, w, σ1, wd, so, r.1, e1, fun σr1 so1 ag1 => ?_⟩
        refine ⟨N, ζ, μ, σ1, ws, σ', wd, so1, r.2, e, fun σr2 so2 ag2 => k σr2 so2 ?_⟩
        unfold sls
        exact ag1.trans ag2
      · cases e
theorem asgs_len : ∀ {ts : List Tgt} {ds : List Val} {σ σ' : Sl}, asgs ts ds σ = some σ' → ds.length = ts.length
  | [], [], _, _, _ => rfl
  | t :: ts, d :: ds, σ, σ', e => by
    unfold asgs at e
    split at e
    · exact congrArg Nat.succ (asgs_len e)
    · cases e
  | [], _ :: _, _, _, e => by unfold asgs at e; cases e
  | _ :: _, [], _, _, e => by unfold asgs at e; cases e
theorem rvs_RVs {ζ : List Addr} {M : MS} {H : Hp} : ∀ {vs : List V} {ds : List PV}, rvs K M H vs ds → RVs K ξ ζ M H vs (ds.map .t)
  | [], [], _ => trivial
  | _ :: _, _ :: _, h => by rw [rvs_cons] at h; exact ⟨h.1, rvs_RVs h.2⟩
  | [], _ :: _, h => by unfold rvs at h; exact h.elim
  | _ :: _, [], h => by unfold rvs at h; exact h.elim
theorem FR.RV {ζ : List Addr} {M : MS} {H : Hp} {v : V} : ∀ {w : Fl}, FR K ζ M H v w → RV K ξ ζ M H v w.v
  | .t _, h => h
  | .c _, h => h
theorem FRs.RVs {ζ : List Addr} {M : MS} {H : Hp} : ∀ {vs : List V} {ws : List Fl}, FRs K ζ M H vs ws → RVs K ξ ζ M H vs (ws.map Fl.v)
  | [], [], _ => trivial
  | _ :: _, _ :: _, h => ⟨h.1.RV, FRs.RVs h.2⟩
  | [], _ :: _, h => h.elim
  | _ :: _, [], h => h.elim
theorem g_tup {kk : Nat} (hs : IGs K ξ X es Ts) (hc : X.calm = true) (hn : (assignEach es X.env).length = Ts.length := by rfl) (hst : (assignEach es X.env).findIdx? (·.1) = none := by rfl) (hK : X.K = K := by rfl) : IG K ξ X (.Tuple es kk pos) (.tp Ts) := PG.of (WD.k_pg_tup K hc hs hn hst hK) fun v σr H Q q => by
  obtain ⟨N, ζ, μ, σ, w, σ', wd, so, r, e, k⟩ := q
  have e0 : ∃ a vs ws, v = .ref a ∧ SqT K.fr H a vs ∧ RVs K ξ ζ (MM N ζ μ) H vs ws ∧ asgs Ts ws σ = some σ' := by
    cases w with
    | t d =>
      cases d with
      | tup ds =>
        unfold asg at e
        obtain ⟨a, vs, h0, n1, h1, r1⟩ := rv_tup.mp (show rv K (MM N ζ μ) H v (.tup ds) from r)
        exact ⟨a, vs, _, h0, SqT.of h1, rvs_RVs r1, e⟩
      | ktp ds =>
        unfold asg at e
        obtain ⟨a, vs, h0, h1, r1⟩ := rv_ktp.mp (show rv K (MM N ζ μ) H v (.ktp ds) from r)
        exact ⟨a, vs, _, h0, h1.sq, rvs_RVs r1, e⟩
      | _ => unfold asg at e; cases e
    | g h fs =>
      cases h with
      | tup =>
        unfold asg at e
        obtain ⟨a, vs, h0, n1, h1, r1⟩ := r
        exact ⟨a, vs, _, h0, SqT.of h1, r1.RVs, e⟩
      | two => unfold asg at e; cases e
      | ob _ _ => unfold asg at e; cases e
    | c _ => unfold asg at e; cases e
    | x _ _ => unfold asg at e; cases e
    | s _ => unfold asg at e; cases e
    | self => unfold asg at e; cases e
    | lam _ _ => unfold asg at e; cases e
  obtain ⟨a, vs, ws, rfl, h1, r1, e⟩ := e0
  refine ⟨a, vs, rfl, h1, by rw [r1.len]; exact asgs_len e, N, ζ, μ, σ, ws, σ', wd, so, r1, e, fun σr' so' ag => k σr' so' ?_⟩
  unfold Tgt.sl
  exact ag
end
end PM
namespace PM
open PySem PySem.Spec PyProof.Rows L2
open WD (MS upd_none)
/-! ### statements -/
def R.st {α : Type} (σ : Sl) : R α → (α → Store → RS) → RS
  | .ok a μ, k => k a μ
  | .ex c f μ, _ => .ex c f σ μ
  | .stuck, _ => .stuck
def RS.seq : RS → (Sl → Store → RS) → RS
  | .nx σ μ, k => k σ μ
  | r, _ => r
def sPass : MSt := fun σ μ => .nx σ μ
def sSeq (a b : MSt) : MSt := fun σ μ => (a σ μ).seq b
def sAsg (T : Tgt) (f : ME) : MSt := fun σ μ => (f σ μ).st σ fun w μ1 => match asg T w σ with
  | some σ1 => .nx σ1 μ1
  | none => .stuck
def sExp (f : ME) : MSt := fun σ μ => (f σ μ).st σ fun _ μ1 => .nx σ μ1
def sRet (f : ME) : MSt := fun σ μ => (f σ μ).st σ fun w μ1 => .rt w μ1
def sIf (c : Sl → Store → R Bool) (a b : MSt) : MSt := fun σ μ => (c σ μ).st σ fun k μ1 => if k then a σ μ1 else b σ μ1
def forL (T : Tgt) (body : MSt) : List PV → Sl → Store → RS
  | [], σ, μ => .nx σ μ
  | d :: ds, σ, μ => match asg T (.t d) σ with
    | none => .stuck
    | some σ1 => match body σ1 μ with
      | .nx σ2 μ2 => forL T body ds σ2 μ2
      | .ct σ2 μ2 => forL T body ds σ2 μ2
      | .bk σ2 μ2 => .nx σ2 μ2
      | r => r
def sFor (it : Sl → Store → R (List PV)) (T : Tgt) (body : MSt) : MSt := fun σ μ => (it σ μ).st σ fun items μ1 => forL T body items σ μ1
section
variable {X : Cx} {K : KT} {ξ : Xi} {W : WX} {N : MS} {ζ : List Addr} {μ : Store} {H : Hp} {σr : L2.St} {σ : Sl} {D : Ends} {e tg : Expr} {st : Stmt} {ss : List Stmt} {fa : ME} {ta : Sl → Store → R Bool} {A B : MSt} {T : Tgt} {pos : Pos}
/-- a reading, then a statement's step -/
theorem stE {k : Val → Store → RS} (wd : Wd K N ζ μ H) (so : Sok K ξ ζ (MM N ζ μ) H σr σ) (h : PostS K ξ W N ζ μ H D ((fa σ μ).st σ k)) :
    tE K ξ W fa σr H fun x H1 => ∃ ζ1 μ1 w1, Ev K.tb ζ μ H ζ1 μ1 H1 ∧ Wd K N ζ1 μ1 H1 ∧ Sok K ξ ζ1 (MM N ζ1 μ1) H1 σr σ ∧ RV K ξ ζ1 (MM N ζ1 μ1) H1 x w1 ∧ PostS K ξ W N ζ1 μ1 H1 D (k w1 μ1) := by
  refine ⟨N, ζ, μ, σ, wd, so, ?_⟩
  cases e : fa σ μ with
  | ok w1 μ1 => rw [e] at h; exact fun ζ' H' v ev w r => ⟨ζ', μ1, w1, ev, w, so.ev ev, r, PostS.ev ev h⟩
  | ex c f μ1 => rw [e] at h; exact fun ζ' H' d ev w r => h ζ' H' d σr ev w r (so.ev ev)
  | stuck => rw [e] at h; exact h
theorem stT {k : Bool → Store → RS} (wd : Wd K N ζ μ H) (so : Sok K ξ ζ (MM N ζ μ) H σr σ) (h : PostS K ξ W N ζ μ H D ((ta σ μ).st σ k)) :
    tT K ξ W ta σr H fun b H1 => ∃ ζ1 μ1, Ev K.tb ζ μ H ζ1 μ1 H1 ∧ Wd K N ζ1 μ1 H1 ∧ Sok K ξ ζ1 (MM N ζ1 μ1) H1 σr σ ∧ PostS K ξ W N ζ1 μ1 H1 D (k b μ1) := by
  refine ⟨N, ζ, μ, σ, wd, so, ?_⟩
  cases e : ta σ μ with
  | ok w1 μ1 => rw [e] at h; exact fun ζ' H' ev w => ⟨ζ', μ1, ev, w, so.ev ev, PostS.ev ev h⟩
  | ex c f μ1 => rw [e] at h; exact fun ζ' H' d ev w r => h ζ' H' d σr ev w r (so.ev ev)
  | stuck => rw [e] at h; exact h
theorem s_exp (ha : IE K ξ W X e fa) (hs : swapsWith e none pos.line X.env = pure false := by rfl) : IS K ξ W X (.Expr e pos) (sExp fa) := PS.of (ps_expr ha hs) fun D σr H q => by
  obtain ⟨N, ζ, μ, σ, wd, so, q⟩ := q
  refine (stE wd so q).mono fun x H1 ⟨ζ1, μ1, w1, ev1, wd1, so1, r1, q1⟩ => q1 ζ1 H1 σr Ev.refl wd1 so1
theorem s_ret (h : PS X st (tRet (tE K ξ W fa))) : IS K ξ W X st (sRet fa) := PS.of h fun D σr H q => by
  obtain ⟨N, ζ, μ, σ, wd, so, q⟩ := q
  refine (stE wd so q).mono fun x H1 ⟨ζ1, μ1, w1, ev1, wd1, so1, r1, q1⟩ => q1 ζ1 H1 x Ev.refl wd1 r1
/-- x = e, by any rule for it -/
theorem s_asgR {te : TE} {i : Nat} (h : PS X st (tAsg te (gName i))) (k : ∀ σ H Q, tE K ξ W fa σ H Q → te σ H Q) : IS K ξ W X st (sAsg (.nm i) fa) := PS.of h fun D σr H q => by
  obtain ⟨N, ζ, μ, σ, wd, so, q⟩ := q
  refine k _ _ _ ((stE wd so q).mono fun x H1 ⟨ζ1, μ1, w1, ev1, wd1, so1, r1, q1⟩ => ?_)
  unfold asg at q1
  exact q1 ζ1 H1 _ Ev.refl wd1 (so1.set r1)
theorem s_set {i : Nat} (h : PS X st (tAsg (tE K ξ W fa) (gName i))) : IS K ξ W X st (sAsg (.nm i) fa) := s_asgR h fun _ _ _ q => q
theorem s_asg (h : PS X st (tAsg (tE K ξ W fa) (tG K ξ T))) : IS K ξ W X st (sAsg T fa) := PS.of h fun D σr H q => by
  obtain ⟨N, ζ, μ, σ, wd, so, q⟩ := q
  refine (stE wd so q).mono fun x H1 ⟨ζ1, μ1, w1, ev1, wd1, so1, r1, q1⟩ => ?_
  split at q1
  · rename_i σ1 e1
    exact ⟨N, ζ1, μ1, σ, w1, σ1, wd1, so1, r1, e1, fun σr' so' _ => q1 ζ1 H1 σr' Ev.refl wd1 so'⟩
  · exact q1.elim
theorem s_if (h : PS X st (tIfS (tT K ξ W ta) (tS K ξ W A) (tS K ξ W B))) : IS K ξ W X st (sIf ta A B) := PS.of h fun D σr H q => by
  obtain ⟨N, ζ, μ, σ, wd, so, q⟩ := q
  refine (stT wd so q).mono fun b H1 ⟨ζ1, μ1, ev1, wd1, so1, q1⟩ => ?_
  cases b with
  | true => exact iteT ⟨N, ζ1, μ1, σ, wd1, so1, q1⟩
  | false => exact iteF ⟨N, ζ1, μ1, σ, wd1, so1, q1⟩
theorem PostS.seq {r : RS} (h : PostS K ξ W N ζ μ H D (r.seq B)) : PostS K ξ W N ζ μ H { D with nx := tS K ξ W B D } r := by
  cases r with
  | nx σ' μ' => exact fun ζ' H' σr' ev wd so => ⟨N, ζ', μ', σ', wd, so, PostS.ev ev h⟩
  | bk _ _ => exact h
  | ct _ _ => exact h
  | rt _ _ => exact h
  | ex _ _ _ _ => exact h
  | stuck => exact h
theorem ss_nil : ISs K ξ W X [] sPass := PSs.of pss_nil fun D σr H q => by
  obtain ⟨N, ζ, μ, σ, wd, so, q⟩ := q
  exact q ζ H σr Ev.refl wd so
theorem ss_cons (ha : IS K ξ W X st A) (hb : ISs K ξ W X ss B) : ISs K ξ W X (st :: ss) (sSeq A B) := PSs.of (pss_cons ha hb) fun D σr H q => by
  obtain ⟨N, ζ, μ, σ, wd, so, q⟩ := q
  exact ⟨N, ζ, μ, σ, wd, so, PostS.seq q⟩
theorem ss_one (ha : IS K ξ W X st A) : ISs K ξ W X [st] A := pss_one ha
/-- a ghost step ahead of a block -/
theorem ss_ghost {G : MSt} (hb : ISs K ξ W X ss B) (g : ∀ (D : Ends) (σr : L2.St) (H : Hp) (N : MS) (ζ : List Addr) (μ : Store) (σ : Sl), Wd K N ζ μ H → Sok K ξ ζ (MM N ζ μ) H σr σ → PostS K ξ W N ζ μ H D ((G σ μ).seq B) → tS K ξ W B D σr H) : ISs K ξ W X ss (sSeq G B) := PSs.of hb fun D σr H q => by
  obtain ⟨N, ζ, μ, σ, wd, so, q⟩ := q
  exact g D σr H N ζ μ σ wd so q

/-! ### what is walked -/
def ItOk (K : KT) (M : MS) (H : Hp) (J : It) (items : List PV) : Prop := ∀ M1 H1, (∀ a, ¬ M a → ¬ nn K.tb (H a) → ¬ M1 a) → (∀ a o, nt K.tb o → ¬ M a → H a = some o → H1 a = some o) → Fre M1 H1 →
  (∀ (i : Nat) d, items[i]? = some d → J.go i H1 ∧ ∀ x H2, J.yld i H1 x H2 → Grow H1 H2 ∧ rv K M1 H2 x d) ∧ J.stop items.length H1
def PostI (K : KT) (W : WX) (N : MS) (ζ : List Addr) (μ : Store) (H : Hp) (σr : L2.St) (Q : It → Hp → Prop) : R (List PV) → Prop
  | .ok ds μ' => ∀ ζ' H' J, Ev K.tb ζ μ H ζ' μ' H' → Wd K N ζ' μ' H' → ItOk K (MM N ζ' μ') H' J ds → Q J H'
  | .ex c f μ' => ∀ ζ' H' d, Ev K.tb ζ μ H ζ' μ' H' → Wd K N ζ' μ' H' → XR K (MM N ζ' μ') H' d f → W (.ref (He.ga K c)) d σr H'
  | .stuck => False
def tI (K : KT) (ξ : Xi) (W : WX) (f : Sl → Store → R (List PV)) : TI := fun σr H Q => ∃ N ζ μ σ, Wd K N ζ μ H ∧ Sok K ξ ζ (MM N ζ μ) H σr σ ∧ PostI K W N ζ μ H σr Q (f σ μ)
abbrev II (K : KT) (ξ : Xi) (W : WX) (X : Cx) (tg it : Expr) (f : Sl → Store → R (List PV)) : Prop := PI X tg it (tI K ξ W f)
theorem PI.of {tg it : Expr} {t t' : TI} (h : PI X tg it t) (k : ∀ σ H Q, t' σ H Q → t σ H Q) : PI X tg it t' := ⟨fun pins s σ H Q I q => h.run pins s σ H Q I (k σ H Q q)⟩
theorem PI.pick {tg it : Expr} {t' : TI} (k : ∀ σ H Q, t' σ H Q → ∃ t, PI X tg it t ∧ t σ H Q) : PI X tg it t' := ⟨fun pins s σ H Q I q => let ⟨_, h, q'⟩ := k σ H Q q; h.run pins s σ H Q I q'⟩
theorem PostI.ev {ζ1 : List Addr} {μ1 : Store} {H1 : Hp} {Q : It → Hp → Prop} (e : Ev K.tb ζ μ H ζ1 μ1 H1) : ∀ {r : R (List PV)}, PostI K W N ζ μ H σr Q r → PostI K W N ζ1 μ1 H1 σr Q r
  | .ok _ _, h => fun ζ' H' v a b c => h ζ' H' v (e.trans a) b c
  | .ex _ _ _, h => fun ζ' H' d a b c => h ζ' H' d (e.trans a) b c
  | .stuck, h => h
theorem then1I {a : ME} {P : It → Hp → Prop} {g : Val → Store → R (List PV)} (wd : Wd K N ζ μ H) (so : Sok K ξ ζ (MM N ζ μ) H σr σ) (h : PostI K W N ζ μ H σr P ((a σ μ).bind g)) :
    tE K ξ W a σr H fun x H1 => ∃ ζ1 μ1 w1, Ev K.tb ζ μ H ζ1 μ1 H1 ∧ Wd K N ζ1 μ1 H1 ∧ Sok K ξ ζ1 (MM N ζ1 μ1) H1 σr σ ∧ RV K ξ ζ1 (MM N ζ1 μ1) H1 x w1 ∧ PostI K W N ζ1 μ1 H1 σr P (g w1 μ1) := by
  refine ⟨N, ζ, μ, σ, wd, so, ?_⟩
  cases e : a σ μ with
  | ok w1 μ1 => rw [e] at h; exact fun ζ' H' v ev w r => ⟨ζ', μ1, w1, ev, w, so.ev ev, r, h.ev ev⟩
  | ex c f μ1 => rw [e] at h; exact h
  | stuck => rw [e] at h; exact h
theorem thenNI {a : Sl → Store → R (List Val)} {P : It → Hp → Prop} {g : List Val → Store → R (List PV)} (wd : Wd K N ζ μ H) (so : Sok K ξ ζ (MM N ζ μ) H σr σ) (h : PostI K W N ζ μ H σr P ((a σ μ).bind g)) :
    tA K ξ W a σr H fun xs H1 => ∃ ζ1 μ1 ws, Ev K.tb ζ μ H ζ1 μ1 H1 ∧ Wd K N ζ1 μ1 H1 ∧ Sok K ξ ζ1 (MM N ζ1 μ1) H1 σr σ ∧ RVs K ξ ζ1 (MM N ζ1 μ1) H1 xs ws ∧ PostI K W N ζ1 μ1 H1 σr P (g ws μ1) := by
  refine ⟨N, ζ, μ, σ, wd, so, ?_⟩
  cases e : a σ μ with
  | ok w1 μ1 => rw [e] at h; exact fun ζ' H' v ev w r => ⟨ζ', μ1, w1, ev, w, so.ev ev, r, h.ev ev⟩
  | ex c f μ1 => rw [e] at h; exact h
  | stuck => rw [e] at h; exact h
/-- for .. in .. -/
theorem s_for {it : Expr} {body : List Stmt} {fi : Sl → Store → R (List PV)} (hp : PassesOwn (model X.prog X.w) X.A X.env X.xe) (hc : X.calm = true) (hi : II K ξ W X tg it fi) (hg : IG K ξ X tg T) (hb : ISs K ξ W X body B)
    (hf : ∀ x : Value, foldedSetIterable it X.env x = pure x := by intro _; rfl) : IS K ξ W X (.For tg it body [] pos) (sFor fi T B) := PS.of (ps_for hp hc hi hg hb hf) fun D σr H q => by
  obtain ⟨N, ζ, μ, σ, wd, so, q⟩ := q
  refine ⟨N, ζ, μ, σ, wd, so, ?_⟩
  unfold sFor at q
  cases e : fi σ μ with
  | stuck => rw [e] at q; exact q
  | ex c f μ1 => rw [e] at q; exact fun ζ' H' d ev w r => q ζ' H' d σr ev w r (so.ev ev)
  | ok items μ1 =>
    rw [e] at q
    intro ζ1 H1 J ev1 wd1 ok
    have q1 : PostS K ξ W N ζ1 μ1 H1 D (forL T B items σ μ1) := PostS.ev ev1 q
    refine ⟨fun i m σr' H' => ∃ ζ' μ' σ', i ≤ items.length ∧ m = items.length - i ∧ Ev K.tb ζ1 μ1 H1 ζ' μ' H' ∧ Wd K N ζ' μ' H' ∧ Sok K ξ ζ' (MM N ζ' μ') H' σr' σ' ∧ PostS K ξ W N ζ' μ' H' D (forL T B (items.drop i) σ' μ'),
      ⟨_, ζ1, μ1, σ, Nat.zero_le _, rfl, Ev.refl, wd1, so.ev ev1, q1⟩, ?_⟩
    rintro i m σr' H' ⟨ζ', μ', σ', hi, hm, ev', wd', so', q'⟩
    obtain ⟨k1, k2⟩ := ok (MM N ζ' μ') H' ev'.na ev'.keep wd'.fre
    by_cases hlt : i < items.length
    · refine .inr ?_
      have hd : items.drop i = items[i] :: items.drop (i + 1) := List.drop_eq_getElem_cons hlt
      obtain ⟨kgo, ky⟩ := k1 i _ (List.getElem?_eq_getElem hlt)
      refine ⟨kgo, fun σ2 H2 => ∃ ζ2 μ2 σm, i + 1 ≤ items.length ∧ Ev K.tb ζ1 μ1 H1 ζ2 μ2 H2 ∧ Wd K N ζ2 μ2 H2 ∧ Sok K ξ ζ2 (MM N ζ2 μ2) H2 σ2 σm ∧ PostS K ξ W N ζ2 μ2 H2 D (forL T B (items.drop (i + 1)) σm μ2), fun σ2 H2 ⟨ζ2, μ2, σm, a1, a2, a3, a4, a5⟩ => ⟨items.length - (i + 1), by omega, ζ2, μ2, σm, a1, rfl, a2, a3, a4, a5⟩, fun x Hy hy => ?_⟩
      obtain ⟨gr, rx⟩ := ky x Hy hy
      rw [hd] at q'
      unfold forL at q'
      cases ea : asg T (.t items[i]) σ' with
      | none => rw [ea] at q'; exact q'.elim
      | some σ1 =>
        rw [ea] at q'
        dsimp only at q'
        refine ⟨N, ζ', μ', σ', .t items[i], σ1, wd'.fr0 gr, so'.ev gr.ev, rx, ea, fun σr1 so1 _ => ⟨N, ζ', μ', σ1, wd'.fr0 gr, so1, ?_⟩⟩
        have q2 := PostS.ev (gr.ev (ζ := ζ') (μ := μ')) q'
        have evy : Ev K.tb ζ1 μ1 H1 ζ' μ' Hy := ev'.trans gr.ev
        cases eb : B σ1 μ' with
        | nx σ2 μ2 => rw [eb] at q2; exact fun ζ2 H2 σr2 ev2 wd2 so2 => ⟨ζ2, μ2, σ2, hlt, evy.trans ev2, wd2, so2, PostS.ev ev2 q2⟩
        | ct σ2 μ2 => rw [eb] at q2; exact fun ζ2 H2 σr2 ev2 wd2 so2 => ⟨ζ2, μ2, σ2, hlt, evy.trans ev2, wd2, so2, PostS.ev ev2 q2⟩
        | bk σ2 μ2 => rw [eb] at q2; exact q2
        | rt w μ2 => rw [eb] at q2; exact q2
        | ex c f σ2 μ2 => rw [eb] at q2; exact q2
        | stuck => rw [eb] at q2; exact q2
    · refine .inl ?_
      have hi2 : i = items.length := by omega
      subst hi2
      rw [List.drop_length] at q'
      exact ⟨k2, q' ζ' H' σr' Ev.refl wd' so'⟩
end
end PM
namespace PM
open PySem PySem.Spec PyProof.Rows L2
open WD (MS upd_none)
/-! ### what can be walked -/
def itemsV : PV → Option (List PV)
  | .lst l => some l
  | .tup l => some l
  | .ktp l => some l
  | .str z => some (z.cps.toList.map fun c => .str ⟨#[c]⟩)
  | _ => none
/-- only data are walked: a thing that changes isn't -/
def gIt (w : Val) (μ : Store) : R (List PV) := match w with
  | .t d => OR.ok μ (itemsV d)
  | _ => .stuck
def rgI (lo : Int) (n : Nat) : List PV := (List.range n).map fun (k : Nat) => .int (lo + (k : Int))
def gRange1 : List Val → Store → R (List PV)
  | [.t (.int j)], μ => if bnd j then .ok (rgI 0 j.toNat) μ else .stuck
  | _, _ => .stuck
def enumP (l : List PV) : List PV := (List.range l.length).zipWith (fun (k : Nat) d => .tup [.int (k : Int), d]) l
def seqV : PV → Option (List PV)
  | .lst l => some l
  | .tup l => some l
  | .ktp l => some l
  | _ => none
def gEnum : List Val → Store → R (List PV)
  | [.t d], μ => match seqV d with
    | some l => .ok (enumP l) μ
    | none => .stuck
  | _, _ => .stuck
section
variable {X : Cx} {K : KT} {ξ : Xi} {W : WX} {N : MS} {ζ : List Addr} {μ : Store} {M : MS} {H : Hp} {σr : L2.St} {σ : Sl} {tg it e : Expr} {es : List Expr} {fa : ME} {fs : Sl → Store → R (List Val)} {pos : Pos}
theorem it_list {a : Addr} {vs : List V} {ds : List PV} (n : ¬ M a) (h : H a = some (.lst vs)) (r : rvs K M H vs ds) : ItOk K M H (Itl K a) ds := fun M1 H1 na kp fr => by
  have h1 : SqL K H1 a vs := SqL.of (kp a _ rfl n h)
  have r1 := rvs_st na kp ds vs r
  have hl := rvs_len r
  refine ⟨fun i d hd => ?_, ⟨vs, h1, by omega⟩⟩
  obtain ⟨v, hv, rvv⟩ := rvs_at r1 hd
  refine ⟨⟨vs, v, h1, hv⟩, fun x H2 hy => ?_⟩
  obtain ⟨rfl, hx⟩ := hy
  have := hx vs h1
  rw [hv] at this
  cases this
  exact ⟨Grow.refl, rvv⟩
theorem it_tup {a : Addr} {vs : List V} {ds : List PV} (n : ¬ M a) (h : H a = some (.tup vs)) (r : rvs K M H vs ds) : ItOk K M H (Itt K a) ds := fun M1 H1 na kp fr => by
  have h1 : SqT K H1 a vs := SqT.of (kp a _ rfl n h)
  have r1 := rvs_st na kp ds vs r
  have hl := rvs_len r
  refine ⟨fun i d hd => ?_, ⟨vs, h1, by omega⟩⟩
  obtain ⟨v, hv, rvv⟩ := rvs_at r1 hd
  refine ⟨⟨vs, v, h1, hv⟩, fun x H2 hy => ?_⟩
  obtain ⟨rfl, hx⟩ := hy
  have := hx vs h1
  rw [hv] at this
  cases this
  exact ⟨Grow.refl, rvv⟩
theorem it_ktp {a : Addr} {vs : List V} {ds : List PV} (h : KtR K M H a vs) (r : rvs K M H vs ds) : ItOk K M H (Itt K a) ds := fun M1 H1 na kp fr => by
  have h1 : SqT K H1 a vs := (h.st na kp).sq
  have r1 := rvs_st na kp ds vs r
  have hl := rvs_len r
  refine ⟨fun i d hd => ?_, ⟨vs, h1, by omega⟩⟩
  obtain ⟨v, hv, rvv⟩ := rvs_at r1 hd
  refine ⟨⟨vs, v, h1, hv⟩, fun x H2 hy => ?_⟩
  obtain ⟨rfl, hx⟩ := hy
  have := hx vs h1
  rw [hv] at this
  cases this
  exact ⟨Grow.refl, rvv⟩
theorem it_str {z : Str} (h : PyData.strOk z = true) : ItOk K M H (Its z) (z.cps.toList.map fun c => .str ⟨#[c]⟩) := fun M1 H1 na kp fr => by
  refine ⟨fun i d hd => ?_, by show z.cps.size ≤ _; simp⟩
  rw [List.getElem?_map] at hd
  obtain ⟨c, hc, rfl⟩ := Option.map_eq_some_iff.mp hd
  have hc' : z.cps[i]? = some c := by rw [← Array.getElem?_toList]; exact hc
  refine ⟨(Array.getElem?_eq_some_iff.mp hc').1, fun x H2 hy => ?_⟩
  obtain ⟨rfl, c', h1, rfl⟩ := hy
  rw [hc'] at h1
  cases h1
  exact ⟨Grow.refl, rv_str.mpr ⟨rfl, strOk_sub (l := [c]) h fun c' hc2 => by rw [List.mem_singleton.mp hc2]; exact List.mem_of_getElem? hc⟩⟩
theorem it_rng {lo : Int} {n : Nat} : ItOk K M H (Itr lo n) (rgI lo n) := fun M1 H1 na kp fr => by
  refine ⟨fun i d hd => ?_, by show n ≤ (rgI lo n).length; unfold rgI; simp⟩
  unfold rgI at hd
  rw [List.getElem?_map] at hd
  obtain ⟨k, hk, rfl⟩ := Option.map_eq_some_iff.mp hd
  have hi : i < n := by
    have := (List.getElem?_eq_some_iff.mp hk).1
    simpa using this
  rw [List.getElem?_range hi] at hk
  cases hk
  refine ⟨hi, fun x H2 hy => ?_⟩
  obtain ⟨rfl, rfl⟩ := hy
  exact ⟨Grow.refl, rv_int.mpr rfl⟩
theorem pair_new {T : Addr} {x y : V} {d e : PV} {M1 : MS} {H1 : Hp} (fr : Fre M1 H1) (hT : H1 T = none) (hx : rv K M1 H1 x d) (hy : rv K M1 H1 y e) : Grow H1 (upd H1 T (.tup [x, y])) ∧ rv K M1 (upd H1 T (.tup [x, y])) (.ref T) (.tup [d, e]) :=
  ⟨Grow.upd hT, rv_tup.mpr ⟨T, _, rfl, fr T hT, upd_same, rvs_cons.mpr ⟨(Grow.upd hT).rv hx, rvs_cons.mpr ⟨(Grow.upd hT).rv hy, rvs_nil⟩⟩⟩⟩
theorem enum_at {l : List PV} {i : Nat} {d : PV} (h : (enumP l)[i]? = some d) : ∃ z, l[i]? = some z ∧ d = .tup [.int (i : Int), z] := by
  unfold enumP at h
  rw [List.getElem?_zipWith] at h
  by_cases hi : i < l.length
  · rw [List.getElem?_range hi, List.getElem?_eq_getElem hi] at h
    exact ⟨l[i], List.getElem?_eq_getElem hi, (Option.some.inj h).symm⟩
  · rw [List.getElem?_eq_none (l := l) (by omega)] at h
    cases h2 : (List.range l.length)[i]? <;> rw [h2] at h <;> cases h
theorem enum_len (l : List PV) : (enumP l).length = l.length := by unfold enumP; simp
theorem it_enL {a : Addr} {vs : List V} {ds : List PV} (n : ¬ M a) (h : H a = some (.lst vs)) (r : rvs K M H vs ds) : ItOk K M H (Ite K a) (enumP ds) := fun M1 H1 na kp fr => by
  have h1 : SqL K H1 a vs := SqL.of (kp a _ rfl n h)
  have r1 := rvs_st na kp ds vs r
  have hl := rvs_len r
  refine ⟨fun i d hd => ?_, ⟨vs, h1, by rw [enum_len]; omega⟩⟩
  obtain ⟨z, hz, rfl⟩ := enum_at hd
  obtain ⟨v, hv, rvv⟩ := rvs_at r1 hz
  refine ⟨⟨vs, v, h1, hv⟩, fun x H2 hy => ?_⟩
  obtain ⟨T, y, rfl, hT, rfl, hx⟩ := hy
  have := hx vs h1
  rw [hv] at this
  cases this
  exact pair_new fr hT (rv_int.mpr rfl) rvv
theorem it_enT {a : Addr} {vs : List V} {ds : List PV} (n : ¬ M a) (h : H a = some (.tup vs)) (r : rvs K M H vs ds) : ItOk K M H (WD.ItEnT K a) (enumP ds) := fun M1 H1 na kp fr => by
  have h1 : SqT K H1 a vs := SqT.of (kp a _ rfl n h)
  have r1 := rvs_st na kp ds vs r
  have hl := rvs_len r
  refine ⟨fun i d hd => ?_, ⟨vs, h1, by rw [enum_len]; omega⟩⟩
  obtain ⟨z, hz, rfl⟩ := enum_at hd
  obtain ⟨v, hv, rvv⟩ := rvs_at r1 hz
  refine ⟨⟨vs, v, h1, hv⟩, fun x H2 hy => ?_⟩
  obtain ⟨T, y, rfl, hT, rfl, hx⟩ := hy
  have := hx vs h1
  rw [hv] at this
  cases this
  exact pair_new fr hT (rv_int.mpr rfl) rvv
theorem it_enK {a : Addr} {vs : List V} {ds : List PV} (h : KtR K M H a vs) (r : rvs K M H vs ds) : ItOk K M H (WD.ItEnT K a) (enumP ds) := fun M1 H1 na kp fr => by
  have h1 : SqT K H1 a vs := (h.st na kp).sq
  have r1 := rvs_st na kp ds vs r
  have hl := rvs_len r
  refine ⟨fun i d hd => ?_, ⟨vs, h1, by rw [enum_len]; omega⟩⟩
  obtain ⟨z, hz, rfl⟩ := enum_at hd
  obtain ⟨v, hv, rvv⟩ := rvs_at r1 hz
  refine ⟨⟨vs, v, h1, hv⟩, fun x H2 hy => ?_⟩
  obtain ⟨T, y, rfl, hT, rfl, hx⟩ := hy
  have := hx vs h1
  rw [hv] at this
  cases this
  exact pair_new fr hT (rv_int.mpr rfl) rvv
/-- a value that is walked -/
theorem ii_val (h : IE K ξ W X it fa) (hK : X.K = K := by rfl) : II K ξ W X tg it (e1 gIt fa) := by
  obtain ⟨K, Kt⟩ := K; obtain rfl : X.K = K := hK
  refine PI.pick fun σr H Q q => ?_
  obtain ⟨N, ζ, μ, σ, wd, so, q⟩ := q
  have key := then1I wd so q
  cases ea : fa σ μ with
  | ex c f μ1 =>
    refine ⟨_, pi_list h, N, ζ, μ, σ, wd, so, ?_⟩
    unfold e1 at q
    rw [ea] at q ⊢
    exact q
  | stuck =>
    unfold e1 at q
    rw [ea] at q
    exact q.elim
  | ok w μ1 =>
    unfold e1 at q
    rw [ea] at q
    have q' : PostI ⟨X.K, Kt⟩ W N ζ μ H σr Q (gIt w μ1) := q
    cases w with
    | c _ => exact q'.elim
    | x _ _ => exact q'.elim
    | s _ => exact q'.elim
    | g _ _ => exact q'.elim
    | self => exact q'.elim
    | lam _ _ => exact q'.elim
    | t d =>
      cases d with
      | lst l =>
        refine ⟨_, pi_list h, N, ζ, μ, σ, wd, so, ?_⟩
        rw [ea]
        intro ζ' H' v ev1 wd1 r1
        obtain ⟨p, vs, rfl, n1, g1, r2⟩ := rv_lst.mp (show rv ⟨X.K, Kt⟩ (MM N ζ' μ1) H' v (.lst l) from r1)
        exact ⟨p, rfl, ⟨vs, SqL.of g1⟩, q' ζ' H' _ ev1 wd1 (it_list n1 g1 r2)⟩
      | tup l =>
        refine ⟨_, pi_tup h, N, ζ, μ, σ, wd, so, ?_⟩
        rw [ea]
        intro ζ' H' v ev1 wd1 r1
        obtain ⟨p, vs, rfl, n1, g1, r2⟩ := rv_tup.mp (show rv ⟨X.K, Kt⟩ (MM N ζ' μ1) H' v (.tup l) from r1)
        exact ⟨p, rfl, ⟨vs, SqT.of g1⟩, q' ζ' H' _ ev1 wd1 (it_tup n1 g1 r2)⟩
      | ktp l =>
        refine ⟨_, pi_tup h, N, ζ, μ, σ, wd, so, ?_⟩
        rw [ea]
        intro ζ' H' v ev1 wd1 r1
        obtain ⟨p, vs, rfl, g1, r2⟩ := rv_ktp.mp (show rv ⟨X.K, Kt⟩ (MM N ζ' μ1) H' v (.ktp l) from r1)
        exact ⟨p, rfl, ⟨vs, g1.sq⟩, q' ζ' H' _ ev1 wd1 (it_ktp g1 r2)⟩
      | str z =>
        refine ⟨_, pi_str h, N, ζ, μ, σ, wd, so, ?_⟩
        rw [ea]
        intro ζ' H' v ev1 wd1 r1
        obtain ⟨rfl, so1⟩ := rv_str.mp (show rv ⟨X.K, Kt⟩ (MM N ζ' μ1) H' v (.str z) from r1)
        exact ⟨z, rfl, q' ζ' H' _ ev1 wd1 (it_str so1)⟩
      | non => exact q'.elim
      | bl _ => exact q'.elim
      | int _ => exact q'.elim
      | dic _ _ _ => exact q'.elim
      | obj _ _ _ => exact q'.elim
theorem RVs1 {xs : List V} {w : Val} (h : RVs K ξ ζ M H xs [w]) : ∃ v, xs = [v] ∧ RV K ξ ζ M H v w := by
  match xs, h with
  | [v], h => exact ⟨v, rfl, h.1⟩
  | [], h => exact h.elim
  | _ :: _ :: _, h => exact h.2.elim
theorem RVs2 {xs : List V} {w u : Val} (h : RVs K ξ ζ M H xs [w, u]) : ∃ v z, xs = [v, z] ∧ RV K ξ ζ M H v w ∧ RV K ξ ζ M H z u := by
  match xs, h with
  | [v, u], h => exact ⟨v, u, rfl, h.1, h.2.1⟩
  | [], h => exact h.elim
  | [_], h => exact h.2.elim
  | _ :: _ :: _ :: _, h => exact h.2.2.elim
theorem ii_range1 {p : Pos} (hg : Gl X "range") (hm : X.mg "range" = none) (ha : IA K ξ W X [e] fs) (hs : starEach [e] X.env = [(false, eval e X.env)] := by rfl) : II K ξ W X tg (.Call (.Name "range" p) [e] [] pos) (eN gRange1 fs) := PI.of (pi_range1 hg hm ha hs) fun σr H Q q => by
  obtain ⟨N, ζ, μ, σ, wd, so, q⟩ := q
  refine (thenNI wd so q).mono fun xs H1 ⟨ζ1, μ1, ws, ev1, wd1, so1, r1, q1⟩ => ?_
  unfold gRange1 at q1
  split at q1
  · split at q1
    · rename_i j hj
      obtain ⟨v, rfl, hv⟩ := RVs1 r1
      cases rv_int.mp (show rv K (MM N ζ1 μ1) H1 v (.int j) from hv)
      exact ⟨j, rfl, (bnd_ok hj).1, (bnd_ok hj).2, q1 ζ1 H1 _ Ev.refl wd1 it_rng⟩
    · exact q1.elim
  · exact q1.elim
theorem ii_enum {p tpos : Pos} {elts : List Expr} {kk : Nat} (hg : Gl X "enumerate") (hm : X.mg "enumerate" = none) (ha : IA K ξ W X [e] fs) (hs : starEach [e] X.env = [(false, eval e X.env)] := by rfl) (hK : X.K = K := by rfl) : II K ξ W X (.Tuple elts kk tpos) (.Call (.Name "enumerate" p) [e] [] pos) (eN gEnum fs) := by
  obtain ⟨K, Kt⟩ := K; obtain rfl : X.K = K := hK
  refine PI.pick fun σr H Q q => ?_
  obtain ⟨N, ζ, μ, σ, wd, so, q⟩ := q
  unfold eN at q
  cases ea : fs σ μ with
  | ex c f μ1 =>
    refine ⟨_, pi_enum hg hm ha hs, N, ζ, μ, σ, wd, so, ?_⟩
    rw [ea] at q ⊢
    exact q
  | stuck =>
    rw [ea] at q
    exact q.elim
  | ok ws μ1 =>
    rw [ea] at q
    have q' : PostI ⟨X.K, Kt⟩ W N ζ μ H σr Q (gEnum ws μ1) := q
    unfold gEnum at q'
    split at q'
    · rename_i d
      cases d with
      | lst l =>
        refine ⟨_, pi_enum hg hm ha hs, N, ζ, μ, σ, wd, so, ?_⟩
        rw [ea]
        intro ζ' H' vs ev1 wd1 r1
        obtain ⟨v, rfl, r1'⟩ := RVs1 r1
        obtain ⟨p, vs, rfl, n1, g1, r2⟩ := rv_lst.mp (show rv ⟨X.K, Kt⟩ (MM N ζ' μ1) H' v (.lst l) from r1')
        exact ⟨p, vs, rfl, SqL.of g1, q' ζ' H' _ ev1 wd1 (it_enL n1 g1 r2)⟩
      | tup l =>
        refine ⟨_, WD.pi_enumT X.K hg hm ha hs, N, ζ, μ, σ, wd, so, ?_⟩
        rw [ea]
        intro ζ' H' vs ev1 wd1 r1
        obtain ⟨v, rfl, r1'⟩ := RVs1 r1
        obtain ⟨p, vs, rfl, n1, g1, r2⟩ := rv_tup.mp (show rv ⟨X.K, Kt⟩ (MM N ζ' μ1) H' v (.tup l) from r1')
        exact ⟨p, vs, rfl, SqT.of g1, q' ζ' H' _ ev1 wd1 (it_enT n1 g1 r2)⟩
      | ktp l =>
        refine ⟨_, WD.pi_enumT X.K hg hm ha hs, N, ζ, μ, σ, wd, so, ?_⟩
        rw [ea]
        intro ζ' H' vs ev1 wd1 r1
        obtain ⟨v, rfl, r1'⟩ := RVs1 r1
        obtain ⟨p, vs, rfl, g1, r2⟩ := rv_ktp.mp (show rv ⟨X.K, Kt⟩ (MM N ζ' μ1) H' v (.ktp l) from r1')
        exact ⟨p, vs, rfl, g1.sq, q' ζ' H' _ ev1 wd1 (it_enK g1 r2)⟩
      | str z => exact q'.elim
      | non => exact q'.elim
      | bl _ => exact q'.elim
      | int _ => exact q'.elim
      | dic _ _ _ => exact q'.elim
      | obj _ _ _ => exact q'.elim
    · exact q'.elim
end
/-! ### list comprehensions -/
def R.noex {α : Type} : R α → R α
  | .ex _ _ _ => .stuck
  | r => r
def wipeM (σ : Sl) : List Nat → Sl
  | [] => σ
  | v :: vs => (wipeM σ vs).set v none
def gT (w : Val) (μ : Store) : R PV := match w with
  | .t d => .ok d μ
  | _ => .stuck
def lcL (T : Tgt) (test : Sl → Store → R Bool) (elt : ME) : List PV → Sl → Store → R (List PV)
  | [], _, μ => .ok [] μ
  | d :: ds, σ, μ => match asg T (.t d) σ with
    | none => .stuck
    | some σ1 => (test σ1 μ).noex.bind fun b μ1 => if b then (elt σ1 μ1).noex.bind fun w μ2 => (gT w μ2).bind fun y μ3 => (lcL T test elt ds σ μ3).bind fun ys μ4 => .ok (y :: ys) μ4 else lcL T test elt ds σ μ1
def szF (ds : List PV) (μ : Store) : R (List PV) := if ds.length ≤ sizeLine then .ok ds μ else .stuck
def lcF (it : Sl → Store → R (List PV)) (T : Tgt) (test : Sl → Store → R Bool) (elt : ME) : Sl → Store → R (List PV) := fun σ μ => (it σ μ).bind fun items μ1 => (lcL T test elt items (wipeM σ T.sl) μ1).bind szF
def tYes' : Sl → Store → R Bool := fun _ μ => .ok true μ
abbrev W0 : WX := fun _ _ _ _ => False
section
variable {X : Cx} {K : KT} {ξ : Xi} {W : WX} {N : MS} {ζ : List Addr} {μ : Store} {M : MS} {H : Hp} {σr : L2.St} {σ : Sl} {tg it e : Expr} {T : Tgt} {fi : Sl → Store → R (List PV)} {test : Sl → Store → R Bool} {elt : ME}
theorem Sok.wipe (h : Sok K ξ ζ M H σr σ) : ∀ s : List Nat, Sok K ξ ζ M H (L2.wipe σr s) (wipeM σ s)
  | [] => h
  | v :: vs => (Sok.wipe h vs).drop
theorem Ev.mutNew {ζ1 : List Addr} {μ1 : Store} {H1 : Hp} {D : Addr} {o : HO} (e : Ev K.tb ζ μ H ζ1 μ1 H1) (h : nn K.tb (H D)) : Ev K.tb ζ μ H ζ1 μ1 (upd H1 D o) := ⟨e.pre, e.fr.mutNew h, e.ml⟩
theorem Wd.mutN {D : Addr} {o o0 : HO} (wd : Wd K N ζ μ H) (h : N D) (h0 : H D = some o0) (n : isTb o0 = false := by rfl) (x : isX o0 = false := by rfl) (n1 : isTb o = false := by rfl) (x1 : isX o = false := by rfl) : Wd K N ζ μ (upd H D o) := by
  have ne : ∀ a, ¬ MM N ζ μ a → a ≠ D := fun a n z => n (.inr (by rw [z]; exact h))
  refine ⟨wd.len, wd.inj, fun k c a h1 h2 => (wd.cell k c a h1 h2).st (fun _ _ h => h) (fun _ n _ => n) (fun b u _ n e => by rw [upd_ne (ne b n)]; exact e) (fun u _ e => ?_), fun a ha => ⟨(wd.nd a ha).1, (by
    by_cases q : a = D
    · rw [q]; exact ⟨o, upd_same, n1, x1⟩
    · rw [upd_ne q]; exact (wd.nd a ha).2)⟩, tabs_mut h0 n x wd.tb⟩
  rw [upd_ne]
  · exact e
  · rintro rfl
    exact (wd.nd a h).1 ⟨k, c, h2, h1⟩
theorem rvs_mutN {D : Addr} {o : HO} {vs : List V} {ds : List PV} (h : M D) (r : rvs K M H vs ds) : rvs K M (upd H D o) vs ds := rvs_st (fun _ n _ => n) (fun b u _ n e => by rw [upd_ne fun z => n (by rw [z]; exact h)]; exact e) ds vs r
theorem rv_mutN {D : Addr} {o : HO} {v : V} {d : PV} (h : M D) (r : rv K M H v d) : rv K M (upd H D o) v d := rv_st (fun _ n _ => n) (fun b u _ n e => by rw [upd_ne fun z => n (by rw [z]; exact h)]; exact e) d v r
/-- the slots, seen with more set aside -/
theorem Sok.aside {N' : MS} {ζ1 : List Addr} {μ1 : Store} {H1 : Hp} (h : Sok K ξ ζ (MM N ζ μ) H σr σ) (pre : ∀ (k : Nat) (a : Addr), ζ[k]? = some a → ζ1[k]? = some a) (na : ∀ a, ¬ MM N ζ μ a → ¬ nn K.tb (H a) → ¬ MM N' ζ1 μ1 a) (kp : ∀ a o, nt K.tb o → ¬ MM N ζ μ a → H a = some o → H1 a = some o) : Sok K ξ ζ1 (MM N' ζ1 μ1) H1 σr σ := by
  refine ⟨h.1, fun i w hw => ?_⟩
  obtain ⟨v, h1, h2⟩ := h.2 i w hw
  exact ⟨v, h1, h2.st pre na kp⟩
theorem lcL_noex : ∀ {items : List PV} {σ : Sl} {μ3 : Store} {c : Str} {f : Option (Str × PV)} {μ4 : Store}, lcL T test elt items σ μ3 = .ex c f μ4 → False := by
  intro items
  induction items with
  | nil => intro σ μ3 c f μ4 h; unfold lcL at h; cases h
  | cons d ds ih =>
    intro σ μ3 c f μ4 h
    unfold lcL at h
    split at h
    · cases h
    · rename_i σ1 _
      cases et : test σ1 μ3 with
      | stuck => rw [et] at h; cases h
      | ex _ _ _ => rw [et] at h; cases h
      | ok b μ5 =>
        rw [et] at h
        cases b with
        | false => exact ih h
        | true =>
          have h2 : ((elt σ1 μ5).noex.bind fun w μ2 => (gT w μ2).bind fun y μ3 => (lcL T test elt ds σ μ3).bind fun ys μ4 => .ok (y :: ys) μ4) = .ex c f μ4 := h
          cases ee : elt σ1 μ5 with
          | stuck => rw [ee] at h2; cases h2
          | ex _ _ _ => rw [ee] at h2; cases h2
          | ok w μ6 =>
            rw [ee] at h2
            cases w with
            | c _ => cases h2
            | x _ _ => cases h2
            | s _ => cases h2
            | g _ _ => cases h2
            | self => cases h2
            | lam _ _ => cases h2
            | t y' =>
              have h3 : ((lcL T test elt ds σ μ6).bind fun ys μ4 => R.ok (y' :: ys) μ4) = .ex c f μ4 := h2
              cases el : lcL T test elt ds σ μ6 with
              | stuck => rw [el] at h3; cases h3
              | ok _ _ => rw [el] at h3; cases h3
              | ex c' f' μ7 => exact ih el
/-- the reading of a comprehension -/
theorem rd_lc {Q : VK} (q : tF K ξ W (lcF fi T test elt) σr H Q) : tLc (tI K ξ W fi) (tG K ξ T) (tT K ξ W0 test) (tE K ξ W0 elt) T.sl σr H Q := by
  obtain ⟨N, ζ, μ, σ, wd, so, q⟩ := q
  refine ⟨N, ζ, μ, σ, wd, so, ?_⟩
  unfold lcF at q
  cases e : fi σ μ with
  | stuck => rw [e] at q; exact q
  | ex c f μ1 => rw [e] at q; exact q
  | ok items μ1 =>
    rw [e] at q
    intro ζ1 H1 J ev1 wd1 ok D hD
    have q1 : PostF K W N ζ1 μ1 H1 σr Q ((lcL T test elt items (wipeM σ T.sl) μ1).bind szF) := PostF.ev ev1 q
    have so1 := so.ev ev1
    have nN : ¬ N D := fun z => (wd1.nd D z).2.ne hD
    refine ⟨fun i m H' => ∃ ζ' μ' acc vs, i ≤ items.length ∧ m = items.length - i ∧ Ev K.tb ζ1 μ1 H1 ζ' μ' H' ∧ Wd K (WD.plus N D) ζ' μ' H' ∧ H' D = some (.lst vs) ∧ rvs K (MM (WD.plus N D) ζ' μ') H' vs acc ∧ PostF K W N ζ1 μ1 H1 σr Q ((lcL T test elt (items.drop i) (wipeM σ T.sl) μ').bind fun ys μ4 => szF (acc ++ ys) μ4),
      ⟨_, ζ1, μ1, [], [], Nat.zero_le _, rfl, Ev.new hD, wd1.aside (Grow.upd hD) hD ⟨_, upd_same, rfl, rfl⟩, upd_same, rvs_nil, q1⟩, ?_⟩
    rintro i m H' ⟨ζ', μ', acc, vs, hi, hm, ev', wd', hD', ra, q'⟩
    have na : ∀ a, ¬ MM N ζ1 μ1 a → ¬ nn K.tb (H1 a) → ¬ MM (WD.plus N D) ζ' μ' a := fun a n ne z => by
      rcases z with z | z | z
      · exact (ev'.ml a z).elim (fun z => n (.inl z)) ne
      · exact n (.inr z)
      · exact ne (nn_none (by rw [z]; exact hD))
    obtain ⟨k1, k2⟩ := ok (MM (WD.plus N D) ζ' μ') H' na ev'.keep wd'.fre
    have hDM : MM (WD.plus N D) ζ' μ' D := .inr (.inr rfl)
    have hlen := rvs_len ra
    by_cases hlt : i < items.length
    · refine .inr ?_
      have hd : items.drop i = items[i] :: items.drop (i + 1) := List.drop_eq_getElem_cons hlt
      obtain ⟨kgo, ky⟩ := k1 i _ (List.getElem?_eq_getElem hlt)
      refine ⟨kgo, fun H2 => ∃ ζ2 μ2 acc2 vs2, i + 1 ≤ items.length ∧ Ev K.tb ζ1 μ1 H1 ζ2 μ2 H2 ∧ Wd K (WD.plus N D) ζ2 μ2 H2 ∧ H2 D = some (.lst vs2) ∧ rvs K (MM (WD.plus N D) ζ2 μ2) H2 vs2 acc2 ∧ PostF K W N ζ1 μ1 H1 σr Q ((lcL T test elt (items.drop (i + 1)) (wipeM σ T.sl) μ2).bind fun ys μ4 => szF (acc2 ++ ys) μ4),
        fun H2 ⟨ζ2, μ2, acc2, vs2, a1, a2, a3, a4, a5, a6⟩ => ⟨items.length - (i + 1), by omega, ζ2, μ2, acc2, vs2, a1, rfl, a2, a3, a4, a5, a6⟩, fun x Hy hy => ?_⟩
      obtain ⟨gr, rx⟩ := ky x Hy hy
      rw [hd] at q'
      unfold lcL at q'
      cases ea : asg T (.t items[i]) (wipeM σ T.sl) with
      | none => rw [ea] at q'; exact q'.elim
      | some σ1 =>
        rw [ea] at q'
        dsimp only at q'
        have wdy := wd'.fr0 gr
        have evy : Ev K.tb ζ1 μ1 H1 ζ' μ' Hy := ev'.trans gr.ev
        have soy : Sok K ξ ζ' (MM (WD.plus N D) ζ' μ') Hy (L2.wipe σr T.sl) (wipeM σ T.sl) := (so1.wipe T.sl).aside ev'.pre na (fun a o t n h => gr a o (ev'.keep a o t n h))
        refine ⟨WD.plus N D, ζ', μ', wipeM σ T.sl, .t items[i], σ1, wdy, soy, rx, ea, fun σr1 so1 ag => ⟨?_, WD.plus N D, ζ', μ', σ1, wdy, so1, ?_⟩⟩
        · have h1 := ag.wipe
          rw [h1]
          refine List.ext_getElem? fun j => ?_
          rw [wipe_get, wipe_get]
          by_cases hj : j ∈ T.sl
          · rw [if_pos hj, if_pos hj, wipe_length]
          · rw [if_neg hj, if_neg hj]
        · cases et : test σ1 μ' with
          | stuck => rw [et] at q'; exact q'.elim
          | ex c f μ2 => rw [et] at q'; exact q'.elim
          | ok b μ2 =>
            rw [et] at q'
            intro ζ2 H2 ev2 wd2
            cases b with
            | false =>
              refine iteF ⟨ζ2, μ2, acc, vs, hlt, evy.trans ev2, wd2, ?_, ?_, q'⟩
              · exact ev2.fr.keep _ _ rfl (fun z => (wdy.nd D (.inr rfl)).1 z) (gr _ _ hD')
              · exact ev2.rvs (gr.rvs ra)
            | true =>
              refine iteT ⟨WD.plus N D, ζ2, μ2, σ1, wd2, so1.ev ev2, ?_⟩
              have q2 : PostF K W N ζ1 μ1 H1 σr Q (((elt σ1 μ2).noex.bind fun w μ2 => (gT w μ2).bind fun y μ3 => (lcL T test elt (items.drop (i + 1)) (wipeM σ T.sl) μ3).bind fun ys μ4 => .ok (y :: ys) μ4).bind fun ys μ4 => szF (acc ++ ys) μ4) := q'
              cases ee : elt σ1 μ2 with
              | stuck => rw [ee] at q2; exact q2.elim
              | ex c f μ3 => rw [ee] at q2; exact q2.elim
              | ok w μ3 =>
                rw [ee] at q2
                intro ζ3 H3 y ev3 wd3 r3
                cases w with
                | c _ => exact q2.elim
                | x _ _ => exact q2.elim
                | s _ => exact q2.elim
                | g _ _ => exact q2.elim
                | self => exact q2.elim
                | lam _ _ => exact q2.elim
                | t y' =>
                  have q3 : PostF K W N ζ1 μ1 H1 σr Q (((lcL T test elt (items.drop (i + 1)) (wipeM σ T.sl) μ3).bind fun ys μ4 => .ok (y' :: ys) μ4).bind fun ys μ4 => szF (acc ++ ys) μ4) := q2
                  have hD3 : H3 D = some (.lst vs) := ev3.fr.keep _ _ rfl (fun z => (wd2.nd D (.inr rfl)).1 z) (ev2.fr.keep _ _ rfl (fun z => (wdy.nd D (.inr rfl)).1 z) (gr _ _ hD'))
                  have hDM3 : MM (WD.plus N D) ζ3 μ3 D := .inr (.inr rfl)
                  have hsz : vs.length < sizeLine := by
                    cases el : lcL T test elt (items.drop (i + 1)) (wipeM σ T.sl) μ3 with
                    | stuck => rw [el] at q3; exact q3.elim
                    | ex c f μ4 =>
                      exfalso
                      exact lcL_noex el
                    | ok ys μ4 =>
                      rw [el] at q3
                      have q4 : PostF K W N ζ1 μ1 H1 σr Q (szF (acc ++ (y' :: ys)) μ4) := q3
                      unfold szF at q4
                      split at q4
                      · rename_i hz
                        rw [List.length_append, List.length_cons] at hz
                        omega
                      · exact q4.elim
                  refine ⟨vs, hD3, hsz, ζ3, μ3, acc ++ [y'], vs ++ [y], hlt, ((evy.trans ev2).trans ev3).mutNew (nn_none hD), wd3.mutN (.inr rfl) hD3, upd_same, rvs_app (rvs_mutN hDM3 (ev3.rvs (ev2.rvs (gr.rvs ra)))) (rvs_cons.mpr ⟨rv_mutN hDM3 r3, rvs_nil⟩), ?_⟩
                  cases el : lcL T test elt (items.drop (i + 1)) (wipeM σ T.sl) μ3 with
                  | stuck => rw [el] at q3; exact q3
                  | ex c f μ4 => exact (lcL_noex el).elim
                  | ok ys μ4 =>
                    rw [el] at q3
                    show PostF K W N ζ1 μ1 H1 σr Q (szF ((acc ++ [y']) ++ ys) μ4)
                    rw [List.append_assoc]
                    exact q3
    · refine .inl ?_
      have hi2 : i = items.length := by omega
      subst hi2
      rw [List.drop_length] at q'
      have q2 : PostF K W N ζ1 μ1 H1 σr Q (szF (acc ++ []) μ') := q'
      rw [List.append_nil] at q2
      unfold szF at q2
      split at q2
      · exact ⟨k2, q2 ζ' H' D vs ev' wd' (nn_none hD) hD' ra⟩
      · exact q2.elim
end
end PM
namespace PM
open PySem PySem.Spec PyProof.Rows L2
open WD (MS upd_none)
section
variable {X : Cx} {K : KT} {ξ : Xi} {W : WX} {N : MS} {ζ : List Addr} {μ : Store} {M : MS} {H : Hp} {σr : L2.St} {σ : Sl} {tg it e o : Expr} {es : List Expr} {T : Tgt} {fi : Sl → Store → R (List PV)} {fs : Sl → Store → R (List Val)} {test : Sl → Store → R Bool} {elt fa fo : ME} {st : Stmt} {pos : Pos}
theorem r_ofF {f : Sl → Store → R (List PV)} {Q : VK} (q : tE K ξ W (eOfF f) σr H Q) : tF K ξ W f σr H Q := by
  obtain ⟨N, ζ, μ, σ, wd, so, q⟩ := q
  refine ⟨N, ζ, μ, σ, wd, so, ?_⟩
  unfold eOfF at q
  cases e : f σ μ with
  | ok ds μ1 =>
    rw [e] at q
    intro ζ' H' a vs ev w hn ha r
    refine q ζ' H' _ ev w.unside (rv_lst.mpr ⟨a, vs, rfl, fun z => ?_, ha, rvs_wk (fun x z => z.elim .inl fun z => .inr (.inl z)) r⟩)
    rcases z with z | z
    · exact (w.nd a (.inr rfl)).1 z
    · exact (wd.nd a z).2.nn hn
  | ex c f μ1 => rw [e] at q; exact q
  | stuck => rw [e] at q; exact q
/-- [e for ..] -/
theorem f_lc (h : PE X e (tLc (tI K ξ W fi) (tG K ξ T) (tT K ξ W0 test) (tE K ξ W0 elt) T.sl)) : IF K ξ W X e (lcF fi T test elt) := PE.of h fun _ _ _ q => rd_lc q
theorem s_lcT {i : Nat} (h : PS X st (tAsg (tLc (tI K ξ W fi) (tG K ξ T) (tT K ξ W0 test) (tE K ξ W0 elt) T.sl) (gName i))) : IS K ξ W X st (sAsg (.nm i) (eOfF (lcF fi T test elt))) := s_asgR h fun _ _ _ q => rd_lc (r_ofF q)
theorem ts_yes : PTs X [] (tT K ξ W tYes') := by
  have h : PTs X [] tYes := pts_nil
  exact ⟨fun pins s σ H Q I q => h.run pins s σ H Q I (by
    obtain ⟨N, ζ, μ, σ, wd, so, q⟩ := q
    exact q ζ _ Ev.refl wd)⟩

/-! ### a thing that changes is changed -/
theorem Mof_set {k : Nat} {c c' : Cell} (h : μ[k]? = some (some c)) : ∀ x, Mof ζ (μ.set k (some c')) x ↔ Mof ζ μ x := by
  have hk := (List.getElem?_eq_some_iff.mp h).1
  intro x
  constructor
  · rintro ⟨j, d, h1, h2⟩
    by_cases e : k = j
    · subst e; exact ⟨k, c, h1, h⟩
    · rw [List.getElem?_set_ne e] at h2; exact ⟨j, d, h1, h2⟩
  · rintro ⟨j, d, h1, h2⟩
    by_cases e : k = j
    · subst e; exact ⟨k, c', h1, List.getElem?_set_self hk⟩
    · exact ⟨j, d, h1, by rw [List.getElem?_set_ne e]; exact h2⟩
theorem MM_set {k : Nat} {c c' : Cell} (h : μ[k]? = some (some c)) : ∀ x, MM N ζ (μ.set k (some c')) x ↔ MM N ζ μ x := fun x => or_congr (Mof_set h x) Iff.rfl
theorem ev_set {k : Nat} {a : Addr} {c c' : Cell} {o' : HO} (hk : μ[k]? = some (some c)) (ha : ζ[k]? = some a) (no : isTb o' = false := by rfl) : Ev K.tb ζ μ H ζ (μ.set k (some c')) (upd H a o') :=
  ⟨fun _ _ h => h, Fr.mut ⟨k, c, ha, hk⟩ no, fun x h => .inl ((Mof_set hk x).mp h)⟩
theorem Wd.setC {k : Nat} {a : Addr} {c c' : Cell} {o' : HO} (wd : Wd K N ζ μ H) (hk : μ[k]? = some (some c)) (ha : ζ[k]? = some a) (r : cellR K (ζ.take k) (MM N ζ μ) (upd H a o') a c') : Wd K N ζ (μ.set k (some c')) (upd H a o') := by
  have hM := MM_set (N := N) (ζ := ζ) (c' := c') hk
  have hkl := (List.getElem?_eq_some_iff.mp hk).1
  have aM : MM N ζ μ a := .inl ⟨k, c, ha, hk⟩
  have live : ∀ {j : Nat} {d : Cell}, (μ.set k (some c'))[j]? = some (some d) → ∃ d', μ[j]? = some (some d') ∧ (j ≠ k → d' = d) := by
    intro j d h
    by_cases e : k = j
    · subst e; exact ⟨c, hk, fun z => absurd rfl z⟩
    · rw [List.getElem?_set_ne e] at h; exact ⟨d, h, fun _ => rfl⟩
  refine ⟨by rw [List.length_set]; exact wd.len, fun i j b c1 c2 h1 h2 h3 h4 => ?_, fun j d b h1 h2 => ?_, fun b hb => ?_, (by obtain ⟨o, e1, e2, e3⟩ := (wd.cell k c a hk ha).obj; exact tabs_mut e1 e2 e3 wd.tb)⟩
  · obtain ⟨d1, g1, _⟩ := live h3
    obtain ⟨d2, g2, _⟩ := live h4
    exact wd.inj i j b d1 d2 h1 h2 g1 g2
  · by_cases e : k = j
    · subst e
      rw [ha] at h2
      cases h2
      rw [List.getElem?_set_self hkl] at h1
      cases h1
      exact r.st (fun _ _ h => h) (fun x n _ z => n ((hM x).mp z)) (fun _ _ _ _ e => e) (fun _ _ e => e)
    · rw [List.getElem?_set_ne e] at h1
      have hb : b ≠ a := fun z => e (wd.inj k j a c d ha (z ▸ h2) hk h1)
      exact (wd.cell j d b h1 h2).st (fun _ _ h => h) (fun x n _ z => n ((hM x).mp z)) (fun x o _ n hx => by rw [upd_ne fun z => n (by rw [z]; exact aM)]; exact hx) (fun o _ hx => by rw [upd_ne hb]; exact hx)
  · refine ⟨fun z => (wd.nd b hb).1 ((Mof_set hk b).mp z), ?_⟩
    rw [upd_ne fun z => (wd.nd b hb).1 (by rw [z]; exact ⟨k, c, ha, hk⟩)]
    exact (wd.nd b hb).2
/-- methods that change a list: what they answer, what the list is then -/
abbrev MF := List PV → List PV → Option (PV × List PV)
def mClear : MF := fun _ args => match args with
  | [] => some (.non, [])
  | _ => none
/-- the reading of such a method: in the heap -/
def rMF (K : KT) (m : MF) : V → List V → Hp → VK → Prop := fun x xs H Q => ∃ M a vs ds es ret new, x = .ref a ∧ M a ∧ H a = some (.lst vs) ∧ rvs K M H vs ds ∧ rvs K M H xs es ∧ m ds es = some (ret, new) ∧
  ∀ v vs', rv K M H v ret → rvs K M H vs' new → Q v (upd H a (.lst vs'))
def lstAt (μ : Store) : Val → Option (Nat × List PV)
  | .c k => match μ[k]? with
    | some (some (.lst ds)) => some (k, ds)
    | _ => none
  | _ => none
def gMut (m : MF) (w : Val) (ws : List Val) (μ : Store) : R Val := match lstAt μ w, asT ws with
  | some (k, ds), some es => match m ds es with
    | some (ret, new) => .ok (.t ret) (μ.set k (some (.lst new)))
    | none => .stuck
  | _, _ => .stuck
def gExt (w : Val) (ws : List Val) (μ : Store) : R Val := match lstAt μ w, views μ ws with
  | some (k, ds), some [.lst es] => if ds.length + es.length ≤ sizeLine then .ok (.t .non) (μ.set k (some (.lst (ds ++ es)))) else .stuck
  | _, _ => .stuck
def eMutG (g : Val → List Val → Store → R Val) (o : ME) (as : Sl → Store → R (List Val)) : ME := fun σ μ => (o σ μ).bind fun w μ1 => match lstAt μ1 w with
  | none => .stuck
  | some _ => (as σ μ1).bind fun ws μ2 => g w ws μ2
abbrev eMut (m : MF) := eMutG (gMut m)
abbrev eExt := eMutG gExt
theorem lstAt_ok {w : Val} {k : Nat} {ds : List PV} {v : V} (wd : Wd K N ζ μ H) (r : RV K ξ ζ (MM N ζ μ) H v w) (e : lstAt μ w = some (k, ds)) : ∃ a vs, w = .c k ∧ v = .ref a ∧ ζ[k]? = some a ∧ μ[k]? = some (some (.lst ds)) ∧ H a = some (.lst vs) ∧ rvs K (MM N ζ μ) H vs ds := by
  cases w with
  | c j =>
    obtain ⟨a, ha, rfl⟩ := r
    simp only [lstAt] at e
    split at e
    · rename_i ds' hk
      cases e
      obtain ⟨vs, h1, h2⟩ := wd.cell k _ a hk ha
      exact ⟨a, vs, rfl, rfl, ha, hk, h1, h2⟩
    · cases e
  | t _ => cases e
  | x _ _ => cases e
  | s _ => cases e
  | g _ _ => cases e
  | self => cases e
  | lam _ _ => cases e
theorem read_mut {m : MF} {w : Val} {ws : List Val} {x : V} {xs : List V} {Q : VK} (wd : Wd K N ζ μ H) (r : RV K ξ ζ (MM N ζ μ) H x w) (rs : RVs K ξ ζ (MM N ζ μ) H xs ws) (h : PostE K ξ W N ζ μ H σr Q (gMut m w ws μ)) : rMF K m x xs H Q := by
  unfold gMut at h
  split at h
  · rename_i k ds es e1 e2
    split at h
    · rename_i ret new e3
      obtain ⟨a, vs, rfl, rfl, ha, hk, h1, h2⟩ := lstAt_ok wd r e1
      refine ⟨MM N ζ μ, a, vs, ds, es, ret, new, rfl, .inl ⟨k, _, ha, hk⟩, h1, h2, asT_rvs rs e2, e3, fun v vs' rv' rn => ?_⟩
      have ev : Ev K.tb ζ μ H ζ (μ.set k (some (.lst new))) (upd H a (.lst vs')) := ev_set hk ha
      exact h ζ _ v ev (wd.setC hk ha ⟨vs', upd_same, rvs_mutN (.inl ⟨k, _, ha, hk⟩) rn⟩) (ev.rv rv')
    · exact h.elim
  · exact h.elim
theorem mt_of {m : MF} {id : String} {r : V → List V → Hp → VK → Prop} (h : MtM X id r) (k : ∀ x xs H Q, rMF K m x xs H Q → r x xs H Q) : MtM X id (rMF K m) := fun pins s σ H x xs v us Q I rx rs q => h pins s σ H x xs v us Q I rx rs (k x xs H Q q)
theorem mt_clearM : MtM X "list.clear" (rMF K mClear) := mt_of mt_clear fun x xs H Q q => by
  obtain ⟨M, a, vs, ds, es, ret, new, rfl, hM, h1, r1, r2, e, k⟩ := q
  unfold mClear at e
  split at e
  · cases e
    cases List.eq_nil_of_length_eq_zero (rvs_len r2)
    exact ⟨a, vs, rfl, rfl, h1, k _ _ (rv_non.mpr rfl) rvs_nil⟩
  · cases e
theorem i_mut0 {m : MF} {name : Str} {id : String} {apos cpos : Pos} (hm : MtM X id (rMF K m)) (ho : IE K ξ W X o fo)
    (h : ∀ {r : V → List V → Hp → VK → Prop} {to : TE}, MtR X id r → PE X o to → PE X (.Call (.Attribute o name apos) [] [] cpos) (tBM0 K "list" r to)) : IE K ξ W X (.Call (.Attribute o name apos) [] [] cpos) (eMut m fo aNil) := PE.of (h hm ho) fun σr H Q q => by
  obtain ⟨N, ζ, μ, σ, wd, so, q⟩ := q
  refine (then1 wd so q).mono fun x H1 ⟨ζ1, μ1, w1, ev1, wd1, so1, r1, q1⟩ => ?_
  split at q1
  · exact q1.elim
  · rename_i kd e
    obtain ⟨a, vs, rfl, rfl, ha, hk, h1, h2⟩ := lstAt_ok wd1 r1 (k := kd.1) (ds := kd.2) e
    exact ⟨.inl ⟨rfl, vs, SqL.of h1⟩, read_mut (ws := []) wd1 r1 trivial q1⟩
/-- xs.extend(ys) -/
theorem i_ext {name : Str} {apos cpos : Pos} (ho : IE K ξ W X o fo) (ha : IA K ξ W X (e :: es) fs)
    (h : ∀ {to : TE} {t : TA}, PE X o to → PA X (e :: es) t → PE X (.Call (.Attribute o name apos) (e :: es) [] cpos) (tBM K "list" rExtend to t)) : IE K ξ W X (.Call (.Attribute o name apos) (e :: es) [] cpos) (eExt fo fs) := PE.of (h ho ha) fun σr H Q q => by
  obtain ⟨N, ζ, μ, σ, wd, so, q⟩ := q
  refine (then1 wd so q).mono fun x H1 ⟨ζ1, μ1, w1, ev1, wd1, so1, r1, q1⟩ => ?_
  split at q1
  · exact q1.elim
  · rename_i kd e
    obtain ⟨a, vs, rfl, rfl, ha, hk, h1, h2⟩ := lstAt_ok wd1 r1 (k := kd.1) (ds := kd.2) e
    refine ⟨.inl ⟨rfl, vs, SqL.of h1⟩, ?_⟩
    refine (thenN wd1 so1 q1).mono fun xs H2 ⟨ζ2, μ2, ws, ev2, wd2, so2, r2, q2⟩ => ?_
    unfold gExt at q2
    split at q2
    · rename_i k ds es e1 e2
      split at q2
      · rename_i hl
        obtain ⟨a', vs', ew, ea, ha', hk', h1', h2'⟩ := lstAt_ok wd2 (r1.ev ev2) e1
        cases ea
        obtain ⟨u, rfl, hu⟩ := vvs1 (r2.views wd2 e2)
        obtain ⟨b, zs, rfl, hb, rz⟩ := hu
        have l1 := rvs_len h2'
        have l2 := rvs_len rz
        refine ⟨a, b, vs', zs, rfl, rfl, h1', hb, by omega, ?_⟩
        have ev : Ev K.tb ζ2 μ2 H2 ζ2 (μ2.set k (some (.lst (ds ++ es)))) (upd H2 a (.lst (vs' ++ zs))) := ev_set hk' ha'
        exact q2 ζ2 _ _ ev (wd2.setC hk' ha' ⟨_, upd_same, rvs_mutN (.inl ⟨k, _, ha', hk'⟩) (rvs_app h2' rz)⟩) (ev.rv (rv_non.mpr rfl))
      · exact q2.elim
    · exact q2.elim
/-- xs[i] = e, of a list that changes -/
def gSetL (w u z : Val) (μ : Store) : Option Store := match w, lstAt μ u, z with
  | .t d, some (k, ds), .t (.int i) => (ixN ds.length i).map fun j => μ.set k (some (.lst (ds.set j d)))
  | _, _, _ => none
def sSetL (fe fo fi : ME) : MSt := fun σ μ => (fe σ μ).st σ fun w μ1 => (fo σ μ1).st σ fun u μ2 => (fi σ μ2).st σ fun z μ3 => match gSetL w u z μ3 with
  | some μ4 => .nx σ μ4
  | none => .stuck
theorem read_setL {w1 w2 w3 : Val} {x y z : V} {μ' : Store} {Q : Hp → Prop} (wd : Wd K N ζ μ H) (r1 : RV K ξ ζ (MM N ζ μ) H x w1) (r2 : RV K ξ ζ (MM N ζ μ) H y w2) (r3 : RV K ξ ζ (MM N ζ μ) H z w3) (e : gSetL w1 w2 w3 μ = some μ') (k : ∀ H', Ev K.tb ζ μ H ζ μ' H' → Wd K N ζ μ' H' → Q H') : rSetL y z x H Q := by
  unfold gSetL at e
  split at e
  · rename_i d k' ds i e1
    obtain ⟨j, hj, rfl⟩ := Option.map_eq_some_iff.mp e
    obtain ⟨a, vs, ew, rfl, ha, hk, h1, h2⟩ := lstAt_ok wd r2 e1
    cases rv_int.mp (show rv K (MM N ζ μ) H z (.int i) from r3)
    have rx : rv K (MM N ζ μ) H x d := r1
    exact ⟨a, vs, i, j, rfl, rfl, h1, by rw [rvs_len h2]; exact hj, k _ (ev_set hk ha) (wd.setC hk ha ⟨_, upd_same, rvs_mutN (.inl ⟨k', _, ha, hk⟩) (rvs_set rx j h2)⟩)⟩
  · cases e
theorem s_setL {fe fi : ME} (h : PS X st (tAsg (tE K ξ W fe) (gSub (tE K ξ W fo) (tE K ξ W fi) rSetL))) : IS K ξ W X st (sSetL fe fo fi) := PS.of h fun D σr H q => by
  obtain ⟨N, ζ, μ, σ, wd, so, q⟩ := q
  refine (stE wd so q).mono fun x H1 ⟨ζ1, μ1, w1, ev1, wd1, so1, r1, q1⟩ => ?_
  refine (stE wd1 so1 q1).mono fun y H2 ⟨ζ2, μ2, w2, ev2, wd2, so2, r2, q2⟩ => ?_
  refine (stE wd2 so2 q2).mono fun z H3 ⟨ζ3, μ3, w3, ev3, wd3, so3, r3, q3⟩ => ?_
  cases e : gSetL w1 w2 w3 μ3 with
  | none => rw [e] at q3; exact q3.elim
  | some μ4 =>
    rw [e] at q3
    exact read_setL wd3 ((r1.ev ev2).ev ev3) (r2.ev ev3) r3 e fun H' ev wd => q3 ζ3 H' σr ev wd (so3.ev ev)
/-! ### a thing that changes no more: it becomes a datum -/
def frz1 (μ : Store) : Val → Option (Val × Store)
  | .c k => match μ[k]? with
    | some (some (.lst ds)) => some (.t (.lst ds), μ.set k none)
    | some (some (.dic b ks ds)) => some (.t (.dic b ks ds), μ.set k none)
    | _ => none
  | w => some (w, μ)
/-- ghost: the name's thing becomes a datum -/
def sFrz (i : Nat) : MSt := fun σ μ => match σ[i]? with
  | some (some w) => match frz1 μ w with
    | some (w', μ') => .nx (σ.set i (some w')) μ'
    | none => .stuck
  | _ => .nx σ μ
def eFrz (f : ME) : ME := e1 (fun w μ => match frz1 μ w with
  | some (w', μ') => .ok w' μ'
  | none => .stuck) f
theorem Mof_dead {k : Nat} : ∀ x, Mof ζ (μ.set k none) x → Mof ζ μ x := by
  rintro x ⟨j, d, h1, h2⟩
  by_cases e : k = j
  · subst e
    by_cases hk : k < μ.length
    · rw [List.getElem?_set_self hk] at h2; cases h2
    · rw [List.getElem?_eq_none (by rw [List.length_set]; omega)] at h2; cases h2
  · rw [List.getElem?_set_ne e] at h2; exact ⟨j, d, h1, h2⟩
theorem dead_live {k j : Nat} {d : Cell} (h : (μ.set k none)[j]? = some (some d)) : μ[j]? = some (some d) ∧ j ≠ k := by
  by_cases e : k = j
  · subst e
    by_cases hk : k < μ.length
    · rw [List.getElem?_set_self hk] at h; cases h
    · rw [List.getElem?_eq_none (by rw [List.length_set]; omega)] at h; cases h
  · rw [List.getElem?_set_ne e] at h; exact ⟨h, fun z => e z.symm⟩
theorem ev_dead {k : Nat} : Ev K.tb ζ μ H ζ (μ.set k none) H := ⟨fun _ _ h => h, Fr.refl _, fun x h => .inl (Mof_dead x h)⟩
theorem Wd.dead {k : Nat} (wd : Wd K N ζ μ H) : Wd K N ζ (μ.set k none) H :=
  ⟨by rw [List.length_set]; exact wd.len, fun i j a c c' h1 h2 h3 h4 => wd.inj i j a c c' h1 h2 (dead_live h3).1 (dead_live h4).1,
   fun j c a h1 h2 => (wd.cell j c a (dead_live h1).1 h2).st (fun _ _ h => h) (fun x n _ z => n (z.elim (fun z => .inl (Mof_dead x z)) .inr)) (fun _ _ _ _ e => e) (fun _ _ e => e), fun a ha => ⟨fun z => (wd.nd a ha).1 (Mof_dead a z), (wd.nd a ha).2⟩, wd.tb⟩
theorem frz1_ok {w w' : Val} {μ' : Store} {v : V} (wd : Wd K N ζ μ H) (r : RV K ξ ζ (MM N ζ μ) H v w) (e : frz1 μ w = some (w', μ')) : Ev K.tb ζ μ H ζ μ' H ∧ Wd K N ζ μ' H ∧ RV K ξ ζ (MM N ζ μ') H v w' := by
  have triv : (w', μ') = (w, μ) → Ev K.tb ζ μ H ζ μ' H ∧ Wd K N ζ μ' H ∧ RV K ξ ζ (MM N ζ μ') H v w' := by
    intro h; cases h; exact ⟨Ev.refl, wd, r⟩
  cases w with
  | t d => exact triv (Option.some.inj e).symm
  | x _ _ => exact triv (Option.some.inj e).symm
  | s _ => exact triv (Option.some.inj e).symm
  | g _ _ => exact triv (Option.some.inj e).symm
  | self => exact triv (Option.some.inj e).symm
  | lam _ _ => exact triv (Option.some.inj e).symm
  | c k =>
    obtain ⟨a, ha, rfl⟩ := r
    have hn : ∀ {c : Cell}, μ[k]? = some (some c) → ¬ MM N ζ (μ.set k none) a := fun {c} hk z => by
      rcases z with ⟨j, d, h1, h2⟩ | z
      · obtain ⟨h3, h4⟩ := dead_live h2
        exact h4 (wd.inj j k a d c h1 ha h3 hk)
      · exact (wd.nd a z).1 ⟨k, c, ha, hk⟩
    have sub : ∀ x, MM N ζ (μ.set k none) x → MM N ζ μ x := fun x z => z.elim (fun z => .inl (Mof_dead x z)) .inr
    simp only [frz1] at e
    split at e
    · rename_i ds hk
      cases e
      obtain ⟨vs, h1, h2⟩ := wd.cell k _ a hk ha
      exact ⟨ev_dead, wd.dead, rv_lst.mpr ⟨a, vs, rfl, hn hk, h1, rvs_wk sub h2⟩⟩
    · rename_i b ks ds hk
      cases e
      obtain ⟨vs, h1, h2⟩ := wd.cell k _ a hk ha
      exact ⟨ev_dead, wd.dead, rv_dic.mpr ⟨a, vs, rfl, hn hk, h1, rvs_wk sub h2⟩⟩
    · cases e
theorem Sok.same {i : Nat} {w : Val} {v : V} (h : Sok K ξ ζ M H σr σ) (hv : σr[i]? = some (some v)) (r : RV K ξ ζ M H v w) : Sok K ξ ζ M H σr (σ.set i (some w)) := by
  have := h.set (i := i) r
  have e : σr.set i (some v) = σr := by
    refine List.ext_getElem? fun j => ?_
    by_cases e : i = j
    · subst e
      rw [List.getElem?_set_self (List.getElem?_eq_some_iff.mp hv).1, hv]
    · rw [List.getElem?_set_ne e]
  rw [e] at this
  exact this
theorem ss_frz {i : Nat} {ss : List Stmt} {B : MSt} (hb : ISs K ξ W X ss B) : ISs K ξ W X ss (sSeq (sFrz i) B) := ss_ghost hb fun D σr H N ζ μ σ wd so q => by
  unfold sFrz at q
  split at q
  · rename_i w hw
    split at q
    · rename_i w' μ' e
      obtain ⟨v, h1, h2⟩ := so.2 i w hw
      obtain ⟨ev, wd', r'⟩ := frz1_ok wd h2 e
      exact ⟨N, ζ, μ', σ.set i (some w'), wd', (so.ev ev).same h1 r', PostS.ev ev q⟩
    · exact q.elim
  · exact ⟨N, ζ, μ, σ, wd, so, q⟩
theorem i_frz (ha : IE K ξ W X e fa) : IE K ξ W X e (eFrz fa) := PE.of ha fun σr H Q q => by
  obtain ⟨N, ζ, μ, σ, wd, so, q⟩ := q
  refine (then1 wd so q).mono fun x H1 ⟨ζ1, μ1, w1, ev1, wd1, so1, r1, q1⟩ => ?_
  cases e : frz1 μ1 w1 with
  | none => rw [e] at q1; exact q1.elim
  | some p =>
    obtain ⟨w', μ'⟩ := p
    rw [e] at q1
    obtain ⟨ev, wd', r'⟩ := frz1_ok wd1 r1 e
    exact q1 ζ1 H1 x ev wd' r'
end
end PM
namespace PM
open PySem PySem.Spec PyProof.Rows L2
open WD (MS upd_none)
/-! ### defs -/
abbrev Fn := List Val → Store → R Val
def PostC (K : KT) (N : MS) (ζ : List Addr) (μ : Store) (H : Hp) (Q : VK) (E : XK) : R Val → Prop
  | .ok w μ' => ∀ ζ' H' v, Ev K.tb ζ μ H ζ' μ' H' → Wd K N ζ' μ' H' → RV K none ζ' (MM N ζ' μ') H' v w → Q v H'
  | .ex c f μ' => ∀ ζ' H' d, Ev K.tb ζ μ H ζ' μ' H' → Wd K N ζ' μ' H' → XR K (MM N ζ' μ') H' d f → E (.ref (He.ga K c)) d H'
  | .stuck => False
def SpF (K : KT) (n : Nat) (fn : Fn) : Sp := fun vs H Q E => ∃ N ζ μ ws, Wd K N ζ μ H ∧ RVs K none ζ (MM N ζ μ) H vs ws ∧ ws.length = n ∧ PostC K N ζ μ H Q E (fn ws μ)
def Val.plain : Val → Bool
  | .x _ _ => false
  | .self => false
  | _ => true
def noOb : Cell → Bool
  | .ob _ _ _ => false
  | _ => true
def Fl.below (n : Nat) : Fl → Bool
  | .t _ => true
  | .c k => decide (k < n)
/-- a datum, an elder cell, or the cell k -/
def Fl.only (n k : Nat) : Fl → Bool
  | .t _ => true
  | .c j => decide (j < n ∨ j = k)
def Fl.ren (n k : Nat) : Fl → Fl
  | .t d => .t d
  | .c j => if j = k then .c n else .c j
def gCall (n : Nat) (fn : Fn) (ws : List Val) (μ : Store) : R Val := if ws.all Val.plain && decide (ws.length = n) then fn ws μ else .stuck
def fin (n : Nat) (w : Val) (μ : Store) : R Val := match w with
  | .t d => .ok (.t d) (μ.take n)
  | .c k => if k < n then .ok (.c k) (μ.take n) else match μ[k]? with
    | some (some c) => if noOb c then .ok (.c n) (μ.take n ++ [some c]) else .stuck
    | _ => .stuck
  | .g (.ob C ns) fs => if fs.all (Fl.below n) then .ok (.g (.ob C ns) fs) (μ.take n) else .ok (.g (.ob C ns) fs) μ
  | .g .tup fs => if fs.all (Fl.below n) then .ok (.g .tup fs) (μ.take n) else match fs.find? (fun x => !Fl.below n x) with
    | some (.c k) => (match μ[k]? with
      | some (some c) => if noOb c && fs.all (Fl.only n k) then .ok (.g .tup (fs.map (Fl.ren n k))) (μ.take n ++ [some c]) else .ok (.g .tup fs) μ
      | _ => .ok (.g .tup fs) μ)
    | _ => .ok (.g .tup fs) μ
  | .g .two fs => if fs.all (Fl.below n) then .ok (.g .two fs) (μ.take n) else match fs.find? (fun x => !Fl.below n x) with
    | some (.c k) => (match μ[k]? with
      | some (some c) => if noOb c && fs.all (Fl.only n k) then .ok (.g .two (fs.map (Fl.ren n k))) (μ.take n ++ [some c]) else .ok (.g .two fs) μ
      | _ => .ok (.g .two fs) μ)
    | _ => .ok (.g .two fs) μ
  | _ => .stuck
def startM (n : Nat) (ws : List Val) : Sl := ws.map some ++ List.replicate (n - ws.length) none
def endM (n : Nat) : RS → R Val
  | .nx _ μ' => fin n (.t .non) μ'
  | .rt w μ' => fin n w μ'
  | .ex c f _ μ' => .ex c f (μ'.take n)
  | _ => .stuck
def fnOf (n : Nat) (b : MSt) : Fn := fun ws μ => endM μ.length (b (startM n ws) μ)
section
variable {X : Cx} {K : KT} {ξ : Xi} {W : WX} {N : MS} {ζ : List Addr} {μ : Store} {M : MS} {H : Hp} {σr : L2.St} {σ : Sl} {e : Expr} {es : List Expr} {fs : Sl → Store → R (List Val)} {pos : Pos}
theorem RV.none_to {v : V} {w : Val} (h : RV K none ζ M H v w) : RV K ξ ζ M H v w := by
  cases w with
  | x c f => obtain ⟨a, d, h1, _⟩ := h; cases h1
  | self => obtain ⟨a, cv, d, h1, _⟩ := h; cases h1
  | lam _ _ => exact h
  | t _ => exact h
  | c _ => exact h
  | s _ => exact h
  | g hd _ => cases hd <;> exact h
theorem RV.to_none {v : V} {w : Val} (h : RV K ξ ζ M H v w) (p : w.plain = true) : RV K none ζ M H v w := by
  cases w with
  | x c f => cases p
  | self => cases p
  | lam _ _ => exact h
  | t _ => exact h
  | c _ => exact h
  | s _ => exact h
  | g hd _ => cases hd <;> exact h
theorem RVs.to_none : ∀ {vs : List V} {ws : List Val}, RVs K ξ ζ M H vs ws → ws.all Val.plain = true → RVs K none ζ M H vs ws
  | [], [], _, _ => trivial
  | _ :: _, _ :: _, h, p => by
    rw [List.all_cons, Bool.and_eq_true] at p
    exact ⟨h.1.to_none p.1, RVs.to_none h.2 p.2⟩
  | [], _ :: _, h, _ => h.elim
  | _ :: _, [], h, _ => h.elim
theorem PostC.of {n : Nat} {fn : Fn} {ws : List Val} {Q : VK} (h : PostE K ξ W N ζ μ H σr Q (fn ws μ)) : PostC K N ζ μ H Q (WE W σr) (fn ws μ) := by
  cases e : fn ws μ with
  | ok w μ' => rw [e] at h; exact fun ζ' H' v a b c => h ζ' H' v a b c.none_to
  | ex c f μ' => rw [e] at h; exact h
  | stuck => rw [e] at h; exact h
theorem read_call {n : Nat} {fn : Fn} {ws : List Val} {vs : List V} {Q : VK} (wd : Wd K N ζ μ H) (r : RVs K ξ ζ (MM N ζ μ) H vs ws) (h : PostE K ξ W N ζ μ H σr Q (gCall n fn ws μ)) : SpF K n fn vs H Q (WE W σr) := by
  unfold gCall at h
  split at h
  · rename_i hc
    rw [Bool.and_eq_true] at hc
    exact ⟨N, ζ, μ, ws, wd, r.to_none hc.1, of_decide_eq_true hc.2, PostC.of (n := n) h⟩
  · exact h.elim
/-- f(e, ..) -/
theorem i_call {k n : Nat} {x : Str} {f : Addr} {fn : Fn} {p : Pos} (c : WD.Cal X.prog X.w X.K X.mg X.base (L2.CX X.prog X.w) k x f (SpF K n fn) []) (tk : Takes X W) (hr : Room k X.A) (hg : Gl X x) (ha : IA K ξ W X (e :: es) fs) (hdb : (x == ("__debug__" : Str)) = false := by decide)
    (he : starEach (e :: es) X.env = (false, eval e X.env) :: starEach es X.env := by rfl) (hpl : (backTo pos (starEach es X.env)).any (·.1) = false := by rfl) : IE K ξ W X (.Call (.Name x p) (e :: es) [] pos) (eN (gCall n fn) fs) := PE.of (WD.pe_calX c tk hr hg ha hdb he hpl) fun σr H Q q => by
  obtain ⟨N, ζ, μ, σ, wd, so, q⟩ := q
  refine (thenN wd so q).mono fun vs H1 ⟨ζ1, μ1, ws, ev1, wd1, so1, r1, q1⟩ => read_call wd1 r1 q1
theorem cellR.stN {ζ' : List Addr} {M' : MS} {H' : Hp} {a : Addr} {c : Cell} (nb : noOb c = true) (na : ∀ a, ¬ M a → ¬ nn K.tb (H a) → ¬ M' a) (f : ∀ a o, nt K.tb o → ¬ M a → H a = some o → H' a = some o) (fa : ∀ o, nt K.tb o → H a = some o → H' a = some o) (h : cellR K ζ M H a c) : cellR K ζ' M' H' a c := by
  cases c with
  | lst ds => obtain ⟨vs, e, r⟩ := h; exact ⟨vs, fa _ rfl e, rvs_st na f _ _ r⟩
  | dic b ks ds => obtain ⟨vs, e, r⟩ := h; exact ⟨vs, e.to fa, rvs_st na f _ _ r⟩
  | ob C ns ds => cases nb
/-- the store, cut down -/
theorem Wd.sub {ζ' : List Addr} {μ' : Store} (wd : Wd K N ζ μ H) (hl : ζ'.length = μ'.length) (f : Nat → Nat) (h : ∀ (i : Nat) a c, ζ'[i]? = some a → μ'[i]? = some (some c) → ζ[f i]? = some a ∧ μ[f i]? = some (some c)) (hf : ∀ i j, i < ζ'.length → j < ζ'.length → f i = f j → i = j) (hp : ∀ (i : Nat) a c, ζ'[i]? = some a → μ'[i]? = some (some c) → noOb c = true ∨ ∀ (j : Nat) b, (ζ.take (f i))[j]? = some b → (ζ'.take i)[j]? = some b) : Wd K N ζ' μ' H ∧ ∀ x, MM N ζ' μ' x → MM N ζ μ x := by
  have sub : ∀ x, Mof ζ' μ' x → Mof ζ μ x := fun x ⟨k, c, h1, h2⟩ => ⟨f k, c, h k x c h1 h2⟩
  have sub2 : ∀ x, MM N ζ' μ' x → MM N ζ μ x := fun x z => z.elim (fun z => .inl (sub x z)) .inr
  refine ⟨⟨hl, fun i j a c c' h1 h2 h3 h4 => ?_, fun k c a h1 h2 => ?_, fun a ha => ⟨fun z => (wd.nd a ha).1 (sub a z), (wd.nd a ha).2⟩, wd.tb⟩, sub2⟩
  · obtain ⟨g1, g2⟩ := h i a c h1 h3
    obtain ⟨g3, g4⟩ := h j a c' h2 h4
    exact hf i j (List.getElem?_eq_some_iff.mp h1).1 (List.getElem?_eq_some_iff.mp h2).1 (wd.inj _ _ a c c' g1 g3 g2 g4)
  · obtain ⟨g1, g2⟩ := h k a c h2 h1
    rcases hp k a c h2 h1 with h3 | h3
    · exact (wd.cell _ c a g2 g1).stN h3 (fun x n _ z => n (sub2 x z)) (fun _ _ _ _ e => e) (fun _ _ e => e)
    · exact (wd.cell _ c a g2 g1).st h3 (fun x n _ z => n (sub2 x z)) (fun _ _ _ _ e => e) (fun _ _ e => e)
theorem take_at {α : Type} {l : List α} {n i : Nat} {x : α} (h : (l.take n)[i]? = some x) : i < n ∧ l[i]? = some x := by
  rw [List.getElem?_take] at h
  split at h
  · exact ⟨by assumption, h⟩
  · cases h
/-- back from a def: what it made for itself is let go -/
theorem cut_ok {ζ1 : List Addr} {μ1 : Store} {H1 : Hp} (ev : Ev K.tb ζ μ H ζ1 μ1 H1) (wd : Wd K N ζ1 μ1 H1) (hl : ζ.length = μ.length) : Ev K.tb ζ μ H (ζ1.take μ.length) (μ1.take μ.length) H1 ∧ Wd K N (ζ1.take μ.length) (μ1.take μ.length) H1 ∧ ∀ x, MM N (ζ1.take μ.length) (μ1.take μ.length) x → MM N ζ1 μ1 x := by
  obtain ⟨w, s⟩ := wd.sub (ζ' := ζ1.take μ.length) (μ' := μ1.take μ.length) (by rw [List.length_take, List.length_take, wd.len]) id (fun i a c h1 h2 => ⟨(take_at h1).2, (take_at h2).2⟩) (fun i j _ _ e => e) (fun i a c h1 h2 => .inr fun j b hb => by rw [List.take_take, Nat.min_eq_left (Nat.le_of_lt (take_at h1).1)]; exact hb)
  refine ⟨⟨fun k a h => ?_, ev.fr, fun a h => ?_⟩, w, s⟩
  · have := ev.pre k a h
    rw [List.getElem?_take, if_pos (by have := (List.getElem?_eq_some_iff.mp h).1; omega)]
    exact this
  · obtain ⟨k, c, h1, h2⟩ := h
    exact ev.ml a ⟨k, c, (take_at h1).2, (take_at h2).2⟩
theorem FRs.cut {ζ1 : List Addr} {M' : MS} {n : Nat} (sub : ∀ x, M' x → M x) : ∀ {vs : List V} {fs : List Fl}, fs.all (Fl.below n) = true → FRs K ζ1 M H vs fs → FRs K (ζ1.take n) M' H vs fs
  | [], [], _, _ => trivial
  | v :: vs, .t d :: fs, hb, h => by
    rw [List.all_cons, Bool.and_eq_true] at hb
    exact ⟨rv_wk sub h.1, FRs.cut sub hb.2 h.2⟩
  | v :: vs, .c k :: fs, hb, h => by
    rw [List.all_cons, Bool.and_eq_true] at hb
    obtain ⟨⟨a, h1, h2⟩, h3⟩ := h
    exact ⟨⟨a, by rw [List.getElem?_take, if_pos (of_decide_eq_true hb.1)]; exact h1, h2⟩, FRs.cut sub hb.2 h3⟩
  | [], _ :: _, _, h => h.elim
  | _ :: _, [], _, h => h.elim
theorem RV.cutG {ζ1 : List Addr} {M' : MS} {n : Nat} {v : V} {hd : Gd} {fs : List Fl} (hb : fs.all (Fl.below n) = true) (sub : ∀ x, M' x → M x) (h : RV K ξ ζ1 M H v (.g hd fs)) : RV K ξ (ζ1.take n) M' H v (.g hd fs) := by
  cases hd with
  | tup => obtain ⟨a, vs, h1, h2, h3, h4⟩ := h; exact ⟨a, vs, h1, fun z => h2 (sub _ z), h3, h4.cut sub hb⟩
  | two => obtain ⟨a, b, x, y, z, h1, h2, h3, h4, h5, h6⟩ := h; exact ⟨a, b, x, y, z, h1, fun q => h2 (sub _ q), fun q => h3 (sub _ q), h4, h5, h6.cut sub hb⟩
  | ob C ns => obtain ⟨a, dx, vs, h1, h2, h2', h3, h3', h3'', h4⟩ := h; exact ⟨a, dx, vs, h1, fun z => h2 (sub _ z), fun z => h2' (sub _ z), h3, h3', h3'', h4.cut sub hb⟩
/-- .. but for one thing, that is handed back -/
theorem cutk_ok {ζ1 : List Addr} {μ1 : Store} {H1 : Hp} {k : Nat} {a : Addr} {c : Cell} (ev : Ev K.tb ζ μ H ζ1 μ1 H1) (wd : Wd K N ζ1 μ1 H1) (hl : ζ.length = μ.length) (ha : ζ1[k]? = some a) (hk : ¬ k < μ.length) (hc : μ1[k]? = some (some c)) (hnb : noOb c = true) :
    (ζ1.take μ.length ++ [a])[μ.length]? = some a ∧ Ev K.tb ζ μ H (ζ1.take μ.length ++ [a]) (μ1.take μ.length ++ [some c]) H1 ∧ Wd K N (ζ1.take μ.length ++ [a]) (μ1.take μ.length ++ [some c]) H1 ∧ (∀ x, MM N (ζ1.take μ.length ++ [a]) (μ1.take μ.length ++ [some c]) x → MM N ζ1 μ1 x) ∧
      ∀ (j : Nat) (b : Addr), j < μ.length → ζ1[j]? = some b → (ζ1.take μ.length ++ [a])[j]? = some b := by
  obtain ⟨ev', wd', sub⟩ := cut_ok ev wd hl
  have hlen : (ζ1.take μ.length).length = μ.length := by
    rw [List.length_take]
    have h1 := (List.getElem?_eq_some_iff.mp ha).1
    omega
  have hlen2 : (μ1.take μ.length).length = μ.length := by
    rw [List.length_take]
    have h1 := (List.getElem?_eq_some_iff.mp ha).1
    have := wd.len
    omega
  obtain ⟨w2, s2⟩ := wd.sub (ζ' := ζ1.take μ.length ++ [a]) (μ' := μ1.take μ.length ++ [some c]) (by rw [List.length_append, List.length_append, hlen, hlen2]; rfl) (fun i => if i < μ.length then i else k) (fun i b c' h1 h2 => by
    rcases snoc_at h1 with ⟨i1, g1⟩ | ⟨i1, g1⟩ <;> rcases snoc_at h2 with ⟨i2, g2⟩ | ⟨i2, g2⟩
    · rw [if_pos (by omega)]
      exact ⟨(take_at g1).2, (take_at g2).2⟩
    · omega
    · omega
    · rw [if_neg (by omega)]
      cases g2
      rw [g1]
      exact ⟨ha, hc⟩) (fun i j hi hj e => by
    rw [List.length_append, hlen] at hi hj
    have hi : i < μ.length + 1 := hi
    have hj : j < μ.length + 1 := hj
    split at e <;> split at e <;> omega) (fun i b c' h1 h2 => by
    rcases snoc_at h1 with ⟨i1, g1⟩ | ⟨i1, g1⟩ <;> rcases snoc_at h2 with ⟨i2, g2⟩ | ⟨i2, g2⟩
    · refine .inr fun j x hx => ?_
      have hi : i < μ.length := by omega
      rw [if_pos hi] at hx
      rw [List.take_append_of_le_length (by omega), List.take_take, Nat.min_eq_left (by omega)]
      exact hx
    · omega
    · omega
    · cases g2
      exact .inl hnb)
  refine ⟨by rw [List.getElem?_append_right (by omega), hlen, Nat.sub_self]; rfl, ⟨fun j b hb => ?_, ev.fr, fun b hb => ?_⟩, w2, s2, fun j b hj hb => ?_⟩
  · have h1 := ev'.pre j b hb
    rw [List.getElem?_append_left (List.getElem?_eq_some_iff.mp h1).1]
    exact h1
  · obtain ⟨j, c', h1, h2⟩ := hb
    rcases snoc_at h1 with ⟨i1, g1⟩ | ⟨i1, g1⟩ <;> rcases snoc_at h2 with ⟨i2, g2⟩ | ⟨i2, g2⟩
    · exact ev.ml b ⟨j, c', (take_at g1).2, (take_at g2).2⟩
    · omega
    · omega
    · exact ev.ml b ⟨k, c, by rw [g1]; exact ha, hc⟩
  · rw [List.getElem?_append_left (by rw [hlen]; exact hj), List.getElem?_take, if_pos hj]
    exact hb
theorem FRs.ren {ζ1 ζ2 : List Addr} {M' : MS} {n k : Nat} {a : Addr} (sub : ∀ x, M' x → M x) (ha : ζ1[k]? = some a) (hn : ζ2[n]? = some a) (old : ∀ (j : Nat) (b : Addr), j < n → ζ1[j]? = some b → ζ2[j]? = some b) : ∀ {vs : List V} {fs : List Fl}, fs.all (Fl.only n k) = true → FRs K ζ1 M H vs fs → FRs K ζ2 M' H vs (fs.map (Fl.ren n k))
  | [], [], _, _ => trivial
  | v :: vs, .t d :: fs, hb, h => by
    rw [List.all_cons, Bool.and_eq_true] at hb
    exact ⟨rv_wk sub h.1, FRs.ren sub ha hn old hb.2 h.2⟩
  | v :: vs, .c j :: fs, hb, h => by
    rw [List.all_cons, Bool.and_eq_true] at hb
    obtain ⟨⟨b, h1, h2⟩, h3⟩ := h
    refine ⟨?_, FRs.ren sub ha hn old hb.2 h3⟩
    show FR K ζ2 M' H v (if j = k then .c n else .c j)
    by_cases e : j = k
    · rw [if_pos e]
      rw [e, ha] at h1
      exact ⟨a, hn, by rw [h2, Option.some.inj h1]⟩
    · rw [if_neg e]
      exact ⟨b, old j b ((of_decide_eq_true hb.1).resolve_right e) h1, h2⟩
  | [], _ :: _, _, h => h.elim
  | _ :: _, [], _, h => h.elim
theorem RV.renG {ζ1 ζ2 : List Addr} {M' : MS} {n k : Nat} {a : Addr} {v : V} {hd : Gd} {fs : List Fl} (sub : ∀ x, M' x → M x) (ha : ζ1[k]? = some a) (hn : ζ2[n]? = some a) (old : ∀ (j : Nat) (b : Addr), j < n → ζ1[j]? = some b → ζ2[j]? = some b) (hb : fs.all (Fl.only n k) = true) (h : RV K ξ ζ1 M H v (.g hd fs)) : RV K ξ ζ2 M' H v (.g hd (fs.map (Fl.ren n k))) := by
  cases hd with
  | tup => obtain ⟨a', vs, h1, h2, h3, h4⟩ := h; exact ⟨a', vs, h1, fun z => h2 (sub _ z), h3, h4.ren sub ha hn old hb⟩
  | two => obtain ⟨a', b, x, y, z, h1, h2, h3, h4, h5, h6⟩ := h; exact ⟨a', b, x, y, z, h1, fun q => h2 (sub _ q), fun q => h3 (sub _ q), h4, h5, h6.ren sub ha hn old hb⟩
  | ob C ns => obtain ⟨a', dx, vs, h1, h2, h2', h3, h3', h3'', h4⟩ := h; exact ⟨a', dx, vs, h1, fun z => h2 (sub _ z), fun z => h2' (sub _ z), h3, h3', h3'', h4.ren sub ha hn old hb⟩
theorem FRs.c_at {ζ1 : List Addr} {k : Nat} : ∀ {vs : List V} {fs : List Fl}, FRs K ζ1 M H vs fs → Fl.c k ∈ fs → ∃ a, ζ1[k]? = some a
  | [], [], _, m => by cases m
  | v :: vs, f :: fs, h, m => by
    rcases List.mem_cons.mp m with e | m
    · have h1 : FR K ζ1 M H v (.c k) := by rw [e]; exact h.1
      obtain ⟨a, h2, _⟩ := h1
      exact ⟨a, h2⟩
    · exact FRs.c_at h.2 m
  | [], _ :: _, h, _ => h.elim
  | _ :: _, [], h, _ => h.elim
theorem RV.c_at {ζ1 : List Addr} {k : Nat} {v : V} {hd : Gd} {fs : List Fl} (h : RV K ξ ζ1 M H v (.g hd fs)) (m : Fl.c k ∈ fs) : ∃ a, ζ1[k]? = some a := by
  cases hd with
  | tup => obtain ⟨a', vs, _, _, _, h4⟩ := h; exact h4.c_at m
  | two => obtain ⟨a', b, x, y, z, _, _, _, _, _, h6⟩ := h; exact h6.c_at m
  | ob C ns => obtain ⟨a', dx, vs, _, _, _, _, _, _, h4⟩ := h; exact h4.c_at m
theorem fin_ok {ζ1 : List Addr} {μ1 : Store} {H1 : Hp} {Q : VK} {E : XK} {w : Val} {v : V} (ev : Ev K.tb ζ μ H ζ1 μ1 H1) (wd : Wd K N ζ1 μ1 H1) (hl : ζ.length = μ.length) (r : RV K none ζ1 (MM N ζ1 μ1) H1 v w) (h : PostC K N ζ μ H Q E (fin μ.length w μ1)) : Q v H1 := by
  obtain ⟨ev', wd', sub⟩ := cut_ok ev wd hl
  cases w with
  | t d => exact h _ _ v ev' wd' (rv_wk sub r)
  | x _ _ => exact h.elim
  | s _ => exact h.elim
  | self => exact h.elim
  | lam _ _ => exact h.elim
  | g hd fs => cases hd with
   | ob C ns =>
    simp only [fin] at h
    split at h
    · rename_i hb
      exact h _ _ v ev' wd' (RV.cutG hb sub r)
    · exact h _ _ v ev wd r
   | tup =>
    simp only [fin] at h
    split at h
    · rename_i hb
      exact h _ _ v ev' wd' (RV.cutG hb sub r)
    · split at h
      · rename_i k hf
        have hm := List.mem_of_find?_eq_some hf
        have hk : ¬ k < μ.length := fun z => by
          have := List.find?_some hf
          simp [Fl.below, z] at this
        split at h
        · rename_i c hc
          split at h
          · rename_i hb
            rw [Bool.and_eq_true] at hb
            obtain ⟨a, ha⟩ := r.c_at hm
            obtain ⟨k1, k2, k3, k4, k5⟩ := cutk_ok ev wd hl ha hk hc hb.1
            exact h _ _ v k2 k3 (RV.renG k4 ha k1 k5 hb.2 r)
          · exact h _ _ v ev wd r
        · exact h _ _ v ev wd r
      · exact h _ _ v ev wd r
   | two =>
    simp only [fin] at h
    split at h
    · rename_i hb
      exact h _ _ v ev' wd' (RV.cutG hb sub r)
    · split at h
      · rename_i k hf
        have hm := List.mem_of_find?_eq_some hf
        have hk : ¬ k < μ.length := fun z => by
          have := List.find?_some hf
          simp [Fl.below, z] at this
        split at h
        · rename_i c hc
          split at h
          · rename_i hb
            rw [Bool.and_eq_true] at hb
            obtain ⟨a, ha⟩ := r.c_at hm
            obtain ⟨k1, k2, k3, k4, k5⟩ := cutk_ok ev wd hl ha hk hc hb.1
            exact h _ _ v k2 k3 (RV.renG k4 ha k1 k5 hb.2 r)
          · exact h _ _ v ev wd r
        · exact h _ _ v ev wd r
      · exact h _ _ v ev wd r
  | c k =>
    obtain ⟨a, ha, rfl⟩ := r
    simp only [fin] at h
    split at h
    · rename_i hk
      exact h _ _ _ ev' wd' ⟨a, by rw [List.getElem?_take, if_pos hk]; exact ha, rfl⟩
    · rename_i hk
      split at h
      case h_2 => exact h.elim
      rename_i c hc
      split at h
      · rename_i hnb
        obtain ⟨k1, k2, k3, k4, k5⟩ := cutk_ok ev wd hl ha hk hc hnb
        exact h _ _ _ k2 k3 ⟨a, k1, rfl⟩
      · exact h.elim
theorem RVs.get {vs : List V} {ws : List Val} {i : Nat} {w : Val} : RVs K ξ ζ M H vs ws → ws[i]? = some w → ∃ v, vs[i]? = some v ∧ RV K ξ ζ M H v w := by
  induction ws generalizing vs i with
  | nil => intro _ e; simp at e
  | cons u ws ih =>
    intro h e
    cases vs with
    | nil => exact h.elim
    | cons v vs =>
      cases i with
      | zero => cases e; exact ⟨v, rfl, h.1⟩
      | succ i => exact ih (vs := vs) (i := i) h.2 e
theorem start_ok {vs : List V} {ws : List Val} {N' : List Str} (r : RVs K ξ ζ M H vs ws) : Sok K ξ ζ M H (L2.start N' vs) (startM N'.length ws) := by
  have hl := r.len
  unfold L2.start startM
  refine ⟨by rw [List.length_append, List.length_append, List.length_map, List.length_map, List.length_replicate, List.length_replicate, hl], fun i w hw => ?_⟩
  by_cases hi : i < ws.length
  · rw [List.getElem?_append_left (by rw [List.length_map]; exact hi), List.getElem?_map, List.getElem?_eq_getElem hi] at hw
    have e : ws[i]? = some w := by rw [List.getElem?_eq_getElem hi]; exact Option.some.inj hw ▸ rfl
    obtain ⟨v, h1, h2⟩ := r.get e
    exact ⟨v, by rw [List.getElem?_append_left (by rw [List.length_map]; omega), List.getElem?_map, h1]; rfl, h2⟩
  · rw [List.getElem?_append_right (by rw [List.length_map]; omega)] at hw
    rw [List.getElem?_replicate] at hw
    split at hw <;> cases hw
end
section
variable {P : Program} {w : World} {K : KT} {mg : Str → Option Value} {base : Heap} {x qual : Str} {params : Arguments} {body : List Stmt} {scope : Scope} {f C : Addr} {fd : FuncData} {Nm ps : List Str} {k : Nat} {b : MSt}
theorem fn_read {N : MS} {ζ : List Addr} {μ : Store} {H : Hp} {vs : List V} {ws : List Val} {Q : VK} {E : XK} (wd : Wd K N ζ μ H) (r : RVs K none ζ (MM N ζ μ) H vs ws) (h : PostC K N ζ μ H Q E (fnOf Nm.length b ws μ)) :
    tS K none (fun cls d _ H => E cls d H) b { nx := fun _ H' => Q .non H', rt := Q } (L2.start Nm vs) H := by
  refine ⟨N, ζ, μ, startM Nm.length ws, wd, start_ok r, ?_⟩
  unfold fnOf at h
  cases e : b (startM Nm.length ws) μ with
  | nx σ' μ' => rw [e] at h; exact fun ζ' H' σr' ev wd' so => fin_ok (w := .t .non) ev wd' wd.len ((rv_non (K := K) (M := MM N ζ' μ') (H := H')).mpr rfl) h
  | rt u μ' => rw [e] at h; exact fun ζ' H' v ev wd' r' => fin_ok ev wd' wd.len r' h
  | ex c f σ' μ' =>
    rw [e] at h
    intro ζ' H' d σr' ev wd' xr so
    obtain ⟨ev', wd2, sub⟩ := cut_ok ev wd' wd.len
    refine h _ _ d ev' wd2 ?_
    cases f with
    | none => exact xr
    | some q =>
      obtain ⟨n, p⟩ := q
      obtain ⟨dd, v', k1, k2, k3, k4⟩ := xr
      exact ⟨dd, v', k1, fun z => k2 (sub _ z), k3, rv_wk sub k4⟩
  | bk _ _ => rw [e] at h; exact h.elim
  | ct _ _ => rw [e] at h; exact h.elim
  | stuck => rw [e] at h; exact h.elim
theorem fn_ok (F : FunD K x qual params body scope [] [] f fd) (S : FnScope Nm ps scope)
    (bind : ∀ (kV doc pm : Value) (an : Option Addr) (cdv ct : Value) (us : List Value), us.length = ps.length → bindArgs (PySem.W.fnOf x qual params body scope .none kV doc pm an cdv ct) ⟨us, []⟩ = pure (ps.zip us))
    (hb : ∀ (cdv : Value) (A : Around) (outer : List Env) (s : Shared) (H : Hp) (E : XK), Room k (A.deeper (envOfC qual scope s.heap.objs.size f cdv)) → ISs K none (fun cls d _ H => E cls d H) (cxOf (L2.CX P w) P w K mg base Nm qual scope f cdv A outer s H E) body b) :
    ∃ (fd : FuncData) (ps' : List Str) (ds : List Value), FnOk P w K mg base (L2.CX P w) (k + 1) f fd ps' (SpF K ps.length (fnOf Nm.length b)) ∧ Binds K fd ps' ds ∧ Vals [] ds :=
  WD.fnX_of F S (fun vs H Q E ⟨N, ζ, μ, ws, wd, r, hl, _⟩ => r.len.trans hl) bind fun cdv A outer s H vs Q E hr ⟨N, ζ, μ, ws, wd, r, hl, h⟩ => ⟨_, hb cdv A outer s H E hr, fn_read wd r h⟩
end
end PM
namespace PM
open PySem PySem.Spec PyProof.Rows L2
open WD (MS upd_none)
/-! ### raise -/
def sRaise (c f : Str) (as : Sl → Store → R (List Val)) : MSt := fun σ μ => (as σ μ).st σ fun ws μ1 => match ws with
  | [.t d] => .ex c (some (f, d)) σ μ1
  | _ => .stuck
def sRaise0 (c : Str) : MSt := fun σ μ => .ex c none σ μ
section
variable {X : Cx} {K : KT} {ξ : Xi} {W : WX} {N : MS} {ζ : List Addr} {μ : Store} {M : MS} {H : Hp} {σr : L2.St} {σ : Sl} {e : Expr} {es : List Expr} {fa : ME} {fs : Sl → Store → R (List Val)} {pos : Pos} {st : Stmt} {D : Ends}
theorem stN {k : List Val → Store → RS} (wd : Wd K N ζ μ H) (so : Sok K ξ ζ (MM N ζ μ) H σr σ) (h : PostS K ξ W N ζ μ H D ((fs σ μ).st σ k)) :
    tA K ξ W fs σr H fun xs H1 => ∃ ζ1 μ1 ws, Ev K.tb ζ μ H ζ1 μ1 H1 ∧ Wd K N ζ1 μ1 H1 ∧ Sok K ξ ζ1 (MM N ζ1 μ1) H1 σr σ ∧ RVs K ξ ζ1 (MM N ζ1 μ1) H1 xs ws ∧ PostS K ξ W N ζ1 μ1 H1 D (k ws μ1) := by
  refine ⟨N, ζ, μ, σ, wd, so, ?_⟩
  cases e : fs σ μ with
  | ok w1 μ1 => rw [e] at h; exact fun ζ' H' v ev w r => ⟨ζ', μ1, w1, ev, w, so.ev ev, r, PostS.ev ev h⟩
  | ex c f μ1 => rw [e] at h; exact fun ζ' H' d ev w r => h ζ' H' d σr ev w r (so.ev ev)
  | stuck => rw [e] at h; exact h
theorem xr_new {d : Addr} {f : Str} {v : V} {p : PV} (wd : Wd K N ζ μ H) (hd : H d = none) (r : rv K (MM N ζ μ) H v p) : XR K (MM N ζ μ) (upd H d (.xd [(f, v)])) (some d) (some (f, p)) :=
  ⟨d, v, rfl, wd.no hd, upd_same, (Grow.upd hd).rv r⟩
theorem s_raise {c f : Str} (h : PS X st (fun _ σ H => WD.tExc (He.ga K c) f (tA K ξ W fs) σ H fun cls d H' => W cls d σ H')) : IS K ξ W X st (sRaise c f fs) := PS.of h fun D σr H q => by
  obtain ⟨N, ζ, μ, σ, wd, so, q⟩ := q
  refine (stN wd so q).mono fun xs H1 ⟨ζ1, μ1, ws, ev1, wd1, so1, r1, q1⟩ => ?_
  split at q1
  · rename_i d
    obtain ⟨v, rfl, hv⟩ := RVs1 r1
    exact ⟨v, rfl, fun dd hd => q1 ζ1 _ (some dd) σr (Ev.new hd) (wd1.new hd) (xr_new wd1 hd hv) (so1.ev (Ev.new hd))⟩
  · exact q1.elim
theorem s_raise0 {c : Str} (h : PS X st (fun _ σ H => W (.ref (He.ga K c)) none σ H)) : IS K ξ W X st (sRaise0 c) := PS.of h fun D σr H q => by
  obtain ⟨N, ζ, μ, σ, wd, so, q⟩ := q
  exact q ζ H none σr Ev.refl wd rfl so
end
/-! ### try -/
structure Clause where
  name : Str
  yes : List Str
  no : List Str
  slot : Nat
  suite : MSt
def plainO : Option Val → Bool
  | some w => w.plain
  | none => true
def RS.unset (i : Nat) : RS → RS
  | .nx σ μ => if (σ.set i none).all plainO then .nx (σ.set i none) μ else .stuck
  | .bk σ μ => if (σ.set i none).all plainO then .bk (σ.set i none) μ else .stuck
  | .ct σ μ => if (σ.set i none).all plainO then .ct (σ.set i none) μ else .stuck
  | .rt w μ => if w.plain then .rt w μ else .stuck
  | .ex _ _ _ _ => .stuck
  | .stuck => .stuck
def handle (c : Str) (f : Option (Str × PV)) (σ : Sl) (μ : Store) : List Clause → RS
  | [] => .ex c f σ μ
  | k :: r => if c ∈ k.yes then (k.suite (σ.set k.slot (some (.x c f))) μ).unset k.slot else if c ∈ k.no then handle c f σ μ r else .stuck
def sTry (B : MSt) (cl : List Clause) : MSt := fun σ μ => match B σ μ with
  | .ex c f σ1 μ1 => handle c f σ1 μ1 cl
  | r => r
section
variable {X : Cx} {K : KT} {ξ : Xi} {W : WX} {N : MS} {ζ : List Addr} {μ : Store} {M : MS} {H : Hp} {σr : L2.St} {σ : Sl} {e : Expr} {es : List Expr} {fa : ME} {fs : Sl → Store → R (List Val)} {pos : Pos} {st : Stmt} {D : Ends} {B : MSt}
theorem Sok.to_none (h : Sok K ξ ζ M H σr σ) (p : σ.all plainO = true) : Sok K none ζ M H σr σ := ⟨h.1, fun i w hw => by
  obtain ⟨v, h1, h2⟩ := h.2 i w hw
  have := List.all_eq_true.mp p _ (List.mem_of_getElem? hw)
  exact ⟨v, h1, h2.to_none this⟩⟩
theorem Sok.of_none (h : Sok K none ζ M H σr σ) : Sok K ξ ζ M H σr σ := ⟨h.1, fun i w hw => let ⟨v, h1, h2⟩ := h.2 i w hw; ⟨v, h1, h2.none_to⟩⟩
theorem unset_ok {ξ' : Xi} {i : Nat} {r : RS} (h : PostS K none W N ζ μ H D (r.unset i)) :
    PostS K ξ' W0 N ζ μ H { nx := fun σ' H' => D.nx (σ'.set i none) H', rt := D.rt, bk := fun σ' H' => D.bk (σ'.set i none) H', ct := fun σ' H' => D.ct (σ'.set i none) H' } r := by
  cases r with
  | nx σ' μ' =>
    simp only [RS.unset] at h
    split at h
    · exact fun ζ' H' σr' ev wd so => h ζ' H' _ ev wd (so.drop.to_none (by assumption))
    · exact h.elim
  | bk σ' μ' =>
    simp only [RS.unset] at h
    split at h
    · exact fun ζ' H' σr' ev wd so => h ζ' H' _ ev wd (so.drop.to_none (by assumption))
    · exact h.elim
  | ct σ' μ' =>
    simp only [RS.unset] at h
    split at h
    · exact fun ζ' H' σr' ev wd so => h ζ' H' _ ev wd (so.drop.to_none (by assumption))
    · exact h.elim
  | rt w μ' =>
    simp only [RS.unset] at h
    split at h
    · exact fun ζ' H' v ev wd r => h ζ' H' v ev wd (r.to_none (by assumption))
    · exact h.elim
  | ex _ _ _ _ => exact h.elim
  | stuck => exact h.elim
/-! ### a caught exception is asked -/
def gXf (cs : List Str) (n : Str) (w : Val) (μ : Store) : R Val := match w with
  | .x c (some (m, p)) => if m = n ∧ c ∈ cs then .ok (.t p) μ else .stuck
  | _ => .stuck
theorem i_xf {a : Addr} {oe : Obj} {cls : Value} {d : Option Addr} {pn : List (Addr × Obj)} {n : Str} {cs : List Str} (hz : Zc cls d oe) (hf : ∃ vs, oe.data = .fields vs) (he : IE K (some (a, cls, d)) W (X.suite a ((a, oe) :: pn)) e fa) (hx : ∀ c ∈ cs, WD.ExD K (He.ga K c) ∧ PySem.W.findIn K (.ref (He.ga K c)) n = some none)
    (hb : attributeBase e n X.env (eval e X.env) = eval e X.env := by rfl) (hK : X.K = K := by rfl) : IE K (some (a, cls, d)) W (X.suite a ((a, oe) :: pn)) (.Attribute e n pos) (e1 (gXf cs n) fa) := by
  obtain ⟨K, Kt⟩ := K; obtain rfl : X.K = K := hK
  refine PE.of (WD.pe_xfA hz hf he hb) fun σr H Q q => ?_
  obtain ⟨N, ζ, μ, σ, wd, so, q⟩ := q
  refine (then1 wd so q).mono fun x H1 ⟨ζ1, μ1, w1, ev1, wd1, so1, r1, q1⟩ => ?_
  unfold gXf at q1
  split at q1
  · split at q1
    · rename_i c m p hc
      obtain ⟨rfl, hc⟩ := hc
      obtain ⟨a', d', h1, rfl, dd, v, rfl, h3, h4, h5⟩ := r1
      cases h1
      obtain ⟨k1, k2⟩ := hx c hc
      exact ⟨_, rfl, rfl, k1, k2, dd, [(m, v)], v, rfl, h4, by simp [List.lookup], q1 ζ1 H1 v Ev.refl wd1 h5⟩
    · exact q1.elim
  · exact q1.elim
/-- readings of classes -/
def taC (vs : List V) : TA := fun _ H Q => Q vs H
theorem pa_c0 : PA X [] (taC []) := PA.of pa_nil fun _ _ _ q => q
theorem pa_c {v : V} {vs : List V} (h : PE X e (tC v)) (hs : PA X es (taC vs)) (hst : starEach (e :: es) X.env = (false, eval e X.env) :: starEach es X.env := by rfl) : PA X (e :: es) (taC (v :: vs)) := PA.of (pa_cons h hs hst) fun _ _ _ q => q
def gIsX (tab : List (Str × Bool)) (w : Val) (μ : Store) : R Val := match w with
  | .x c _ => match tab.lookup c with
    | some b => .ok (.t (.bl b)) μ
    | none => .stuck
  | _ => .stuck
theorem xd_of {ζ : List Addr} {f : Option (Str × PV)} {d : Option Addr} (xr : XR K M H d f) : ∀ dd, d = some dd → ∃ fs, H dd = some (.xd fs) := fun dd hd => by
  cases f with
  | none => rw [show d = none from xr] at hd; cases hd
  | some q =>
    obtain ⟨n, p⟩ := q
    obtain ⟨d2, v, h1, _, h3, _⟩ := xr
    rw [h1] at hd
    cases hd
    exact ⟨_, h3⟩
theorem lookup_mem {tab : List (Str × Bool)} {c : Str} {b : Bool} (h : tab.lookup c = some b) : (c, b) ∈ tab := by
  induction tab with
  | nil => cases h
  | cons p tab ih =>
    obtain ⟨x, y⟩ := p
    rw [List.lookup_cons] at h
    split at h
    · rename_i heq
      cases h
      rw [eq_of_beq heq]
      exact List.mem_cons_self
    · exact List.mem_cons_of_mem _ (ih h)
theorem i_isX {a : Addr} {oe : Obj} {cls cv : Value} {d : Option Addr} {pn : List (Addr × Obj)} {c2 : Expr} {v2 : V} {p : Pos} {tab : List (Str × Bool)} (hz : Zc cls d oe) (hf : ∃ vs, oe.data = .fields vs) (he : IE K (some (a, cls, d)) W (X.suite a ((a, oe) :: pn)) e fa) (h2 : PE (X.suite a ((a, oe) :: pn)) c2 (tC v2)) (hv : ∀ u, RelV v2 u → u = cv)
    (hx : ∀ q ∈ tab, WD.ExD K (He.ga K q.1) ∧ PySem.W.kitOne K (.ref (He.ga K q.1)) cv = some q.2) (hg : Gl X "isinstance") (hm : X.mg "isinstance" = none)
    (hs : starEach [e, c2] X.env = (false, eval e X.env) :: starEach [c2] X.env := by rfl) (hs2 : starEach [c2] X.env = (false, eval c2 X.env) :: starEach [] X.env := by rfl) (hp : ((backTo pos (starEach [c2] X.env)).any (·.1)) = false := by rfl) (hK : X.K = K := by rfl) :
    IE K (some (a, cls, d)) W (X.suite a ((a, oe) :: pn)) (.Call (.Name "isinstance" p) [e, c2] [] pos) (e1 (gIsX tab) fa) := by
  obtain ⟨K, Kt⟩ := K; obtain rfl : X.K = K := hK
  refine PE.of (pe_callB (X := X.suite a ((a, oe) :: pn)) (WD.call_isX hz hf) hg hm WD.bt_isinstance (pa_cons he (pa_c h2 pa_c0 hs2) hs) (by decide) (by decide) hs hp) fun σr H Q q => ?_
  obtain ⟨N, ζ, μ, σ, wd, so, q⟩ := q
  refine (then1 wd so q).mono fun x H1 ⟨ζ1, μ1, w1, ev1, wd1, so1, r1, q1⟩ => ?_
  unfold gIsX at q1
  split at q1
  · split at q1
    · rename_i c f b hb
      obtain ⟨a', d', h1, rfl, xr⟩ := r1
      cases h1
      obtain ⟨k1, k2⟩ := hx _ (lookup_mem hb)
      exact ⟨_, v2, cv, b, rfl, k1, xd_of (ζ := ζ1) xr, rfl, hv, k2, q1 ζ1 H1 _ Ev.refl wd1 RV.blI⟩
    · exact q1.elim
  · exact q1.elim
/-! ### isinstance of data -/
def tyN : PV → Option String
  | .non => some "NoneType"
  | .bl _ => some "bool"
  | .int _ => some "int"
  | .str _ => some "str"
  | .tup _ => some "tuple"
  | .ktp _ => some "tuple"
  | .lst _ => some "list"
  | .dic _ _ _ => some "dict"
  | .obj _ _ _ => none
def subT (n T : String) : Bool := n == T || (n == "bool" && T == "int")
def isTy (T : String) (d : PV) : Option PV := (tyN d).map fun n => .bl (subT n T)
theorem kit_tab : ∀ n ∈ ["NoneType", "bool", "int", "str", "tuple", "list", "dict"], ∀ T ∈ ["int", "bool", "str", "tuple", "list", "dict"], kitB n T = some (subT n T) := by decide +kernel
theorem ty_of {v : V} {d : PV} {n : String} (h : vv K M H v d) (e : tyN d = some n) : TyX K H v (.type n) ∧ n ∈ ["NoneType", "bool", "int", "str", "tuple", "list", "dict"] := by
  cases d with
  | non => cases e; rw [vv_non h]; exact ⟨.base .non, by decide⟩
  | bl b => cases e; rw [vv_bl h]; exact ⟨.base (.bl b), by decide⟩
  | int b => cases e; rw [vv_int h]; exact ⟨.base (.int b), by decide⟩
  | str b => cases e; rw [(vv_str h).1]; exact ⟨.base (.str b), by decide⟩
  | tup l => cases e; obtain ⟨a, vs, rfl, _, h1, _⟩ := vv_tup h; exact ⟨.base (.tup h1), by decide⟩
  | ktp l =>
    cases e
    obtain ⟨a, vs, rfl, h1, _⟩ := vv_ktp h
    rcases h1 with ⟨_, o, h1, _⟩ | ⟨o, its, n, h1, h2, _⟩
    · exact ⟨.fTuple h1, by decide⟩
    · exact ⟨.kTuple h1 h2, by decide⟩
  | lst l => cases e; obtain ⟨a, vs, rfl, h1, _⟩ := h; exact ⟨.base (.lst h1), by decide⟩
  | dic b ks l =>
    cases e
    obtain ⟨a, vs, rfl, h1, _⟩ := h
    cases b <;> obtain ⟨_, _, _, _, h1⟩ := h1
    · exact ⟨.base (.dK h1), by decide⟩
    · exact ⟨.base (.dT h1), by decide⟩
  | obj _ _ _ => cases e
theorem i_isT {T : String} {c2 : Expr} {p : Pos} (he : IE K ξ W X e fa) (h2 : PE X c2 (tC (.ty T))) (hT : T ∈ ["int", "bool", "str", "tuple", "list", "dict"]) (hg : Gl X "isinstance") (hm : X.mg "isinstance" = none)
    (hs : starEach [e, c2] X.env = (false, eval e X.env) :: starEach [c2] X.env := by rfl) (hs2 : starEach [c2] X.env = (false, eval c2 X.env) :: starEach [] X.env := by rfl) (hp : ((backTo pos (starEach [c2] X.env)).any (·.1)) = false := by rfl) (hK : X.K = K := by rfl) :
    IE K ξ W X (.Call (.Name "isinstance" p) [e, c2] [] pos) (e1 (p1 (isTy T)) fa) := by
  obtain ⟨K, Kt⟩ := K; obtain rfl : X.K = K := hK
  refine PE.of (pe_callB call_isi hg hm WD.bt_isinstance (pa_cons he (pa_c h2 pa_c0 hs2) hs) (by decide) (by decide) hs hp) fun σr H Q q => ?_
  obtain ⟨N, ζ, μ, σ, wd, so, q⟩ := q
  refine (then1 wd so q).mono fun x H1 ⟨ζ1, μ1, w1, ev1, wd1, so1, r1, q1⟩ => ?_
  obtain ⟨M, d1, d, h1, fr, e, g⟩ := read_p1 wd1 r1 q1
  obtain ⟨n, e1, rfl⟩ := Option.map_eq_some_iff.mp e
  obtain ⟨k1, k2⟩ := ty_of h1 e1
  exact ⟨x, .ty T, _, _, _, rfl, .ty T, k1, kit_ty (kit_tab n k2 T hT), g.bl⟩
/-! ### the rest -/
/-- the script, with a list behind it -/
def gScr (w u : Val) (μ : Store) : R (List PV) := match w, u with
  | .s ns, .t (.lst ds) => if ns.length + ds.length ≤ sizeLine then .ok (ns.map .int ++ ds) μ else .stuck
  | _, _ => .stuck
theorem f_scr {b : Expr} {fb : ME} (ha : IE K ξ W X e fa) (hb : IE K ξ W X b fb) (hK : X.K = K := by rfl) : IF K ξ W X (.BinOp e .Add b pos) (e2 gScr fa fb) := by
  obtain ⟨K, Kt⟩ := K; obtain rfl : X.K = K := hK
  refine PE.of (pe_op WD.op_catL ha hb) fun σr H Q q => ?_
  obtain ⟨N, ζ, μ, σ, wd, so, q⟩ := q
  refine (then1F wd so q).mono fun x H1 ⟨ζ1, μ1, w1, ev1, wd1, so1, r1, q1⟩ => ?_
  refine (then1F wd1 so1 q1).mono fun y H2 ⟨ζ2, μ2, w2, ev2, wd2, so2, r2, q2⟩ => ?_
  have key : ∃ ns ds, w1 = .s ns ∧ w2 = .t (.lst ds) ∧ ns.length + ds.length ≤ sizeLine ∧ PostF ⟨X.K, Kt⟩ W N ζ2 μ2 H2 σr Q (.ok (ns.map .int ++ ds) μ2) := by
    unfold gScr at q2
    split at q2
    · split at q2
      · exact ⟨_, _, rfl, rfl, by assumption, q2⟩
      · exact q2.elim
    · exact q2.elim
  obtain ⟨ns, ds, rfl, rfl, hl, q2⟩ := key
  obtain ⟨a, rfl, h1⟩ := r1.ev ev2
  have h1 : SqL X.K H2 a (ns.map V.int) := h1.elim (fun h => .inl h.2) fun h => h H2
  obtain ⟨b, vs, rfl, n2, h2, r3⟩ := rv_lst.mp (show rv ⟨X.K, Kt⟩ (MM N ζ2 μ2) H2 y (.lst ds) from r2)
  have := rvs_len r3
  exact ⟨a, b, _, vs, rfl, rfl, h1, SqL.of h2, by rw [List.length_map]; omega, fun p hp => (postF_p wd2 q2).lst (rvs_app (rvs_ints ns) r3) hp⟩
theorem fa_nil {α : Type} {p : α → Prop} : ∀ x ∈ ([] : List α), p x := fun _ h => nomatch h
theorem fa_cons {α : Type} {p : α → Prop} {a : α} {l : List α} (h : p a) (t : ∀ x ∈ l, p x) : ∀ x ∈ a :: l, p x := fun x hx => (List.mem_cons.mp hx).elim (fun e => e ▸ h) (t x)
/-- the law's own call -/
def spLaw (K : KT) : Sp := fun vs H Q _ => ∃ (a : Addr) (ns : List Int), vs = [.ref a] ∧ SqL K H a (ns.map V.int) ∧ ns.length ≤ 63 ∧ LamX.Tabs K.tb H ∧ ∀ H', Q (.bl true) H'
theorem spLaw_ask {H : Hp} {a : Addr} {ns : List Int} (hl : ns.length ≤ 63) (hS : SqL K H a (ns.map V.int)) (hT : LamX.Tabs K.tb H) : spLaw K [.ref a] H (fun v _ => v = .bl true) (fun _ _ _ => False) := ⟨a, ns, rfl, hS, hl, hT, fun _ => rfl⟩
theorem law_read {b : MSt} {Nm : List Str} (hb : ∀ ns : List Int, ns.length ≤ 63 → fnOf Nm.length b [.s ns] [] = .ok (.t (.bl true)) []) {vs : List V} {H : Hp} {Q : VK} {E : XK} (h : spLaw K vs H Q E) : tS K none W0 b { nx := fun _ H' => Q .non H', rt := Q } (L2.start Nm vs) H := by
  obtain ⟨a, ns, rfl, hS, hl, hT, k⟩ := h
  have noM : ∀ x, ¬ MM WD.M0 [] [] x := fun x z => z.elim (fun ⟨k, c, h1, _⟩ => by simp at h1) fun z => z
  refine fn_read (N := WD.M0) (ζ := []) (μ := []) (E := fun _ _ _ => False) (ws := [.s ns]) ⟨rfl, fun i j a c c' h => by simp at h, fun k c a h => by simp at h, fun a h => h.elim, hT⟩ ⟨⟨a, rfl, ?_⟩, trivial⟩ ?_
  · rcases hS with h | h
    · exact .inl ⟨noM a, h⟩
    · exact .inr fun H' => .inr h
  · rw [hb ns hl]
    exact fun ζ' H' v _ _ r => by rw [rv_bl.mp (show rv K (MM WD.M0 ζ' []) H' v (.bl true) from r)]; exact k H'
end
end PM
/-! a try whose clauses name a class or a tuple of two -/
namespace PM
open PySem PySem.Spec PyProof.Rows L2 WD
def clLT (K : KT) : List (Clause × List Str) → List (List Value × Nat × WD.Su)
  | [] => []
  | (k, ns) :: r => (ns.map fun n => Value.ref (He.ga K n), k.slot, fun a cls d => tS K (some (a, cls, d)) W0 k.suite) :: clLT K r
def ClFactsT (K : KT) : List (Clause × List Str) → Prop
  | [] => True
  | (k, ns) :: r => (∀ c ∈ k.yes, PySem.W.exmAny K (.ref (He.ga K c)) (ns.map fun n => Value.ref (He.ga K n)) = some true) ∧ (∀ c ∈ k.no, PySem.W.exmAny K (.ref (He.ga K c)) (ns.map fun n => Value.ref (He.ga K n)) = some false) ∧ ClFactsT K r
section
variable {X : Cx} {K : KT} {ξ : Xi} {W : WX} {N : MS} {ζ : List Addr} {μ : Store} {M : MS} {H : Hp} {σr : L2.St} {σ : Sl} {D : Ends} {B : MSt} {pos : Pos}
theorem handle_okT {c : Str} {f : Option (Str × PV)} {d : Option Addr} (wd : Wd K N ζ μ H) (so : Sok K none ζ (MM N ζ μ) H σr σ) (xr : XR K (MM N ζ μ) H d f) : ∀ {cl : List (Clause × List Str)}, ClFactsT K cl → PostS K none W N ζ μ H D (handle c f σ μ (cl.map (·.1))) → WD.wClausesT K W D (clLT K cl) (.ref (He.ga K c)) d σr H
  | [], _, h => h ζ H d σr Ev.refl wd xr so
  | (k, ns) :: r, hf, h => by
    rw [List.map_cons] at h
    unfold handle at h
    split at h
    · rename_i hy
      refine ⟨true, hf.1 c hy, fun _ a ha => ?_, fun z => nomatch z⟩
      exact ⟨N, ζ, μ, _, wd, (so.of_none (ξ := some (a, .ref (He.ga K c), d))).set (w := .x c f) ⟨a, d, rfl, rfl, xr⟩, unset_ok h⟩
    · split at h
      · rename_i hn
        exact ⟨false, hf.2.1 c hn, fun z => Bool.noConfusion z, fun _ => handle_okT wd so xr hf.2.2 h⟩
      · exact h.elim
theorem s_tryT {body : List Stmt} {hd0 : ExceptHandler} {hds : List ExceptHandler} {cl : List (Clause × List Str)} (hs : X.stack = X.env :: X.outer) (hf : X.env.frame = some X.env.locals) (hN : X.N.Nodup) (tk : Takes X W)
    (bd : ∀ (W' : WX) (pn : List (Addr × Obj)) (xe : Value → Shared → Prop), Takes (X.tr pn xe) W' → ISs K none W' (X.tr pn xe) body B) (hc : WD.ClausesT X (hd0 :: hds) (clLT K cl)) (hF : ClFactsT K cl) (hK : X.K = K := by rfl) : IS K none W X (.Try body (hd0 :: hds) [] [] pos) (sTry B (cl.map (·.1))) := by
  obtain ⟨K, Kt⟩ := K; obtain rfl : X.K = K := hK
  refine PS.of (WD.ps_try_clausesT hs hf hN tk bd hc) fun D σr H q => ?_
  obtain ⟨N, ζ, μ, σ, wd, so, q⟩ := q
  refine ⟨N, ζ, μ, σ, wd, so, ?_⟩
  unfold sTry at q
  cases e : B σ μ with
  | ex c f σ1 μ1 => rw [e] at q; exact fun ζ' H' d σr' ev wd' xr so' => handle_okT wd' so' xr hF (PostS.ev ev q)
  | nx _ _ => rw [e] at q; exact q
  | bk _ _ => rw [e] at q; exact q
  | ct _ _ => rw [e] at q; exact q
  | rt _ _ => rw [e] at q; exact q
  | stuck => rw [e] at q; exact q
theorem s_tryN {body : List Stmt} {hd0 : ExceptHandler} {hds : List ExceptHandler} {ks : List Clause} (nss : List (List Str)) (hs : X.stack = X.env :: X.outer) (hf : X.env.frame = some X.env.locals) (hN : X.N.Nodup) (tk : Takes X W)
    (bd : ∀ (W' : WX) (pn : List (Addr × Obj)) (xe : Value → Shared → Prop), Takes (X.tr pn xe) W' → ISs K none W' (X.tr pn xe) body B) (hc : WD.ClausesT X (hd0 :: hds) (clLT K (ks.zip nss))) (hF : ClFactsT K (ks.zip nss)) (hl : (ks.zip nss).map (·.1) = ks := by rfl) (hK : X.K = K := by rfl) : IS K none W X (.Try body (hd0 :: hds) [] [] pos) (sTry B ks) := by
  have := s_tryT (B := B) (pos := pos) hs hf hN tk bd hc hF hK
  rw [hl] at this
  exact this
theorem ea1 {K : KT} {x a : Value} {b : Bool} (h : PySem.W.exmOne K x a = some b) : PySem.W.exmAny K x [a] = some b := by
  unfold PySem.W.exmAny
  rw [h]
  show some (b || false) = some b
  rw [Bool.or_false]
theorem ea2 {K : KT} {x a c : Value} {b1 b2 b : Bool} (h1 : PySem.W.exmOne K x a = some b1) (h2 : PySem.W.exmOne K x c = some b2) (hb : (b1 || b2) = b := by rfl) : PySem.W.exmAny K x [a, c] = some b := by
  have h := ea1 h2
  unfold PySem.W.exmAny
  rw [h1, h, ← hb]
end
end PM
/-! A turn of a loop: what it made for itself is let go at its end. -/
namespace PM
open PySem PySem.Spec PyProof.Rows L2
open WD (MS upd_none)
def belowV (n : Nat) : Option Val → Bool
  | some (.c k) => decide (k < n)
  | some (.x _ _) => false
  | some (.lam _ _) => false
  | some (.g _ fs) => fs.all (Fl.below n)
  | _ => true
def sScope (B : MSt) : MSt := fun σ μ => match B σ μ with
  | .nx σ' μ' => if σ'.all (belowV μ.length) then .nx σ' (μ'.take μ.length) else .nx σ' μ'
  | .ct σ' μ' => if σ'.all (belowV μ.length) then .ct σ' (μ'.take μ.length) else .ct σ' μ'
  | r => r
section
variable {X : Cx} {K : KT} {ξ : Xi} {W : WX} {N : MS} {ζ ζ1 : List Addr} {μ μ1 : Store} {H : Hp} {σr : L2.St} {σ : Sl} {B : MSt}
theorem Sok.cut {n : Nat} (so : Sok K ξ ζ1 (MM N ζ1 μ1) H σr σ) (sub : ∀ x, MM N (ζ1.take n) (μ1.take n) x → MM N ζ1 μ1 x) (hb : σ.all (belowV n) = true) : Sok K ξ (ζ1.take n) (MM N (ζ1.take n) (μ1.take n)) H σr σ := by
  refine ⟨so.1, fun i w hw => ?_⟩
  obtain ⟨v, h1, h2⟩ := so.2 i w hw
  have hb := List.all_eq_true.mp hb _ (List.mem_of_getElem? hw)
  refine ⟨v, h1, ?_⟩
  cases w with
  | t d => exact rv_wk sub h2
  | c k =>
    obtain ⟨a, ha, rfl⟩ := h2
    exact ⟨a, by rw [List.getElem?_take, if_pos (of_decide_eq_true hb)]; exact ha, rfl⟩
  | x c f => cases hb
  | self => exact h2
  | lam _ _ => cases hb
  | g hd fs => exact RV.cutG hb sub h2
  | s ns =>
    obtain ⟨a, rfl, h2⟩ := h2
    exact ⟨a, rfl, h2.imp (fun z => ⟨fun m => z.1 (sub a m), z.2⟩) id⟩
theorem s_scope {body : List Stmt} (h : ISs K ξ W X body B) : ISs K ξ W X body (sScope B) := PSs.of h fun D σr H q => by
  obtain ⟨N, ζ, μ, σ, wd, so, q⟩ := q
  refine ⟨N, ζ, μ, σ, wd, so, ?_⟩
  unfold sScope at q
  cases e : B σ μ with
  | nx σ' μ' =>
    rw [e] at q
    dsimp only at q
    split at q
    · rename_i hb
      intro ζ' H' σr' ev wd' so'
      obtain ⟨ev', wd'', sub⟩ := cut_ok ev wd' wd.len
      exact q _ _ _ ev' wd'' (so'.cut sub hb)
    · exact q
  | ct σ' μ' =>
    rw [e] at q
    dsimp only at q
    split at q
    · rename_i hb
      intro ζ' H' σr' ev wd' so'
      obtain ⟨ev', wd'', sub⟩ := cut_ok ev wd' wd.len
      exact q _ _ _ ev' wd'' (so'.cut sub hb)
    · exact q
  | _ => rw [e] at q; exact q
end
end PM
/-! sep.join(xs) -/
namespace PM
open PySem PySem.Spec PyProof.Rows L2
open WD (MS upd_none)
section
variable {X : Cx} {K : KT} {ξ : Xi} {W : WX} {N : MS} {ζ ζ1 : List Addr} {μ μ1 : Store} {M : MS} {H : Hp} {σr : L2.St} {σ : Sl} {o e : Expr} {fo fe : ME} {apos pos : Pos}
end
end PM
/-! sum of ints -/
namespace PM
open PySem PySem.Spec PyProof.Rows L2
open WD (MS upd_none)
def numsOf : List PV → Option (List Int)
  | [] => some []
  | .int x :: ds => (numsOf ds).map (x :: ·)
  | _ => none
def sumV : List PV → Option PV
  | [.lst l] => (numsOf l).map fun ns => .int ns.sum
  | [.tup l] => (numsOf l).map fun ns => .int ns.sum
  | _ => none
section
variable {X : Cx} {K : KT} {M : MS} {H : Hp}
theorem rvs_nums : ∀ {ds : List PV} {vs : List V} {ys : List Int}, rvs K M H vs ds → numsOf ds = some ys → vs = ys.map V.int
  | [], [], _, _, e => by cases e; rfl
  | [], _ :: _, _, h, _ => h.elim
  | d :: ds, [], _, h, _ => by cases d <;> exact h.elim
  | d :: ds, v :: vs, ys, h, e => by
    cases d with
    | int x =>
      rw [rvs_cons] at h
      obtain ⟨zs, hz, rfl⟩ := Option.map_eq_some_iff.mp (show (numsOf ds).map (x :: ·) = some ys from e)
      rw [rv_int.mp h.1, rvs_nums h.2 hz]
      rfl
    | _ => cases e
theorem cr_sumV (hc : X.calm = true) (hK : X.K = K := by rfl) : CallR X (.builtin "sum") (rPN K sumV) := by
  obtain ⟨K, Kt⟩ := K; obtain rfl : X.K = K := hK
  intro pins s σ H xs us Q I r h
  obtain ⟨M, ds, d, hv, fr, e, g⟩ := h
  unfold sumV at e
  split at e
  · obtain ⟨bs, e1, e2⟩ := Option.map_eq_some_iff.mp e
    subst e2
    obtain ⟨v, rfl, h1⟩ := vvs1 hv
    obtain ⟨p, vs, rfl, g1, r1⟩ := h1
    have z := rvs_nums r1 e1
    subst z
    exact cr_sum hc pins s σ H _ us Q I r ⟨p, bs, rfl, SqL.of g1, g.int⟩
  · obtain ⟨bs, e1, e2⟩ := Option.map_eq_some_iff.mp e
    subst e2
    obtain ⟨v, rfl, h1⟩ := vvs1 hv
    obtain ⟨p, vs, rfl, _, g1, r1⟩ := (h1 : rv ⟨X.K, Kt⟩ M H v (.tup _))
    have z := rvs_nums r1 e1
    subst z
    exact WD.cr_sumT hc pins s σ H _ us Q I r ⟨p, bs, rfl, SqT.of g1, g.int⟩
  · cases e
end
end PM
/-! dicts that change -/
namespace PM
open PySem PySem.Spec PyProof.Rows L2
open WD (MS upd_none)
section
variable {X : Cx} {K : KT} {ξ : Xi} {W : WX} {N : MS} {ζ : List Addr} {μ : Store} {H : Hp} {pos : Pos}
end
end PM
/-! min, max of a list, of a tuple of ints -/
namespace PM
open PySem PySem.Spec PyProof.Rows L2
open WD (MS upd_none)
def minOf : List Int → Option PV
  | [] => none
  | n :: ns => some (.int (ns.foldl min n))
def maxOf : List Int → Option PV
  | [] => none
  | n :: ns => some (.int (ns.foldl max n))
def minV1 : List PV → Option PV
  | [.lst l] => (intsOf l).bind minOf
  | [.tup l] => (intsOf l).bind minOf
  | _ => none
def maxV1 : List PV → Option PV
  | [.lst l] => (intsOf l).bind maxOf
  | [.tup l] => (intsOf l).bind maxOf
  | _ => none
theorem foldl_min_le (n : Int) (ns : List Int) : ∀ y ∈ n :: ns, ns.foldl min n ≤ y := by
  induction ns generalizing n with
  | nil => intro y hy; rw [List.mem_singleton.mp hy]; exact Int.le_refl _
  | cons k r ih =>
    intro y hy
    show r.foldl min (min n k) ≤ y
    have h0 := ih (min n k) (min n k) List.mem_cons_self
    rcases List.mem_cons.mp hy with e | hy
    · subst e; omega
    · rcases List.mem_cons.mp hy with e | hy
      · subst e; omega
      · exact ih (min n k) y (List.mem_cons_of_mem _ hy)
theorem foldl_min_mem (n : Int) (ns : List Int) : ns.foldl min n ∈ n :: ns := by
  induction ns generalizing n with
  | nil => exact List.mem_singleton.mpr rfl
  | cons k r ih =>
    show r.foldl min (min n k) ∈ n :: k :: r
    rcases List.mem_cons.mp (ih (min n k)) with e | e
    · rw [e]
      rcases (by omega : min n k = n ∨ min n k = k) with e | e <;> rw [e] <;> simp
    · exact List.mem_cons_of_mem _ (List.mem_cons_of_mem _ e)
theorem foldl_max_le (n : Int) (ns : List Int) : ∀ y ∈ n :: ns, y ≤ ns.foldl max n := by
  induction ns generalizing n with
  | nil => intro y hy; rw [List.mem_singleton.mp hy]; exact Int.le_refl _
  | cons k r ih =>
    intro y hy
    show y ≤ r.foldl max (max n k)
    have h0 := ih (max n k) (max n k) List.mem_cons_self
    rcases List.mem_cons.mp hy with e | hy
    · subst e; omega
    · rcases List.mem_cons.mp hy with e | hy
      · subst e; omega
      · exact ih (max n k) y (List.mem_cons_of_mem _ hy)
theorem foldl_max_mem (n : Int) (ns : List Int) : ns.foldl max n ∈ n :: ns := by
  induction ns generalizing n with
  | nil => exact List.mem_singleton.mpr rfl
  | cons k r ih =>
    show r.foldl max (max n k) ∈ n :: k :: r
    rcases List.mem_cons.mp (ih (max n k)) with e | e
    · rw [e]
      rcases (by omega : max n k = n ∨ max n k = k) with e | e <;> rw [e] <;> simp
    · exact List.mem_cons_of_mem _ (List.mem_cons_of_mem _ e)
section
variable {X : Cx} {K : KT} {M : MS} {H : Hp}
theorem cr_minTE (hc : X.calm = true) (hu : X.A.units + 1 < cLine) : CallR X (.builtin "min") (fun vs H Q => ∃ (a : Addr) (n : Int) (ns : List Int), vs = [V.ref a] ∧ SqT X.K H a ((n :: ns).map V.int) ∧ Q (.int (ns.foldl min n)) H) := by
  intro pins s σ H vs us Q I r h
  obtain ⟨a, n, ns, rfl, hs, q⟩ := h
  obtain ⟨its, rv, hl, _⟩ := I.tuple hs
  rw [Vals.ref1 r]
  obtain ⟨as, hr⟩ := Dp.readsAll I _ _ its (WD.dpInts (n :: ns)) rv
  refine PySem.W.min_tuple_data (x := .int n) (xs := ns.map PyData.int) (as := as) (I.ok.hd hc) hl hr (WD.alike_ints (n :: ns)) (by rw [show PyData.depthAll (.int n :: ns.map PyData.int) = 0 from WD.depth_ints (n :: ns)]; omega) fun i v h' tk bs hv hrd hk => ?_
  rw [PySem.W.minD_ints] at hrd
  cases hrd
  exact ⟨.int _, H, I.kept hk, ⟨_, rfl⟩, q⟩
theorem cr_maxTE (hc : X.calm = true) (hu : X.A.units + 1 < cLine) : CallR X (.builtin "max") (fun vs H Q => ∃ (a : Addr) (n : Int) (ns : List Int), vs = [V.ref a] ∧ SqT X.K H a ((n :: ns).map V.int) ∧ Q (.int (ns.foldl max n)) H) := by
  intro pins s σ H vs us Q I r h
  obtain ⟨a, n, ns, rfl, hs, q⟩ := h
  obtain ⟨its, rv, hl, _⟩ := I.tuple hs
  rw [Vals.ref1 r]
  obtain ⟨as, hr⟩ := Dp.readsAll I _ _ its (WD.dpInts (n :: ns)) rv
  refine PySem.W.max_tuple_data (x := .int n) (xs := ns.map PyData.int) (as := as) (I.ok.hd hc) hl hr (WD.alike_ints (n :: ns)) (by rw [show PyData.depthAll (.int n :: ns.map PyData.int) = 0 from WD.depth_ints (n :: ns)]; omega) fun i v h' tk bs hv hrd hk => ?_
  rw [PySem.W.maxD_ints] at hrd
  cases hrd
  exact ⟨.int _, H, I.kept hk, ⟨_, rfl⟩, q⟩
theorem cr_minV1 (hc : X.calm = true) (hu : X.A.units + 1 < cLine) (hK : X.K = K := by rfl) : CallR X (.builtin "min") (rPN K minV1) := by
  obtain ⟨K, Kt⟩ := K; obtain rfl : X.K = K := hK
  intro pins s σ H xs us Q I r h
  obtain ⟨M, ds, d, hv, fr, e, g⟩ := h
  unfold minV1 at e
  split at e
  · obtain ⟨ns, e1, e2⟩ := Option.bind_eq_some_iff.mp e
    obtain ⟨v, rfl, h1⟩ := vvs1 hv
    obtain ⟨p, vs, rfl, g1, r1⟩ := h1
    have z := ints_vals r1 e1
    subst z
    cases ns with
    | nil => cases e2
    | cons n ns =>
      cases e2
      refine cr_min hc pins s σ H _ us Q I r ⟨p, n :: ns, rfl, SqL.of g1, Nat.succ_pos _, fun m hm hle => ?_⟩
      have h1 := hle _ (foldl_min_mem n ns)
      have h2 := foldl_min_le n ns m hm
      rw [show m = ns.foldl min n by omega]
      exact g.int
  · obtain ⟨ns, e1, e2⟩ := Option.bind_eq_some_iff.mp e
    obtain ⟨v, rfl, h1⟩ := vvs1 hv
    obtain ⟨p, vs, rfl, _, g1, r1⟩ := vv_tup h1
    have z := ints_vals r1 e1
    subst z
    cases ns with
    | nil => cases e2
    | cons n ns =>
      cases e2
      exact cr_minTE hc hu pins s σ H _ us Q I r ⟨p, n, ns, rfl, SqT.of g1, g.int⟩
  · cases e
theorem cr_maxV1 (hc : X.calm = true) (hu : X.A.units + 1 < cLine) (hK : X.K = K := by rfl) : CallR X (.builtin "max") (rPN K maxV1) := by
  obtain ⟨K, Kt⟩ := K; obtain rfl : X.K = K := hK
  intro pins s σ H xs us Q I r h
  obtain ⟨M, ds, d, hv, fr, e, g⟩ := h
  unfold maxV1 at e
  split at e
  · obtain ⟨ns, e1, e2⟩ := Option.bind_eq_some_iff.mp e
    obtain ⟨v, rfl, h1⟩ := vvs1 hv
    obtain ⟨p, vs, rfl, g1, r1⟩ := h1
    have z := ints_vals r1 e1
    subst z
    cases ns with
    | nil => cases e2
    | cons n ns =>
      cases e2
      refine cr_max hc pins s σ H _ us Q I r ⟨p, n :: ns, rfl, SqL.of g1, Nat.succ_pos _, fun m hm hle => ?_⟩
      have h1 := hle _ (foldl_max_mem n ns)
      have h2 := foldl_max_le n ns m hm
      rw [show m = ns.foldl max n by omega]
      exact g.int
  · obtain ⟨ns, e1, e2⟩ := Option.bind_eq_some_iff.mp e
    obtain ⟨v, rfl, h1⟩ := vvs1 hv
    obtain ⟨p, vs, rfl, _, g1, r1⟩ := vv_tup h1
    have z := ints_vals r1 e1
    subst z
    cases ns with
    | nil => cases e2
    | cons n ns =>
      cases e2
      exact cr_maxTE hc hu pins s σ H _ us Q I r ⟨p, n, ns, rfl, SqT.of g1, g.int⟩
  · cases e
end
end PM
/-! d[k] = v, list(d.values()), dict(d) -/
namespace PM
open PySem PySem.Spec PyProof.Rows L2
open WD (MS upd_none)
section
variable {X : Cx} {K : KT} {ξ : Xi} {W : WX} {N : MS} {ζ : List Addr} {μ : Store} {M : MS} {H : Hp} {σr : L2.St} {σ : Sl} {e o : Expr} {fa fo : ME} {st : Stmt} {p pos apos cpos : Pos}
end
end PM
/-! instances of own classes: made, asked -/
namespace PM
open PySem PySem.Spec PyProof.Rows L2
open WD (MS upd_none)
/-- __init__: a block, then the fields -/
abbrev MI := Sl → Store → R (List Val)
abbrev FnI := List Val → Store → R (List Val)
def isT : Val → Bool
  | .t _ => true
  | _ => false
def finI (n : Nat) : R (List Val) → R (List Val)
  | .ok ws μ => if ws.all isT then .ok ws (μ.take n) else if ws.all Val.plain then .ok ws μ else .stuck
  | .ex c f μ => .ex c f (μ.take n)
  | .stuck => .stuck
def iniOf (n : Nat) (F : MI) : FnI := fun ws μ => finI μ.length (F (startM n (.self :: ws)) μ)
def flsOf : List Val → Option (List Fl)
  | [] => some []
  | .t d :: ws => (flsOf ws).map (.t d :: ·)
  | .c k :: ws => (flsOf ws).map (.c k :: ·)
  | _ :: _ => none
section
variable {X : Cx} {K : KT} {ξ : Xi} {W : WX} {N : MS} {ζ : List Addr} {μ : Store} {M : MS} {H : Hp} {σr : L2.St} {σ : Sl} {e o : Expr} {es : List Expr} {fa fo : ME} {st : Stmt} {ss : List Stmt} {p pos apos cpos : Pos} {C : Str} {ns ns0 : List Str} {a dx : Addr} {F : MI}
def PostIn (K : KT) (ξ : Xi) (W : WX) (N : MS) (ζ : List Addr) (μ : Store) (H : Hp) (C : Str) (a dx : Addr) (ns0 ns : List Str) (vs0 : List V) (D : Ends) : R (List Val) → Prop
  | .ok ws μ' => ∀ ζ' H1 σr' vs, Ev K.tb ζ μ H ζ' μ' H1 → Wd K N ζ' μ' H1 → RVs K ξ ζ' (MM N ζ' μ') H1 vs ws → vs.length = ns.length → D.nx σr' (upd H1 a (.ins (He.ga K C) dx ((ns0 ++ ns).zip (vs0 ++ vs))))
  | .ex c f μ' => ∀ ζ' H' d σr', Ev K.tb ζ μ H ζ' μ' H' → Wd K N ζ' μ' H' → XR K (MM N ζ' μ') H' d f → W (.ref (He.ga K c)) d σr' H'
  | .stuck => False
def tIn (K : KT) (ξ : Xi) (W : WX) (C : Str) (ns0 ns : List Str) (F : MI) : TS := fun D σr H => ∃ N ζ μ σ a cv d dx vs0, ξ = some (a, cv, d) ∧ N a ∧ H a = some (.ins (He.ga K C) dx (ns0.zip vs0)) ∧ vs0.length = ns0.length ∧ Wd K N ζ μ H ∧ Sok K ξ ζ (MM N ζ μ) H σr σ ∧ PostIn K ξ W N ζ μ H C a dx ns0 ns vs0 D (F σ μ)
abbrev IN (K : KT) (ξ : Xi) (W : WX) (X : Cx) (C : Str) (ns0 ns : List Str) (ss : List Stmt) (F : MI) : Prop := PSs X ss (tIn K ξ W C ns0 ns F)
theorem PostIn.ev {ζ1 : List Addr} {μ1 : Store} {H1 : Hp} {vs0 : List V} {D : Ends} (e : Ev K.tb ζ μ H ζ1 μ1 H1) : ∀ {r : R (List Val)}, PostIn K ξ W N ζ μ H C a dx ns0 ns vs0 D r → PostIn K ξ W N ζ1 μ1 H1 C a dx ns0 ns vs0 D r
  | .ok _ _, h => fun ζ' H' s v a b c => h ζ' H' s v (e.trans a) b c
  | .ex _ _ _, h => fun ζ' H' d s a b c => h ζ' H' d s (e.trans a) b c
  | .stuck, h => h
end
end PM
namespace PM
open PySem PySem.Spec PyProof.Rows L2
open WD (MS upd_none)
end PM
namespace PM
open PySem PySem.Spec PyProof.Rows L2
open WD (MS upd_none)
def PostCI (K : KT) (N : MS) (ζ : List Addr) (μ : Store) (H : Hp) (C : Str) (a dx : Addr) (ns : List Str) (Q : VK) (E : XK) : R (List Val) → Prop
  | .ok ws μ' => ∀ ζ' H1 vs, Ev K.tb ζ μ H ζ' μ' H1 → Wd K N ζ' μ' H1 → RVs K none ζ' (MM N ζ' μ') H1 vs ws → vs.length = ns.length → Q .non (upd H1 a (.ins (He.ga K C) dx (ns.zip vs)))
  | .ex c f μ' => ∀ ζ' H' d, Ev K.tb ζ μ H ζ' μ' H' → Wd K N ζ' μ' H' → XR K (MM N ζ' μ') H' d f → E (.ref (He.ga K c)) d H'
  | .stuck => False
def SpI (K : KT) (C : Str) (ns : List Str) (n : Nat) (fn : FnI) : Sp := fun vs H Q E => ∃ N ζ μ ws a dx rest, vs = .ref a :: rest ∧ N a ∧ H a = some (.ins (He.ga K C) dx []) ∧ Wd K N ζ μ H ∧ RVs K none ζ (MM N ζ μ) H rest ws ∧ ws.length = n ∧ PostCI K N ζ μ H C a dx ns Q E (fn ws μ)
section
variable {K : KT} {ξ : Xi} {N : MS} {ζ : List Addr} {μ : Store} {M : MS} {H : Hp}
theorem RVs.none_to : ∀ {vs : List V} {ws : List Val}, RVs K none ζ M H vs ws → RVs K ξ ζ M H vs ws
  | [], [], _ => trivial
  | _ :: _, _ :: _, h => ⟨h.1.none_to, RVs.none_to h.2⟩
  | [], _ :: _, h => h.elim
  | _ :: _, [], h => h.elim
theorem RVs.cutT {ζ' : List Addr} {M' : MS} (sub : ∀ x, M' x → M x) : ∀ {vs : List V} {ws : List Val}, ws.all isT = true → RVs K ξ ζ M H vs ws → RVs K none ζ' M' H vs ws
  | [], [], _, _ => trivial
  | v :: vs, w :: ws, hb, h => by
    rw [List.all_cons, Bool.and_eq_true] at hb
    refine ⟨?_, RVs.cutT sub hb.2 h.2⟩
    cases w with
    | t d => exact rv_wk sub h.1
    | _ => cases hb.1
  | [], _ :: _, _, h => h.elim
  | _ :: _, [], _, h => h.elim
end
section
variable {P : Program} {w : World} {K : KT} {mg : Str → Option Value} {base : Heap} {x qual : Str} {params : Arguments} {body : List Stmt} {scope : Scope} {f : Addr} {fd : FuncData} {Nm ps : List Str} {k n : Nat} {F : MI} {C : Str} {ns : List Str}
theorem ini_read {N : MS} {ζ : List Addr} {μ : Store} {H : Hp} {a dx : Addr} {vs : List V} {ws : List Val} {Q : VK} {E : XK} (na : N a) (ha : H a = some (.ins (He.ga K C) dx [])) (wd : Wd K N ζ μ H) (r : RVs K none ζ (MM N ζ μ) H vs ws) (h : PostCI K N ζ μ H C a dx ns Q E (iniOf Nm.length F ws μ)) :
    tIn K (some (a, .none, none)) (fun cls d _ H => E cls d H) C [] ns F { nx := fun _ H' => Q .non H', rt := Q } (L2.start Nm (.ref a :: vs)) H := by
  have r' : RVs K (some (a, .none, none)) ζ (MM N ζ μ) H (.ref a :: vs) (.self :: ws) := ⟨⟨a, .none, none, rfl, rfl⟩, r.none_to⟩
  refine ⟨N, ζ, μ, startM Nm.length (.self :: ws), a, .none, none, dx, [], rfl, na, ha, rfl, wd, start_ok r', ?_⟩
  unfold iniOf at h
  cases e : F (startM Nm.length (.self :: ws)) μ with
  | ok us μ' =>
    rw [e] at h
    intro ζ' H1 σr' vs' ev wd' r2 hl
    obtain ⟨ev', wd2, sub⟩ := cut_ok ev wd' wd.len
    unfold finI at h
    dsimp only at h
    split at h
    · rename_i hT
      exact h _ _ vs' ev' wd2 (RVs.cutT sub hT r2) hl
    · split at h
      · rename_i hp
        exact h _ _ vs' ev wd' (r2.to_none hp) hl
      · exact h.elim
  | ex c f μ' =>
    rw [e] at h
    intro ζ' H' d σr' ev wd' xr
    obtain ⟨ev', wd2, sub⟩ := cut_ok ev wd' wd.len
    exact h _ _ d ev' wd2 (xr.st (fun a n _ z => n (sub a z)) (fun _ _ _ _ e => e))
  | stuck => rw [e] at h; exact h.elim
theorem ini_ok (F0 : FunD K x qual params body scope [] [] f fd) (S : FnScope Nm ps scope) (hps : ps.length = n + 1)
    (bind : ∀ (kV doc pm : Value) (an : Option Addr) (cdv ct : Value) (us : List Value), us.length = ps.length → bindArgs (PySem.W.fnOf x qual params body scope .none kV doc pm an cdv ct) ⟨us, []⟩ = pure (ps.zip us))
    (hb : ∀ (cdv : Value) (A : Around) (outer : List Env) (s : Shared) (H : Hp) (E : XK) (a : Addr), Room k (A.deeper (envOfC qual scope s.heap.objs.size f cdv)) → IN K (some (a, .none, none)) (fun cls d _ H => E cls d H) (cxOf (L2.CX P w) P w K mg base Nm qual scope f cdv A outer s H E) C [] ns body F) :
    ∃ (fd : FuncData) (ps' : List Str) (ds : List Value), FnOk P w K mg base (L2.CX P w) (k + 1) f fd ps' (SpI K C ns n (iniOf Nm.length F)) ∧ Binds K fd ps' ds ∧ Vals [] ds :=
  WD.fnX_of F0 S (fun vs H Q E ⟨N, ζ, μ, ws, a, dx, rest, e, _, _, _, r, hl, _⟩ => by rw [e, hps]; exact congrArg Nat.succ (r.len.trans hl)) bind fun cdv A outer s H vs Q E hr ⟨N, ζ, μ, ws, a, dx, rest, e, na, ha, wd, r, hl, h⟩ => by
    subst e
    exact ⟨_, hb cdv A outer s H E a hr, ini_read na ha wd r h⟩
end
/-! ### C(..) that may raise -/
section
variable {X : Cx} {CX : CXT} {k : Nat} {f C : Addr} {fd : FuncData} {ps : List Str} {sp : Sp} {E : L2.St → XK} {x m : Str} {p pos apos : Pos} {e o : Expr} {es : List Expr} {ta : TE} {t : TA} {W : WX} {ds : List Value} {dvs : List V}
end
/-! ### in the machine -/
section
variable {X : Cx} {K : KT} {ξ : Xi} {W : WX} {N : MS} {ζ : List Addr} {μ : Store} {M : MS} {H : Hp} {σr : L2.St} {σ : Sl} {e o : Expr} {es : List Expr} {fa fo : ME} {fs : Sl → Store → R (List Val)} {p pos apos cpos : Pos} {C m x : Str} {ns : List Str} {a dx f : Addr} {k n : Nat}
theorem flsOf_FRs : ∀ {vs : List V} {ws : List Val} {fs : List Fl}, RVs K ξ ζ M H vs ws → flsOf ws = some fs → FRs K ζ M H vs fs
  | [], [], _, _, e => by cases e; trivial
  | v :: vs, .t d :: ws, _, h, e => by
    obtain ⟨fs', e1, rfl⟩ := Option.map_eq_some_iff.mp e
    exact ⟨h.1, flsOf_FRs h.2 e1⟩
  | v :: vs, .c d :: ws, _, h, e => by
    obtain ⟨fs', e1, rfl⟩ := Option.map_eq_some_iff.mp e
    exact ⟨h.1, flsOf_FRs h.2 e1⟩
  | _ :: _, .x _ _ :: _, _, _, e => by cases e
  | _ :: _, .s _ :: _, _, _, e => by cases e
  | _ :: _, .g _ _ :: _, _, _, e => by cases e
  | _ :: _, .self :: _, _, _, e => by cases e
  | [], _ :: _, _, h, _ => h.elim
  | _ :: _, [], _, h, _ => h.elim
end
end PM
/-! own ==, isinstance of own classes, str(int), {} != {} -/
namespace PM
open PySem PySem.Spec PyProof.Rows L2
open WD (MS upd_none)
section
variable {X : Cx} {K : KT} {ξ : Xi} {W : WX} {N : MS} {ζ : List Addr} {μ : Store} {M : MS} {H : Hp} {σr : L2.St} {σ : Sl} {e o a b : Expr} {es : List Expr} {fa fb : ME} {p pos : Pos} {C : Str} {k : Nat} {f : Addr}
/-- the fragment, no table -/
abbrev k0 (K : KT) : KT := ⟨K.fr, []⟩
theorem ev0 {ζ' : List Addr} {μ' : Store} {H' : Hp} (ev : Ev [] [] [] H ζ' μ' H') : Grow H H' := fun a o h => ev.fr.keep a o nt_nil (fun ⟨k, c, h1, _⟩ => by simp at h1) h
end
end PM
/-! PM22: a lambda without parameters, handed to a def that calls it in a try suite -/
namespace PM
open PySem PySem.Spec PyProof.Rows L2
open WD (MS upd_none)
abbrev Lm := Addr × Addr × Str × L2.St
/-- an exception out of a suite: no slot is known then -/
def wipeX (n : Nat) (F : MSt) : MSt := fun σ μ => match F σ μ with
  | .ex c f _ μ' => .ex c f (List.replicate n none) μ'
  | r => r
/-- what a lambda may hold -/
def capV : Option Val → Option Fl
  | some (.t d) => some (.t d)
  | some (.c k) => some (.c k)
  | _ => none
def capS (σ : Sl) : List (Option Fl) := σ.map capV
def capM (fs : List (Option Fl)) : Sl := fs.map (Option.map Fl.v)
def noX : R Val → R Val
  | .ex _ _ _ => .stuck
  | r => r
open Classical in
/-- a(), a the lambda that was handed in -/
noncomputable def eAct (L : Lm) (th : ME) : ME := fun σ μ => match σ with
  | some (.lam L' fs) :: _ => if L' = L then th (capM fs) μ else .stuck
  | _ => .stuck
open Classical in
/-- x(lambda: ..) -/
noncomputable def eLam (fnL : Lm → ME → Fn) (th : ME) : ME := fun σ μ => if h : ∃ r, ∀ L, fnL L th [.lam L (capS σ)] μ = r then noX (choose h) else .stuck
theorem eLam_eq {fnL : Lm → ME → Fn} {th : ME} {σ : Sl} {μ μ' : Store} {w : Val} (h : ∀ L, fnL L th [.lam L (capS σ)] μ = .ok w μ') : eLam fnL th σ μ = .ok w μ' := by
  have e : ∃ r, ∀ L, fnL L th [.lam L (capS σ)] μ = r := ⟨_, h⟩
  unfold eLam
  rw [dif_pos e, ← Classical.choose_spec e (0, 0, "", []), h]
  rfl
theorem eAct_eq {L : Lm} {th : ME} {fs : List (Option Fl)} {σ : Sl} {μ : Store} : eAct L th (some (.lam L fs) :: σ) μ = th (capM fs) μ := by
  unfold eAct
  exact if_pos rfl
abbrev XW (E : XK) : WX := fun cls d _ H => E cls d H
section
variable {X : Cx} {K : KT} {ξ : Xi} {W : WX} {N : MS} {ζ : List Addr} {μ : Store} {M : MS} {H H1 : Hp} {σr : L2.St} {σ : Sl} {ss : List Stmt} {F : MSt} {n : Nat}
theorem ss_open (tk : Takes X W) (h : ∀ E : XK, Takes X (XW E) → ISs K ξ (XW E) X ss F) (hn : X.N.length = n := by rfl) : ISs K ξ W X ss (wipeX n F) := by
  have hk : Takes X (XW fun cls d H => ∀ σ' : L2.St, σ'.length = X.N.length → W cls d σ' H) := fun u s' ⟨a, B, sI, pins, σ, H, cls, d, e, I, nb, up, sky, na, os, ag, w⟩ =>
    tk u s' ⟨a, B, sI, pins, σ, H, cls, d, e, I, nb, up, sky, na, os, ag, w σ I.len⟩
  refine PSs.of (h _ hk) fun D σr H q => ?_
  obtain ⟨N, ζ, μ, σ, wd, so, q⟩ := q
  refine ⟨N, ζ, μ, σ, wd, so, ?_⟩
  unfold wipeX at q
  cases e : F σ μ with
  | ex c f σ1 μ1 =>
    rw [e] at q
    intro ζ' H' d σr' ev wd' xr so' σ2 hl
    refine q ζ' H' d σ2 ev wd' xr ⟨by rw [List.length_replicate, hl, hn], fun i w hw => ?_⟩
    rw [List.getElem?_replicate] at hw
    split at hw <;> cases hw
  | nx _ _ => rw [e] at q; exact q
  | bk _ _ => rw [e] at q; exact q
  | ct _ _ => rw [e] at q; exact q
  | rt _ _ => rw [e] at q; exact q
  | stuck => rw [e] at q; exact q
theorem fr_val {v : V} {w : Fl} (h : FR K ζ M H v w) : RV K ξ ζ M H v w.v := FR.RV h
/-- what is known where the lambda is called -/
abbrev Act (K : KT) (Z : Cx) (a : Str) (L : Lm) (th : ME) : Prop := ∀ (W : WX) (E : XK) (p1 p2 : Pos), Takes Z W → (∀ cls d σ' H', E cls d H' → W cls d σ' H') →
  PE Z (.Call (.Name a p1) [] [] p2) (fun σZ HZ Q => σZ[0]? = some (some (.ref L.1)) ∧ HZ L.2.1 = some (LamX.CodeO L.2.1 L.2.2.1) ∧ tE K none (XW E) th L.2.2.2 HZ Q)
theorem i_act {a : Str} {L : Lm} {th : ME} {E : XK} {p1 p2 : Pos} (act : Act K X a L th) (tk : Takes X (XW E)) : IE K ξ (XW E) X (.Call (.Name a p1) [] [] p2) (eAct L th) := PE.of (act _ E p1 p2 tk fun _ _ _ _ h => h) fun σr H Q q => by
  obtain ⟨N, ζ, μ, σ, wd, so, q⟩ := q
  unfold eAct at q
  split at q
  case h_2 => exact q.elim
  rename_i L' fs σ1
  split at q
  case isFalse => exact q.elim
  rename_i hL
  subst hL
  obtain ⟨v, h1, h2, h3, h4, h5, h6⟩ := so.2 0 _ rfl
  subst h2
  refine ⟨h1, h4, N, ζ, μ, capM fs, wd, ⟨by unfold capM; rw [List.length_map]; exact h5, fun i w hw => ?_⟩, ?_⟩
  · unfold capM at hw
    rw [List.getElem?_map] at hw
    cases e : fs[i]? with
    | none => rw [e] at hw; cases hw
    | some o =>
      rw [e] at hw
      cases o with
      | none => cases hw
      | some fl =>
        cases hw
        obtain ⟨u, e1, e2⟩ := h6 i fl e
        exact ⟨u, e1, fr_val e2⟩
  · cases e : th (capM fs) μ with
    | ok w μ' => rw [e] at q; exact fun ζ' H' v a b c => q ζ' H' v a b c.none_to
    | ex c f μ' => rw [e] at q; exact q
    | stuck => rw [e] at q; exact q
/-- what the def makes of the lambda's reading -/
def TTm (K : KT) (fnL : Lm → ME → Fn) (th : ME) : (XK → Hp → VK → Prop) → Hp → VK → Prop := fun tl H Q => ∃ σr0, tl = (fun E H' Q' => tE K none (XW E) th σr0 H' Q') ∧ ∃ N ζ μ fs, Wd K N ζ μ H ∧ σr0.length = fs.length ∧
  (∀ (i : Nat) (w : Fl), fs[i]? = some (some w) → ∃ u, σr0[i]? = some (some u) ∧ FR K ζ (MM N ζ μ) H u w) ∧ ∀ L, PostC K N ζ μ H Q (fun _ _ _ => False) (fnL L th [.lam L fs] μ)
theorem gives_of {Ng : List Str} {x a q : Str} {sg : Scope} {g : Addr} {cdg : Value} {bg : List Stmt} {bL : Lm → ME → MSt} {th : ME}
    (bd : ∀ (L : Lm) (s : Shared) (H : Hp), (∀ (pn : List (Addr × Obj)) (xe : Value → Shared → Prop), Act K ((cxOf C8.CX0 X.prog X.w X.K X.mg X.base Ng x sg g cdg X.A X.stack s H C8.E0).tr pn xe) a L th) → ISs K none W0 (cxOf C8.CX0 X.prog X.w X.K X.mg X.base Ng x sg g cdg X.A X.stack s H C8.E0).nox bg (bL L th)) :
    LamX.GivesTo X Ng x sg g cdg bg a q (TTm K (fun L th => fnOf Ng.length (bL L th)) th) := by
  intro f c' s H Q tl act hc ht
  obtain ⟨σr0, rfl, N, ζ, μ, fs, wd, hl, cap, post⟩ := ht
  refine ⟨_, bd (f, c', q, σr0) s H (fun pn xe W E p1 p2 tk hW => act W pn xe E p1 p2 tk hW), ?_⟩
  have nM : ¬ MM N ζ μ c' := fun z => by
    obtain ⟨o, e, _, x⟩ := wd.min c' z
    rw [hc] at e
    cases e
    cases x
  exact fn_read (N := N) (ζ := ζ) (μ := μ) (E := fun _ _ _ => False) (ws := [.lam (f, c', q, σr0) fs]) wd ⟨⟨rfl, nM, hc, hl, cap⟩, trivial⟩ (post (f, c', q, σr0))
theorem capS_ok (so : Sok K ξ ζ M H σr σ) : σr.length = (capS σ).length ∧ ∀ (i : Nat) (w : Fl), (capS σ)[i]? = some (some w) → ∃ u, σr[i]? = some (some u) ∧ FR K ζ M H u w := by
  refine ⟨by unfold capS; rw [List.length_map]; exact so.1, fun i w hw => ?_⟩
  unfold capS at hw
  rw [List.getElem?_map] at hw
  cases e : σ[i]? with
  | none => rw [e] at hw; cases hw
  | some o =>
    rw [e] at hw
    cases o with
    | none => cases hw
    | some v =>
      obtain ⟨u, h1, h2⟩ := so.2 i v e
      refine ⟨u, h1, ?_⟩
      cases v with
      | t d => cases hw; exact h2
      | c k => cases hw; exact h2
      | _ => cases hw
theorem Wd.lam (wd : Wd K N ζ μ H) (en : LamX.ExtN H H1) (hT : LamX.Tabs K.tb H1) (ne : K.tb.isEmpty = false) : Ev K.tb ζ μ H ζ μ H1 ∧ Wd K N ζ μ H1 := by
  have kp : ∀ a o, nt K.tb o → H a = some o → H1 a = some o := fun a o t h => en a o h (nt_ne (by
    have t' : (isTb o && !K.tb.isEmpty) = false := t
    rw [ne] at t'
    simpa using t'))
  refine ⟨⟨fun _ _ h => h, ⟨fun a o t _ h => kp a o t h, fun a z o e n => z o (kp a o n e) n⟩, fun _ h => .inl h⟩, wd.len, wd.inj, fun k c a h1 h2 => (wd.cell k c a h1 h2).st (fun _ _ h => h) (fun _ n _ => n) (fun a o t _ h => kp a o t h) (fun o t h => kp a o t h), fun a h => ⟨(wd.nd a h).1, ?_⟩, hT⟩
  obtain ⟨o, e, r⟩ := (wd.nd a h).2
  exact ⟨o, kp a o (nt_of r.1) e, r⟩
/-- x(lambda: body) -/
theorem i_lam {bL : Lm → ME → MSt} {th : ME} {x a : Str} {g c P : Addr} {k : Nat} {pg : Arguments} {bg : List Stmt} {sg : Scope} {Ng : List Str} {params : Arguments} {body : Expr} {scope : Scope} {p lpos pos : Pos}
    (hg : Gl X x) (hm : X.mg x = some (.ref g)) (Fx : ∃ fd, FunD X.K x x pg bg sg [] [] g fd) (Sg : FnScope Ng [a] sg) (bind : ∀ (kV doc pm : Value) (an : Option Addr) (cdv ct : Value) (us : List Value), us.length = 1 → bindArgs (PySem.W.fnOf x x pg bg sg .none kV doc pm an cdv ct) ⟨us, []⟩ = pure ([a].zip us))
    (hNg : Ng[0]? = some a) (hva : Vis sg a)
    (bd : ∀ (cdg : Value) (L : Lm) (s : Shared) (H : Hp), Room (k + 1) (X.A.deeper (envOfC x sg s.heap.objs.size g cdg)) → (∀ (pn : List (Addr × Obj)) (xe : Value → Shared → Prop), Act K ((cxOf C8.CX0 X.prog X.w X.K X.mg X.base Ng x sg g cdg X.A X.stack s H C8.E0).tr pn xe) a L th) → ISs K none W0 (cxOf C8.CX0 X.prog X.w X.K X.mg X.base Ng x sg g cdg X.A X.stack s H C8.E0).nox bg (bL L th))
    (TB : LamX.TabB X.base X.mg c P) (hcode : X.env.code = .ref c) (hmT : (P, X.env.qual ++ "<lambda>") ∈ K.tb) (hu : ∀ p ∈ K.tb, p.1 = P → p.2 = X.env.qual ++ "<lambda>") (hr : Room (k + 2) X.A) (L : LamX.LamS X.env.scope scope) (hdef : defaultsOf params X.env = ([], []))
    (hbind : ∀ (q : Str) (cl : List (Str × Addr)) (pm cv ctv : Value), bindArgs (PySem.W.kla_fn "<lambda>" q params body scope cl pm cv ctv) ⟨[], []⟩ = pure [])
    (hbody : ∀ (A : Around) (outer : List Env) (s : Shared) (H : Hp) (E : XK) (f c' : Addr), Room k (A.deeper (LamX.lamEnv X scope s.heap.objs.size f c')) → IE K none (XW E) (LamX.lamCx X A outer s H E scope f c') body th)
    (hdb : (x == ("__debug__" : Str)) = false := by decide) (hd : (a == ("__debug__" : Str)) = false := by decide) (hcd : (a == ("__classdict__" : Str)) = false := by decide) :
    IE K ξ W X (.Call (.Name x p) [.Lambda params body scope lpos] [] pos) (eLam (fun L th => fnOf Ng.length (bL L th)) th) := by
  obtain ⟨fd, F⟩ := Fx
  have hB := F.bindsN (ps := [a]) bind
  obtain ⟨oc, od, dV, kV, doc, pm, an, cdv, ct, osl, rfl, lk, hcg, _, _⟩ := F.ex
  refine PE.of (LamX.pe_lamcall (T := K.tb) (TT := TTm K (fun L th => fnOf Ng.length (bL L th)) th) (t := fun E => tE K none (XW E) th) hg hm F.kp lk hcg hB Sg hNg hva (gives_of fun L s H act => bd cdv L s H (hr.deeper _) act) TB hcode hmT hu hr L hdef hbind hbody hdb hd hcd) fun σr H Q q => ?_
  obtain ⟨N, ζ, μ, σ, wd, so, q⟩ := q
  refine ⟨wd.tb, fun H1 en t1 => ?_⟩
  obtain ⟨ev, wd1⟩ := wd.lam en t1 (by
    cases e : K.tb with
    | nil => rw [e] at hmT; cases hmT
    | cons _ _ => rfl)
  have so1 := so.ev ev
  obtain ⟨c1, c2⟩ := capS_ok so1
  refine ⟨σr, rfl, N, ζ, μ, capS σ, wd1, c1, c2, fun L => ?_⟩
  unfold eLam at q
  split at q
  case isFalse => exact q.elim
  rename_i h
  have e := Classical.choose_spec h L
  rw [e]
  cases er : Classical.choose h with
  | ok w μ' => rw [er] at q; exact fun ζ' H' v a b c => q ζ' H' v (ev.trans a) b c.none_to
  | ex c f μ' => rw [er] at q; exact q.elim
  | stuck => rw [er] at q; exact q
end
end PM
/-! PM23: those that make lambdas: their code objects and tables -/
namespace PM
open PySem PySem.Spec PyProof.Rows L2
open WD (MS upd_none)
/-- what those that make lambdas ask for -/
structure LamF (K : PySem.W.Frag) (mk : List Str) (mg : Str → Option Value) (base : Heap) : Prop where
  code : ∀ x ∈ mk, codeOf K (He.ga K x) = .ref (cdA K x)
  tab : ∀ x ∈ mk, LamX.TabB base mg (cdA K x) (tbA K x)
  nd : ((tabsOf K mk).map Prod.fst).Nodup
theorem tabs_mem {K : PySem.W.Frag} {mk : List Str} {x : Str} (h : x ∈ mk) : (tbA K x, (x ++ ".<locals>.") ++ "<lambda>") ∈ tabsOf K mk := List.mem_map.mpr ⟨x, h, rfl⟩
theorem nodup_uni {α β : Type} : ∀ {l : List (α × β)}, (l.map Prod.fst).Nodup → ∀ {p q : α × β}, p ∈ l → q ∈ l → p.1 = q.1 → p = q
  | [], _, _, _, h, _, _ => nomatch h
  | a :: l, hn, p, q, hp, hq, e => by
    rw [List.map_cons, List.nodup_cons] at hn
    rcases List.mem_cons.mp hp with hp1 | hp1 <;> rcases List.mem_cons.mp hq with hq1 | hq1
    · rw [hp1, hq1]
    · exact (hn.1 (List.mem_map.mpr ⟨q, hq1, by rw [← e, hp1]⟩)).elim
    · exact (hn.1 (List.mem_map.mpr ⟨p, hp1, by rw [e, hq1]⟩)).elim
    · exact nodup_uni hn.2 hp1 hq1 e
theorem tabs_uni {K : PySem.W.Frag} {mk : List Str} {x : Str} (nd : ((tabsOf K mk).map Prod.fst).Nodup) (h : x ∈ mk) : ∀ p ∈ tabsOf K mk, p.1 = tbA K x → p.2 = (x ++ ".<locals>.") ++ "<lambda>" := fun p hp e =>
  congrArg Prod.snd (nodup_uni nd hp (tabs_mem h) e)
theorem tabs_nil {K : PySem.W.Frag} {mk : List Str} {H : Hp} (h : ∀ x ∈ mk, H (tbA K x) = some (.tbl #[])) : LamX.Tabs (tabsOf K mk) H := fun p hp => by
  obtain ⟨x, hx, rfl⟩ := List.mem_map.mp hp
  exact LamX.TabS.nil (h x hx)
section
variable {P : Program} {w : World} {K : KT} {mg : Str → Option Value} {base : Heap} {x qual : Str} {params : Arguments} {body : List Stmt} {scope : Scope} {f C : Addr} {fd : FuncData} {Nm ps : List Str} {k : Nat} {b : MSt}
/-- a def whose code object is asked for -/
theorem fn_okC (F : FunD K x qual params body scope [] [] f fd) (S : FnScope Nm ps scope)
    (bind : ∀ (kV doc pm : Value) (an : Option Addr) (cdv ct : Value) (us : List Value), us.length = ps.length → bindArgs (PySem.W.fnOf x qual params body scope .none kV doc pm an cdv ct) ⟨us, []⟩ = pure (ps.zip us))
    (hb : ∀ (A : Around) (outer : List Env) (s : Shared) (H : Hp) (E : XK), Room k (A.deeper (envOfC qual scope s.heap.objs.size f (codeOf K f))) → ISs K none (XW E) (cxOf (L2.CX P w) P w K mg base Nm qual scope f (codeOf K f) A outer s H E) body b) :
    ∃ (fd : FuncData) (ps' : List Str) (ds : List Value), FnOk P w K mg base (L2.CX P w) (k + 1) f fd ps' (SpF K ps.length (fnOf Nm.length b)) ∧ Binds K fd ps' ds ∧ Vals [] ds := by
  have hB := F.bindsN (ps := ps) bind
  have len : ∀ vs H Q E, SpF K ps.length (fnOf Nm.length b) vs H Q E → vs.length = ps.length := fun vs H Q E ⟨N, ζ, μ, ws, wd, r, hl, _⟩ => r.len.trans hl
  obtain ⟨oc, od, dV, kV, doc, pm, an, cdv, ct, osl, rfl, lk, hcg, _, _⟩ := F.ex
  have e : codeOf K f = cdv := by unfold codeOf; rw [lk]
  subst e
  refine ⟨_, ps, [], ⟨len, fun A outer s H args us vs Q E hr e0 hbd r hsp => LamX.run_ofS lk hcg S hr e0 hbd r (len _ _ _ _ hsp) fun hr' => ?_⟩, hB, .nil⟩
  obtain ⟨N, ζ, μ, ws, wd, r', hl, h⟩ := hsp
  exact ⟨_, hb A outer s H E hr', fn_read wd r' h⟩
end
end PM
namespace PM
open PySem PySem.Spec PyProof.Rows L2
/-- the law's promise, at the head's heap -/
theorem law_at {l : PySem.W.OpenLaw} {w : World} {K : PySem.W.Frag} {CX : CXT} {k : Nat} {x : Str} {mg : Str → Option Value} {f : Addr} {h : Heap} {fa : List He.Fa} {fn : List He.DefD} {fx : List WD.Fx} {mk : List Str} {fd : FuncData}
    (c : SaysL fa fn fx mk K h) (hb : ∀ (s : Shared) (u : Value), BindsTo s fd ⟨[u], []⟩ [(x, u)])
    (hF : ∀ base : Heap, K.In base → base.Ns mainGlobals mg → LamF K mk mg base → FnOk l.prog w K mg base CX k f fd [x] (spLaw ⟨K, tabsOf K mk⟩)) : LamX.LawAtS l w K CX k 63 x mg f h := by
  have tx : ∀ p ∈ mk.map (fun x => (cdA K x, tbA K x)), ∃ x ∈ mk, p = (cdA K x, tbA K x) := fun p hp => let ⟨x, h1, h2⟩ := List.mem_map.mp hp; ⟨x, h1, h2.symm⟩
  refine ⟨fd, mk.map fun x => (cdA K x, tbA K x), spLaw ⟨K, tabsOf K mk⟩, fun p hp => ?_, fun p hp => ?_, fun p hp => ?_, hb, fun H a ns hl _ hH hS => spLaw_ask hl hS (tabs_nil fun x hx => hH _ (List.mem_map.mpr ⟨x, hx, rfl⟩)), fun base h1 h2 h3 => hF base h1 h2 ⟨fun x hx => (c.tabs x hx).code, fun x hx => h3 _ (List.mem_map.mpr ⟨x, hx, rfl⟩), c.nd⟩⟩
  · obtain ⟨x, hx, rfl⟩ := tx p hp
    exact (c.tabs x hx).tab
  · obtain ⟨x, hx, rfl⟩ := tx p hp
    exact (c.tabs x hx).no
  · obtain ⟨x, hx, rfl⟩ := tx p hp
    exact (c.tabs x hx).hd
end PM
/-! PM24: for .. in a list that may change (by index, as the list stands at each turn) -/
namespace PM
open PySem PySem.Spec PyProof.Rows L2
open WD (MS upd_none)
section
variable {X : Cx} {K : KT} {ξ : Xi} {W : WX} {tg : Expr} {T : Tgt} {B : MSt} {fa : ME} {pos : Pos}
end
end PM
/-! PM25: zip of three tuples of one length, the items kept by a name -/
namespace PM
open PySem PySem.Spec PyProof.Rows L2
open WD (MS upd_none)
section
variable {X : Cx} {K : KT} {ξ : Xi} {W : WX} {N : MS} {ζ : List Addr} {μ : Store} {M : MS} {H : Hp} {σr : L2.St} {σ : Sl} {tg it e : Expr} {es : List Expr} {fa : ME} {fs : Sl → Store → R (List Val)} {pos : Pos}
end
end PM
/-! PM26: a comprehension over a list that may change, but does not while it is walked: the list is lent -/
namespace PM
open PySem PySem.Spec PyProof.Rows L2
open WD (MS upd_none)
section
variable {X : Cx} {K : KT} {ξ : Xi} {W : WX} {N : MS} {ζ ζ1 : List Addr} {μ μ1 : Store} {M : MS} {H H1 : Hp} {σr : L2.St} {σ : Sl} {tg it e : Expr} {T : Tgt} {fi : ME} {test : Sl → Store → R Bool} {elt : ME}
theorem back_sub {k : Nat} {a : Addr} {c : Cell} (ha : ζ[k]? = some a) : ∀ x, MM N ζ (μ.set k (some c)) x → MM (WD.plus N a) ζ μ x := fun x z => by
  rcases z with ⟨j, d, h1, h2⟩ | z
  · by_cases e : k = j
    · subst e
      rw [ha] at h1
      exact .inr (.inr (Option.some.inj h1).symm)
    · exact .inl ⟨j, d, h1, by rw [List.getElem?_set_ne e] at h2; exact h2⟩
  · exact .inr (.inl z)
/-- what was lent comes back -/
theorem Wd.back {k : Nat} {a : Addr} {c : Cell} (wd : Wd K (WD.plus N a) ζ μ H) (ha : ζ[k]? = some a) (nN : ¬ N a) (hc : cellR K (ζ.take k) (MM (WD.plus N a) ζ μ) H a c) : Wd K N ζ (μ.set k (some c)) H := by
  have na : ¬ Mof ζ μ a := (wd.nd a (.inr rfl)).1
  have live : ∀ {j : Nat} {d : Cell} {b : Addr}, ζ[j]? = some b → (μ.set k (some c))[j]? = some (some d) → (j = k ∧ b = a ∧ d = c) ∨ (j ≠ k ∧ μ[j]? = some (some d)) := fun {j d b} h1 h2 => by
    by_cases e : k = j
    · subst e
      refine .inl ⟨rfl, by rw [ha] at h1; exact (Option.some.inj h1).symm, ?_⟩
      have hk : k < μ.length := by rw [← wd.len]; exact (List.getElem?_eq_some_iff.mp ha).1
      rw [List.getElem?_set_self hk] at h2
      exact (Option.some.inj (Option.some.inj h2)).symm
    · exact .inr ⟨fun z => e z.symm, by rw [List.getElem?_set_ne e] at h2; exact h2⟩
  refine ⟨by rw [List.length_set]; exact wd.len, fun i j b c1 c2 h1 h2 h3 h4 => ?_, fun j c' b h1 h2 => ?_, fun b hb => ⟨fun ⟨j, d, h1, h2⟩ => ?_, (wd.nd b (.inl hb)).2⟩, wd.tb⟩
  · rcases live h1 h3 with ⟨i1, b1, _⟩ | ⟨i1, g1⟩ <;> rcases live h2 h4 with ⟨j1, b2, _⟩ | ⟨j1, g2⟩
    · omega
    · exact absurd ⟨j, c2, by rw [← b1]; exact h2, g2⟩ na
    · exact absurd ⟨i, c1, by rw [← b2]; exact h1, g1⟩ na
    · exact wd.inj i j b c1 c2 h1 h2 g1 g2
  · rcases live h2 h1 with ⟨rfl, rfl, rfl⟩ | ⟨_, g⟩
    · exact hc.st (fun _ _ h => h) (fun x n _ z => n (back_sub ha x z)) (fun _ _ _ _ e => e) (fun _ _ e => e)
    · exact (wd.cell j c' b g h2).st (fun _ _ h => h) (fun x n _ z => n (back_sub ha x z)) (fun _ _ _ _ e => e) (fun _ _ e => e)
  · rcases live h1 h2 with ⟨_, e, _⟩ | ⟨_, g⟩
    · exact nN (e ▸ hb)
    · exact (wd.nd b (.inl hb)).1 ⟨j, d, h1, g⟩
end
end PM
/-! PM27: what a law never reaches; a law that makes lambdas itself -/
namespace PM
open PySem PySem.Spec PyProof.Rows L2
open WD (MS upd_none)
section
variable {X : Cx} {K : KT} {ξ : Xi} {W : WX} {e : Expr} {st : Stmt} {ss : List Stmt}
end
section
variable {P : Program} {w : World} {K : KT} {mg : Str → Option Value} {base : Heap} {x qual : Str} {params : Arguments} {body : List Stmt} {scope : Scope} {f : Addr} {fd : FuncData} {Nm : List Str} {k : Nat} {b : MSt}
end
end PM
/-! PM28: calls with keywords, with defaults -/
namespace WD
open PySem PySem.Spec PyProof.Rows L2
/-- where a parameter's value comes from: a place, a keyword, a default -/
inductive Pk where
  | pos (i : Nat)
  | kw (i : Nat)
  | df (i : Nat)
def Pk.get {α : Type} (us its ws : List α) : Pk → Option α
  | .pos i => us[i]?
  | .kw i => ws[i]?
  | .df i => its[i]?
def pickG {α : Type} (l : List Pk) (us its ws : List α) : List α := match l with
  | [] => []
  | p :: l => (p.get us its ws).toList ++ pickG l us its ws
section
variable {K : PySem.W.Frag} {x qual : Str} {params : Arguments} {body : List Stmt} {scope : Scope} {dvs : List V} {kws : List (Str × V)} {f : Addr} {fd : FuncData} {ps : List Str}
end
section
variable {X : Cx} {CX : CXT} {k n : Nat} {f : Addr} {fd : FuncData} {ps ks : List Str} {sp : Sp} {E : L2.St → XK} {x : Str} {p pos : Pos} {e : Expr} {es : List Expr} {kws : List Keyword} {t tk : TA} {g : List Value → List Value → List Value} {gV : List V → List V → List V} {W : WX}
end
end WD
namespace PM
open PySem PySem.Spec PyProof.Rows L2
open WD (MS upd_none Pk pickG)
section
variable {X : Cx} {K : KT} {ξ : Xi} {W : WX} {N : MS} {ζ : List Addr} {μ : Store} {M : MS} {H : Hp} {σr : L2.St} {σ : Sl} {e a : Expr} {es : List Expr} {kws : List Keyword} {fa : ME} {fs fk : Sl → Store → R (List Val)} {pos kpos : Pos} {nm : Option Str}
theorem PK.of {t t' : TA} (h : PK X kws t) (k : ∀ σ H Q, t' σ H Q → t σ H Q) : PK X kws t' := ⟨fun pos pins s σ H Q I q => h.run pos pins s σ H Q I (k σ H Q q)⟩
theorem RVs.at : ∀ {vs : List V} {ws : List Val} (i : Nat), RVs K ξ ζ M H vs ws → (vs[i]? = none ∧ ws[i]? = none) ∨ ∃ v w, vs[i]? = some v ∧ ws[i]? = some w ∧ RV K ξ ζ M H v w
  | [], [], i, _ => .inl ⟨rfl, rfl⟩
  | v :: vs, w :: ws, 0, h => .inr ⟨v, w, rfl, rfl, h.1⟩
  | v :: vs, w :: ws, i + 1, h => by simpa using RVs.at i h.2
  | [], _ :: _, _, h => h.elim
  | _ :: _, [], _, h => h.elim
end
section
variable {P : Program} {w : World} {K : KT} {mg : Str → Option Value} {base : Heap} {x qual : Str} {params : Arguments} {body : List Stmt} {scope : Scope} {f : Addr} {fd : FuncData} {Nm ps : List Str} {k : Nat} {b : MSt} {dvs : List V} {kws : List (Str × V)}
end
end PM
/-! PM29: tuple(range(n)), list(range(a, b)); what is rising -/
namespace PM
open PySem PySem.Spec PyProof.Rows L2
open WD (MS upd_none)
def insS (x : Int) : List Int → List Int
  | [] => [x]
  | y :: l => if x < y then x :: y :: l else if x = y then y :: l else y :: insS x l
/-- the members, rising, each once -/
def sortSet : List Int → List Int
  | [] => []
  | x :: l => insS x (sortSet l)
theorem insS_mem {x k : Int} : ∀ {l : List Int}, k ∈ insS x l ↔ k = x ∨ k ∈ l
  | [] => by simp [insS]
  | y :: l => by
    unfold insS
    split
    · simp
    · split
      · rename_i h; subst h; simp
      · rw [List.mem_cons, insS_mem (l := l), List.mem_cons]
        constructor
        · rintro (h | h | h)
          · exact .inr (.inl h)
          · exact .inl h
          · exact .inr (.inr h)
        · rintro (h | h | h)
          · exact .inr (.inl h)
          · exact .inl h
          · exact .inr (.inr h)
theorem sortSet_mem {k : Int} : ∀ {l : List Int}, k ∈ sortSet l ↔ k ∈ l
  | [] => Iff.rfl
  | x :: l => by unfold sortSet; rw [insS_mem, sortSet_mem (l := l), List.mem_cons]
theorem insS_pw {x : Int} : ∀ {l : List Int}, l.Pairwise (· < ·) → (insS x l).Pairwise (· < ·)
  | [], _ => by simp [insS]
  | y :: l, h => by
    unfold insS
    split
    · rename_i hx
      exact List.pairwise_cons.mpr ⟨fun z hz => by
        rcases List.mem_cons.mp hz with rfl | hz
        · exact hx
        · exact Int.lt_trans hx ((List.pairwise_cons.mp h).1 z hz), h⟩
    · split
      · exact h
      · rename_i h1 h2
        refine List.pairwise_cons.mpr ⟨fun z hz => ?_, insS_pw (List.pairwise_cons.mp h).2⟩
        rcases insS_mem.mp hz with rfl | hz
        · omega
        · exact (List.pairwise_cons.mp h).1 z hz
theorem sortSet_pw : ∀ {l : List Int}, (sortSet l).Pairwise (· < ·)
  | [] => List.Pairwise.nil
  | x :: l => insS_pw sortSet_pw
/-- rising lists with the same members are the same -/
theorem pw_uni : ∀ {a b : List Int}, a.Pairwise (· < ·) → b.Pairwise (· < ·) → (∀ k, k ∈ a ↔ k ∈ b) → a = b
  | [], [], _, _, _ => rfl
  | [], y :: b, _, _, h => absurd ((h y).mpr List.mem_cons_self) (by simp)
  | x :: a, [], _, _, h => absurd ((h x).mp List.mem_cons_self) (by simp)
  | x :: a, y :: b, ha, hb, h => by
    have ha := List.pairwise_cons.mp ha
    have hb := List.pairwise_cons.mp hb
    have hxy : x = y := by
      rcases List.mem_cons.mp ((h x).mp List.mem_cons_self) with e | e
      · exact e
      · rcases List.mem_cons.mp ((h y).mpr List.mem_cons_self) with e2 | e2
        · exact e2.symm
        · have := hb.1 x e; have := ha.1 y e2; omega
    subst hxy
    rw [pw_uni ha.2 hb.2 fun k => ?_]
    constructor
    · intro hk
      rcases List.mem_cons.mp ((h k).mp (List.mem_cons_of_mem _ hk)) with e | e
      · have := ha.1 k hk; omega
      · exact e
    · intro hk
      rcases List.mem_cons.mp ((h k).mpr (List.mem_cons_of_mem _ hk)) with e | e
      · have := hb.1 k hk; omega
      · exact e
section
variable {X : Cx} {K : KT} {ξ : Xi} {W : WX} {N : MS} {ζ : List Addr} {μ : Store} {M : MS} {H : Hp} {σr : L2.St} {σ : Sl} {e e2' : Expr} {es : List Expr} {fa fb : ME} {fs : Sl → Store → R (List Val)} {pos : Pos}
end
end PM
/-! PM30: sorted(set(xs)), ints -/
namespace PM
open PySem PySem.Spec PyProof.Rows L2
open WD (MS upd_none)
def setOk (l : List PV) : Option (List PV) := (numsOf l).bind fun ns => if ns.length ≤ 4000 ∧ (sortSet ns).length < 64 then some ((sortSet ns).map .int) else none
def sortSetF : List PV → Option (List PV)
  | [.lst l] => setOk l
  | [.tup l] => setOk l
  | [.ktp l] => setOk l
  | _ => none
section
variable {X : Cx} {K : KT} {ξ : Xi} {W : WX} {N : MS} {ζ : List Addr} {μ : Store} {M : MS} {H : Hp} {σr : L2.St} {σ : Sl} {e : Expr} {es : List Expr} {fa : ME} {fs : Sl → Store → R (List Val)} {pos : Pos}
theorem set_read {w : World} {xs : List V} {Q : VK} (h : rPFN K sortSetF xs H Q) : WD.rSetI2 K.fr w xs H fun v H2 => rSortedSet w [v] H2 Q := by
  obtain ⟨M, ds, d, hv, fr, e, g⟩ := h
  have key : ∀ (p : Addr) (l : List PV) (vs : List V), setOk l = some d → rvs K M H vs l → (∀ ns : List Int, vs = ns.map V.int → SqL K.fr H p (ns.map V.int) ∨ SqT K.fr H p (ns.map V.int)) → WD.rSetI2 K.fr w [.ref p] H fun v H2 => rSortedSet w [v] H2 Q := by
    intro p l vs e r hq
    unfold setOk at e
    cases en : numsOf l with
    | none => rw [en] at e; cases e
    | some ns =>
      rw [en] at e
      have e' : (if ns.length ≤ 4000 ∧ (sortSet ns).length < 64 then some ((sortSet ns).map PV.int) else none) = some d := e
      split at e'
      · rename_i hl
        cases e'
        have z := rvs_nums r en
        refine ⟨p, ns, rfl, hq ns z, hl.1, fun a c ha hc => ⟨a, fun j => decide (j ∈ ns), c, rfl, upd_same, by rw [hc (sortSet ns) (sortSet_pw.imp fun h => Int.ne_of_lt h) fun k => sortSet_mem]; exact hl.2, fun ms q hs hm hlen hq2 => ?_⟩⟩
        have es : ms = sortSet ns := pw_uni hs sortSet_pw fun k => by rw [hm k, decide_eq_true_eq, sortSet_mem]
        rw [es]
        have qa : q ≠ a := fun z => by rw [z, upd_same] at hq2; cases hq2
        have hq3 : H q = none := by rw [upd_ne qa] at hq2; exact hq2
        exact g _ q _ (fun b u hb => by
          have ba : b ≠ a := fun z => by rw [z, ha] at hb; cases hb
          have bq : b ≠ q := fun z => by rw [z, hq3] at hb; cases hb
          rw [upd_ne bq, upd_ne ba]; exact hb) hq3 upd_same (rvs_ints _)
      · cases e'
  unfold sortSetF at e
  split at e
  · obtain ⟨v, rfl, h1⟩ := vvs1 hv
    obtain ⟨p, vs, rfl, g1, r1⟩ := h1
    exact key p _ vs e r1 fun ns z => .inl (by rw [← z]; exact SqL.of g1)
  · obtain ⟨v, rfl, h1⟩ := vvs1 hv
    obtain ⟨p, vs, rfl, _, g1, r1⟩ := (h1 : rv K M H v (.tup _))
    exact key p _ vs e r1 fun ns z => .inr (by rw [← z]; exact SqT.of g1)
  · obtain ⟨v, rfl, h1⟩ := vvs1 hv
    obtain ⟨p, vs, rfl, g1, r1⟩ := (rv_ktp.mp h1)
    exact key p _ vs e r1 fun ns z => .inr (by rw [← z]; exact g1.sq)
  · cases e
theorem f_sortSet {p p2 q : Pos} (hc : X.calm = true) (hg : Gl X "sorted") (hm : X.mg "sorted" = none) (hg2 : Gl X "set") (hm2 : X.mg "set" = none) (ha : IA K ξ W X [e] fs) (hK : X.K = K := by rfl)
    (hs : starEach [e] X.env = (false, eval e X.env) :: starEach [] X.env := by rfl) (hs2 : starEach [.Call (.Name "set" p2) [e] [] q] X.env = (false, eval (.Call (.Name "set" p2) [e] [] q) X.env) :: starEach [] X.env := by rfl) :
    IF K ξ W X (.Call (.Name "sorted" p) [.Call (.Name "set" p2) [e] [] q] [] pos) (eN (pfN sortSetF) fs) := by
  obtain ⟨K, Kt⟩ := K; obtain rfl : X.K = K := hK
  refine PE.of (pe_callB (cr_sortedSet hc) hg hm WD.bt_sorted (pa_cons (pe_callTy (WD.cr_setI2 hc) hg2 hm2 boot_set ha (by decide) (by decide) hs rfl) pa_nil hs2) (by decide) (by decide) hs2 rfl) fun σr H Q q => ?_
  obtain ⟨N, ζ, μ, σ, wd, so, q⟩ := q
  refine (thenNF wd so q).mono fun xs H1 ⟨ζ1, μ1, ws, ev1, wd1, so1, r1, q1⟩ => set_read (read_pfN wd1 r1 q1)
end
end PM
/-! PM31: dict(pairs), whole-number or text keys -/
namespace PM
open PySem PySem.Spec PyProof.Rows L2
open WD (MS upd_none)
section
variable {X : Cx} {K : KT} {ξ : Xi} {W : WX} {N : MS} {ζ : List Addr} {μ : Store} {M : MS} {H : Hp} {σr : L2.St} {σ : Sl} {e : Expr} {fa : ME} {p pos : Pos}
end
end PM
/-! PM32: dict(pairs), keys that are tuples -/
namespace PM
open PySem PySem.Spec PyProof.Rows L2
open WD (MS upd_none putsT)
def dmergeT : List PV → List PV → List PV → Option (List PV × List PV)
  | [], ks, vs => some (ks, vs)
  | .tup [.tup k, d] :: l, ks, vs => if (keysOf k).isSome then dmergeT l (dput ks vs (.tup k) d).1 (dput ks vs (.tup k) d).2 else none
  | _, _, _ => none
def gDictT (w : Val) (μ : Store) : R Val := match view μ w with
  | some (.lst l) => (match dmergeT l [] [] with
    | some (ks, vs) => .ok (.c μ.length) (μ ++ [some (.dic true ks vs)])
    | none => .stuck)
  | _ => .stuck
section
variable {X : Cx} {K : KT} {ξ : Xi} {W : WX} {N : MS} {ζ : List Addr} {μ : Store} {M : MS} {H : Hp} {σr : L2.St} {σ : Sl} {e : Expr} {fa : ME} {p pos : Pos}
abbrev ktPV : List Key → PV := fun k => PV.tup (k.map kPV)
theorem mergeT_ok : ∀ {l : List PV} {us : List V} {kl : List (List Key)} {vs : List V} {ds ks' ds' : List PV}, kl.length = vs.length → rvs K M H vs ds → (∀ k ∈ kl, ∀ z ∈ k, kOk z) → dmergeT l (kl.map ktPV) ds = some (ks', ds') → rvs K M H us l →
    ∃ (ps : List Addr) (kvs : List (List Key × Addr × V)) (kl' : List (List Key)) (vs' : List V), us = ps.map V.ref ∧ Paired (fun p q => SqT K.fr H p [.ref q.2.1, q.2.2] ∧ H q.2.1 = some (.tup (q.1.map kV))) ps kvs ∧ putsT (kl.zip vs) kvs = kl'.zip vs' ∧ ks' = kl'.map ktPV ∧ kl'.length = vs'.length ∧ rvs K M H vs' ds' ∧ ∀ k ∈ kl', ∀ z ∈ k, kOk z
  | [], us, kl, vs, ds, ks', ds', hl, r, ho, e, ru => by
    have e' : some (kl.map ktPV, ds) = some (ks', ds') := by rw [← e]; unfold dmergeT; rfl
    cases e'
    have hu : us = [] := List.length_eq_zero_iff.mp (rvs_len ru)
    subst hu
    exact ⟨[], [], kl, vs, rfl, .nil, rfl, rfl, hl, r, ho⟩
  | x :: l, us, kl, vs, ds, ks', ds', hl, r, ho, e, ru => by
    cases us with
    | nil => unfold rvs at ru; exact ru.elim
    | cons u us =>
      rw [rvs_cons] at ru
      cases x with
      | tup t =>
        match t, e, ru with
        | [], e, _ => simp [dmergeT] at e
        | [_], e, _ => simp [dmergeT] at e
        | _ :: _ :: _ :: _, e, _ => simp [dmergeT] at e
        | [k0, d], e, ru =>
          cases k0 with
          | tup k =>
            rw [dmergeT] at e
            split at e
            · rename_i hk
              obtain ⟨key, hkey⟩ := Option.isSome_iff_exists.mp hk
              have ek := keysOf_some hkey
              subst ek
              obtain ⟨p0, ws, rfl, _, h2, h3⟩ := rv_tup.mp ru.1
              obtain ⟨kv, dv, rfl, hkv, hdv⟩ : ∃ kv dv, ws = [kv, dv] ∧ rv K M H kv (.tup (key.map kPV)) ∧ rv K M H dv d := by
                match ws, rvs_len h3, h3 with
                | [a, b], _, h3 =>
                  rw [rvs_cons, rvs_cons] at h3
                  exact ⟨a, b, rfl, h3.1, h3.2.1⟩
              obtain ⟨ka, kws, rfl, _, k2, k3⟩ := rv_tup.mp hkv
              obtain ⟨rfl, hko⟩ := kVs_of k3
              obtain ⟨kl1, vs1, g1, g2, g3, g4, g5⟩ := dput_ok (κ := List Key) (φ := ktPV) (P := fun k => ∀ z ∈ k, kOk z) keyEq_t (k := key) hdv hl r ho hko
              have g2' : (dput (kl.map ktPV) ds (.tup (key.map kPV)) d).1 = kl1.map ktPV := g2
              rw [g2'] at e
              obtain ⟨ps, kvs, kl', vs', f1, f2, f3, f4, f5, f6, f7⟩ := mergeT_ok g3 g4 g5 e ru.2
              refine ⟨p0 :: ps, (key, ka, dv) :: kvs, kl', vs', by rw [f1]; rfl, .cons ⟨SqT.of h2, k2⟩ f2, ?_, f4, f5, f6, f7⟩
              show putsT (putK (kl.zip vs) key dv) kvs = _
              rw [g1]
              exact f3
            · cases e
          | _ => simp [dmergeT] at e
      | _ => simp [dmergeT] at e
theorem i_dictT (hc : X.calm = true) (hu : X.A.units + 64 < cLine) (hg : Gl X "dict") (hm : X.mg "dict" = none) (he : IE K ξ W X e fa) (hK : X.K = K := by rfl) (hs : starEach [e] X.env = (false, eval e X.env) :: starEach [] X.env := by rfl) :
    IE K ξ W X (.Call (.Name "dict" p) [e] [] pos) (e1 gDictT fa) := by
  obtain ⟨K, Kt⟩ := K; obtain rfl : X.K = K := hK
  refine PE.of (pe_callTy (WD.call_dictT hc hu) hg hm WD.bt_dict (pa_cons he pa_nil hs) (by decide) (by decide) hs (by rfl)) fun σr H Q q => ?_
  obtain ⟨N, ζ, μ, σ, wd, so, q⟩ := q
  refine (then1 wd so q).mono fun x H1 ⟨ζ1, μ1, w1, ev1, wd1, so1, r1, q1⟩ => ?_
  unfold gDictT at q1
  split at q1
  · rename_i l e1
    split at q1
    · rename_i ks ds e2
      obtain ⟨a, us, rfl, ha, ru⟩ := r1.view wd1 e1
      obtain ⟨ps, kvs, kl, vs, rfl, pr, em, rfl, hl, r2, ho⟩ := mergeT_ok (kl := []) (vs := []) (ds := []) rfl rvs_nil (fun _ z => nomatch z) e2 ru
      refine ⟨a, ps, kvs, rfl, SqL.of ha, pr, fun q hq => ?_⟩
      have em' : putsT [] kvs = kl.zip vs := em
      rw [em']
      have hd : DicR true (upd H1 q (.dT (kl.zip vs))) q (kl.map ktPV) vs := ⟨kl, rfl, hl, ho, upd_same⟩
      have w := wd1.aside (a := q) (H' := upd H1 q (.dT (kl.zip vs))) (Grow.upd hq) hq ⟨_, upd_same, rfl, rfl⟩
      have r3 : rvs ⟨X.K, Kt⟩ (MM (WD.plus N q) ζ1 μ1) (upd H1 q (.dT (kl.zip vs))) vs ds := rvs_st (fun b nb ne z => by
        rcases z with z | z | z
        · exact nb (.inl z)
        · exact nb (.inr z)
        · exact ne (nn_none (by rw [z]; exact hq))) (fun b o _ _ e => Grow.upd hq b o e) ds vs r2
      refine q1 (ζ1 ++ [q]) _ _ ⟨fun k b hb => ?_, Fr.new hq, fun b hb => ?_⟩ (w.push (fun z => (wd1.nd q z).2.ne hq) ⟨vs, hd, r3⟩) ⟨q, by rw [← wd1.len, List.getElem?_append_right (Nat.le_refl _), Nat.sub_self]; rfl, rfl⟩
      · rw [List.getElem?_append_left (List.getElem?_eq_some_iff.mp hb).1]
        exact hb
      · rcases (Mof_snoc wd1.len b).mp hb with z | z
        · exact .inl z
        · exact .inr (nn_none (by rw [z]; exact hq))
    · exact q1.elim
  · exact q1.elim
end
end PM
/-! PM42: sorted(t), t a tuple of ints -/
namespace PM
open PySem PySem.Spec PyProof.Rows L2
open WD (MS upd_none)
def sortedTF : List PV → Option (List PV)
  | [.tup l] => (intsOf l).map fun ns => (sortI ns).map .int
  | [.ktp l] => (intsOf l).map fun ns => (sortI ns).map .int
  | _ => none
theorem sortI_of {ns ns' : List Int} (hp : ns'.Perm ns) (hs : ns'.Pairwise (· ≤ ·)) : sortI ns = ns' := by
  refine perm_sorted_eq ((List.mergeSort_perm _ _).trans hp.symm) ?_ hs
  have := List.pairwise_mergeSort (le := fun (a b : Int) => decide (a ≤ b)) (fun a b c h1 h2 => by simp only [decide_eq_true_eq] at *; omega) (fun a b => by simp only [Bool.or_eq_true, decide_eq_true_eq]; omega) ns
  exact this.imp fun h => of_decide_eq_true h
section
variable {X : Cx} {K : KT}
theorem cr_sortedTF (hK : X.K = K := by rfl) : CallR X (.builtin "sorted") (rPFN K sortedTF) := by
  obtain ⟨K, Kt⟩ := K; obtain rfl : X.K = K := hK
  intro pins s σ H xs us Q I r h
  obtain ⟨M, ds, d, hv, fr, e, g⟩ := h
  unfold sortedTF at e
  split at e
  · obtain ⟨ns, e1, e2⟩ := Option.map_eq_some_iff.mp e
    subst e2
    obtain ⟨v, rfl, h1⟩ := vvs1 hv
    obtain ⟨p, vs, rfl, _, g1, r1⟩ := (h1 : rv ⟨X.K, Kt⟩ M H v (.tup _))
    have z := ints_vals r1 e1
    subst z
    refine WD.cr_sortedTI pins s σ H _ us Q I r ⟨p, ns, rfl, SqT.of g1, fun ns' q hp hs hq => ?_⟩
    have es := sortI_of hp hs
    rw [es] at g
    exact g.lst (rvs_ints ns') hq
  · obtain ⟨ns, e1, e2⟩ := Option.map_eq_some_iff.mp e
    subst e2
    obtain ⟨v, rfl, h1⟩ := vvs1 hv
    obtain ⟨p, vs, rfl, g1, r1⟩ := (rv_ktp (K := ⟨X.K, Kt⟩) (M := M) (H := H)).mp h1
    have z := ints_vals r1 e1
    subst z
    refine WD.cr_sortedTI pins s σ H _ us Q I r ⟨p, ns, rfl, g1.sq, fun ns' q hp hs hq => ?_⟩
    have es := sortI_of hp hs
    rw [es] at g
    exact g.lst (rvs_ints ns') hq
  · cases e
end
end PM
/-! PM39: for .. in enumerate(a list that may change, but that is walked as it stands at each turn; or a datum) -/
namespace PM
open PySem PySem.Spec PyProof.Rows L2
open WD (MS upd_none)
theorem PS.pick {X : Cx} {s : Stmt} {t' : TS} (k : ∀ D σ H, t' D σ H → ∃ t, PS X s t ∧ t D σ H) : PS X s t' := ⟨fun pins s σ H D I q => let ⟨_, h, q'⟩ := k D σ H q; h.run pins s σ H D I q'⟩
section
variable {X : Cx} {K : KT} {ξ : Xi} {W : WX} {tg e : Expr} {T : Tgt} {B : MSt} {fs : Sl → Store → R (List Val)} {pos : Pos}
end
section
variable {T : Tgt} {B : MSt} {n k : Nat} {fs : Sl → Store → R (List Val)} {σ : Sl} {μ : Store} {d : PV}
@[simp] theorem gCall_3tc {fn : Fn} {j : Nat} {e f : PV} : gCall 3 fn [.t e, .c j, .t f] μ = fn [.t e, .c j, .t f] μ := (rfl)
@[simp] theorem gCall_4tc {fn : Fn} {j : Nat} {e f g : PV} : gCall 4 fn [.t e, .c j, .t f, .t g] μ = fn [.t e, .c j, .t f, .t g] μ := (rfl)
end
end PM
/-! PM43: a list that changes is lent as a datum to an expression that tells no list; tuples that hold things that change -/
namespace PM
open PySem PySem.Spec PyProof.Rows L2
open WD (MS upd_none)
mutual
/-- no list is within -/
def lfree : PV → Bool
  | .lst _ => false
  | .tup l => lfrees l
  | .ktp l => lfrees l
  | .dic _ _ vs => lfrees vs
  | .obj _ _ vs => lfrees vs
  | .non => true
  | .bl _ => true
  | .int _ => true
  | .str _ => true
def lfrees : List PV → Bool
  | [] => true
  | d :: ds => lfree d && lfrees ds
end
def lfFl : Fl → Bool
  | .t d => lfree d
  | .c _ => true
def lfCell : Cell → Bool
  | .lst ds => lfrees ds
  | .dic _ _ vs => lfrees vs
  | .ob _ _ fs => fs.all lfFl
def lfStore (μ : Store) : Bool := μ.all fun x => match x with
  | none => true
  | some c => lfCell c
def lfVal : Val → Bool
  | .t d => lfree d
  | .c _ => true
  | .g _ fs => fs.all lfFl
  | _ => false
def lfExc : Option (Str × PV) → Bool
  | none => true
  | some (_, d) => lfree d
section
variable {K : KT} {M M' : MS} {H : Hp} {a : Addr} {vs0 : List V}
mutual
theorem lfree_rv (ha : H a = some (.lst vs0)) (hM : ∀ b, M' b → M b ∨ b = a) : ∀ (d : PV) (v : V), lfree d = true → rv K M H v d → rv K M' H v d
  | .non, v, _, h => by rw [rv_non] at h ⊢; exact h
  | .bl b, v, _, h => by rw [rv_bl] at h ⊢; exact h
  | .int i, v, _, h => by rw [rv_int] at h ⊢; exact h
  | .str x, v, _, h => by rw [rv_str] at h ⊢; exact h
  | .lst l, v, e, h => by unfold lfree at e; cases e
  | .tup l, v, e, h => by
    unfold lfree at e
    rw [rv_tup] at h ⊢
    obtain ⟨b, vs, h1, h2, h3, h4⟩ := h
    exact ⟨b, vs, h1, fun z => (hM b z).elim h2 fun z => (by rw [z, ha] at h3; cases h3), h3, lfree_rvs ha hM l vs e h4⟩
  | .ktp l, v, e, h => by
    unfold lfree at e
    rw [rv_ktp] at h ⊢
    obtain ⟨b, vs, h1, h2, h3⟩ := h
    refine ⟨b, vs, h1, ?_, lfree_rvs ha hM l vs e h3⟩
    rcases h2 with ⟨h4, o, h5, h6⟩ | h2
    · exact .inl ⟨fun z => (hM b z).elim h4 fun z => (by rw [z, ha] at h5; cases h5), o, h5, h6⟩
    · exact .inr h2
  | .dic k ks l, v, e, h => by
    unfold lfree at e
    rw [rv_dic] at h ⊢
    obtain ⟨b, vs, h1, h2, h3, h4⟩ := h
    refine ⟨b, vs, h1, fun z => (hM b z).elim h2 fun z => ?_, h3, lfree_rvs ha hM l vs e h4⟩
    cases k <;> obtain ⟨_, _, _, _, g⟩ := h3 <;> (rw [z, ha] at g; cases g)
  | .obj C ns l, v, e, h => by
    unfold lfree at e
    rw [rv_obj] at h ⊢
    obtain ⟨b, dx, vs, h1, h2, h3, h4, h5, h6, h7⟩ := h
    exact ⟨b, dx, vs, h1, fun z => (hM b z).elim h2 fun z => (by rw [z, ha] at h4; cases h4), fun z => (hM dx z).elim h3 fun z => (by rw [z, ha] at h5; cases h5), h4, h5, h6, lfree_rvs ha hM l vs e h7⟩
theorem lfree_rvs (ha : H a = some (.lst vs0)) (hM : ∀ b, M' b → M b ∨ b = a) : ∀ (ds : List PV) (vs : List V), lfrees ds = true → rvs K M H vs ds → rvs K M' H vs ds
  | [], [], _, _ => rvs_nil
  | d :: ds, v :: vs, e, h => by
    unfold lfrees at e
    rw [Bool.and_eq_true] at e
    rw [rvs_cons] at h ⊢
    exact ⟨lfree_rv ha hM d v e.1 h.1, lfree_rvs ha hM ds vs e.2 h.2⟩
  | [], _ :: _, _, h => by unfold rvs at h; exact h.elim
  | _ :: _, [], _, h => by unfold rvs at h; exact h.elim
end
theorem lfFl_FRs {ζ : List Addr} (ha : H a = some (.lst vs0)) (hM : ∀ b, M' b → M b ∨ b = a) : ∀ {fs : List Fl} {vs : List V}, fs.all lfFl = true → FRs K ζ M H vs fs → FRs K ζ M' H vs fs
  | [], [], _, _ => trivial
  | .t d :: fs, v :: vs, e, h => by
    rw [List.all_cons, Bool.and_eq_true] at e
    exact ⟨lfree_rv ha hM d v e.1 h.1, lfFl_FRs ha hM e.2 h.2⟩
  | .c k :: fs, v :: vs, e, h => by
    rw [List.all_cons, Bool.and_eq_true] at e
    exact ⟨h.1, lfFl_FRs ha hM e.2 h.2⟩
  | [], _ :: _, _, h => h.elim
  | _ :: _, [], _, h => h.elim
theorem lfCell_R {ζ : List Addr} {b : Addr} {c : Cell} (ha : H a = some (.lst vs0)) (hM : ∀ b, M' b → M b ∨ b = a) (e : lfCell c = true) (h : cellR K ζ M H b c) : cellR K ζ M' H b c := by
  cases c with
  | lst ds => obtain ⟨vs, g, r⟩ := h; exact ⟨vs, g, lfree_rvs ha hM _ _ e r⟩
  | dic k ks ds => obtain ⟨vs, g, r⟩ := h; exact ⟨vs, g, lfree_rvs ha hM _ _ e r⟩
  | ob C ns fs => obtain ⟨dx, vs, nd, g, g2, l, r⟩ := h; exact ⟨dx, vs, fun z => (hM dx z).elim nd fun z => (by rw [z, ha] at g2; cases g2), g, g2, l, lfFl_FRs ha hM e r⟩
theorem lfVal_RV {ζ : List Addr} {ξ : Xi} {v : V} : ∀ {w : Val}, H a = some (.lst vs0) → (∀ b, M' b → M b ∨ b = a) → lfVal w = true → RV K ξ ζ M H v w → RV K ξ ζ M' H v w
  | .t d, ha, hM, e, h => lfree_rv ha hM d v e h
  | .c _, _, _, _, h => h
  | .g .tup fs, ha, hM, e, ⟨b, vs, h1, h2, h3, h4⟩ => ⟨b, vs, h1, fun z => (hM b z).elim h2 fun z => (by rw [z, ha] at h3; cases h3), h3, lfFl_FRs ha hM e h4⟩
  | .g .two fs, ha, hM, e, ⟨b, b2, x, y, z, h1, h2, h3, h4, h5, h6⟩ => ⟨b, b2, x, y, z, h1, fun q => (hM b q).elim h2 fun q => (by rw [q, ha] at h4; cases h4), fun q => (hM b2 q).elim h3 fun q => (by rw [q, ha] at h5; cases h5), h4, h5, lfFl_FRs ha hM e h6⟩
  | .g (.ob C ns) fs, ha, hM, e, ⟨b, dx, vs, h1, h2, h3, h4, h5, h6, h7⟩ => ⟨b, dx, vs, h1, fun z => (hM b z).elim h2 fun z => (by rw [z, ha] at h4; cases h4), fun z => (hM dx z).elim h3 fun z => (by rw [z, ha] at h5; cases h5), h4, h5, h6, lfFl_FRs ha hM e h7⟩
  | .x _ _, _, _, e, _ => by cases e
  | .s _, _, _, e, _ => by cases e
  | .self, _, _, e, _ => by cases e
  | .lam _ _, _, _, e, _ => by cases e
theorem lfExc_XR {d : Option Addr} : ∀ {f : Option (Str × PV)}, H a = some (.lst vs0) → (∀ b, M' b → M b ∨ b = a) → lfExc f = true → XR K M H d f → XR K M' H d f
  | none, _, _, _, h => h
  | some (n, p), ha, hM, e, ⟨dd, v, h1, h2, h3, h4⟩ => ⟨dd, v, h1, fun z => (hM dd z).elim h2 fun z => (by rw [z, ha] at h3; cases h3), h3, lfree_rv ha hM p v e h4⟩
end

/-! ### lending -/
/-- the cell that a tuple holds -/
def cellOf : List Fl → Option Nat
  | [] => none
  | .t _ :: fs => cellOf fs
  | .c k :: _ => some k
def fillC (k : Nat) (items : List PV) : List Fl → Option (List PV)
  | [] => some []
  | .t d :: fs => (fillC k items fs).map (d :: ·)
  | .c j :: fs => if j = k then (fillC k items fs).map (.lst items :: ·) else none
def lendV (μ : Store) : Val → Option (PV × Nat × List PV)
  | .c k => (match μ[k]? with
    | some (some (.lst items)) => some (.lst items, k, items)
    | _ => none)
  | .g .tup fs => (cellOf fs).bind fun k => match μ[k]? with
    | some (some (.lst items)) => (fillC k items fs).map fun l => (.tup l, k, items)
    | _ => none
  | .g .two fs => (cellOf fs).bind fun k => match μ[k]? with
    | some (some (.lst items)) => (fillC k items fs).map fun l => (.tup [l.getD 0 .non, .tup (l.drop 1)], k, items)
    | _ => none
  | _ => none
theorem cellOf_mem {k : Nat} : ∀ {fs : List Fl}, cellOf fs = some k → Fl.c k ∈ fs
  | [], e => by cases e
  | .t d :: fs, e => List.mem_cons_of_mem _ (cellOf_mem (fs := fs) e)
  | .c j :: fs, e => by cases e; exact List.mem_cons_self
def backE (k : Nat) (items : List PV) : R Val → R Val
  | .ok w μ => if lfVal w && lfStore μ then .ok w (μ.set k (some (.lst items))) else .stuck
  | .ex c f μ => if lfExc f && lfStore μ then .ex c f (μ.set k (some (.lst items))) else .stuck
  | .stuck => .stuck
def eLend (j : Nat) (f : ME) : ME := fun σ μ => match σ[j]? with
  | some (some (.t _)) => f σ μ
  | some (some w) => (match lendV μ w with
    | some (d, k, items) => backE k items (f (σ.set j (some (.t d))) (μ.set k none))
    | none => .stuck)
  | _ => .stuck
section
variable {X : Cx} {K : KT} {ξ : Xi} {W : WX} {N : MS} {ζ ζ1 : List Addr} {μ μ1 : Store} {H H1 : Hp} {σr : L2.St} {σ : Sl} {e : Expr} {f : ME} {v : V}
theorem dead_sub {k : Nat} : ∀ x, MM N ζ (μ.set k none) x → MM N ζ μ x := fun x z => z.elim (fun z => .inl (Mof_dead x z)) .inr
/-- a thing that changes is let go -/
theorem Wd.kill {k : Nat} (wd : Wd K N ζ μ H) : Wd K N ζ (μ.set k none) H :=
  ⟨by rw [List.length_set]; exact wd.len, fun i j b c c' h1 h2 h3 h4 => wd.inj i j b c c' h1 h2 (dead_live h3).1 (dead_live h4).1,
   fun j c' b h1 h2 => (wd.cell j c' b (dead_live h1).1 h2).st (fun _ _ h => h) (fun x n _ z => n (dead_sub x z)) (fun _ _ _ _ e => e) (fun _ _ e => e),
   fun b hb => ⟨fun z => (wd.nd b hb).1 (Mof_dead b z), (wd.nd b hb).2⟩, wd.tb⟩
theorem dead_not {k : Nat} {a : Addr} {c : Cell} (wd : Wd K N ζ μ H) (hk : μ[k]? = some (some c)) (ha : ζ[k]? = some a) : ¬ MM N ζ (μ.set k none) a := fun z => by
  rcases z with ⟨j, d, h1, h2⟩ | z
  · obtain ⟨h3, h4⟩ := dead_live h2
    exact h4 (wd.inj j k a d c h1 ha h3 hk)
  · exact (wd.nd a z).1 ⟨k, c, ha, hk⟩
theorem fill_rvs {k : Nat} {a : Addr} {items : List PV} {vs0 : List V} {M M' : MS} (sub : ∀ x, M' x → M x) (ha : ζ[k]? = some a) (nM : ¬ M' a) (hv : H a = some (.lst vs0)) (r0 : rvs K M' H vs0 items) : ∀ {fs : List Fl} {vs : List V} {l : List PV}, FRs K ζ M H vs fs → fillC k items fs = some l → rvs K M' H vs l
  | [], [], l, _, e => by cases e; exact rvs_nil
  | .t d :: fs, v :: vs, l, h, e => by
    obtain ⟨l', e1, rfl⟩ := Option.map_eq_some_iff.mp e
    exact rvs_cons.mpr ⟨rv_wk sub h.1, fill_rvs sub ha nM hv r0 h.2 e1⟩
  | .c j :: fs, v :: vs, l, h, e => by
    unfold fillC at e
    split at e
    · rename_i hj
      obtain ⟨l', e1, rfl⟩ := Option.map_eq_some_iff.mp e
      obtain ⟨⟨b, h1, h2⟩, h3⟩ := h
      rw [hj, ha] at h1
      cases h1
      exact rvs_cons.mpr ⟨rv_lst.mpr ⟨a, vs0, h2, nM, hv, r0⟩, fill_rvs sub ha nM hv r0 h3 e1⟩
    · cases e
  | [], _ :: _, _, h, _ => h.elim
  | _ :: _, [], _, h, _ => h.elim
theorem lend_rv {w : Val} {d : PV} {k : Nat} {items : List PV} (wd : Wd K N ζ μ H) (r : RV K ξ ζ (MM N ζ μ) H v w) (e : lendV μ w = some (d, k, items)) :
    μ[k]? = some (some (.lst items)) ∧ ∃ a, ζ[k]? = some a ∧ rv K (MM N ζ (μ.set k none)) H v d := by
  have key : ∀ {k : Nat} {items : List PV} {a : Addr}, μ[k]? = some (some (.lst items)) → ζ[k]? = some a → ∃ vs0, H a = some (.lst vs0) ∧ ¬ MM N ζ (μ.set k none) a ∧ rvs K (MM N ζ (μ.set k none)) H vs0 items := fun {k items a} hk ha => by
    obtain ⟨vs0, g1, g2⟩ := wd.cell k _ a hk ha
    exact ⟨vs0, g1, dead_not wd hk ha, rvs_wk dead_sub g2⟩
  unfold lendV at e
  split at e
  · rename_i k'
    split at e
    · rename_i items' hk
      cases e
      obtain ⟨a, ha, rfl⟩ := r
      obtain ⟨vs0, g1, g2, g3⟩ := key hk ha
      exact ⟨hk, a, ha, rv_lst.mpr ⟨a, vs0, rfl, g2, g1, g3⟩⟩
    · cases e
  · rename_i fs
    obtain ⟨k', ek, e⟩ := Option.bind_eq_some_iff.mp e
    split at e
    · rename_i items' hk
      obtain ⟨l, el, e⟩ := Option.map_eq_some_iff.mp e
      cases e
      obtain ⟨b, vs, h1, h2, h3, h4⟩ := r
      have cm : ∀ {fs : List Fl}, cellOf fs = some k → Fl.c k ∈ fs := fun {fs} => by
        induction fs with
        | nil => intro e; cases e
        | cons f fs ih =>
          intro e
          cases f with
          | t d => exact List.mem_cons_of_mem _ (ih e)
          | c j => cases e; exact List.mem_cons_self
      obtain ⟨a, ha⟩ := h4.c_at (cm ek)
      obtain ⟨vs0, g1, g2, g3⟩ := key hk ha
      exact ⟨hk, a, ha, rv_tup.mpr ⟨b, vs, h1, fun z => h2 (dead_sub b z), h3, fill_rvs dead_sub ha g2 g1 g3 h4 el⟩⟩
    · cases e
  · rename_i fs
    obtain ⟨k', ek, e⟩ := Option.bind_eq_some_iff.mp e
    split at e
    · rename_i items' hk
      obtain ⟨l, el, e⟩ := Option.map_eq_some_iff.mp e
      cases e
      obtain ⟨b, b2, x, y, z, h1, h2, h3, h4, h5, h6⟩ := r
      obtain ⟨a, ha⟩ := h6.c_at (cellOf_mem ek)
      obtain ⟨vs0, g1, g2, g3⟩ := key hk ha
      have rs := fill_rvs dead_sub ha g2 g1 g3 h6 el
      match l, rs with
      | [], rs => unfold rvs at rs; exact rs.elim
      | d0 :: l', rs =>
        obtain ⟨r0, r1⟩ := rvs_cons.mp rs
        exact ⟨hk, a, ha, rv_tup.mpr ⟨b, [x, .ref b2], h1, fun q => h2 (dead_sub b q), h4, rvs_cons.mpr ⟨r0, rvs_cons.mpr ⟨rv_tup.mpr ⟨b2, [y, z], rfl, fun q => h3 (dead_sub b2 q), h5, r1⟩, rvs_nil⟩⟩⟩⟩
    · cases e
  · cases e
theorem lfStore_at {k : Nat} {c : Cell} (h : lfStore μ = true) (hk : μ[k]? = some (some c)) : lfCell c = true := List.all_eq_true.mp h _ (List.mem_of_getElem? hk)
/-- what was lent comes back -/
theorem lend_back {k : Nat} {a : Addr} {items : List PV} (wd : Wd K N ζ μ H) (hk : μ[k]? = some (some (.lst items))) (ha : ζ[k]? = some a) (ev : Ev K.tb ζ (μ.set k none) H ζ1 μ1 H1) (wd1 : Wd K N ζ1 μ1 H1) (lf : lfStore μ1 = true) :
    (∃ vs0, H1 a = some (.lst vs0)) ∧ (∀ b, MM N ζ1 (μ1.set k (some (.lst items))) b → MM N ζ1 μ1 b ∨ b = a) ∧ Ev K.tb ζ μ H ζ1 (μ1.set k (some (.lst items))) H1 ∧ Wd K N ζ1 (μ1.set k (some (.lst items))) H1 := by
  obtain ⟨vs0, g1, g2⟩ := wd.cell k _ a hk ha
  have nd := dead_not wd hk ha
  have ha1 := ev.pre k a ha
  have hkl : k < μ1.length := by rw [← wd1.len]; exact (List.getElem?_eq_some_iff.mp ha1).1
  have g3 : H1 a = some (.lst vs0) := ev.fr.keep a _ rfl (fun z => nd (.inl z)) g1
  have nM1 : ¬ Mof ζ1 μ1 a := fun z => (ev.ml a z).elim (fun z => nd (.inl z)) fun z => (nnn (T := K.tb) g1) z
  have nN : ¬ N a := fun z => nd (.inr z)
  have live : ∀ {j : Nat} {d : Cell} {b : Addr}, ζ1[j]? = some b → (μ1.set k (some (.lst items)))[j]? = some (some d) → (j = k ∧ b = a ∧ d = .lst items) ∨ (j ≠ k ∧ μ1[j]? = some (some d)) := fun {j d b} h1 h2 => by
    by_cases e : k = j
    · subst e
      refine .inl ⟨rfl, by rw [ha1] at h1; exact (Option.some.inj h1).symm, ?_⟩
      rw [List.getElem?_set_self hkl] at h2
      exact (Option.some.inj (Option.some.inj h2)).symm
    · exact .inr ⟨fun z => e z.symm, by rw [List.getElem?_set_ne e] at h2; exact h2⟩
  have sub : ∀ b, MM N ζ1 (μ1.set k (some (.lst items))) b → MM N ζ1 μ1 b ∨ b = a := fun b z => by
    rcases z with ⟨j, d, h1, h2⟩ | z
    · rcases live h1 h2 with ⟨_, e, _⟩ | ⟨_, h3⟩
      · exact .inr e
      · exact .inl (.inl ⟨j, d, h1, h3⟩)
    · exact .inl (.inr z)
  have evB : Ev K.tb ζ μ H ζ1 (μ1.set k (some (.lst items))) H1 := by
    refine ⟨ev.pre, ⟨fun b o t n h => ev.fr.keep b o t (fun z => n (Mof_dead b z)) h, ev.fr.dom⟩, fun b h => ?_⟩
    obtain ⟨j, d, h1, h2⟩ := h
    rcases live h1 h2 with ⟨_, e, _⟩ | ⟨_, h3⟩
    · exact .inl ⟨k, _, by rw [e]; exact ha, hk⟩
    · exact (ev.ml b ⟨j, d, h1, h3⟩).imp (Mof_dead b) id
  refine ⟨⟨vs0, g3⟩, sub, evB, by rw [List.length_set]; exact wd1.len, fun i j b c1 c2 h1 h2 h3 h4 => ?_, fun j c b h1 h2 => ?_, fun b hb => ⟨fun ⟨j, d, h1, h2⟩ => ?_, (wd1.nd b hb).2⟩, wd1.tb⟩
  · rcases live h1 h3 with ⟨i1, b1, _⟩ | ⟨i1, q1⟩ <;> rcases live h2 h4 with ⟨j1, b2, _⟩ | ⟨j1, q2⟩
    · omega
    · exact absurd ⟨j, c2, by rw [← b1]; exact h2, q2⟩ nM1
    · exact absurd ⟨i, c1, by rw [← b2]; exact h1, q1⟩ nM1
    · exact wd1.inj i j b c1 c2 h1 h2 q1 q2
  · rcases live h2 h1 with ⟨rfl, rfl, rfl⟩ | ⟨_, q⟩
    · refine ⟨vs0, g3, ?_⟩
      exact evB.rvs (N := N) g2
    · exact lfCell_R g3 sub (lfStore_at lf q) (wd1.cell j c b q h2)
  · rcases live h1 h2 with ⟨_, e, _⟩ | ⟨_, q⟩
    · exact nN (e ▸ hb)
    · exact (wd1.nd b hb).1 ⟨j, d, h1, q⟩
theorem Sok.setR {M M' : MS} {j : Nat} {w w' : Val} (so : Sok K ξ ζ M H σr σ) (wk : ∀ {v : V} {w : Val}, RV K ξ ζ M H v w → RV K ξ ζ M' H v w) (hj : σ[j]? = some (some w)) (hr : ∀ v, RV K ξ ζ M H v w → RV K ξ ζ M' H v w') : Sok K ξ ζ M' H σr (σ.set j (some w')) := by
  refine ⟨by rw [List.length_set]; exact so.1, fun i u hu => ?_⟩
  by_cases e : j = i
  · subst e
    rw [List.getElem?_set_self (List.getElem?_eq_some_iff.mp hj).1] at hu
    cases hu
    obtain ⟨v, h1, h2⟩ := so.2 j w hj
    exact ⟨v, h1, hr v h2⟩
  · rw [List.getElem?_set_ne e] at hu
    obtain ⟨v, h1, h2⟩ := so.2 i u hu
    exact ⟨v, h1, wk h2⟩
theorem i_lend {j : Nat} (h : IE K ξ W X e f) : IE K ξ W X e (eLend j f) := PE.of h fun σr H Q q => by
  obtain ⟨N, ζ, μ, σ, wd, so, q⟩ := q
  unfold eLend at q
  split at q
  · exact ⟨N, ζ, μ, σ, wd, so, q⟩
  · rename_i w _ hw
    split at q
    · rename_i d k items el
      obtain ⟨v0, hv0, r0⟩ := so.2 j w hw
      obtain ⟨hk, a, ha, rd⟩ := lend_rv wd r0 el
      have wd' : Wd K N ζ (μ.set k none) H := wd.kill
      have so' : Sok K ξ ζ (MM N ζ (μ.set k none)) H σr (σ.set j (some (.t d))) := so.setR (fun r => r.st (fun _ _ h => h) (fun x n _ z => n (dead_sub x z)) (fun _ _ _ _ e => e)) hw fun v r => (lend_rv wd r el).2.elim fun _ z => z.2
      refine ⟨N, ζ, μ.set k none, σ.set j (some (.t d)), wd', so', ?_⟩
      cases ef : f (σ.set j (some (.t d))) (μ.set k none) with
      | stuck => rw [ef] at q; exact q
      | ok w2 μ2 =>
        rw [ef] at q
        simp only [backE] at q
        split at q
        · rename_i hc
          rw [Bool.and_eq_true] at hc
          intro ζ2 H2 v2 ev2 wd2 r2
          obtain ⟨⟨vs0, g⟩, sub, evB, wdB⟩ := lend_back wd hk ha ev2 wd2 hc.2
          exact q ζ2 H2 v2 evB wdB (lfVal_RV g sub hc.1 r2)
        · exact q.elim
      | ex c x μ2 =>
        rw [ef] at q
        simp only [backE] at q
        split at q
        · rename_i hc
          rw [Bool.and_eq_true] at hc
          intro ζ2 H2 d2 ev2 wd2 xr
          obtain ⟨⟨vs0, g⟩, sub, evB, wdB⟩ := lend_back wd hk ha ev2 wd2 hc.2
          exact q ζ2 H2 d2 evB wdB (lfExc_XR g sub hc.1 xr)
        · exact q.elim
    · exact q.elim
  · exact q.elim
end

/-- the same of a test -/
def backT (k : Nat) (items : List PV) : R Bool → R Bool
  | .ok b μ => if lfStore μ then .ok b (μ.set k (some (.lst items))) else .stuck
  | .ex c f μ => if lfExc f && lfStore μ then .ex c f (μ.set k (some (.lst items))) else .stuck
  | .stuck => .stuck
def tLend (j : Nat) (f : Sl → Store → R Bool) : Sl → Store → R Bool := fun σ μ => match σ[j]? with
  | some (some (.t _)) => f σ μ
  | some (some w) => (match lendV μ w with
    | some (d, k, items) => backT k items (f (σ.set j (some (.t d))) (μ.set k none))
    | none => .stuck)
  | _ => .stuck
theorem t_lend {X : Cx} {K : KT} {ξ : Xi} {W : WX} {e : Expr} {f : Sl → Store → R Bool} {j : Nat} (h : IT K ξ W X e f) : IT K ξ W X e (tLend j f) := PT.of h fun σr H Q q => by
  obtain ⟨N, ζ, μ, σ, wd, so, q⟩ := q
  unfold tLend at q
  split at q
  · exact ⟨N, ζ, μ, σ, wd, so, q⟩
  · rename_i w _ hw
    split at q
    · rename_i d k items el
      obtain ⟨v0, hv0, r0⟩ := so.2 j w hw
      obtain ⟨hk, a, ha, rd⟩ := lend_rv wd r0 el
      have wd' : Wd K N ζ (μ.set k none) H := wd.kill
      have so' : Sok K ξ ζ (MM N ζ (μ.set k none)) H σr (σ.set j (some (.t d))) := so.setR (fun r => r.st (fun _ _ h => h) (fun x n _ z => n (dead_sub x z)) (fun _ _ _ _ e => e)) hw fun v r => (lend_rv wd r el).2.elim fun _ z => z.2
      refine ⟨N, ζ, μ.set k none, σ.set j (some (.t d)), wd', so', ?_⟩
      cases ef : f (σ.set j (some (.t d))) (μ.set k none) with
      | stuck => rw [ef] at q; exact q
      | ok b μ2 =>
        rw [ef] at q
        simp only [backT] at q
        split at q
        · rename_i hc
          intro ζ2 H2 ev2 wd2
          obtain ⟨⟨vs0, g⟩, sub, evB, wdB⟩ := lend_back wd hk ha ev2 wd2 hc
          exact q ζ2 H2 evB wdB
        · exact q.elim
      | ex c x μ2 =>
        rw [ef] at q
        simp only [backT] at q
        split at q
        · rename_i hc
          rw [Bool.and_eq_true] at hc
          intro ζ2 H2 d2 ev2 wd2 xr
          obtain ⟨⟨vs0, g⟩, sub, evB, wdB⟩ := lend_back wd hk ha ev2 wd2 hc.2
          exact q ζ2 H2 d2 evB wdB (lfExc_XR g sub hc.1 xr)
        · exact q.elim
    · exact q.elim
  · exact q.elim
section
variable {X : Cx} {K : KT} {ξ : Xi} {W : WX} {e : Expr} {f : ME}
end

/-! ### tuples that hold things that change -/
def gTupG (ws : List Val) (μ : Store) : R Val := if ws.length ≤ sizeLine then (match flsOf ws with
  | some fs => .ok (.g .tup fs) μ
  | none => .stuck) else .stuck
/-- an item of such a tuple -/
def gAtG (w u : Val) (μ : Store) : R Val := match w, u with
  | .g .tup fs, .t (.int i) => OR.ok μ ((match ixN fs.length i with
    | some j => fs[j]?
    | none => none).map Fl.v)
  | _, _ => .stuck
section
variable {X : Cx} {K : KT} {ξ : Xi} {W : WX} {N : MS} {ζ : List Addr} {μ : Store} {H : Hp} {σr : L2.St} {σ : Sl} {e : Expr} {es : List Expr} {fs : Sl → Store → R (List Val)} {pos : Pos}
theorem i_tupG {x1 : Nat} (hs : IA K ξ W X es fs) : IE K ξ W X (.Tuple es x1 pos) (eN gTupG fs) := PE.of (pe_tup hs) fun σr H Q q => by
  obtain ⟨N, ζ, μ, σ, wd, so, q⟩ := q
  refine (thenN wd so q).mono fun xs H1 ⟨ζ1, μ1, ws, ev1, wd1, so1, r1, q1⟩ => ?_
  unfold gTupG at q1
  split at q1
  · rename_i hl
    split at q1
    · rename_i gs eg
      refine ⟨by rw [r1.len]; exact hl, fun p hp => ?_⟩
      have wdn := wd1.new (o := .tup xs) hp
      have evn : Ev K.tb ζ1 μ1 H1 ζ1 μ1 (upd H1 p (.tup xs)) := Ev.new hp
      have nM : ¬ MM N ζ1 μ1 p := wd1.no hp
      have r2 := flsOf_FRs r1 eg
      exact q1 ζ1 _ _ evn wdn ⟨p, xs, rfl, nM, upd_same, FRs.st (fun _ _ h => h) (fun _ n _ => n) (fun b o _ _ h => by rw [upd_ne (ne_of_none h hp)]; exact h) r2⟩
    · exact q1.elim
  · exact q1.elim
end
section
variable {X : Cx} {K : KT} {ξ : Xi} {W : WX} {M : MS} {H : Hp} {a b : Expr} {fa fb : ME} {pos : Pos}
theorem FRs.at {ζ : List Addr} {f : Fl} : ∀ {vs : List V} {fs : List Fl} {i : Nat}, FRs K ζ M H vs fs → fs[i]? = some f → ∃ v, vs[i]? = some v ∧ FR K ζ M H v f
  | [], [], _, _, e => by simp at e
  | v :: _, g :: _, 0, h, e => by
    obtain rfl : g = f := Option.some.inj e
    exact ⟨v, rfl, h.1⟩
  | _ :: _, _ :: _, i + 1, h, e => FRs.at (i := i) h.2 e
  | [], _ :: _, _, h, _ => h.elim
  | _ :: _, [], _, h, _ => h.elim
theorem i_ixG (ha : IE K ξ W X a fa) (hb : IE K ξ W X b fb) (hp : PlainIx b) (hK : X.K = K := by rfl) : IE K ξ W X (.Subscript a b pos) (e2 gAtG fa fb) := by
  obtain ⟨K, Kt⟩ := K; obtain rfl : X.K = K := hK
  refine PE.of (pe_ix ix_tup ha hb hp) fun σr H Q q => ?_
  obtain ⟨N, ζ, μ, σ, wd, so, q⟩ := q
  refine (then1 wd so q).mono fun x H1 ⟨ζ1, μ1, w1, ev1, wd1, so1, r1, q1⟩ => ?_
  refine (then1 wd1 so1 q1).mono fun y H2 ⟨ζ2, μ2, w2, ev2, wd2, so2, r2, q2⟩ => ?_
  have r1' := r1.ev ev2
  match w1, w2, r1', r2, q2 with
  | .g .tup fs, .t (.int i), ⟨p, vs, hx, n1, g1, r3⟩, r2, q2 =>
    have hy : y = .int i := rv_int.mp (show rv ⟨X.K, Kt⟩ (MM N ζ2 μ2) H2 y (.int i) from r2)
    subst hy hx
    have q3 : PostE ⟨X.K, Kt⟩ ξ W N ζ2 μ2 H2 σr Q (OR.ok μ2 ((match ixN fs.length i with
      | some j => fs[j]?
      | none => none).map Fl.v)) := q2
    cases hj : ixN fs.length i with
    | none => rw [hj] at q3; exact q3.elim
    | some j =>
      rw [hj] at q3
      dsimp only at q3
      cases ef : fs[j]? with
      | none => rw [ef] at q3; exact q3.elim
      | some f =>
        rw [ef] at q3
        obtain ⟨z, z1, z2⟩ := FRs.at (i := j) r3 ef
        refine ⟨p, vs, i, z, rfl, rfl, SqT.of g1, ?_, q3 ζ2 H2 z Ev.refl wd2 z2.RV⟩
        have hl := r3.len
        show atI vs i = some z
        unfold atI
        rw [hl, hj]
        exact z1
  | .g .tup _, .t .non, _, _, q2 => exact q2.elim
  | .g .tup _, .t (.bl _), _, _, q2 => exact q2.elim
  | .g .tup _, .t (.str _), _, _, q2 => exact q2.elim
  | .g .tup _, .t (.tup _), _, _, q2 => exact q2.elim
  | .g .tup _, .t (.lst _), _, _, q2 => exact q2.elim
  | .g .tup _, .t (.ktp _), _, _, q2 => exact q2.elim
  | .g .tup _, .t (.dic _ _ _), _, _, q2 => exact q2.elim
  | .g .tup _, .t (.obj _ _ _), _, _, q2 => exact q2.elim
  | .g .tup _, .c _, _, _, q2 => exact q2.elim
  | .g .tup _, .x _ _, _, _, q2 => exact q2.elim
  | .g .tup _, .s _, _, _, q2 => exact q2.elim
  | .g .tup _, .g _ _, _, _, q2 => exact q2.elim
  | .g .tup _, .self, _, _, q2 => exact q2.elim
  | .g .tup _, .lam _ _, _, _, q2 => exact q2.elim
  | .g .two _, _, _, _, q2 => exact q2.elim
  | .g (.ob _ _) _, _, _, _, q2 => exact q2.elim
  | .t _, _, _, _, q2 => exact q2.elim
  | .c _, _, _, _, q2 => exact q2.elim
  | .x _ _, _, _, _, q2 => exact q2.elim
  | .s _, _, _, _, q2 => exact q2.elim
  | .self, _, _, _, q2 => exact q2.elim
  | .lam _ _, _, _, _, q2 => exact q2.elim
end
section
variable {μ : Store} {σ : Sl} {f : ME} {j : Nat}
theorem backE_ok {k : Nat} {items : List PV} {w : Val} (h : lfVal w = true) (hs : lfStore μ = true) : backE k items (.ok w μ) = .ok w (μ.set k (some (.lst items))) := by
  show (if (lfVal w && lfStore μ) = true then _ else _) = _
  rw [h, hs]; rfl
end
end PM
/-! PM61: a pair whose second one is a pair that holds a thing that changes (`two`) -/
namespace PM
open PySem PySem.Spec PyProof.Rows L2
open WD (MS upd_none)
/-- (x, a pair) -/
def gTup2 (ws : List Val) (μ : Store) : R Val := match ws with
  | [.t d, .g .tup [f1, f2]] => .ok (.g .two [.t d, f1, f2]) μ
  | [.t d, .t d2] => .ok (.t (.tup [d, d2])) μ
  | _ => .stuck
/-- an item of such a pair -/
def gAt2 (w u : Val) (μ : Store) : R Val := match u with
  | .t (.int i) => (match w with
    | .g .two [f0, f1, f2] => if i = 0 then .ok f0.v μ else if i = 1 then .ok (.g .tup [f1, f2]) μ else .stuck
    | _ => .stuck)
  | _ => .stuck
section
variable {X : Cx} {K : KT} {ξ : Xi} {W : WX} {N : MS} {ζ : List Addr} {μ : Store} {H : Hp} {σr : L2.St} {σ : Sl} {e a b : Expr} {es : List Expr} {fs : Sl → Store → R (List Val)} {fa fb : ME} {pos : Pos}
theorem i_tup2 {x1 : Nat} (hs : IA K ξ W X es fs) : IE K ξ W X (.Tuple es x1 pos) (eN gTup2 fs) := PE.of (pe_tup hs) fun σr H Q q => by
  obtain ⟨N, ζ, μ, σ, wd, so, q⟩ := q
  refine (thenN wd so q).mono fun xs H1 ⟨ζ1, μ1, ws, ev1, wd1, so1, r1, q1⟩ => ?_
  have hl : ws.length = 2 := by
    unfold gTup2 at q1
    split at q1
    · rfl
    · rfl
    · exact q1.elim
  refine ⟨by rw [r1.len, hl, sizeLine_eq]; omega, fun p hp => ?_⟩
  have wdn := wd1.new (o := .tup xs) hp
  have evn : Ev K.tb ζ1 μ1 H1 ζ1 μ1 (upd H1 p (.tup xs)) := Ev.new hp
  have nM : ¬ MM N ζ1 μ1 p := wd1.no hp
  have kp : ∀ c o, nt K.tb o → ¬ MM N ζ1 μ1 c → H1 c = some o → (upd H1 p (.tup xs)) c = some o := fun c o _ _ h => by rw [upd_ne (ne_of_none h hp)]; exact h
  unfold gTup2 at q1
  split at q1
  · rename_i d f1 f2
    obtain ⟨v, u, rfl, hv, hu⟩ := RVs2 r1
    obtain ⟨c, vs, rfl, h2, h3, h4⟩ := hu
    match vs, h4 with
    | [y, z], h4 => exact q1 ζ1 _ _ evn wdn ⟨p, c, v, y, z, rfl, nM, h2, upd_same, kp _ _ rfl h2 h3, FRs.st (fun _ _ h => h) (fun _ n _ => n) kp (show FRs K ζ1 (MM N ζ1 μ1) H1 [v, y, z] [.t d, f1, f2] from ⟨hv, h4⟩)⟩
    | [], h4 => exact h4.elim
    | [_], h4 => exact h4.2.elim
    | _ :: _ :: _ :: _, h4 => exact h4.2.2.elim
  · rename_i d d2
    obtain ⟨v, u, rfl, hv, hu⟩ := RVs2 r1
    have r2 : rvs K (MM N ζ1 μ1) H1 [v, u] [d, d2] := rvs_cons.mpr ⟨hv, rvs_cons.mpr ⟨hu, rvs_nil⟩⟩
    exact q1 ζ1 _ _ evn wdn (rv_tup.mpr ⟨p, [v, u], rfl, nM, upd_same, rvs_st (fun _ n _ => n) kp _ _ r2⟩)
  · exact q1.elim
theorem i_ix2 (ha : IE K ξ W X a fa) (hb : IE K ξ W X b fb) (hp : PlainIx b) (hK : X.K = K := by rfl) : IE K ξ W X (.Subscript a b pos) (e2 gAt2 fa fb) := by
  obtain ⟨K, Kt⟩ := K; obtain rfl : X.K = K := hK
  refine PE.of (pe_ix ix_tup ha hb hp) fun σr H Q q => ?_
  obtain ⟨N, ζ, μ, σ, wd, so, q⟩ := q
  refine (then1 wd so q).mono fun x H1 ⟨ζ1, μ1, w1, ev1, wd1, so1, r1, q1⟩ => ?_
  refine (then1 wd1 so1 q1).mono fun y H2 ⟨ζ2, μ2, w2, ev2, wd2, so2, r2, q2⟩ => ?_
  have r1' := r1.ev ev2
  unfold gAt2 at q2
  split at q2
  case h_2 => exact q2.elim
  rename_i i
  have hy : y = .int i := rv_int.mp (show rv ⟨X.K, Kt⟩ (MM N ζ2 μ2) H2 y (.int i) from r2)
  subst hy
  split at q2
  case h_2 => exact q2.elim
  rename_i f0 f1 f2
  obtain ⟨p, c, v, y, z, rfl, n1, n2, g1, g2, r3⟩ := r1'
  split at q2
  · rename_i hi
    subst hi
    exact ⟨p, [v, .ref c], 0, v, rfl, rfl, SqT.of g1, rfl, q2 ζ2 H2 v Ev.refl wd2 r3.1.RV⟩
  · split at q2
    · rename_i hi
      subst hi
      exact ⟨p, [v, .ref c], 1, .ref c, rfl, rfl, SqT.of g1, rfl, q2 ζ2 H2 (.ref c) Ev.refl wd2 ⟨c, [y, z], rfl, n2, g2, r3.2⟩⟩
    · exact q2.elim
end
section
variable {μ : Store} {σ : Sl} {f : ME} {j : Nat}
theorem eLend_2 {k : Nat} {items l : List PV} {fs : List Fl} (h : σ[j]? = some (some (.g .two fs))) (hc : cellOf fs = some k) (hk : μ[k]? = some (some (.lst items))) (hl : fillC k items fs = some l) : eLend j f σ μ = backE k items (f (σ.set j (some (.t (.tup [l.getD 0 .non, .tup (l.drop 1)])))) (μ.set k none)) := by
  unfold eLend
  rw [h]
  simp only [lendV, hc, Option.bind_some, hk, hl, Option.map_some]
end
end PM
namespace PM
open PySem PySem.Spec PyProof.Rows L2
section
variable {α β : Type} {μ : Store} {σ : Sl} {fa fb fc : ME} {ta tb : Sl → Store → R Bool} {fs : Sl → Store → R (List Val)} {A B : MSt}
@[simp] theorem bind_ok {a : α} {k : α → Store → R β} : (R.ok a μ).bind k = k a μ := (rfl)
@[simp] theorem bind_ex {c f} {k : α → Store → R β} : (R.ex c f μ).bind k = .ex c f μ := (rfl)
@[simp] theorem bind_stuck {k : α → Store → R β} : (R.stuck).bind k = .stuck := (rfl)
@[simp] theorem st_ok {a : α} {k : α → Store → RS} : (R.ok a μ).st σ k = k a μ := (rfl)
@[simp] theorem st_ex {c f} {k : α → Store → RS} : (R.ex c f μ).st σ k = .ex c f σ μ := (rfl)
@[simp] theorem seq_nx {k : Sl → Store → RS} : (RS.nx σ μ).seq k = k σ μ := (rfl)
@[simp] theorem seq_rt {w : Val} {k : Sl → Store → RS} : (RS.rt w μ).seq k = .rt w μ := (rfl)
@[simp] theorem seq_ct {k : Sl → Store → RS} : (RS.ct σ μ).seq k = .ct σ μ := (rfl)
@[simp] theorem seq_bk {k : Sl → Store → RS} : (RS.bk σ μ).seq k = .bk σ μ := (rfl)
@[simp] theorem seq_ex {c f} {k : Sl → Store → RS} : (RS.ex c f σ μ).seq k = .ex c f σ μ := (rfl)
@[simp] theorem noex_ok {a : α} : (R.ok a μ).noex = .ok a μ := (rfl)
@[simp] theorem sSeq_eq : sSeq A B σ μ = (A σ μ).seq B := (rfl)
@[simp] theorem sIf_eq : sIf ta A B σ μ = (ta σ μ).st σ fun k μ1 => if k then A σ μ1 else B σ μ1 := (rfl)
@[simp] theorem sRet_eq : sRet fa σ μ = (fa σ μ).st σ fun w μ1 => .rt w μ1 := (rfl)
@[simp] theorem sExp_eq : sExp fa σ μ = (fa σ μ).st σ fun _ μ1 => .nx σ μ1 := (rfl)
@[simp] theorem sPass_eq : sPass σ μ = .nx σ μ := (rfl)
@[simp] theorem sAsg_nm {i : Nat} : sAsg (.nm i) fa σ μ = (fa σ μ).st σ fun w μ1 => .nx (σ.set i (some w)) μ1 := by
  unfold sAsg
  cases fa σ μ <;> first | rfl | (show RS.seq _ _ = _; rfl) | simp [asg]
theorem sAsg_tp {ts : List Tgt} : sAsg (.tp ts) fa σ μ = (fa σ μ).st σ fun w μ1 => match asg (.tp ts) w σ with
  | some σ1 => .nx σ1 μ1
  | none => .stuck := (rfl)
@[simp] theorem sFor_eq {it : Sl → Store → R (List PV)} {T : Tgt} : sFor it T B σ μ = (it σ μ).st σ fun items μ1 => forL T B items σ μ1 := (rfl)
@[simp] theorem eV_eq {i : Nat} : eV i σ μ = match σ[i]? with
  | some (some w) => .ok w μ
  | _ => .stuck := (rfl)
@[simp] theorem eC_eq {d : PV} : eC d σ μ = .ok (.t d) μ := (rfl)
@[simp] theorem e1_eq {g : Val → Store → R α} : e1 g fa σ μ = (fa σ μ).bind g := (rfl)
@[simp] theorem e2_eq {g : Val → Val → Store → R α} : e2 g fa fb σ μ = (fa σ μ).bind fun w μ1 => (fb σ μ1).bind fun u μ2 => g w u μ2 := (rfl)
@[simp] theorem eN_eq {g : List Val → Store → R α} : eN g fs σ μ = (fs σ μ).bind g := (rfl)
@[simp] theorem aNil_eq : aNil σ μ = .ok [] μ := (rfl)
@[simp] theorem aCons_eq : aCons fa fs σ μ = (fa σ μ).bind fun w μ1 => (fs σ μ1).bind fun ws μ2 => .ok (w :: ws) μ2 := (rfl)
@[simp] theorem eAnd_eq : eAnd fa fb σ μ = (fa σ μ).bind (gBl fun c μ1 => if c then fb σ μ1 else .ok (.t (.bl false)) μ1) := (rfl)
@[simp] theorem eNot_eq : eNot fa σ μ = (fa σ μ).bind (gBl fun c μ1 => .ok (.t (.bl (!c))) μ1) := (rfl)
@[simp] theorem tVal_eq : tVal fa σ μ = (fa σ μ).bind (gBl fun c μ1 => .ok c μ1) := (rfl)
@[simp] theorem tAnd_eq : tAnd' ta tb σ μ = (ta σ μ).bind fun k μ1 => if k then tb σ μ1 else .ok false μ1 := (rfl)
@[simp] theorem tOr_eq : tOr' ta tb σ μ = (ta σ μ).bind fun k μ1 => if k then .ok true μ1 else tb σ μ1 := (rfl)
@[simp] theorem tNot_eq : tNot' ta σ μ = (ta σ μ).bind fun k μ1 => .ok (!k) μ1 := (rfl)
@[simp] theorem tYes_eq : tYes' σ μ = .ok true μ := (rfl)
@[simp] theorem gBl_bl {b : Bool} {k : Bool → Store → R α} : gBl k (.t (.bl b)) μ = k b μ := (rfl)
@[simp] theorem eOfF_eq {f : Sl → Store → R (List PV)} : eOfF f σ μ = (f σ μ).bind fun ds μ1 => .ok (.t (.lst ds)) μ1 := (rfl)
@[simp] theorem eCellF_eq {f : Sl → Store → R (List PV)} : eCellF f σ μ = (f σ μ).bind fun ds μ1 => .ok (.c μ1.length) (μ1 ++ [some (.lst ds)]) := (rfl)
@[simp] theorem lcF_eq {it : Sl → Store → R (List PV)} {T : Tgt} : lcF it T ta fa σ μ = (it σ μ).bind fun items μ1 => (lcL T ta fa items (wipeM σ T.sl) μ1).bind szF := (rfl)
@[simp] theorem view_t {d : PV} : view μ (.t d) = some d := (rfl)
@[simp] theorem p1_t {g : PV → Option PV} {d : PV} : p1 g (.t d) μ = OR.ok μ ((g d).map .t) := (rfl)
@[simp] theorem p2_t {g : PV → PV → Option PV} {d e : PV} : p2 g (.t d) (.t e) μ = OR.ok μ ((g d e).map .t) := (rfl)
@[simp] theorem pf1_t {g : PV → Option (List PV)} {d : PV} : pf1 g (.t d) μ = OR.ok μ (g d) := (rfl)
@[simp] theorem pf2_t {g : PV → PV → Option (List PV)} {d e : PV} : pf2 g (.t d) (.t e) μ = OR.ok μ (g d e) := (rfl)
@[simp] theorem pN_1 {g : List PV → Option PV} {d : PV} : pN g [.t d] μ = OR.ok μ ((g [d]).map .t) := (rfl)
@[simp] theorem pN_2 {g : List PV → Option PV} {d e : PV} : pN g [.t d, .t e] μ = OR.ok μ ((g [d, e]).map .t) := (rfl)
@[simp] theorem pfN_1 {g : List PV → Option (List PV)} {d : PV} : pfN g [.t d] μ = OR.ok μ (g [d]) := (rfl)
@[simp] theorem orok_some {a : α} : OR.ok μ (some a) = .ok a μ := (rfl)
@[simp] theorem orok_none : OR.ok μ (none : Option α) = .stuck := (rfl)
@[simp] theorem gIt_lst {l : List PV} : gIt (.t (.lst l)) μ = .ok l μ := (rfl)
@[simp] theorem gIt_tup {l : List PV} : gIt (.t (.tup l)) μ = .ok l μ := (rfl)
@[simp] theorem gEnum_lst {l : List PV} : gEnum [.t (.lst l)] μ = .ok (enumP l) μ := (rfl)
@[simp] theorem gEnum_tup {l : List PV} : gEnum [.t (.tup l)] μ = .ok (enumP l) μ := (rfl)
@[simp] theorem lenV_lst {l : List PV} : lenV [.lst l] = some (.int l.length) := (rfl)
@[simp] theorem lenV_tup {l : List PV} : lenV [.tup l] = some (.int l.length) := (rfl)
@[simp] theorem tupleV_lst {l : List PV} : tupleV [.lst l] = some (.tup l) := (rfl)
@[simp] theorem tupleV_tup {l : List PV} : tupleV [.tup l] = some (.tup l) := (rfl)
@[simp] theorem listF_lst {l : List PV} : listF [.lst l] = some l := (rfl)
@[simp] theorem listF_tup {l : List PV} : listF [.tup l] = some l := (rfl)
@[simp] theorem lenV_ktp {l : List PV} : lenV [.ktp l] = some (.int l.length) := (rfl)
@[simp] theorem atV_ktp {l : List PV} {i : Int} : atV (.ktp l) (.int i) = atI l i := (rfl)
@[simp] theorem gIt_ktp {l : List PV} : gIt (.t (.ktp l)) μ = .ok l μ := (rfl)
@[simp] theorem gEnum_ktp {l : List PV} : gEnum [.t (.ktp l)] μ = .ok (enumP l) μ := (rfl)
@[simp] theorem tupleV_ktp {l : List PV} : tupleV [.ktp l] = some (.ktp l) := (rfl)
@[simp] theorem listF_ktp {l : List PV} : listF [.ktp l] = some l := (rfl)
@[simp] theorem addV_int {i j : Int} : addV (.int i) (.int j) = some (.int (i + j)) := (rfl)
@[simp] theorem subV_int {i j : Int} : subV (.int i) (.int j) = some (.int (i - j)) := (rfl)
@[simp] theorem negV_int {i : Int} : negV (.int i) = some (.int (-i)) := (rfl)
@[simp] theorem ltV_int {i j : Int} : ltV (.int i) (.int j) = some (.bl (decide (i < j))) := (rfl)
@[simp] theorem leV_int {i j : Int} : leV (.int i) (.int j) = some (.bl (decide (i ≤ j))) := (rfl)
@[simp] theorem gtV_int {i j : Int} : gtV (.int i) (.int j) = some (.bl (decide (j < i))) := (rfl)
@[simp] theorem geV_int {i j : Int} : geV (.int i) (.int j) = some (.bl (decide (j ≤ i))) := (rfl)
@[simp] theorem intV_bl {b : Bool} : intV [.bl b] = some (.int (if b then 1 else 0)) := (rfl)
@[simp] theorem intV_int {i : Int} : intV [.int i] = some (.int i) := (rfl)
@[simp] theorem isntV_non {d : PV} : isntV d .non = some (.bl (!isNon d)) := by cases d <;> rfl
@[simp] theorem atV_lst {l : List PV} {i : Int} : atV (.lst l) (.int i) = atI l i := (rfl)
@[simp] theorem atV_tup {l : List PV} {i : Int} : atV (.tup l) (.int i) = atI l i := (rfl)
@[simp] theorem slF_lst {l : List PV} {lo hi : Option Int} : slF lo hi (.lst l) = some (cutG l lo hi) := (rfl)
@[simp] theorem eSl_eq {g : Option Int → Option Int → Val → Store → R α} {lo hi : MO} : eSl g fa lo hi σ μ = (fa σ μ).bind fun w μ1 => (lo σ μ1).bind fun l μ2 => (hi σ μ2).bind fun h μ3 => g l h w μ3 := (rfl)
@[simp] theorem oNone_eq : oNone σ μ = .ok none μ := (rfl)
@[simp] theorem gOpt_int {i : Int} : gOpt (.t (.int i)) μ = .ok (some i) μ := (rfl)
@[simp] theorem oSome_eq : oSome fa σ μ = (fa σ μ).bind gOpt := (rfl)
theorem mod_ok {i j : Int} (h : 0 < j) : modV (.int i) (.int j) = some (.int (i % j)) := if_pos h
theorem fdiv_ok {i j : Int} (h : 0 < j) (h2 : j < 1073741824) : fdivV (.int i) (.int j) = some (.int (i / j)) := if_pos (by rw [Bool.and_eq_true]; exact ⟨Nat.ble_eq_true_of_le (by omega), Nat.ble_eq_true_of_le (by omega)⟩)
theorem gTup_ok {ws : List Val} {ds : List PV} (h : asT ws = some ds) (hl : ws.length ≤ sizeLine) : gTup ws μ = .ok (.t (.tup ds)) μ := by unfold gTup; rw [if_pos hl, h]; rfl
theorem gLst_ok {ws : List Val} {ds : List PV} (h : asT ws = some ds) (hl : ws.length ≤ sizeLine) : gLst ws μ = .ok ds μ := by unfold gLst; rw [if_pos hl, h]; rfl
end
end PM
namespace PM
open PySem PySem.Spec PyProof.Rows L2
/-! ### walking in the machine -/
section
variable {T : Tgt} {test : Sl → Store → R Bool} {elt : ME} {B : MSt}
theorem lcL_map {items : List PV} {σ : Sl} {μ : Store} (f : PV → PV) (h : ∀ d ∈ items, ∃ σ1, asg T (.t d) σ = some σ1 ∧ test σ1 μ = .ok true μ ∧ elt σ1 μ = .ok (.t (f d)) μ) : lcL T test elt items σ μ = .ok (items.map f) μ := by
  induction items with
  | nil => rfl
  | cons d ds ih =>
    obtain ⟨σ1, h1, h2, h3⟩ := h d List.mem_cons_self
    unfold lcL
    rw [h1]
    simp only [h2, h3, noex_ok, bind_ok, if_true, gT]
    rw [ih fun d hd => h d (List.mem_cons_of_mem _ hd)]
    rfl
/-- .. while the store changes: what is kept of it, what is true of what comes -/
theorem lcL_inv {items : List PV} {σ : Sl} {μ : Store} (I : Nat → Store → Prop) (Q : PV → Prop) (h0 : I 0 μ) (h : ∀ (i : Nat) d μ, items[i]? = some d → I i μ → ∃ σ1 y μ2, asg T (.t d) σ = some σ1 ∧ test σ1 μ = .ok true μ ∧ elt σ1 μ = .ok (.t y) μ2 ∧ I (i + 1) μ2 ∧ Q y) : ∃ ys μ', lcL T test elt items σ μ = .ok ys μ' ∧ I items.length μ' ∧ ys.length = items.length ∧ ∀ y ∈ ys, Q y := by
  induction items generalizing μ I with
  | nil => exact ⟨[], μ, rfl, h0, rfl, fun y hy => nomatch hy⟩
  | cons d ds ih =>
    obtain ⟨σ1, y, μ2, h1, h2, h3, h4, h5⟩ := h 0 d μ rfl h0
    obtain ⟨ys, μ', k1, k2, k3, k4⟩ := ih (fun i => I (i + 1)) h4 fun i d μ hd hi => h (i + 1) d μ hd hi
    refine ⟨y :: ys, μ', ?_, k2, congrArg Nat.succ k3, fun z hz => (List.mem_cons.mp hz).elim (fun e => e ▸ h5) (k4 z)⟩
    unfold lcL
    rw [h1]
    simp only [h2, h3, noex_ok, bind_ok, if_true, gT, k1]
/-- a loop, by what is kept -/
theorem forL_inv {items : List PV} {σ : Sl} {μ : Store} (I : Nat → Sl → Store → Prop) (Post : RS → Prop) (h0 : I 0 σ μ)
    (step : ∀ (i : Nat) d σ μ, items[i]? = some d → I i σ μ → ∃ σ1, asg T (.t d) σ = some σ1 ∧ ((∃ σ2 μ2, (B σ1 μ = .nx σ2 μ2 ∨ B σ1 μ = .ct σ2 μ2) ∧ I (i + 1) σ2 μ2) ∨ (∃ w μ2, B σ1 μ = .rt w μ2 ∧ Post (.rt w μ2)) ∨ (∃ c f σ2 μ2, B σ1 μ = .ex c f σ2 μ2 ∧ Post (.ex c f σ2 μ2))))
    (last : ∀ σ μ, I items.length σ μ → Post (.nx σ μ)) : Post (forL T B items σ μ) := by
  induction items generalizing σ μ I with
  | nil => exact last σ μ h0
  | cons d ds ih =>
    obtain ⟨σ1, h1, h2⟩ := step 0 d σ μ rfl h0
    unfold forL
    rw [h1]
    rcases h2 with ⟨σ2, μ2, h2, h3⟩ | ⟨w, μ2, h2, h3⟩ | ⟨c, f, σ2, μ2, h2, h3⟩
    · have k := ih (fun i => I (i + 1)) h3 (fun i d σ μ hd hi => step (i + 1) d σ μ hd hi) last
      rcases h2 with h2 | h2 <;> simp only [h2] <;> exact k
    · simp only [h2]; exact h3
    · simp only [h2]; exact h3
end
/-! ### what is flat and not deep -/
def SD : Nat → PV → Prop
  | _, .non => True
  | _, .bl _ => True
  | _, .int _ => True
  | _, .str _ => True
  | n + 1, .tup l => l.length ≤ 100000 ∧ ∀ x ∈ l, SD n x
  | n + 1, .lst l => l.length ≤ 100000 ∧ ∀ x ∈ l, SD n x
  | _, _ => False
theorem flats_iff {l : List PV} : flats l = true ↔ ∀ x ∈ l, x.flat = true := by
  induction l with
  | nil => simp [flats]
  | cons a l ih => simp [flats, ih]
theorem datas_map (l : List PV) : datas l = l.map PV.data := by
  induction l with
  | nil => simp [datas]
  | cons a l ih => simp [datas, ih]
theorem depthAll_le {l : List PyData} {n : Nat} : PyData.depthAll l ≤ n ↔ ∀ x ∈ l, x.depth ≤ n := by
  induction l with
  | nil => simp [PyData.depthAll]
  | cons a l ih =>
    show max a.depth (PyData.depthAll l) ≤ n ↔ _
    rw [Nat.max_le, ih]
    simp
theorem SD_tup {n : Nat} {l : List PV} : SD (n + 1) (.tup l) ↔ l.length ≤ 100000 ∧ ∀ x ∈ l, SD n x := by rw [SD]
theorem SD_lst {n : Nat} {l : List PV} : SD (n + 1) (.lst l) ↔ l.length ≤ 100000 ∧ ∀ x ∈ l, SD n x := by rw [SD]
@[simp] theorem SD_int {n : Nat} {i : Int} : SD n (.int i) := by rw [SD]; trivial
@[simp] theorem SD_bl {n : Nat} {i : Bool} : SD n (.bl i) := by rw [SD]; trivial
@[simp] theorem SD_str {n : Nat} {i : Str} : SD n (.str i) := by rw [SD]; trivial
@[simp] theorem SD_non {n : Nat} : SD n .non := by rw [SD]; trivial
theorem SD_0t {l : List PV} : ¬ SD 0 (.tup l) := by rw [SD] <;> simp
theorem SD_0l {l : List PV} : ¬ SD 0 (.lst l) := by rw [SD] <;> simp
theorem SD_dic {n : Nat} {b : Bool} {k l : List PV} : ¬ SD n (.dic b k l) := by cases n <;> (rw [SD] <;> simp)
theorem SD_obj {n : Nat} {C : Str} {k : List Str} {l : List PV} : ¬ SD n (.obj C k l) := by cases n <;> (rw [SD] <;> simp)
theorem SD_ktp {n : Nat} {l : List PV} : ¬ SD n (.ktp l) := by cases n <;> (rw [SD] <;> simp)
theorem SD.tupE {n : Nat} {l : List PV} (h : SD n (.tup l)) : ∃ m, n = m + 1 ∧ l.length ≤ 100000 ∧ ∀ x ∈ l, SD m x := by
  cases n with
  | zero => exact absurd h SD_0t
  | succ m => exact ⟨m, rfl, SD_tup.mp h⟩
theorem SD.fd {n : Nat} : ∀ {d : PV}, SD n d → d.flat = true ∧ d.data.depth ≤ n := by
  induction n with
  | zero =>
    intro d h
    cases d with
    | tup l => exact absurd h SD_0t
    | lst l => exact absurd h SD_0l
    | dic k l => exact absurd h SD_dic
    | obj C k l => exact absurd h SD_obj
    | ktp l => exact absurd h SD_ktp
    | _ => exact ⟨rfl, by simp only [PV.data]; exact Nat.zero_le _⟩
  | succ n ih =>
    intro d h
    cases d with
    | tup l =>
      have hl := (SD_tup.mp h).2
      refine ⟨by simp only [PV.flat]; exact flats_iff.mpr fun x hx => (ih (hl x hx)).1, ?_⟩
      have e : (PV.tup l).data.depth = PyData.depthAll (datas l) + 1 := by simp only [PV.data]; rfl
      rw [e, Nat.add_le_add_iff_right, depthAll_le, datas_map]
      intro x hx
      obtain ⟨y, hy, rfl⟩ := List.mem_map.mp hx
      exact (ih (hl y hy)).2
    | lst l =>
      have hl := (SD_lst.mp h).2
      refine ⟨by simp only [PV.flat]; exact flats_iff.mpr fun x hx => (ih (hl x hx)).1, ?_⟩
      have e : (PV.lst l).data.depth = PyData.depthAll (datas l) + 1 := by simp only [PV.data]; rfl
      rw [e, Nat.add_le_add_iff_right, depthAll_le, datas_map]
      intro x hx
      obtain ⟨y, hy, rfl⟩ := List.mem_map.mp hx
      exact (ih (hl y hy)).2
    | dic k l => exact absurd h SD_dic
    | obj C k l => exact absurd h SD_obj
    | ktp l => exact absurd h SD_ktp
    | _ => exact ⟨rfl, by simp only [PV.data]; exact Nat.zero_le _⟩
theorem SD.up {n m : Nat} {d : PV} (h : SD n d) (k : n ≤ m) : SD m d := by
  induction n generalizing m d with
  | zero => cases d <;> first | simp | exact absurd h SD_0t | exact absurd h SD_0l | exact absurd h SD_dic | exact absurd h SD_obj | exact absurd h SD_ktp
  | succ n ih =>
    cases m with
    | zero => omega
    | succ m =>
      cases d with
      | tup l => rw [SD_tup] at h ⊢; exact ⟨h.1, fun x hx => ih (h.2 x hx) (by omega)⟩
      | lst l => rw [SD_lst] at h ⊢; exact ⟨h.1, fun x hx => ih (h.2 x hx) (by omega)⟩
      | dic k l => exact absurd h SD_dic
      | obj C k l => exact absurd h SD_obj
      | ktp l => exact absurd h SD_ktp
      | _ => simp
theorem SD.ok {n : Nat} {d : PV} (h : SD n d) (k : n ≤ 64 := by decide) : okD d = true := by
  unfold okD
  rw [h.fd.1, decide_eq_true (Nat.le_trans h.fd.2 k)]; rfl
theorem SD.ty {n : Nat} {d : PV} (h : SD n d) : tyN d ≠ none := by
  cases d <;> first | (intro z; cases z; done) | exact absurd h SD_obj
theorem SD_ints {n : Nat} {l : List Int} : ∀ x ∈ l.map PV.int, SD n x := fun x hx => by
  obtain ⟨i, _, rfl⟩ := List.mem_map.mp hx
  exact SD_int
theorem eq_ok {x y : PV} (hx : okD x = true) (hy : okD y = true) : eqV x y = some (.bl (eqB x y)) := by unfold eqV; rw [hx, hy]; rfl
theorem ne_ok {x y : PV} (hx : okD x = true) (hy : okD y = true) : neV x y = some (.bl (!eqB x y)) := by unfold neV; rw [hx, hy]; rfl
@[simp] theorem eqV_int {i j : Int} : eqV (.int i) (.int j) = some (.bl (decide (i = j))) := by
  rw [eq_ok (SD_int (n := 0)).ok (SD_int (n := 0)).ok]
  simp only [eqB, PV.data, PyData.eqv, Bool.beq_eq_decide_eq]
@[simp] theorem neV_int {i j : Int} : neV (.int i) (.int j) = some (.bl (!decide (i = j))) := by
  rw [ne_ok (SD_int (n := 0)).ok (SD_int (n := 0)).ok]
  simp only [eqB, PV.data, PyData.eqv, Bool.beq_eq_decide_eq]
/-! ### lists of ints -/
abbrev tupI (l : List Int) : PV := .tup (l.map .int)
abbrev lstI (l : List Int) : PV := .lst (l.map .int)
theorem atI_nat' {α : Type} {l : List α} {i : Nat} (h : i < l.length) : atI l (i : Int) = some l[i] := by
  have := WD.atI_ok (xs := l) (i := (i : Int)) (by omega) (by simpa using h)
  simpa using this
theorem at_int {l : List Int} {i : Nat} (h : i < l.length) : atI (l.map PV.int) (i : Int) = some (.int (l.getD i 0)) := by
  rw [atI_nat' (by rw [List.length_map]; exact h), List.getElem_map, List.getD_eq_getElem?_getD, List.getElem?_eq_getElem h]; rfl
/-! ### the well -/
abbrev wl (a b c : Int) : Option Cell := some (.lst [.int a, .int b, .int c])
def isThingB (n : Int) : PV → Bool
  | .int i => decide (0 ≤ i) && decide (i < n)
  | _ => false
end PM
/-! PM34: sorted(set(xs)), tuples of ints (or ints) -/
namespace PM
open PySem PySem.Spec PyProof.Rows L2
open WD (MS upd_none)
def insT (x : List Int) : List (List Int) → List (List Int)
  | [] => [x]
  | y :: l => if x < y then x :: y :: l else if x = y then y :: l else y :: insT x l
/-- the members, rising, each once -/
def sortT : List (List Int) → List (List Int)
  | [] => []
  | x :: l => insT x (sortT l)
theorem insT_mem {x k : List Int} : ∀ {l : List (List Int)}, k ∈ insT x l ↔ k = x ∨ k ∈ l
  | [] => by simp [insT]
  | y :: l => by
    unfold insT
    split
    · simp
    · split
      · rename_i h; subst h; simp
      · rw [List.mem_cons, insT_mem (l := l), List.mem_cons]
        exact ⟨fun h => h.elim (fun h => .inr (.inl h)) fun h => h.elim .inl fun h => .inr (.inr h), fun h => h.elim (fun h => .inr (.inl h)) fun h => h.elim .inl fun h => .inr (.inr h)⟩
theorem sortT_mem {k : List Int} : ∀ {l : List (List Int)}, k ∈ sortT l ↔ k ∈ l
  | [] => Iff.rfl
  | x :: l => by unfold sortT; rw [insT_mem, sortT_mem (l := l), List.mem_cons]
theorem lI_lt {x y : List Int} (h1 : ¬ x < y) (h2 : x ≠ y) : y < x := by
  have h3 : y ≤ x := List.not_lt.mp h1
  exact Classical.byContradiction fun h4 => h2 (List.le_antisymm (List.not_lt.mp h4) h3)
theorem insT_pw {x : List Int} : ∀ {l : List (List Int)}, l.Pairwise (· < ·) → (insT x l).Pairwise (· < ·)
  | [], _ => by simp [insT]
  | y :: l, h => by
    unfold insT
    split
    · rename_i hx
      exact List.pairwise_cons.mpr ⟨fun z hz => by
        rcases List.mem_cons.mp hz with rfl | hz
        · exact hx
        · exact List.lt_trans hx ((List.pairwise_cons.mp h).1 z hz), h⟩
    · split
      · exact h
      · rename_i h1 h2
        refine List.pairwise_cons.mpr ⟨fun z hz => ?_, insT_pw (List.pairwise_cons.mp h).2⟩
        rcases insT_mem.mp hz with rfl | hz
        · exact lI_lt h1 h2
        · exact (List.pairwise_cons.mp h).1 z hz
theorem sortT_pw : ∀ {l : List (List Int)}, (sortT l).Pairwise (· < ·)
  | [] => List.Pairwise.nil
  | x :: l => insT_pw sortT_pw
/-- rising lists with the same members are the same -/
theorem pwT_uni : ∀ {a b : List (List Int)}, a.Pairwise (· < ·) → b.Pairwise (· < ·) → (∀ k, k ∈ a ↔ k ∈ b) → a = b
  | [], [], _, _, _ => rfl
  | [], y :: b, _, _, h => absurd ((h y).mpr List.mem_cons_self) (by simp)
  | x :: a, [], _, _, h => absurd ((h x).mp List.mem_cons_self) (by simp)
  | x :: a, y :: b, ha, hb, h => by
    have ha := List.pairwise_cons.mp ha
    have hb := List.pairwise_cons.mp hb
    have irr : ∀ z : List Int, ¬ z < z := fun z => List.lt_irrefl z
    have hxy : x = y := by
      rcases List.mem_cons.mp ((h x).mp List.mem_cons_self) with e | e
      · exact e
      · rcases List.mem_cons.mp ((h y).mpr List.mem_cons_self) with e2 | e2
        · exact e2.symm
        · exact absurd (List.lt_trans (hb.1 x e) (ha.1 y e2)) (irr _)
    subst hxy
    rw [pwT_uni ha.2 hb.2 fun k => ?_]
    constructor
    · intro hk
      rcases List.mem_cons.mp ((h k).mp (List.mem_cons_of_mem _ hk)) with e | e
      · subst e; exact absurd (ha.1 k hk) (irr _)
      · exact e
    · intro hk
      rcases List.mem_cons.mp ((h k).mpr (List.mem_cons_of_mem _ hk)) with e | e
      · subst e; exact absurd (hb.1 k hk) (irr _)
      · exact e
theorem pwT_nodup {l : List (List Int)} (h : l.Pairwise (· < ·)) : l.Nodup := h.imp fun {a b} z e => by subst e; exact List.lt_irrefl _ z
theorem sortT_len : ∀ {l : List (List Int)}, (sortT l).length ≤ l.length
  | [] => Nat.le_refl _
  | x :: l => by
    have key : ∀ (m : List (List Int)), (insT x m).length ≤ m.length + 1 := by
      intro m
      induction m with
      | nil => simp [insT]
      | cons y m ih => unfold insT; split <;> (try split) <;> simp <;> omega
    have := key (sortT l)
    have := sortT_len (l := l)
    unfold sortT
    simp; omega
/-- data that are all tuples of ints -/
def tupOf : PV → Option (List Int)
  | .tup l => numsOf l
  | _ => none
def tupsOf : List PV → Option (List (List Int))
  | [] => some []
  | d :: ds => match tupOf d, tupsOf ds with
    | some k, some ks => some (k :: ks)
    | _, _ => none
def okTs (u : List (List Int)) : Bool := Nat.ble u.length 4000 && (Nat.ble u.length 1 || u.all fun k => !k.isEmpty)
def setTs (l : List PV) : Option (List PV) := (tupsOf l).bind fun ks => if okTs (sortT ks) then some ((sortT ks).map tupI) else none
def sortSetT : List PV → Option (List PV)
  | [.lst l] => setTs l
  | _ => none
def sortSetG : List PV → Option (List PV)
  | [.lst (.tup k :: l)] => sortSetT [.lst (.tup k :: l)]
  | ds => sortSetF ds
theorem sortSetG_or (ds : List PV) : sortSetG ds = sortSetF ds ∨ sortSetG ds = sortSetT ds := by
  unfold sortSetG
  split
  · exact .inr rfl
  · exact .inl rfl
section
variable {X : Cx} {K : KT} {ξ : Xi} {W : WX} {N : MS} {ζ : List Addr} {μ : Store} {M : MS} {H : Hp} {σr : L2.St} {σ : Sl} {e : Expr} {es : List Expr} {fa : ME} {fs : Sl → Store → R (List Val)} {pos : Pos}
theorem rv_tupOf {d : PV} {v : V} {k : List Int} (h : rv K M H v d) (e : tupOf d = some k) : ∃ a, v = .ref a ∧ SqT K.fr H a (k.map V.int) := by
  unfold tupOf at e
  split at e
  · obtain ⟨a, vs, rfl, _, g1, r1⟩ := rv_tup.mp h
    have z := rvs_nums r1 e
    exact ⟨a, rfl, by rw [← z]; exact SqT.of g1⟩
  · cases e
theorem numsOf_inv : ∀ {l : List PV} {k : List Int}, numsOf l = some k → l = k.map .int
  | [], k, e => by cases e; rfl
  | x :: l, k, e => by
    cases x with
    | int i =>
      have e' : (numsOf l).map (i :: ·) = some k := e
      obtain ⟨k', h1, rfl⟩ := Option.map_eq_some_iff.mp e'
      rw [numsOf_inv h1]; rfl
    | _ => cases e
theorem tupOf_tupI {d : PV} {k : List Int} (e : tupOf d = some k) : d = tupI k := by
  unfold tupOf at e
  split at e
  · rw [numsOf_inv e]
  · cases e
theorem rvs_tups : ∀ {ds : List PV} {vs : List V} {ks : List (List Int)}, rvs K M H vs ds → tupsOf ds = some ks → ∃ ps : List (Addr × List Int), vs = ps.map (fun p => V.ref p.1) ∧ ps.map (·.2) = ks ∧ ∀ p ∈ ps, SqT K.fr H p.1 (p.2.map V.int) ∧ rv K M H (.ref p.1) (tupI p.2)
  | [], [], ks, _, e => by cases e; exact ⟨[], rfl, rfl, fun p z => (by cases z)⟩
  | d :: ds, v :: vs, ks, h, e => by
    rw [rvs_cons] at h
    unfold tupsOf at e
    split at e
    · rename_i k ks' e1 e2
      cases e
      obtain ⟨a, rfl, sq⟩ := rv_tupOf h.1 e1
      obtain ⟨ps, p1, p2, p3⟩ := rvs_tups h.2 e2
      refine ⟨(a, k) :: ps, by rw [p1]; rfl, by rw [← p2]; rfl, fun p ip => ?_⟩
      rcases List.mem_cons.mp ip with rfl | ip
      · exact ⟨sq, by rw [← tupOf_tupI e1]; exact h.1⟩
      · exact p3 p ip
    · cases e
  | [], _ :: _, _, h, _ => by unfold rvs at h; exact h.elim
  | _ :: _, [], _, h, _ => by unfold rvs at h; exact h.elim
theorem setT_read {P : Program} {w : World} {xs : List V} {Q : VK} (h : rPFN K sortSetT xs H Q) : WD.rSetTs K.fr P w xs H fun v H2 => WD.rSortTs K.fr P w [v] H2 Q := by
  obtain ⟨M, ds, d, hv, fr, e, g⟩ := h
  unfold sortSetT at e
  split at e
  · obtain ⟨v, rfl, h1⟩ := vvs1 hv
    obtain ⟨p, vs, rfl, g1, r1⟩ := h1
    unfold setTs at e
    obtain ⟨ks, e1, e2⟩ := Option.bind_eq_some_iff.mp e
    split at e2
    · rename_i ok
      cases e2
      obtain ⟨ps, rfl, rfl, p3⟩ := rvs_tups r1 e1
      unfold okTs at ok
      rw [Bool.and_eq_true] at ok
      have small := Nat.le_of_ble_eq_true ok.1
      refine ⟨p, ps, sortT (ps.map (·.2)), rfl, SqL.of g1, fun q iq => (p3 q iq).1, fun q iq => sortT_mem.mpr (List.mem_map.mpr ⟨q, iq, rfl⟩), small, fun a L ha sub all nd => ?_⟩
      have same : ∀ k, k ∈ L.map (·.2) ↔ k ∈ sortT (ps.map (·.2)) := fun k => by
        rw [sortT_mem]
        constructor
        · intro z
          obtain ⟨q, iq, rfl⟩ := List.mem_map.mp z
          exact List.mem_map.mpr ⟨q, sub q iq, rfl⟩
        · intro z
          obtain ⟨q, iq, rfl⟩ := List.mem_map.mp z
          exact all q iq
      have keep : ∀ q ∈ L, SqT K.fr (upd H a (WD.GSetO P w a L)) q.1 (q.2.map V.int) := fun q iq => by
        obtain ⟨r0, r1⟩ := p3 q (sub q iq)
        obtain ⟨a', vs', e', _, g', rr⟩ := rv_tup.mp r1
        have hn : a' ≠ a := fun z => by rw [z, ha] at g'; cases g'
        cases e'
        have := rvs_nums rr (ys := q.2) (by
          have key : ∀ l : List Int, numsOf (l.map .int) = some l := fun l => by
            induction l with
            | nil => rfl
            | cons x l ih => show (numsOf (l.map .int)).map (x :: ·) = _; rw [ih]; rfl
          exact key _)
        rw [← this]
        exact SqT.of (by rw [upd_ne hn]; exact g')
      refine ⟨a, L, rfl, upd_same, keep, ?_, fun L' q pm pw hq => ?_⟩
      · rw [Bool.or_eq_true] at ok
        rcases ok.2 with z | z
        · have l1 := Nat.le_of_ble_eq_true z
          have l2 := WD.unl_le (D := sortT (ps.map (·.2))) nd fun k hk => (same k).mp hk
          rw [List.length_map] at l2
          exact .inl (by omega)
        · refine .inr fun q iq en => ?_
          have := List.all_eq_true.mp z q.2 ((same q.2).mp (List.mem_map.mpr ⟨q, iq, rfl⟩))
          rw [en] at this
          exact absurd this (by decide)
      · have lt : (L'.map (·.2)).Pairwise (· < ·) := by
          rw [List.pairwise_map]
          have nd0 : (L'.map (·.2)).Nodup := (pm.map (·.2)).nodup_iff.mpr nd
          have nd' : L'.Pairwise fun p q => p.2 ≠ q.2 := List.pairwise_map.mp nd0
          exact (pw.and nd').imp fun ⟨h1, h2⟩ => lI_lt (List.not_lt.mpr h1) fun z => h2 z.symm
        have es : L'.map (·.2) = sortT (ps.map (·.2)) := pwT_uni lt sortT_pw fun k => by
          rw [← same k]; exact (pm.map (·.2)).mem_iff
        have qa : q ≠ a := fun z => by rw [z, upd_same] at hq; cases hq
        have hq3 : H q = none := by rw [upd_ne qa] at hq; exact hq
        have gr : Grow H (upd (upd H a (WD.GSetO P w a L)) q (.lst (L'.map fun q => V.ref q.1))) := fun b u hb => by
          have ba : b ≠ a := fun z => by rw [z, ha] at hb; cases hb
          have bq : b ≠ q := fun z => by rw [z, hq3] at hb; cases hb
          rw [upd_ne bq, upd_ne ba]; exact hb
        rw [← es] at g
        refine g _ q _ gr hq3 upd_same (GivesF.lst.Grow.rvs_ad gr hq3 ?_)
        have key : ∀ l : List (Addr × List Int), (∀ q ∈ l, q ∈ L) → rvs K M H (l.map fun q => V.ref q.1) ((l.map (·.2)).map tupI) := fun l => by
          induction l with
          | nil => exact fun _ => rvs_nil
          | cons q l ih => exact fun z => rvs_cons.mpr ⟨(p3 q (sub q (z q List.mem_cons_self))).2, ih fun r hr => z r (List.mem_cons_of_mem _ hr)⟩
        exact key L' fun r hr => pm.mem_iff.mp hr
    · cases e2
  · cases e
theorem f_sortSetT {p p2 q : Pos} (hc : X.calm = true) (hu : X.A.units + 64 < cLine) (hg : Gl X "sorted") (hm : X.mg "sorted" = none) (hg2 : Gl X "set") (hm2 : X.mg "set" = none) (ha : IA K ξ W X [e] fs) (hK : X.K = K := by rfl)
    (hs : starEach [e] X.env = (false, eval e X.env) :: starEach [] X.env := by rfl) (hs2 : starEach [.Call (.Name "set" p2) [e] [] q] X.env = (false, eval (.Call (.Name "set" p2) [e] [] q) X.env) :: starEach [] X.env := by rfl) :
    IF K ξ W X (.Call (.Name "sorted" p) [.Call (.Name "set" p2) [e] [] q] [] pos) (eN (pfN sortSetT) fs) := by
  obtain ⟨K, Kt⟩ := K; obtain rfl : X.K = K := hK
  refine PE.of (pe_callB (WD.cr_sortTs hc hu) hg hm WD.bt_sorted (pa_cons (pe_callTy (WD.cr_setTs hc hu) hg2 hm2 boot_set ha (by decide) (by decide) hs rfl) pa_nil hs2) (by decide) (by decide) hs2 rfl) fun σr H Q q => ?_
  obtain ⟨N, ζ, μ, σ, wd, so, q⟩ := q
  refine (thenNF wd so q).mono fun xs H1 ⟨ζ1, μ1, ws, ev1, wd1, so1, r1, q1⟩ => setT_read (read_pfN wd1 r1 q1)
theorem f_sortSetG {p p2 q : Pos} (hc : X.calm = true) (hu : X.A.units + 64 < cLine) (hg : Gl X "sorted") (hm : X.mg "sorted" = none) (hg2 : Gl X "set") (hm2 : X.mg "set" = none) (ha : IA K ξ W X [e] fs) (hK : X.K = K := by rfl)
    (hs : starEach [e] X.env = (false, eval e X.env) :: starEach [] X.env := by rfl) (hs2 : starEach [.Call (.Name "set" p2) [e] [] q] X.env = (false, eval (.Call (.Name "set" p2) [e] [] q) X.env) :: starEach [] X.env := by rfl) :
    IF K ξ W X (.Call (.Name "sorted" p) [.Call (.Name "set" p2) [e] [] q] [] pos) (eN (pfN sortSetG) fs) := PE.pick fun σr H Q ⟨N, ζ, μ, σ, wd, so, q1⟩ => by
  have key : eN (pfN sortSetG) fs σ μ = eN (pfN sortSetF) fs σ μ ∨ eN (pfN sortSetG) fs σ μ = eN (pfN sortSetT) fs σ μ := by
    unfold eN
    cases fs σ μ with
    | ok ws μ1 =>
      show pfN sortSetG ws μ1 = pfN sortSetF ws μ1 ∨ pfN sortSetG ws μ1 = pfN sortSetT ws μ1
      unfold pfN
      cases views μ1 ws with
      | none => exact .inl rfl
      | some ds => rcases sortSetG_or ds with h | h
                   · exact .inl (by simp only [h])
                   · exact .inr (by simp only [h])
    | ex _ _ _ => exact .inl rfl
    | stuck => exact .inl rfl
  rcases key with h | h
  · exact ⟨_, f_sortSet hc hg hm hg2 hm2 ha hK hs hs2, N, ζ, μ, σ, wd, so, by rw [← h]; exact q1⟩
  · exact ⟨_, f_sortSetT hc hu hg hm hg2 hm2 ha hK hs hs2, N, ζ, μ, σ, wd, so, by rw [← h]; exact q1⟩
end
end PM
namespace PM
open PySem PySem.Spec PyProof.Rows L2
@[simp] theorem plain_t {d : PV} : (Val.t d).plain = true := (rfl)
@[simp] theorem plain_c {k : Nat} : (Val.c k).plain = true := (rfl)
@[simp] theorem gCall_1 {fn : Fn} {d : PV} {μ : Store} : gCall 1 fn [.t d] μ = fn [.t d] μ := (rfl)
@[simp] theorem gCall_1c {fn : Fn} {k : Nat} {μ : Store} : gCall 1 fn [.c k] μ = fn [.c k] μ := (rfl)
@[simp] theorem gCall_2 {fn : Fn} {d e : PV} {μ : Store} : gCall 2 fn [.t d, .t e] μ = fn [.t d, .t e] μ := (rfl)
@[simp] theorem gCall_2c {fn : Fn} {k : Nat} {e : PV} {μ : Store} : gCall 2 fn [.c k, .t e] μ = fn [.c k, .t e] μ := (rfl)
@[simp] theorem gCall_3 {fn : Fn} {d e f : PV} {μ : Store} : gCall 3 fn [.t d, .t e, .t f] μ = fn [.t d, .t e, .t f] μ := (rfl)
@[simp] theorem gCall_3c {fn : Fn} {k : Nat} {e f : PV} {μ : Store} : gCall 3 fn [.c k, .t e, .t f] μ = fn [.c k, .t e, .t f] μ := (rfl)
@[simp] theorem gCall_4 {fn : Fn} {d e f g : PV} {μ : Store} : gCall 4 fn [.t d, .t e, .t f, .t g] μ = fn [.t d, .t e, .t f, .t g] μ := (rfl)
@[simp] theorem gCall_4c {fn : Fn} {k : Nat} {e f g : PV} {μ : Store} : gCall 4 fn [.c k, .t e, .t f, .t g] μ = fn [.c k, .t e, .t f, .t g] μ := (rfl)
@[simp] theorem endM_rt {n : Nat} {d : PV} {μ : Store} : endM n (.rt (.t d) μ) = .ok (.t d) (μ.take n) := (rfl)
@[simp] theorem endM_nx {n : Nat} {σ : Sl} {μ : Store} : endM n (.nx σ μ) = .ok (.t .non) (μ.take n) := (rfl)
@[simp] theorem endM_ex {n : Nat} {c : Str} {f} {σ : Sl} {μ : Store} : endM n (.ex c f σ μ) = .ex c f (μ.take n) := (rfl)
@[simp] theorem endM_rc {n k : Nat} {μ : Store} : endM n (.rt (.c k) μ) = fin n (.c k) μ := (rfl)
@[simp] theorem isTy_non {T : String} : isTy T .non = some (.bl (subT "NoneType" T)) := (rfl)
@[simp] theorem isTy_bl {T : String} {b : Bool} : isTy T (.bl b) = some (.bl (subT "bool" T)) := (rfl)
@[simp] theorem isTy_int {T : String} {b : Int} : isTy T (.int b) = some (.bl (subT "int" T)) := (rfl)
@[simp] theorem isTy_str {T : String} {b : Str} : isTy T (.str b) = some (.bl (subT "str" T)) := (rfl)
@[simp] theorem isTy_tup {T : String} {b : List PV} : isTy T (.tup b) = some (.bl (subT "tuple" T)) := (rfl)
@[simp] theorem isTy_ktp {T : String} {b : List PV} : isTy T (.ktp b) = some (.bl (subT "tuple" T)) := (rfl)
@[simp] theorem isTy_lst {T : String} {b : List PV} : isTy T (.lst b) = some (.bl (subT "list" T)) := (rfl)
@[simp] theorem isTy_dic {T : String} {k : Bool} {b c : List PV} : isTy T (.dic k b c) = some (.bl (subT "dict" T)) := (rfl)
@[simp] theorem asg_nm {i : Nat} {w : Val} {σ : Sl} : asg (.nm i) w σ = some (σ.set i (some w)) := by unfold asg; rfl
@[simp] theorem asg_tp {ts : List Tgt} {ds : List PV} {σ : Sl} : asg (.tp ts) (.t (.tup ds)) σ = asgs ts (ds.map .t) σ := by
  rw [asg]
@[simp] theorem asgs_nil {σ : Sl} : asgs [] [] σ = some σ := by unfold asgs; rfl
@[simp] theorem asgs_cons {t : Tgt} {ts : List Tgt} {d : Val} {ds : List Val} {σ : Sl} : asgs (t :: ts) (d :: ds) σ = match asg t d σ with
    | some σ1 => asgs ts ds σ1
    | none => none := by first | (rw [asgs]; rfl) | rw [asgs]
@[simp] theorem sl_nm {i : Nat} : (Tgt.nm i).sl = [i] := by unfold Tgt.sl; rfl
@[simp] theorem sl_tp {ts : List Tgt} : (Tgt.tp ts).sl = sls ts := by unfold Tgt.sl; rfl
@[simp] theorem sls_nil : sls [] = [] := by unfold sls; rfl
@[simp] theorem sls_cons {t : Tgt} {ts : List Tgt} : sls (t :: ts) = t.sl ++ sls ts := by rw [sls]
@[simp] theorem asT_nil : asT [] = some [] := (rfl)
@[simp] theorem asT_cons {d : PV} {ws : List Val} : asT (.t d :: ws) = (asT ws).map (d :: ·) := (rfl)
theorem szL (n : Nat) (h : n ≤ 1000000 := by decide) : n ≤ sizeLine := by
  have := sizeLine_eq
  omega
@[simp] theorem gTup_0 {μ : Store} : gTup [] μ = .ok (.t (.tup [])) μ := (rfl)
@[simp] theorem gTup_1 {a : PV} {μ : Store} : gTup [.t a] μ = .ok (.t (.tup [a])) μ := gTup_ok rfl (szL 1)
@[simp] theorem gTup_2 {a b : PV} {μ : Store} : gTup [.t a, .t b] μ = .ok (.t (.tup [a, b])) μ := gTup_ok rfl (szL 2)
@[simp] theorem gTup_3 {a b c : PV} {μ : Store} : gTup [.t a, .t b, .t c] μ = .ok (.t (.tup [a, b, c])) μ := gTup_ok rfl (szL 3)
@[simp] theorem gTup_4 {a b c d : PV} {μ : Store} : gTup [.t a, .t b, .t c, .t d] μ = .ok (.t (.tup [a, b, c, d])) μ := gTup_ok rfl (szL 4)
@[simp] theorem gLst_0 {μ : Store} : gLst [] μ = .ok [] μ := (rfl)
@[simp] theorem gLst_1 {a : PV} {μ : Store} : gLst [.t a] μ = .ok [a] μ := gLst_ok rfl (szL 1)
@[simp] theorem gLst_2 {a b : PV} {μ : Store} : gLst [.t a, .t b] μ = .ok [a, b] μ := gLst_ok rfl (szL 2)
@[simp] theorem gLst_3 {a b c : PV} {μ : Store} : gLst [.t a, .t b, .t c] μ = .ok [a, b, c] μ := gLst_ok rfl (szL 3)
@[simp] theorem gLst_4 {a b c d : PV} {μ : Store} : gLst [.t a, .t b, .t c, .t d] μ = .ok [a, b, c, d] μ := gLst_ok rfl (szL 4)
@[simp] theorem gLst_5 {a b c d e : PV} {μ : Store} : gLst [.t a, .t b, .t c, .t d, .t e] μ = .ok [a, b, c, d, e] μ := gLst_ok rfl (szL 5)
@[simp] theorem gLst_6 {a b c d e f : PV} {μ : Store} : gLst [.t a, .t b, .t c, .t d, .t e, .t f] μ = .ok [a, b, c, d, e, f] μ := gLst_ok rfl (szL 6)
@[simp] theorem gLst_7 {a b c d e f g : PV} {μ : Store} : gLst [.t a, .t b, .t c, .t d, .t e, .t f, .t g] μ = .ok [a, b, c, d, e, f, g] μ := gLst_ok rfl (szL 7)
@[simp] theorem gLst_8 {a b c d e f g h : PV} {μ : Store} : gLst [.t a, .t b, .t c, .t d, .t e, .t f, .t g, .t h] μ = .ok [a, b, c, d, e, f, g, h] μ := gLst_ok rfl (szL 8)
theorem szF_ok {ds : List PV} {μ : Store} (h : ds.length ≤ sizeLine) : szF ds μ = .ok ds μ := if_pos h
theorem allV_map {α : Type} (l : List α) (f : α → Bool) : allV [.lst (l.map fun d => .bl (f d))] = some (.bl (l.all f)) := by
  have e : (l.map fun d => PV.bl (f d)) = (l.map f).map .bl := by rw [List.map_map]; rfl
  show (blsOf _).map _ = _
  rw [e, blsOf_map]
  simp [List.all_map]
def isIntB : PV → Bool
  | .int _ => true
  | _ => false
def isRowB (d : PV) (w n : Int) : Bool := match d with
  | .tup l => decide ((l.length : Int) = w) && l.all (isThingB n)
  | _ => false
theorem range1_ok {n : Nat} {μ : Store} (h : n ≤ 1000000) : gRange1 [.t (.int (n : Int))] μ = .ok (rgI 0 n) μ := by
  simp only [gRange1]
  rw [if_pos (bnd_of (by omega) (by omega)), Int.toNat_natCast]
theorem rgI_nat (n : Nat) : rgI 0 n = (List.range n).map fun (k : Nat) => .int (k : Int) := by
  unfold rgI
  simp only [Int.zero_add]
end PM
namespace PM
open PySem PySem.Spec PyProof.Rows L2
/-! ### lists of numbers: plain facts -/
theorem getD_mem {l : List Int} {i : Nat} (h : i < l.length) : l.getD i 0 ∈ l := by
  rw [List.getD_eq_getElem?_getD, List.getElem?_eq_getElem h]; exact List.getElem_mem h
theorem row_all {l : List Int} {n : Nat} (h : ∀ x ∈ l, 0 ≤ x ∧ x < (n : Int)) : (l.map PV.int).all (isThingB n) = true := by
  rw [List.all_map, List.all_eq_true]
  intro x hx
  have := h x hx
  simp [isThingB, this.1, this.2]
theorem SD_tupI {l : List Int} {k : Nat} (h : l.length ≤ 100000) : SD (k + 1) (tupI l) := SD_tup.mpr ⟨by rw [List.length_map]; exact h, SD_ints⟩
theorem addF_ok {a b : List PV} (h : a.length + b.length ≤ 1000000) : addF (.lst a) (.lst b) = some (a ++ b) := if_pos (szL _ h)
theorem addV_tup {a b : List PV} (h : a.length + b.length ≤ 1000000) : addV (.tup a) (.tup b) = some (.tup (a ++ b)) := if_pos (szL _ h)
theorem extF_ok {μ : Store} {k : Nat} {ds es : List PV} (h : μ[k]? = some (some (.lst ds))) (hl : ds.length + es.length ≤ 1000000) : gExt (.c k) [.t (.lst es)] μ = .ok (.t .non) (μ.set k (some (.lst (ds ++ es)))) := by
  simp only [gExt, lstAt, h, views, view]
  rw [if_pos (szL _ hl)]
theorem range_at {n i : Nat} {d : PV} (h : (rgI 0 n)[i]? = some d) : i < n ∧ d = .int (i : Int) := by
  rw [rgI_nat, List.getElem?_map] at h
  obtain ⟨b, hb, rfl⟩ := Option.map_eq_some_iff.mp h
  have hi : i < n := by
    have := (List.getElem?_eq_some_iff.mp hb).1
    simpa using this
  rw [List.getElem?_range hi] at hb
  cases hb
  exact ⟨hi, rfl⟩
theorem rgI_len (n : Nat) : (rgI 0 n).length = n := by unfold rgI; simp
theorem enumP_at {l : List PV} {i : Nat} {d : PV} (h : (enumP l)[i]? = some d) : ∃ z, l[i]? = some z ∧ d = .tup [.int (i : Int), z] := enum_at h
section
variable {T : Tgt} {B : MSt} {d : PV} {ds : List PV} {σ σ1 σ2 : Sl} {μ μ2 : Store}
theorem forL_nx (h1 : asg T (.t d) σ = some σ1) (h2 : B σ1 μ = .nx σ2 μ2) : forL T B (d :: ds) σ μ = forL T B ds σ2 μ2 := by rw [forL, h1]; simp only [h2]
end
end PM
namespace PM
open PySem PySem.Spec PyProof.Rows L2
section
variable {μ : Store} {σ : Sl} {fa fb fc : ME} {fs : Sl → Store → R (List Val)}
@[simp] theorem eFrz_eq : eFrz fa σ μ = (fa σ μ).bind fun w μ => match frz1 μ w with
  | some (w', μ') => .ok w' μ'
  | none => .stuck := (rfl)
theorem frz_lst {k : Nat} {ds : List PV} (h : μ[k]? = some (some (.lst ds))) : frz1 μ (.c k) = some (.t (.lst ds), μ.set k none) := by simp [frz1, h]
theorem frz_dic {k : Nat} {b : Bool} {ks ds : List PV} (h : μ[k]? = some (some (.dic b ks ds))) : frz1 μ (.c k) = some (.t (.dic b ks ds), μ.set k none) := by simp [frz1, h]
@[simp] theorem frz_t {d : PV} : frz1 μ (.t d) = some (.t d, μ) := (rfl)
@[simp] theorem listF_dic {ks vs : List PV} : listF [.dic false ks vs] = some ks := (rfl)
@[simp] theorem lenV_dic {b : Bool} {ks vs : List PV} : lenV [.dic b ks vs] = some (.int ks.length) := (rfl)
@[simp] theorem at_snoc {α : Type} {l : List α} {x : α} : (l ++ [x])[l.length]? = some x := by simp
@[simp] theorem set_snoc {α : Type} {l : List α} {x y : α} : (l ++ [x]).set l.length y = l ++ [y] := by
  rw [List.set_append_right _ _ (Nat.le_refl _), Nat.sub_self]; rfl
@[simp] theorem take_snoc {α : Type} {l : List α} {x : α} : (l ++ [x]).take l.length = l := by simp
end
/-! ### enumerate, from a place on -/
def enumF : Nat → List PV → List PV
  | _, [] => []
  | k, d :: ds => .tup [.int (k : Int), d] :: enumF (k + 1) ds
theorem enumP_F (l : List PV) : enumP l = enumF 0 l := by
  have key : ∀ (l : List PV) (k : Nat), ((List.range l.length).map (· + k)).zipWith (fun (k : Nat) d => PV.tup [.int (k : Int), d]) l = enumF k l := by
    intro l
    induction l with
    | nil => intro k; rfl
    | cons d ds ih =>
      intro k
      rw [List.length_cons, List.range_succ_eq_map, List.map_cons, List.zipWith_cons_cons, enumF, List.map_map, ← ih (k + 1)]
      congr 1
      · simp
      · congr 1
        exact List.map_congr_left fun a _ => by simp; omega
  have := key l 0
  simpa [enumP] using this
/-! ### small flat data, the texts too -/
def SB : Nat → PV → Prop
  | _, .non => True
  | _, .bl _ => True
  | _, .int _ => True
  | _, .str x => x.length ≤ 1000
  | n + 1, .tup l => l.length ≤ 100000 ∧ ∀ x ∈ l, SB n x
  | n + 1, .lst l => l.length ≤ 100000 ∧ ∀ x ∈ l, SB n x
  | _, _ => False
theorem SB_tup {n : Nat} {l : List PV} : SB (n + 1) (.tup l) ↔ l.length ≤ 100000 ∧ ∀ x ∈ l, SB n x := by rw [SB]
theorem SB_lst {n : Nat} {l : List PV} : SB (n + 1) (.lst l) ↔ l.length ≤ 100000 ∧ ∀ x ∈ l, SB n x := by rw [SB]
@[simp] theorem SB_int {n : Nat} {i : Int} : SB n (.int i) := by rw [SB]; trivial
@[simp] theorem SB_bl {n : Nat} {i : Bool} : SB n (.bl i) := by rw [SB]; trivial
theorem SB_str {n : Nat} {i : Str} : SB n (.str i) ↔ i.length ≤ 1000 := by rw [SB]
@[simp] theorem SB_non {n : Nat} : SB n .non := by rw [SB]; trivial
theorem SB_0t {l : List PV} : ¬ SB 0 (.tup l) := by rw [SB] <;> simp
theorem SB_0l {l : List PV} : ¬ SB 0 (.lst l) := by rw [SB] <;> simp
theorem SB_nodic {n : Nat} {b : Bool} {k l : List PV} : ¬ SB n (.dic b k l) := by cases n <;> (rw [SB] <;> simp)
theorem SB_noobj {n : Nat} {C : Str} {k : List Str} {l : List PV} : ¬ SB n (.obj C k l) := by cases n <;> (rw [SB] <;> simp)
theorem SB_noktp {n : Nat} {l : List PV} : ¬ SB n (.ktp l) := by cases n <;> (rw [SB] <;> simp)
theorem SB.sd {n : Nat} : ∀ {d : PV}, SB n d → SD n d := by
  induction n with
  | zero =>
    intro d h
    cases d <;> first | simp | exact absurd h SB_0t | exact absurd h SB_0l | exact absurd h SB_nodic | exact absurd h SB_noobj | exact absurd h SB_noktp
  | succ n ih =>
    intro d h
    cases d with
    | tup l => rw [SB_tup] at h; exact SD_tup.mpr ⟨h.1, fun x hx => ih (h.2 x hx)⟩
    | lst l => rw [SB_lst] at h; exact SD_lst.mpr ⟨h.1, fun x hx => ih (h.2 x hx)⟩
    | dic b k l => exact absurd h SB_nodic
    | obj C k l => exact absurd h SB_noobj
    | ktp l => exact absurd h SB_noktp
    | _ => simp
theorem SB.up {n m : Nat} {d : PV} (h : SB n d) (k : n ≤ m) : SB m d := by
  induction n generalizing m d with
  | zero => cases d <;> first | simp | (rw [SB_str] at h ⊢; exact h) | exact absurd h SB_0t | exact absurd h SB_0l | exact absurd h SB_nodic | exact absurd h SB_noobj | exact absurd h SB_noktp
  | succ n ih =>
    cases m with
    | zero => omega
    | succ m =>
      cases d with
      | tup l => rw [SB_tup] at h ⊢; exact ⟨h.1, fun x hx => ih (h.2 x hx) (by omega)⟩
      | lst l => rw [SB_lst] at h ⊢; exact ⟨h.1, fun x hx => ih (h.2 x hx) (by omega)⟩
      | dic b k l => exact absurd h SB_nodic
      | obj C k l => exact absurd h SB_noobj
      | ktp l => exact absurd h SB_noktp
      | str x => rw [SB_str] at h ⊢; exact h
      | _ => simp
theorem SB.tupE {n : Nat} {l : List PV} (h : SB n (.tup l)) : ∃ m, n = m + 1 ∧ l.length ≤ 100000 ∧ ∀ x ∈ l, SB m x := by
  cases n with
  | zero => exact absurd h SB_0t
  | succ m => exact ⟨m, rfl, SB_tup.mp h⟩
theorem SB.ty {n : Nat} {d : PV} (h : SB n d) : tyN d ≠ none := h.sd.ty
theorem SB.ok {n : Nat} {d : PV} (h : SB n d) (k : n ≤ 64 := by decide) : okD d = true := h.sd.ok k
/-! ### texts -/
@[simp] theorem gIt_str {z : Str} {μ : Store} : gIt (.t (.str z)) μ = .ok (z.cps.toList.map fun c => .str ⟨#[c]⟩) μ := (rfl)
theorem str_len (z : Str) : z.length = z.cps.toList.length := by rw [Array.length_toList]; rfl
theorem inW_small {i : Int} (h1 : -1000000 ≤ i) (h2 : i ≤ 1000000) : inW i = true := Nat.ble_eq_true_of_le (by omega)
theorem mulV_ok' {i j : Int} (h1 : -1000000 ≤ i) (h2 : i ≤ 1000000) : mulV (.int i) (.int j) = some (.int (i * j)) := by
  simp [mulV, inW_small h1 h2]
/-! ### dicts -/
theorem dfind_some {k : PV} : ∀ {ks vs : List PV}, ks.length = vs.length → (dfind ks vs k).isSome = ks.any (keyEq · k)
  | [], [], _ => rfl
  | x :: ks, v :: vs, h => by
    show (if keyEq x k then some v else dfind ks vs k).isSome = (keyEq x k || ks.any (keyEq · k))
    cases keyEq x k
    · simpa using dfind_some (Nat.succ.inj h)
    · rfl
  | [], _ :: _, h => by cases h
  | _ :: _, [], h => by cases h
@[simp] theorem keyEq_str {x y : Str} : keyEq (.str x) (.str y) = decide (x = y) := (rfl)
@[simp] theorem keyB_str {x : Str} : keyB false (.str x) = true := (rfl)
theorem inPV_dic {b : Bool} {ks vs : List PV} {k : PV} (h : keyB b k = true) : inPV k (.dic b ks vs) = some (.bl (dfind ks vs k).isSome) := by
  unfold inPV inV'
  split <;> first | (cases h; done) | skip
  all_goals first
    | (rename_i h1 h2; cases h2; done)
    | skip
  · rename_i heq; cases heq; simp [h]
  all_goals simp_all
end PM
/-! texts as lists of signs -/
namespace PM
open PySem PySem.Spec PyProof.Rows L2
def sg (l : List Nat) : Str := ⟨l.toArray⟩
@[simp] theorem sg_list (l : List Nat) : (sg l).cps.toList = l := (rfl)
@[simp] theorem sg_len (l : List Nat) : (sg l).length = l.length := by rw [str_len, sg_list]
@[simp] theorem sg_inj {l m : List Nat} : sg l = sg m ↔ l = m := by
  refine ⟨fun h => ?_, fun h => by rw [h]⟩
  have := congrArg (fun z : Str => z.cps.toList) h
  simpa using this
theorem cut_len {α : Type} (l : List α) (lo hi : Option Int) : (cutG l lo hi).length ≤ l.length := by
  unfold cutG
  rw [List.length_take, List.length_drop]
  omega
theorem cut_mem {α : Type} {l : List α} {lo hi : Option Int} {x : α} (h : x ∈ cutG l lo hi) : x ∈ l := List.mem_of_mem_drop (List.mem_of_mem_take h)
mutual
theorem data_refl : ∀ x : PV, PyData.eqv x.data x.data = true
  | .non => by simp [PV.data, PyData.eqv]
  | .bl _ => by simp [PV.data, PyData.eqv]
  | .int _ => by simp [PV.data, PyData.eqv]
  | .str _ => by simp [PV.data, PyData.eqv]
  | .tup l => by simp only [PV.data, PyData.eqv]; exact datas_refl l
  | .lst l => by simp only [PV.data, PyData.eqv]; exact datas_refl l
  | .ktp l => by simp only [PV.data, PyData.eqv]; exact datas_refl l
  | .dic _ _ _ => by simp [PV.data, PyData.eqv]
  | .obj _ _ _ => by simp [PV.data, PyData.eqv]
theorem datas_refl : ∀ l : List PV, PyData.eqvAll (datas l) (datas l) = true
  | [] => by simp [datas, PyData.eqvAll]
  | x :: l => by simp only [datas, PyData.eqvAll]; rw [data_refl x, datas_refl l]; rfl
end
theorem eqB_refl (x : PV) : eqB x x = true := data_refl x
/-! ### sums, least, greatest -/
theorem numsOf_map (l : List Int) : numsOf (l.map .int) = some l := by
  induction l with
  | nil => rfl
  | cons a l ih => show (numsOf (l.map .int)).map _ = _; rw [ih]; rfl
theorem sumV_tupI (l : List Int) : sumV [tupI l] = some (.int l.sum) := by
  show (numsOf (l.map .int)).map _ = _
  rw [numsOf_map]; rfl
theorem minV1_tupI {l : List Int} (h : l ≠ []) : ∃ m ∈ l, minV1 [tupI l] = some (.int m) := by
  show ∃ m ∈ l, (intsOf (l.map .int)).bind minOf = _
  rw [intsOf_map]
  cases l with
  | nil => exact absurd rfl h
  | cons n ns => exact ⟨_, foldl_min_mem n ns, rfl⟩
theorem maxV1_tupI {l : List Int} (h : l ≠ []) : ∃ m ∈ l, maxV1 [tupI l] = some (.int m) := by
  show ∃ m ∈ l, (intsOf (l.map .int)).bind maxOf = _
  rw [intsOf_map]
  cases l with
  | nil => exact absurd rfl h
  | cons n ns => exact ⟨_, foldl_max_mem n ns, rfl⟩
end PM
/-! the well as a state: draws as plain functions -/
namespace PM
open PySem PySem.Spec PyProof.Rows L2
abbrev W3 := Int × Int × Int
def wlw (w : W3) : Option Cell := wl w.1 w.2.1 w.2.2
def drX (w : W3) : Int :=
  let x := (w.2.1 + 104729 * (w.2.2 + 1) + 1) * 48271 % 2147483647
  let y := x * (x / 1009 + 69621) % 2147483647
  y * (y / 2003 + 40692) % 2147483399
def dr (m : Nat) (w : W3) : Nat × W3 := if 0 < w.1 then ((w.1 % (m : Int)).toNat, (w.1 / (m : Int), w.2.1, w.2.2)) else ((drX w % (m : Int)).toNat, (w.1, w.2.1, w.2.2 + 1))
/-- one after another, with the well -/
def mapW {α β : Type} (f : α → W3 → β × W3) : List α → W3 → List β × W3
  | [], w => ([], w)
  | a :: l, w => ((f a w).1 :: (mapW f l (f a w).2).1, (mapW f l (f a w).2).2)
@[simp] theorem mapW_len {α β : Type} (f : α → W3 → β × W3) : ∀ (l : List α) (w : W3), (mapW f l w).1.length = l.length
  | [], _ => rfl
  | a :: l, w => by show Nat.succ _ = Nat.succ _; rw [mapW_len f l]
theorem mapW_mem {α β : Type} {f : α → W3 → β × W3} {P : β → Prop} : ∀ {l : List α} {w : W3}, (∀ a ∈ l, ∀ w, P (f a w).1) → ∀ y ∈ (mapW f l w).1, P y
  | [], _, _, y, h => nomatch h
  | a :: l, w, hp, y, h => by
    rcases List.mem_cons.mp h with rfl | h
    · exact hp a List.mem_cons_self w
    · exact mapW_mem (fun b hb => hp b (List.mem_cons_of_mem _ hb)) y h
theorem mapW_map {α β γ : Type} (f : α → W3 → β × W3) (g : γ → α) : ∀ (l : List γ) (w : W3), mapW f (l.map g) w = mapW (fun c w => f (g c) w) l w
  | [], _ => rfl
  | a :: l, w => by
    show ((f (g a) w).1 :: (mapW f (l.map g) _).1, (mapW f (l.map g) _).2) = _
    rw [mapW_map f g l]
    rfl
theorem mapW_post {α β γ : Type} (f : α → W3 → β × W3) (g : β → γ) : ∀ (l : List α) (w : W3), mapW (fun a w => (g (f a w).1, (f a w).2)) l w = ((mapW f l w).1.map g, (mapW f l w).2)
  | [], _ => rfl
  | a :: l, w => by
    show (g (f a w).1 :: (mapW (fun a w => (g (f a w).1, (f a w).2)) l _).1, (mapW (fun a w => (g (f a w).1, (f a w).2)) l _).2) = _
    rw [mapW_post f g l]
    rfl
end PM
/-! cells read and changed -/
namespace PM
open PySem PySem.Spec PyProof.Rows L2
section
variable {μ : Store} {k : Nat} {ds : List PV} {d e : PV}
theorem lstAt_cell (h : μ[k]? = some (some (.lst ds))) : lstAt μ (.c k) = some (k, ds) := by simp [lstAt, h]
end
theorem eMutG_eq {g : Val → List Val → Store → R Val} {o : ME} {as : Sl → Store → R (List Val)} {σ : Sl} {μ : Store} : eMutG g o as σ μ = (o σ μ).bind fun w μ1 => match lstAt μ1 w with
  | none => .stuck
  | some _ => (as σ μ1).bind fun ws μ2 => g w ws μ2 := (rfl)
end PM
namespace PM
open PySem PySem.Spec PyProof.Rows L2
@[simp] theorem gCall_4cc {fn : Fn} {k j : Nat} {e f : PV} {μ : Store} : gCall 4 fn [.c k, .c j, .t e, .t f] μ = fn [.c k, .c j, .t e, .t f] μ := (rfl)
@[simp] theorem gCall_2cc {fn : Fn} {k j : Nat} {μ : Store} : gCall 2 fn [.c k, .c j] μ = fn [.c k, .c j] μ := (rfl)
@[simp] theorem gCall_3cc {fn : Fn} {k j : Nat} {e : PV} {μ : Store} : gCall 3 fn [.c k, .c j, .t e] μ = fn [.c k, .c j, .t e] μ := (rfl)
@[simp] theorem gCall_5 {fn : Fn} {d e f g h : PV} {μ : Store} : gCall 5 fn [.t d, .t e, .t f, .t g, .t h] μ = fn [.t d, .t e, .t f, .t g, .t h] μ := (rfl)
@[simp] theorem gCall_5c {fn : Fn} {k : Nat} {e f g h : PV} {μ : Store} : gCall 5 fn [.c k, .t e, .t f, .t g, .t h] μ = fn [.c k, .t e, .t f, .t g, .t h] μ := (rfl)
end PM
namespace PM
open PySem PySem.Spec PyProof.Rows L2
theorem lcL_cons {T : Tgt} {test : Sl → Store → R Bool} {elt : ME} {d y : PV} {ds ys : List PV} {σ σ1 : Sl} {μ μ2 μ3 : Store} (h1 : asg T (.t d) σ = some σ1) (h2 : test σ1 μ = .ok true μ) (h3 : elt σ1 μ = .ok (.t y) μ2) (h4 : lcL T test elt ds σ μ2 = .ok ys μ3) : lcL T test elt (d :: ds) σ μ = .ok (y :: ys) μ3 := by
  unfold lcL
  rw [h1]
  simp only [h2, h3, noex_ok, bind_ok, if_true, gT, h4]
theorem lcL_skip {T : Tgt} {test : Sl → Store → R Bool} {elt : ME} {d : PV} {ds ys : List PV} {σ σ1 : Sl} {μ μ3 : Store} (h1 : asg T (.t d) σ = some σ1) (h2 : test σ1 μ = .ok false μ) (h4 : lcL T test elt ds σ μ = .ok ys μ3) : lcL T test elt (d :: ds) σ μ = .ok ys μ3 := by
  unfold lcL
  rw [h1]
  simp only [h2, noex_ok, bind_ok, Bool.false_eq_true, if_false, h4]
end PM
namespace PM
open PySem PySem.Spec PyProof.Rows L2
end PM
namespace PM
open PySem PySem.Spec PyProof.Rows L2
@[simp] theorem gCall_6c {fn : Fn} {k : Nat} {e f g h i : PV} {μ : Store} : gCall 6 fn [.c k, .t e, .t f, .t g, .t h, .t i] μ = fn [.c k, .t e, .t f, .t g, .t h, .t i] μ := (rfl)
@[simp] theorem gCall_6 {fn : Fn} {d e f g h i : PV} {μ : Store} : gCall 6 fn [.t d, .t e, .t f, .t g, .t h, .t i] μ = fn [.t d, .t e, .t f, .t g, .t h, .t i] μ := (rfl)
end PM
namespace K31
open PySem PySem.Spec PyProof.Rows L2 PM
noncomputable section
def b__law_draw : MSt :=
  (sSeq (sIf (tVal (e2 (p2 gtV) (e2 (p2 atV) (eV 0) (eC (.int 0))) (eC (.int 0))))
      (sSeq (sAsg (.nm 2) (e2 (p2 modV) (e2 (p2 atV) (eV 0) (eC (.int 0))) (eV 1)))
    (sSeq (sSetL (e2 (p2 fdivV) (e2 (p2 atV) (eV 0) (eC (.int 0))) (eV 1)) (eV 0) (eC (.int 0)))
    (sRet (eV 2))))
      sPass)
    (sSeq (sSetL (e2 (p2 addV) (e2 (p2 atV) (eV 0) (eC (.int 2))) (eC (.int 1))) (eV 0) (eC (.int 2)))
    (sSeq (sAsg (.nm 3) (e2 (p2 modV) (e2 (p2 powV) (e2 (p2 addV) (e2 (p2 atV) (eV 0) (eC (.int 1))) (e2 (p2 mulV) (eC (.int 15485863)) (e2 (p2 atV) (eV 0) (eC (.int 2))))) (eC (.int 3))) (eC (.int 2147483629))))
    (sSeq (sAsg (.nm 3) (e2 (p2 modV) (e2 (p2 mulV) (eV 3) (e2 (p2 addV) (e2 (p2 addV) (e2 (p2 fdivV) (eV 3) (eC (.int 1009))) (eC (.int 69621))) (e2 (p2 atV) (eV 0) (eC (.int 2))))) (eC (.int 2147483647))))
    (sRet (e2 (p2 modV) (e2 (p2 fdivV) (eV 3) (eC (.int 11))) (eV 1)))))))
def fn__law_draw : Fn := fnOf 4 b__law_draw
def e1__law_relation : ME :=
  (eN (gCall 2 fn__law_draw) (aCons (eV 0) (aCons (eV 1) aNil)))
def e2__law_relation : ME :=
  (eN (pN tupleV) (aCons (eOfF (lcF (eN gRange1 (aCons (eV 2) aNil)) (.nm 6) tYes' e1__law_relation)) aNil))
def b__law_relation : MSt :=
  (sSeq (sAsg (.nm 4) (eOfF (lcF (eN gRange1 (aCons (eV 3) aNil)) (.nm 5) tYes' e2__law_relation)))
    (sRet (eN gTup (aCons (eV 2) (aCons (eOfF (eN (pfN sortSetG) (aCons (eV 4) aNil))) aNil)))))
def fn__law_relation : Fn := fnOf 7 b__law_relation
def b__law_said (L : Lm) (th : ME) : MSt :=
  (sTry (wipeX 2 (sRet (eN gTup2 (aCons (eC (.str "told")) (aCons (eAct L th) aNil))))) [⟨"TooMany", ["TooMany"], ["NoFit", "NoLot", "NoRow"], 1, (sRet (eN gTup (aCons (eC (.str "many")) (aCons (e1 (gXf ["TooMany"] "many") (eV 1)) aNil))))⟩, ⟨"NoLot", ["NoLot", "NoRow"], ["NoFit", "TooMany"], 1, (sRet (eN gTup (aCons (e2 (p2 atV) (eOfF (eN gLst (aCons (eC (.str "lot")) (aCons (eC (.str "row")) aNil)))) (eN (pN intV) (aCons (e1 (gIsX [("NoLot", false), ("NoRow", true)]) (eV 1)) aNil))) (aCons (e1 (gXf ["NoLot", "NoRow"] "at") (eV 1)) aNil))))⟩, ⟨"WishError", ["NoFit", "NoLot", "NoRow", "TooMany"], [], 1, (sRet (eN gTup (aCons (e2 (p2 atV) (eOfF (eN gLst (aCons (eC (.str "other")) (aCons (eC (.str "fit")) aNil)))) (eN (pN intV) (aCons (e1 (gIsX [("NoFit", true), ("NoLot", false), ("NoRow", false), ("TooMany", false)]) (eV 1)) aNil))) (aCons (eC (.int 0)) aNil))))⟩])
def fl__law_said (L : Lm) (th : ME) : Fn := fnOf 2 (b__law_said L th)
def b_is_whole : MSt :=
  (sRet (eAnd (e1 (p1 (isTy "int")) (eV 0)) (eNot (e1 (p1 (isTy "bool")) (eV 0)))))
def fn_is_whole : Fn := fnOf 1 b_is_whole
def b_is_thing : MSt :=
  (sRet (eAnd (eN (gCall 1 fn_is_whole) (aCons (eV 0) aNil)) (eChain leV ltV (eC (.int 0)) (eV 0) (eV 1))))
def fn_is_thing : Fn := fnOf 2 b_is_thing
def e1_is_row : ME :=
  (eN (gCall 2 fn_is_thing) (aCons (eV 3) (aCons (eV 2) aNil)))
def b_is_row : MSt :=
  (sRet (eAnd (e1 (p1 (isTy "tuple")) (eV 0)) (eAnd (e2 (p2 eqV) (eN (pN lenV) (aCons (eV 0) aNil)) (eV 1)) (eN (pN allV) (aCons (eOfF (lcF (e1 gIt (eV 0)) (.nm 3) tYes' e1_is_row)) aNil)))))
def fn_is_row : Fn := fnOf 4 b_is_row
def f1_check_relation : MSt :=
  (sIf (tOr' (tNot' (tVal (eN (gCall 3 fn_is_row) (aCons (eV 5) (aCons (eV 2) (aCons (eV 0) aNil)))))) (tAnd' (tVal (e2 (p2 gtV) (eV 4) (eC (.int 0)))) (tNot' (tVal (e2 (p2 ltV) (e2 (p2 atV) (eV 3) (e2 (p2 subV) (eV 4) (eC (.int 1)))) (eV 5))))))
      (sRaise "NoLot" "at" (aCons (eV 4) aNil))
      sPass)
def b_check_relation : MSt :=
  (sSeq (sIf (tOr' (tNot' (tVal (e1 (p1 (isTy "tuple")) (eV 1)))) (tVal (e2 (p2 neV) (eN (pN lenV) (aCons (eV 1) aNil)) (eC (.int 2)))))
      (sRaise "NoLot" "at" (aCons (e1 (p1 negV) (eC (.int 1))) aNil))
      sPass)
    (sSeq (sAsg (.tp [(.nm 2), (.nm 3)]) (eV 1))
    (sSeq (sIf (tOr' (tNot' (tVal (eN (gCall 1 fn_is_whole) (aCons (eV 2) aNil)))) (tOr' (tNot' (tVal (eChain leV leV (eC (.int 0)) (eV 2) (eC (.int 12))))) (tNot' (tVal (e1 (p1 (isTy "list")) (eV 3))))))
      (sRaise "NoLot" "at" (aCons (e1 (p1 negV) (eC (.int 1))) aNil))
      sPass)
    (sFor (eN gEnum (aCons (eV 3) aNil)) (.tp [(.nm 4), (.nm 5)]) f1_check_relation))))
def fn_check_relation : Fn := fnOf 6 b_check_relation
def e1_beside : ME :=
  (e2 (p2 addV) (eV 4) (eV 5))
def f1_beside : MSt :=
  (sExp (eExt (eV 3) (aCons (eOfF (lcF (e1 gIt (e2 (p2 atV) (eV 2) (eC (.int 1)))) (.nm 5) tYes' e1_beside)) aNil)))
def b_beside : MSt :=
  (sSeq (sExp (eN (gCall 2 fn_check_relation) (aCons (eV 0) (aCons (eV 1) aNil))))
    (sSeq (sExp (eN (gCall 2 fn_check_relation) (aCons (eV 0) (aCons (eV 2) aNil))))
    (sSeq (sIf (tVal (e2 (p2 gtV) (e2 (p2 addV) (e2 (p2 atV) (eV 1) (eC (.int 0))) (e2 (p2 atV) (eV 2) (eC (.int 0)))) (eC (.int 12))))
      (sRaise "TooMany" "many" (aCons (e2 (p2 addV) (e2 (p2 atV) (eV 1) (eC (.int 0))) (e2 (p2 atV) (eV 2) (eC (.int 0)))) aNil))
      sPass)
    (sSeq (sIf (tVal (e2 (p2 gtV) (e2 (p2 mulV) (eN (pN lenV) (aCons (e2 (p2 atV) (eV 1) (eC (.int 1))) aNil)) (eN (pN lenV) (aCons (e2 (p2 atV) (eV 2) (eC (.int 1))) aNil))) (eC (.int 400))))
      (sRaise "TooMany" "many" (aCons (e2 (p2 mulV) (eN (pN lenV) (aCons (e2 (p2 atV) (eV 1) (eC (.int 1))) aNil)) (eN (pN lenV) (aCons (e2 (p2 atV) (eV 2) (eC (.int 1))) aNil))) aNil))
      sPass)
    (sSeq (sAsg (.nm 3) (eCellF (eN gLst aNil)))
    (sSeq (sFor (e1 gIt (e2 (p2 atV) (eV 1) (eC (.int 1)))) (.nm 4) f1_beside)
    (sRet (eN gTupG (aCons (e2 (p2 addV) (e2 (p2 atV) (eV 1) (eC (.int 0))) (e2 (p2 atV) (eV 2) (eC (.int 0)))) (aCons (eV 3) aNil))))))))))
def fn_beside : Fn := fnOf 6 b_beside
def f1__law_plain : MSt :=
  (sSeq (sIf (tNot' (tVal (e1 (p1 (isTy "tuple")) (eV 2))))
      (sRet (eC (.bl false)))
      sPass)
    (sExp (eExt (eV 1) (aCons (eOfF (eN (pfN listF) (aCons (eV 2) aNil))) aNil))))
def e1__law_plain : ME :=
  (eAnd (e1 (p1 (isTy "int")) (eV 3)) (eNot (e1 (p1 (isTy "bool")) (eV 3))))
def b__law_plain : MSt :=
  (sSeq (sIf (tOr' (tNot' (tVal (e1 (p1 (isTy "tuple")) (eV 0)))) (tOr' (tVal (e2 (p2 neV) (eN (pN lenV) (aCons (eV 0) aNil)) (eC (.int 2)))) (tNot' (tVal (e1 (p1 (isTy "list")) (e2 (p2 atV) (eV 0) (eC (.int 1))))))))
      (sRet (eC (.bl false)))
      sPass)
    (sSeq (sAsg (.nm 1) (eCellF (eN gLst (aCons (e2 (p2 atV) (eV 0) (eC (.int 0))) aNil))))
    (sSeq (sFor (e1 gIt (e2 (p2 atV) (eV 0) (eC (.int 1)))) (.nm 2) f1__law_plain)
    (sSeq (sFrz 1) (sRet (eN (pN allV) (aCons (eOfF (lcF (e1 gIt (eV 1)) (.nm 3) tYes' e1__law_plain)) aNil)))))))
def fn__law_plain : Fn := fnOf 4 b__law_plain
def b__law_told_right : MSt :=
  (sSeq (sIf (tOr' (tVal (e2 (p2 neV) (e2 gAt2 (eV 1) (eC (.int 0))) (eC (.str "told")))) (tOr' (tNot' (tVal (eLend 1 (eN (gCall 1 fn__law_plain) (aCons (e2 (p2 atV) (eV 1) (eC (.int 1))) aNil))))) (tLend 1 (tVal (e2 (p2 neV) (e2 (p2 atV) (eV 1) (eC (.int 1))) (eN gTup (aCons (eV 2) (aCons (eOfF (eN (pfN sortSetG) (aCons (eV 3) aNil))) aNil))))))))
      (sRet (eC (.bl false)))
      sPass)
    (sSeq (sIf (tVal (e2 (p2 isntV) (eLend 1 (eN (gCall 2 fn_check_relation) (aCons (eV 0) (aCons (e2 (p2 atV) (eV 1) (eC (.int 1))) aNil)))) (eC .non)))
      (sRet (eC (.bl false)))
      sPass)
    (sSeq (sExp (eMut mClear (e2 gAtG (e2 gAt2 (eV 1) (eC (.int 1))) (eC (.int 1))) aNil))
    (sRet (eC (.bl true))))))
def fn__law_told_right : Fn := fnOf 4 b__law_told_right
def l1__law_beside_right : ME :=
  (eN (gCall 3 fn_beside) (aCons (eV 0) (aCons (eV 1) (aCons (eV 2) aNil))))
def e1__law_beside_right : ME :=
  (e2 (p2 addV) (eV 5) (eV 6))
def f1__law_beside_right : MSt :=
  (sExp (eExt (eV 4) (aCons (eOfF (lcF (e1 gIt (e2 (p2 atV) (eV 2) (eC (.int 1)))) (.nm 6) tYes' e1__law_beside_right)) aNil)))
def b__law_beside_right : MSt :=
  (sSeq (sAsg (.nm 3) (eLam fl__law_said l1__law_beside_right))
    (sSeq (sIf (tVal (e2 (p2 gtV) (e2 (p2 addV) (e2 (p2 atV) (eV 1) (eC (.int 0))) (e2 (p2 atV) (eV 2) (eC (.int 0)))) (eC (.int 12))))
      (sRet (e2 (p2 eqV) (eV 3) (eN gTup (aCons (eC (.str "many")) (aCons (e2 (p2 addV) (e2 (p2 atV) (eV 1) (eC (.int 0))) (e2 (p2 atV) (eV 2) (eC (.int 0)))) aNil)))))
      sPass)
    (sSeq (sIf (tVal (e2 (p2 gtV) (e2 (p2 mulV) (eN (pN lenV) (aCons (e2 (p2 atV) (eV 1) (eC (.int 1))) aNil)) (eN (pN lenV) (aCons (e2 (p2 atV) (eV 2) (eC (.int 1))) aNil))) (eC (.int 400))))
      (sRet (e2 (p2 eqV) (eV 3) (eN gTup (aCons (eC (.str "many")) (aCons (e2 (p2 mulV) (eN (pN lenV) (aCons (e2 (p2 atV) (eV 1) (eC (.int 1))) aNil)) (eN (pN lenV) (aCons (e2 (p2 atV) (eV 2) (eC (.int 1))) aNil))) aNil)))))
      sPass)
    (sSeq (sAsg (.nm 4) (eCellF (eN gLst aNil)))
    (sSeq (sFor (e1 gIt (e2 (p2 atV) (eV 1) (eC (.int 1)))) (.nm 5) f1__law_beside_right)
    (sSeq (sFrz 4) (sRet (eN (gCall 4 fn__law_told_right) (aCons (eV 0) (aCons (eV 3) (aCons (e2 (p2 addV) (e2 (p2 atV) (eV 1) (eC (.int 0))) (e2 (p2 atV) (eV 2) (eC (.int 0)))) (aCons (eV 4) aNil))))))))))))
def fn__law_beside_right : Fn := fnOf 7 b__law_beside_right
def e1_crossed : ME :=
  (eN gTup (aCons (eV 4) (aCons (eC (.bl true)) aNil)))
def t1_crossed : Sl → Store → R Bool :=
  (tVal (e2 (p2 inPV) (eV 4) (eV 3)))
def e2_crossed : ME :=
  (eV 4)
def b_crossed : MSt :=
  (sSeq (sExp (eN (gCall 2 fn_check_relation) (aCons (eV 0) (aCons (eV 1) aNil))))
    (sSeq (sExp (eN (gCall 2 fn_check_relation) (aCons (eV 0) (aCons (eV 2) aNil))))
    (sSeq (sIf (tVal (e2 (p2 neV) (e2 (p2 atV) (eV 1) (eC (.int 0))) (e2 (p2 atV) (eV 2) (eC (.int 0)))))
      (sRaise0 "NoFit")
      sPass)
    (sSeq (sAsg (.nm 3) (eFrz (e1 gDictT (eOfF (lcF (e1 gIt (e2 (p2 atV) (eV 2) (eC (.int 1)))) (.nm 4) tYes' e1_crossed)))))
    (sRet (eN gTupG (aCons (e2 (p2 atV) (eV 1) (eC (.int 0))) (aCons (eCellF (lcF (e1 gIt (e2 (p2 atV) (eV 1) (eC (.int 1)))) (.nm 4) t1_crossed e2_crossed)) aNil))))))))
def fn_crossed : Fn := fnOf 5 b_crossed
def l1__law_crossed_right : ME :=
  (eN (gCall 3 fn_crossed) (aCons (eV 0) (aCons (eV 1) (aCons (eV 2) aNil))))
def t1__law_crossed_right : Sl → Store → R Bool :=
  (tVal (e2 (p2 inPV) (eV 4) (e2 (p2 atV) (eV 2) (eC (.int 1)))))
def e1__law_crossed_right : ME :=
  (eV 4)
def b__law_crossed_right : MSt :=
  (sSeq (sAsg (.nm 3) (eLam fl__law_said l1__law_crossed_right))
    (sSeq (sIf (tVal (e2 (p2 neV) (e2 (p2 atV) (eV 1) (eC (.int 0))) (e2 (p2 atV) (eV 2) (eC (.int 0)))))
      (sRet (e2 (p2 eqV) (eV 3) (eN gTup (aCons (eC (.str "fit")) (aCons (eC (.int 0)) aNil)))))
      sPass)
    (sRet (eN (gCall 4 fn__law_told_right) (aCons (eV 0) (aCons (eV 3) (aCons (e2 (p2 atV) (eV 1) (eC (.int 0))) (aCons (eOfF (lcF (e1 gIt (e2 (p2 atV) (eV 1) (eC (.int 1)))) (.nm 4) t1__law_crossed_right e1__law_crossed_right)) aNil))))))))
def fn__law_crossed_right : Fn := fnOf 5 b__law_crossed_right
def f1_chosen : MSt :=
  (sIf (tNot' (tVal (eN (gCall 2 fn_is_thing) (aCons (eV 4) (aCons (e2 (p2 atV) (eV 1) (eC (.int 0))) aNil)))))
      (sRaise "NoRow" "at" (aCons (eV 3) aNil))
      sPass)
def e1_chosen : ME :=
  (e2 (p2 atV) (eV 5) (eV 4))
def e2_chosen : ME :=
  (eN (pN tupleV) (aCons (eOfF (lcF (e1 gIt (eV 2)) (.nm 4) tYes' e1_chosen)) aNil))
def b_chosen : MSt :=
  (sSeq (sExp (eN (gCall 2 fn_check_relation) (aCons (eV 0) (aCons (eV 1) aNil))))
    (sSeq (sIf (tOr' (tNot' (tVal (e1 (p1 (isTy "list")) (eV 2)))) (tVal (e2 (p2 gtV) (eN (pN lenV) (aCons (eV 2) aNil)) (eC (.int 12)))))
      (sRaise "NoRow" "at" (aCons (eC (.int 0)) aNil))
      sPass)
    (sSeq (sFor (eN gEnum (aCons (eV 2) aNil)) (.tp [(.nm 3), (.nm 4)]) f1_chosen)
    (sRet (eN gTupG (aCons (eN (pN lenV) (aCons (eV 2) aNil)) (aCons (eCellF (eN (pfN sortSetG) (aCons (eOfF (lcF (e1 gIt (e2 (p2 atV) (eV 1) (eC (.int 1)))) (.nm 5) tYes' e2_chosen)) aNil))) aNil)))))))
def fn_chosen : Fn := fnOf 6 b_chosen
def e1__law_chosen_right : ME :=
  (eN (gCall 2 fn__law_draw) (aCons (eV 0) (aCons (e2 (p2 atV) (eV 2) (eC (.int 0))) aNil)))
def l1__law_chosen_right : ME :=
  (eN (gCall 3 fn_chosen) (aCons (eV 1) (aCons (eV 2) (aCons (eV 4) aNil))))
def e2__law_chosen_right : ME :=
  (e2 (p2 atV) (eV 7) (eV 9))
def e3__law_chosen_right : ME :=
  (eN (pN tupleV) (aCons (eOfF (lcF (e1 gIt (eV 3)) (.nm 9) tYes' e2__law_chosen_right)) aNil))
def k1__law_chosen_right : MSt :=
  (sSeq (sAsg (.nm 4) (eOfF (eN (pfN listF) (aCons (eV 3) aNil))))
    (sSeq (sAsg (.nm 5) (eLam fl__law_said l1__law_chosen_right))
    (sSeq (sIf (tVal (e2 (p2 neV) (eV 4) (eV 3)))
      (sRet (eC (.bl false)))
      sPass)
    (sSeq (sAsg (.nm 6) (eOfF (lcF (e1 gIt (e2 (p2 atV) (eV 2) (eC (.int 1)))) (.nm 7) tYes' e3__law_chosen_right)))
    (sRet (eN (gCall 4 fn__law_told_right) (aCons (eV 1) (aCons (eV 5) (aCons (eN (pN lenV) (aCons (eV 3) aNil)) (aCons (eV 6) aNil))))))))))
def b__law_chosen_right : MSt :=
  (sSeq (sAsg (.nm 3) (eOfF (eN gLst aNil)))
    (sSeq (sIf (tVal (e2 (p2 gtV) (e2 (p2 atV) (eV 2) (eC (.int 0))) (eC (.int 0))))
      (sAsg (.nm 3) (eOfF (lcF (eN gRange1 (aCons (eN (gCall 2 fn__law_draw) (aCons (eV 0) (aCons (e2 (p2 atV) (eOfF (eN gLst (aCons (eC (.int 4)) (aCons (eC (.int 13)) aNil)))) (eN (gCall 2 fn__law_draw) (aCons (eV 0) (aCons (eC (.int 2)) aNil)))) aNil))) aNil)) (.nm 8) tYes' e1__law_chosen_right)))
      sPass)
    k1__law_chosen_right))
def fn__law_chosen_right : Fn := fnOf 10 b__law_chosen_right
def e1_equal_things : ME :=
  (eN gTup (aCons (eV 1) (aCons (eV 1) aNil)))
def b_equal_things : MSt :=
  (sRet (eN gTupG (aCons (eC (.int 2)) (aCons (eCellF (lcF (eN gRange1 (aCons (eV 0) aNil)) (.nm 1) tYes' e1_equal_things)) aNil))))
def fn_equal_things : Fn := fnOf 2 b_equal_things
def e1__law_all : ME :=
  (e2 (p2 addV) (eV 5) (eN gTup (aCons (eV 6) aNil)))
def f1__law_all : MSt :=
  (sExp (eExt (eV 4) (aCons (eOfF (lcF (eN gRange1 (aCons (eV 0) aNil)) (.nm 6) tYes' e1__law_all)) aNil)))
def f2__law_all : MSt :=
  (sSeq (sAsg (.nm 4) (eCellF (eN gLst aNil)))
    (sSeq (sFor (e1 gIt (eV 2)) (.nm 5) f1__law_all)
    (sSeq (sFrz 4) (sAsg (.nm 2) (eV 4)))))
def b__law_all : MSt :=
  (sSeq (sAsg (.nm 2) (eOfF (eN gLst (aCons (eN gTup aNil) aNil))))
    (sSeq (sFor (eN gRange1 (aCons (eV 1) aNil)) (.nm 3) f2__law_all)
    (sRet (eV 2))))
def fn__law_all : Fn := fnOf 7 b__law_all
def b__law_worth : MSt :=
  (sSeq (sIf (tOr' (tVal (e2 (p2 eqV) (eV 2) (eN gTup aNil))) (tVal (e2 (p2 eqV) (eV 0) (eC (.int 0)))))
      (sRet (e2 (p2 modV) (eV 1) (eV 3)))
      sPass)
    (sSeq (sAsg (.nm 4) (eOfF (eN gLst (aCons (eN (pN minV1) (aCons (eV 2) aNil)) (aCons (eN (pN maxV1) (aCons (eV 2) aNil)) (aCons (e2 (p2 modV) (eN (pN sumV) (aCons (eV 2) aNil)) (eV 3)) (aCons (e2 (p2 modV) (e2 (p2 addV) (eN (pN sumV) (aCons (eV 2) aNil)) (eV 1)) (eV 3)) aNil)))))))
    (sSeq (sAsg (.nm 4) (eOfF (e2 (pf2 addF) (eV 4) (eOfF (eN gLst (aCons (e2 (p2 atV) (eV 2) (e2 (p2 modV) (eV 1) (eN (pN lenV) (aCons (eV 2) aNil)))) (aCons (e2 (p2 modV) (e2 (p2 mulV) (e2 (p2 atV) (eV 2) (eC (.int 0))) (e2 (p2 atV) (eV 2) (e1 (p1 negV) (eC (.int 1))))) (eV 3)) aNil)))))))
    (sSeq (sAsg (.nm 4) (eOfF (e2 (pf2 addF) (eV 4) (eOfF (eN gLst (aCons (e2 (p2 modV) (e2 (p2 addV) (e2 (p2 subV) (e2 (p2 atV) (eV 2) (eC (.int 0))) (e2 (p2 atV) (eV 2) (e2 (p2 fdivV) (eN (pN lenV) (aCons (eV 2) aNil)) (eC (.int 2))))) (e2 (p2 atV) (eV 2) (e1 (p1 negV) (eC (.int 1))))) (eV 3)) (aCons (e2 (p2 atV) (eOfF (eN (pfN sortedTF) (aCons (eV 2) aNil))) (e2 (p2 fdivV) (eN (pN lenV) (aCons (eV 2) aNil)) (eC (.int 2)))) aNil)))))))
    (sRet (e2 (p2 atV) (eV 4) (e2 (p2 subV) (eV 0) (eC (.int 1)))))))))
def fn__law_worth : Fn := fnOf 5 b__law_worth
def e1__law_table : ME :=
  (eN (gCall 2 fn__law_draw) (aCons (eV 0) (aCons (eV 1) aNil)))
def e2__law_table : ME :=
  (eN (gCall 4 fn__law_worth) (aCons (eV 3) (aCons (eV 4) (aCons (eV 6) (aCons (eV 1) aNil)))))
def b__law_table : MSt :=
  (sSeq (sAsg (.nm 3) (eN (gCall 2 fn__law_draw) (aCons (eV 0) (aCons (eC (.int 10)) aNil))))
    (sSeq (sAsg (.nm 4) (eN (gCall 2 fn__law_draw) (aCons (eV 0) (aCons (eC (.int 1000)) aNil))))
    (sSeq (sAsg (.nm 5) (eN (gCall 2 fn__law_all) (aCons (eV 1) (aCons (eV 2) aNil))))
    (sSeq (sIf (tVal (e2 (p2 eqV) (eV 3) (eC (.int 9))))
      (sRet (eN (pN tupleV) (aCons (eOfF (lcF (e1 gIt (eV 5)) (.nm 6) tYes' e1__law_table)) aNil)))
      sPass)
    (sRet (eN (pN tupleV) (aCons (eOfF (lcF (e1 gIt (eV 5)) (.nm 6) tYes' e2__law_table)) aNil)))))))
def fn__law_table : Fn := fnOf 7 b__law_table
def f1_things_at : MSt :=
  (sSeq (sAsg (.nm 3) (e2 (p2 addV) (eN gTup (aCons (e2 (p2 modV) (eV 0) (eV 2)) aNil)) (eV 3)))
    (sAsg (.nm 0) (e2 (p2 fdivV) (eV 0) (eV 2))))
def b_things_at : MSt :=
  (sSeq (sAsg (.nm 3) (eN gTup aNil))
    (sSeq (sFor (eN gRange1 (aCons (eV 1) aNil)) (.nm 4) f1_things_at)
    (sRet (eV 3))))
def fn_things_at : Fn := fnOf 5 b_things_at
def e1_graph : ME :=
  (e2 (p2 addV) (eN (gCall 3 fn_things_at) (aCons (eV 5) (aCons (eV 3) (aCons (eV 0) aNil)))) (eN gTup (aCons (eV 6) aNil)))
def b_graph : MSt :=
  (sSeq (sAsg (.tp [(.nm 2), (.nm 3), (.nm 4)]) (eV 1))
    (sRet (eN gTupG (aCons (e2 (p2 addV) (eV 3) (eC (.int 1))) (aCons (eCellF (lcF (eN gEnum (aCons (eV 4) aNil)) (.tp [(.nm 5), (.nm 6)]) tYes' e1_graph)) aNil)))))
def fn_graph : Fn := fnOf 7 b_graph
def e1__law_graph_right : ME :=
  (e2 (p2 addV) (eV 6) (eN gTup (aCons (e2 (p2 atV) (eV 3) (eV 5)) aNil)))
def l1__law_graph_right : ME :=
  (eN (gCall 2 fn_graph) (aCons (eV 1) (aCons (eN gTup (aCons (eC (.str "aa")) (aCons (eV 2) (aCons (eV 3) aNil)))) aNil)))
def b__law_graph_right : MSt :=
  (sSeq (sAsg (.nm 1) (e2 (p2 addV) (eC (.int 1)) (eN (gCall 2 fn__law_draw) (aCons (eV 0) (aCons (eC (.int 4)) aNil)))))
    (sSeq (sAsg (.nm 2) (eN (gCall 2 fn__law_draw) (aCons (eV 0) (aCons (eC (.int 4)) aNil))))
    (sSeq (sAsg (.nm 3) (eN (gCall 3 fn__law_table) (aCons (eV 0) (aCons (eV 1) (aCons (eV 2) aNil)))))
    (sSeq (sAsg (.nm 4) (eOfF (lcF (eN gEnum (aCons (eN (gCall 2 fn__law_all) (aCons (eV 1) (aCons (eV 2) aNil))) aNil)) (.tp [(.nm 5), (.nm 6)]) tYes' e1__law_graph_right)))
    (sRet (eN (gCall 4 fn__law_told_right) (aCons (eV 1) (aCons (eLam fl__law_said l1__law_graph_right) (aCons (e2 (p2 addV) (eV 2) (eC (.int 1))) (aCons (eV 4) aNil))))))))))
def fn__law_graph_right : Fn := fnOf 7 b__law_graph_right
def t1__law_right : Sl → Store → R Bool :=
  (tVal (e2 (p2 gtV) (eN (gCall 2 fn__law_draw) (aCons (eV 0) (aCons (eC (.int 3)) aNil))) (eC (.int 0))))
def e1__law_right : ME :=
  (eV 9)
def f1__law_right : MSt :=
  (sIf (tOr' (tNot' (tVal (eN (gCall 3 fn__law_crossed_right) (aCons (eV 2) (aCons (eV 7) (aCons (eV 8) aNil)))))) (tNot' (tVal (eN (gCall 3 fn__law_beside_right) (aCons (eV 2) (aCons (eV 7) (aCons (eV 8) aNil)))))))
      (sRet (eC (.bl false)))
      sPass)
def e2__law_right : ME :=
  (eN gTup (aCons (eV 10) (aCons (eV 10) aNil)))
def l1__law_right : ME :=
  (eN (gCall 1 fn_equal_things) (aCons (eV 2) aNil))
def k1__law_right : MSt :=
  (sSeq (sIf (tNot' (tVal (eN (gCall 4 fn__law_told_right) (aCons (eV 2) (aCons (eLam fl__law_said l1__law_right) (aCons (eC (.int 2)) (aCons (eOfF (lcF (eN gRange1 (aCons (eV 2) aNil)) (.nm 10) tYes' e2__law_right)) aNil)))))))
      (sRet (eC (.bl false)))
      sPass)
    (sRet (eAnd (e2 (p2 eqV) (eV 6) (eOfF (eN gLst (aCons (eV 4) (aCons (eV 5) aNil))))) (eN (gCall 1 fn__law_graph_right) (aCons (eV 0) aNil)))))
def k2__law_right : MSt :=
  (sSeq (sIf (tOr' (tNot' (tVal (eN (gCall 3 fn__law_chosen_right) (aCons (eV 0) (aCons (eV 2) (aCons (e2 (p2 atV) (eV 6) (eC (.int 0))) aNil)))))) (tNot' (tVal (eN (gCall 3 fn__law_chosen_right) (aCons (eV 0) (aCons (eV 2) (aCons (e2 (p2 atV) (eV 6) (eC (.int 1))) aNil)))))))
      (sRet (eC (.bl false)))
      sPass)
    k1__law_right)
def k3__law_right : MSt :=
  (sSeq (sFor (e1 gIt (eOfF (eN gLst (aCons (eN gTup (aCons (e2 (p2 atV) (eV 6) (eC (.int 0))) (aCons (e2 (p2 atV) (eV 6) (eC (.int 1))) aNil))) (aCons (eN gTup (aCons (e2 (p2 atV) (eV 6) (eC (.int 1))) (aCons (e2 (p2 atV) (eV 6) (eC (.int 0))) aNil))) (aCons (eN gTup (aCons (e2 (p2 atV) (eV 6) (eC (.int 0))) (aCons (e2 (p2 atV) (eV 6) (eC (.int 0))) aNil))) aNil)))))) (.tp [(.nm 7), (.nm 8)]) f1__law_right)
    k2__law_right)
def k4__law_right : MSt :=
  (sSeq (sAsg (.nm 6) (eOfF (eN gLst (aCons (eN gTup (aCons (e2 (p2 atV) (eV 4) (eC (.int 0))) (aCons (eOfF (eN (pfN listF) (aCons (e2 (p2 atV) (eV 4) (eC (.int 1))) aNil))) aNil))) (aCons (eN gTup (aCons (e2 (p2 atV) (eV 5) (eC (.int 0))) (aCons (eOfF (eN (pfN listF) (aCons (e2 (p2 atV) (eV 5) (eC (.int 1))) aNil))) aNil))) aNil)))))
    k3__law_right)
def b__law_right : MSt :=
  (sSeq (sAsg (.nm 1) (eN (gCall 2 fn__law_draw) (aCons (eV 0) (aCons (eC (.int 4)) aNil))))
    (sSeq (sAsg (.nm 2) (e2 (p2 addV) (eC (.int 1)) (eN (gCall 2 fn__law_draw) (aCons (eV 0) (aCons (eC (.int 9)) aNil)))))
    (sSeq (sAsg (.nm 3) (eOfF (eN gLst (aCons (eC (.int 0)) (aCons (eC (.int 1)) (aCons (eN (gCall 2 fn__law_draw) (aCons (eV 0) (aCons (eC (.int 7)) aNil))) (aCons (eN (gCall 2 fn__law_draw) (aCons (eV 0) (aCons (eC (.int 26)) aNil))) aNil)))))))
    (sSeq (sAsg (.nm 4) (eN (gCall 4 fn__law_relation) (aCons (eV 0) (aCons (eV 2) (aCons (eN (gCall 2 fn__law_draw) (aCons (eV 0) (aCons (eC (.int 8)) aNil))) (aCons (e2 (p2 atV) (eV 3) (eN (gCall 2 fn__law_draw) (aCons (eV 0) (aCons (eC (.int 4)) aNil)))) aNil))))))
    (sSeq (sAsg (.nm 5) (eN (gCall 4 fn__law_relation) (aCons (eV 0) (aCons (eV 2) (aCons (eN (gCall 2 fn__law_draw) (aCons (eV 0) (aCons (eC (.int 8)) aNil))) (aCons (e2 (p2 atV) (eV 3) (eN (gCall 2 fn__law_draw) (aCons (eV 0) (aCons (eC (.int 4)) aNil)))) aNil))))))
    (sSeq (sIf (tVal (e2 (p2 eqV) (eV 1) (eC (.int 0))))
      (sAsg (.nm 5) (eN (gCall 4 fn__law_relation) (aCons (eV 0) (aCons (eV 2) (aCons (e2 (p2 atV) (eV 4) (eC (.int 0))) (aCons (e2 (p2 atV) (eV 3) (eN (gCall 2 fn__law_draw) (aCons (eV 0) (aCons (eC (.int 4)) aNil)))) aNil))))))
      sPass)
    (sSeq (sIf (tVal (e2 (p2 eqV) (eV 1) (eC (.int 1))))
      (sAsg (.nm 5) (eN gTup (aCons (e2 (p2 atV) (eV 4) (eC (.int 0))) (aCons (eOfF (lcF (e1 gIt (e2 (p2 atV) (eV 4) (eC (.int 1)))) (.nm 9) t1__law_right e1__law_right)) aNil))))
      sPass)
    k4__law_right)))))))
def fn__law_right : Fn := fnOf 11 b__law_right
def b__law_well : MSt :=
  (sRet (eCellF (eN gLst (aCons (e2 (p2 mulV) (eV 0) (eN (pN intV) (aCons (e2 (p2 geV) (eV 0) (e2 (p2 powV) (eC (.int 10)) (eC (.int 18)))) aNil))) (aCons (e2 (p2 addV) (e2 (p2 modV) (eV 0) (eC (.int 2147483647))) (e2 (p2 mulV) (eC (.int 7919)) (eV 1))) (aCons (eC (.int 0)) aNil))))))
def fn__law_well : Fn := fnOf 2 b__law_well
def f1_law : MSt :=
  (sIf (tNot' (tVal (eN (gCall 1 fn__law_right) (aCons (eN (gCall 2 fn__law_well) (aCons (eV 2) (aCons (eV 1) aNil))) aNil))))
      (sRet (eC (.bl false)))
      sPass)
def b_law : MSt :=
  (sSeq (sFor (eN gEnum (aCons (eOfF (eSl (fun l h => pf1 (slF l h)) (eOfF (e2 gScr (eV 0) (eOfF (eN gLst (aCons (eC (.int 0)) aNil))))) oNone (oSome (eC (.int 6))))) aNil)) (.tp [(.nm 1), (.nm 2)]) (sScope f1_law))
    (sRet (eC (.bl true))))
def fn_law : Fn := fnOf 3 b_law
end
end K31
namespace K31
open PySem PySem.Spec PyProof.Rows L2 PM
theorem is_whole_ok {d : PV} {μ : Store} (h : tyN d ≠ none) : fn_is_whole [.t d] μ = .ok (.t (.bl (isIntB d))) μ := by
  cases d <;> simp_all [fn_is_whole, b_is_whole, fnOf, startM, subT, isIntB, tyN]
theorem is_thing_ok {d : PV} {n : Int} {μ : Store} (h : tyN d ≠ none) : fn_is_thing [.t d, .t (.int n)] μ = .ok (.t (.bl (isThingB n d))) μ := by
  simp [fn_is_thing, b_is_thing, fnOf, startM, is_whole_ok h, eChain]
  cases d <;> simp [isIntB, isThingB]
  split <;> simp_all <;> omega
theorem is_row_ok {d : PV} {w n : Int} {k : Nat} {μ : Store} (h : SD k d) : fn_is_row [.t d, .t (.int w), .t (.int n)] μ = .ok (.t (.bl (isRowB d w n))) μ := by
  cases d with
  | tup l =>
    obtain ⟨m, rfl, hl, hm⟩ := h.tupE
    have e : lcL (.nm 3) tYes' e1_is_row l [some (.t (.tup l)), some (.t (.int w)), some (.t (.int n)), none] μ = .ok (l.map fun d => .bl (isThingB n d)) μ := lcL_map _ fun d hd => ⟨_, asg_nm, rfl, by simp [e1_is_row, is_thing_ok (hm d hd).ty]⟩
    have z : szF (l.map fun d => PV.bl (isThingB n d)) μ = .ok _ μ := szF_ok (by rw [List.length_map]; exact szL _ (by omega))
    by_cases hw : (l.length : Int) = w
    · simp [fn_is_row, b_is_row, fnOf, startM, subT, isRowB, hw, wipeM, e, z, allV_map]
    · simp [fn_is_row, b_is_row, fnOf, startM, subT, isRowB, hw]
  | obj C a b => exact absurd h SD_obj
  | ktp _ => exact absurd h SD_ktp
  | _ => simp [fn_is_row, b_is_row, fnOf, startM, subT, isRowB]

/-! the wells of the third powers: draws, so many left -/
def drX3 (w : W3) : Int :=
  let x := (w.2.1 + 15485863 * (w.2.2 + 1)) ^ 3 % 2147483629
  let y := x * (x / 1009 + 69621 + (w.2.2 + 1)) % 2147483647
  y / 11
def dr3 (m : Nat) (w : W3) : Nat × W3 := if 0 < w.1 then ((w.1 % (m : Int)).toNat, (w.1 / (m : Int), w.2.1, w.2.2)) else ((drX3 w % (m : Int)).toNat, (w.1, w.2.1, w.2.2 + 1))
theorem dr3_lt {m : Nat} {w : W3} (h : 0 < m) : (dr3 m w).1 < m := by
  unfold dr3
  split
  · have h1 := Int.emod_nonneg w.1 (b := (m : Int)) (by omega)
    have h2 := Int.emod_lt_of_pos w.1 (b := (m : Int)) (by omega)
    simp only; omega
  · have h1 := Int.emod_nonneg (drX3 w) (b := (m : Int)) (by omega)
    have h2 := Int.emod_lt_of_pos (drX3 w) (b := (m : Int)) (by omega)
    simp only; omega
/-- a well with so many draws left -/
structure Bw (k : Nat) (w : W3) : Prop where
  b0 : 0 ≤ w.2.1
  b1 : w.2.1 ≤ 8589934592
  c0 : 0 ≤ w.2.2
  c1 : w.2.2 + k ≤ 100000000
theorem Bw.le {j k : Nat} {w : W3} (h : Bw k w) (hj : j ≤ k) : Bw j w := ⟨h.b0, h.b1, h.c0, by have := h.c1; omega⟩
theorem Bw.dr {m k : Nat} {w : W3} (h : Bw (k + 1) w) : Bw k (dr3 m w).2 := by
  have h1 := h.b0; have h2 := h.b1; have h3 := h.c0; have h4 := h.c1
  unfold dr3
  split
  · exact ⟨h1, h2, h3, by show w.2.2 + (k : Int) ≤ _; omega⟩
  · exact ⟨h1, h2, by show 0 ≤ w.2.2 + 1; omega, by show w.2.2 + 1 + (k : Int) ≤ _; omega⟩
theorem inW_of {i : Int} (h1 : -18446744073709551615 ≤ i) (h2 : i ≤ 18446744073709551615) : inW i = true := Nat.ble_eq_true_of_le (by omega)
theorem draw3_dr {w : W3} {t : Store} {m k : Nat} (hw : Bw (k + 1) w) (h0 : 0 < m) (h1 : m < 1073741824) : fn__law_draw [.c 0, .t (.int (m : Int))] (wlw w :: t) = .ok (.t (.int ((dr3 m w).1 : Int))) (wlw (dr3 m w).2 :: t) := by
  obtain ⟨a, b, c⟩ := w
  have h0' : (0 : Int) < m := by omega
  have h1' : (m : Int) < 1073741824 := by omega
  have q1 := Int.emod_nonneg a (b := (m : Int)) (by omega)
  have q2 := Int.emod_nonneg (drX3 (a, b, c)) (b := (m : Int)) (by omega)
  have b0 : 0 ≤ b := hw.b0
  have b1 : b ≤ 8589934592 := hw.b1
  have c0 : 0 ≤ c := hw.c0
  have c1 : c + ((k + 1 : Nat) : Int) ≤ 100000000 := hw.c1
  unfold dr3
  by_cases ha : 0 < a
  · simp only [ha, if_true, Int.toNat_of_nonneg q1]
    simp [wlw, fn__law_draw, b__law_draw, fnOf, startM, p2, view, atI, ixN, ha, modV, fdiv_ok h0' h1', h0', h0, sSetL, gSetL, lstAt, endM, fin]
  · simp only [ha, if_false, Int.toNat_of_nonneg q2]
    have g1 : inW (b + 15485863 * (c + 1)) = true := inW_of (by omega) (by omega)
    have pw : powV (.int (b + 15485863 * (c + 1))) (.int 3) = some (.int ((b + 15485863 * (c + 1)) ^ 3)) := by
      show (if decide ((0 : Int) ≤ 3) && (Nat.ble (3 : Int).toNat 1000000 && inW (b + 15485863 * (c + 1))) then some (PV.int ((b + 15485863 * (c + 1)) ^ (3 : Int).toNat)) else none) = _
      rw [g1]; rfl
    have g2 : inW 15485863 = true := by decide
    have x1 : ∀ z : Int, inW (z % 2147483629) = true := fun z => by
      have h1 := Int.emod_nonneg z (b := 2147483629) (by decide)
      have h2 := Int.emod_lt_of_pos z (b := 2147483629) (by decide)
      exact inW_of (by omega) (by omega)
    have m1 : mulV (.int 15485863) (.int (c + 1)) = some (.int (15485863 * (c + 1))) := by
      show (if inW 15485863 || inW (c + 1) then some (PV.int (15485863 * (c + 1))) else none) = _
      rw [g2]; rfl
    have m2 : ∀ z y : Int, mulV (.int (z % 2147483629)) (.int y) = some (.int (z % 2147483629 * y)) := fun z y => by
      show (if inW (z % 2147483629) || inW y then some (PV.int (z % 2147483629 * y)) else none) = _
      rw [x1]; rfl
    simp [-powV, wlw, drX3, fn__law_draw, b__law_draw, fnOf, startM, p2, view, atI, ixN, ha, modV, fdiv_ok (j := 1009) (by decide) (by decide), fdiv_ok (j := 11) (by decide) (by decide), h0', h0, sSetL, gSetL, lstAt, endM, fin, pw, m1, m2]
theorem drawY {w : W3} {k : Nat} (hw : Bw (k + 1) w) (m : Nat) (M : Int) (hM : M = (m : Int) := by rfl) (h0 : 0 < m := by omega) (h1 : m < 1073741824 := by omega) : ∃ (i : Nat) (w1 : W3), i < m ∧ Bw k w1 ∧ ∀ t, fn__law_draw [.c 0, .t (.int M)] (wlw w :: t) = .ok (.t (.int (i : Int))) (wlw w1 :: t) := ⟨_, _, dr3_lt h0, hw.dr, fun _ => by rw [hM]; exact draw3_dr hw h0 h1⟩
theorem lcL_WB {T : Tgt} {test : Sl → Store → R Bool} {elt : ME} {t : Store} (f : PV → W3 → PV × W3) (c : Nat) {σ : Sl} {k : Nat} : ∀ {items : List PV} {w : W3}, (∀ d ∈ items, ∀ (w : W3) (k : Nat), Bw (k + c) w → (∃ σ1, asg T (.t d) σ = some σ1 ∧ test σ1 (wlw w :: t) = .ok true (wlw w :: t) ∧ elt σ1 (wlw w :: t) = .ok (.t (f d w).1) (wlw (f d w).2 :: t)) ∧ Bw k (f d w).2) → Bw (k + items.length * c) w →
    lcL T test elt items σ (wlw w :: t) = .ok (mapW f items w).1 (wlw (mapW f items w).2 :: t) ∧ Bw k (mapW f items w).2
  | [], w, _, hw => ⟨rfl, hw.le (by omega)⟩
  | d :: ds, w, h, hw => by
    have e : k + (d :: ds).length * c = (k + ds.length * c) + c := by
      show k + (ds.length + 1) * c = _
      rw [Nat.add_mul, Nat.one_mul, Nat.add_assoc]
    rw [e] at hw
    obtain ⟨⟨σ1, h1, h2, h3⟩, h4⟩ := h d List.mem_cons_self w _ hw
    obtain ⟨r1, r2⟩ := lcL_WB f c (σ := σ) (k := k) (items := ds) (w := (f d w).2) (fun d hd => h d (List.mem_cons_of_mem _ hd)) h4
    refine ⟨?_, r2⟩
    unfold lcL
    rw [h1]
    simp only [h2, h3, noex_ok, bind_ok, if_true, gT]
    rw [r1]
    rfl
/-- so many draws below m -/
def drY (m k : Nat) (w : W3) : List Int × W3 := mapW (fun (_ : Nat) w => (((dr3 m w).1 : Int), (dr3 m w).2)) (List.range k) w
@[simp] theorem drY_len {m k : Nat} {w : W3} : (drY m k w).1.length = k := by unfold drY; simp
theorem drY_mem {m k : Nat} {w : W3} (h : 0 < m) : ∀ x ∈ (drY m k w).1, 0 ≤ x ∧ x < (m : Int) := mapW_mem (P := fun x => 0 ≤ x ∧ x < (m : Int)) fun a _ w => by
  have := dr3_lt (w := w) h
  simp only; omega
theorem mapW_B {α β : Type} {f : α → W3 → β × W3} {c k : Nat} : ∀ {l : List α} {w : W3}, (∀ a ∈ l, ∀ (w : W3) (k : Nat), Bw (k + c) w → Bw k (f a w).2) → Bw (k + l.length * c) w → Bw k (mapW f l w).2
  | [], w, _, hw => hw.le (by omega)
  | a :: l, w, h, hw => by
    have e : k + (a :: l).length * c = (k + l.length * c) + c := by
      show k + (l.length + 1) * c = _
      rw [Nat.add_mul, Nat.one_mul, Nat.add_assoc]
    rw [e] at hw
    exact mapW_B (l := l) (w := (f a w).2) (fun b hb => h b (List.mem_cons_of_mem _ hb)) (h a List.mem_cons_self w _ hw)
theorem Bw.drY {m j k : Nat} {w : W3} (h : Bw (j + k) w) : Bw j (drY m k w).2 := mapW_B (c := 1) (fun _ _ w k hw => hw.dr) (by rw [List.length_range, Nat.mul_one]; exact h)
/-- a comprehension that draws once for each number of a range -/
theorem lc_draws3 {T : Tgt} {test : Sl → Store → R Bool} {elt : ME} {t : Store} {m k j : Nat} {σ : Sl} {w : W3} (hw : Bw (j + k) w) (h : ∀ d ∈ rgI 0 k, ∀ (w : W3) (i : Nat), Bw (i + 1) w → ∃ σ1, asg T (.t d) σ = some σ1 ∧ test σ1 (wlw w :: t) = .ok true (wlw w :: t) ∧ elt σ1 (wlw w :: t) = .ok (.t (.int ((dr3 m w).1 : Int))) (wlw (dr3 m w).2 :: t)) :
    lcL T test elt (rgI 0 k) σ (wlw w :: t) = .ok ((drY m k w).1.map .int) (wlw (drY m k w).2 :: t) := by
  have ln : (rgI 0 k).length = k := by rw [rgI_nat]; simp
  rw [(lcL_WB (k := j) (fun _ w => (.int ((dr3 m w).1 : Int), (dr3 m w).2)) 1 (fun d hd w k hw => ⟨h d hd w k hw, hw.dr⟩) (by rw [ln, Nat.mul_one]; exact hw)).1]
  have e : mapW (fun (_ : PV) w => (PV.int ((dr3 m w).1 : Int), (dr3 m w).2)) (rgI 0 k) w = ((drY m k w).1.map .int, (drY m k w).2) := by
    rw [rgI_nat, mapW_map, mapW_post (fun (_ : Nat) w => (((dr3 m w).1 : Int), (dr3 m w).2)) PV.int]
    rfl
  rw [e]

def allR (n : Nat) : Nat → List (List Int)
  | 0 => [[]]
  | p + 1 => (allR n p).flatMap fun r => (List.range n).map fun (t : Nat) => r ++ [(t : Int)]
theorem allR_len (n : Nat) : ∀ p, (allR n p).length = n ^ p
  | 0 => rfl
  | p + 1 => by
    show ((allR n p).flatMap fun r => (List.range n).map fun (t : Nat) => r ++ [(t : Int)]).length = _
    rw [List.length_flatMap]
    simp only [List.length_map, List.length_range]
    rw [List.map_const', List.sum_replicate_nat, allR_len n p, Nat.pow_succ]
theorem allR_mem {n : Nat} : ∀ {p : Nat} {r : List Int}, r ∈ allR n p → r.length = p ∧ ∀ x ∈ r, 0 ≤ x ∧ x < n
  | 0, r, h => by
    rw [List.mem_singleton.mp h]
    exact ⟨rfl, fun x hx => nomatch hx⟩
  | p + 1, r, h => by
    obtain ⟨q, hq, hr⟩ := List.mem_flatMap.mp h
    obtain ⟨t, ht, rfl⟩ := List.mem_map.mp hr
    have ht := List.mem_range.mp ht
    obtain ⟨h1, h2⟩ := allR_mem hq
    refine ⟨by simp [h1], fun x hx => ?_⟩
    rcases List.mem_append.mp hx with hx | hx
    · exact h2 x hx
    · rw [List.mem_singleton.mp hx]; omega
theorem pow_le_729 {n p : Nat} (hn : n ≤ 9) (hp : p ≤ 3) : n ^ p ≤ 729 :=
  Nat.le_trans (Nat.pow_le_pow_left hn p) (Nat.le_trans (Nat.pow_le_pow_right (by decide) hp) (by decide))
theorem all_in {n : Nat} {σa σb σc σd : Option Val} {ν : Store} (hn : n ≤ 9) : ∀ (rs acc : List (List Int)) (y : Option Val), (∀ r ∈ rs, r.length ≤ 3) → acc.length + rs.length * n ≤ 10000 →
    ∃ y', forL (.nm 5) f1__law_all (rs.map tupI) [some (.t (.int (n : Int))), σb, σc, σd, some (.c ν.length), y, none] (ν ++ [some (.lst (acc.map tupI))]) = .nx [some (.t (.int (n : Int))), σb, σc, σd, some (.c ν.length), y', none] (ν ++ [some (.lst ((acc ++ rs.flatMap fun r => (List.range n).map fun (t : Nat) => r ++ [(t : Int)]).map tupI))])
  | [], acc, y, _, _ => ⟨y, by simp [forL]⟩
  | r :: rs, acc, y, hr, hl => by
    have hl1 : acc.length + (rs.length + 1) * n ≤ 10000 := hl
    rw [Nat.add_mul, Nat.one_mul] at hl1
    have hr3 := hr r List.mem_cons_self
    have k : lcL (.nm 6) tYes' e1__law_all (rgI 0 n) [some (.t (.int (n : Int))), σb, σc, σd, some (.c ν.length), some (.t (tupI r)), none] (ν ++ [some (.lst (acc.map tupI))]) = .ok ((rgI 0 n).map fun d => match d with | .int t => tupI (r ++ [t]) | _ => .non) (ν ++ [some (.lst (acc.map tupI))]) := by
      refine lcL_map _ fun d hd => ?_
      rw [rgI_nat] at hd
      obtain ⟨t, ht, rfl⟩ := List.mem_map.mp hd
      refine ⟨_, asg_nm, rfl, ?_⟩
      have ad := addV_tup (a := r.map .int) (b := [.int (t : Int)]) (by simp; omega)
      simp [e1__law_all, ad]
    have ke : ((rgI 0 n).map fun d => match d with | .int t => tupI (r ++ [t]) | _ => .non) = ((List.range n).map fun (t : Nat) => r ++ [(t : Int)]).map tupI := by
      rw [rgI_nat, List.map_map, List.map_map]; rfl
    rw [ke] at k
    have z : szF (((List.range n).map fun (t : Nat) => r ++ [(t : Int)]).map tupI) (ν ++ [some (.lst (acc.map tupI))]) = .ok _ _ := szF_ok (szL _ (by simp; omega))
    have ex := extF_ok (μ := ν ++ [some (.lst (acc.map tupI))]) (k := ν.length) (ds := acc.map tupI) (es := ((List.range n).map fun (t : Nat) => r ++ [(t : Int)]).map tupI) (by simp) (by simp; omega)
    rw [set_snoc] at ex
    have hb : f1__law_all [some (.t (.int (n : Int))), σb, σc, σd, some (.c ν.length), some (.t (tupI r)), none] (ν ++ [some (.lst (acc.map tupI))]) = .nx [some (.t (.int (n : Int))), σb, σc, σd, some (.c ν.length), some (.t (tupI r)), none] (ν ++ [some (.lst ((acc ++ (List.range n).map fun (t : Nat) => r ++ [(t : Int)]).map tupI))]) := by
      rw [List.map_append]
      simp only [f1__law_all, sExp_eq, eMutG, eV_eq, List.getElem?_cons_succ, List.getElem?_cons_zero, bind_ok, lstAt, at_snoc, aCons_eq, eOfF_eq, lcF_eq, eN_eq, aNil_eq, range1_ok (n := n) (by omega), sl_nm, wipeM, List.set_cons_succ, List.set_cons_zero, k, z, ex, st_ok]
    obtain ⟨y', e⟩ := all_in (n := n) (σa := σa) (σb := σb) (σc := σc) (σd := σd) (ν := ν) hn rs (acc ++ (List.range n).map fun (t : Nat) => r ++ [(t : Int)]) (some (.t (tupI r))) (fun r hr' => hr r (List.mem_cons_of_mem _ hr')) (by simp; omega)
    refine ⟨y', ?_⟩
    rw [List.map_cons, forL_nx (by simp) hb, e, List.flatMap_cons, List.append_assoc]
theorem all_ok {n p : Nat} {μ : Store} (hn : n ≤ 9) (hp : p ≤ 3) : fn__law_all [.t (.int (n : Int)), .t (.int (p : Int))] μ = .ok (.t (.lst ((allR n p).map tupI))) μ := by
  have step : ∀ (k : Nat) (d x y : Option Val) (ν : Store), k < 3 → ∃ x' y', f2__law_all [some (.t (.int (n : Int))), some (.t (.int (p : Int))), some (.t (.lst ((allR n k).map tupI))), d, x, y, none] ν = .nx [some (.t (.int (n : Int))), some (.t (.int (p : Int))), some (.t (.lst ((allR n (k + 1)).map tupI))), d, x', y', none] (ν ++ [none]) := by
    intro k d x y ν hk
    have hlen := allR_len n k
    have h7 := pow_le_729 (p := k) hn (by omega)
    obtain ⟨y', e⟩ := all_in (n := n) (σa := none) (σb := some (.t (.int (p : Int)))) (σc := some (.t (.lst ((allR n k).map tupI)))) (σd := d) (ν := ν) hn (allR n k) [] y (fun r hr => by rw [(allR_mem hr).1]; omega) (by
      rw [hlen]
      have : n ^ k * n ≤ 729 * 9 := Nat.mul_le_mul h7 hn
      simp; omega)
    refine ⟨some (.t (.lst ((allR n (k + 1)).map tupI))), y', ?_⟩
    simp only [f2__law_all, sSeq_eq, sAsg_nm, eCellF_eq, eN_eq, aNil_eq, bind_ok, gLst_0, st_ok, List.set_cons_succ, List.set_cons_zero, seq_nx, sFor_eq, e1_eq, eV_eq, List.getElem?_cons_succ, List.getElem?_cons_zero, gIt_lst]
    have e' := e
    simp only [List.map_nil, List.nil_append] at e'
    rw [e']
    simp only [seq_nx, sSeq_eq, sFrz, List.getElem?_cons_succ, List.getElem?_cons_zero]
    rw [frz_lst at_snoc]
    simp only [set_snoc, seq_nx, sAsg_nm, eV_eq, List.set_cons_succ, List.set_cons_zero, List.getElem?_cons_succ, List.getElem?_cons_zero, st_ok]
    rfl
  have loop : ∃ σx σy σz, forL (.nm 3) f2__law_all (rgI 0 p) [some (.t (.int (n : Int))), some (.t (.int (p : Int))), some (.t (.lst ((allR n 0).map tupI))), none, none, none, none] μ = .nx [some (.t (.int (n : Int))), some (.t (.int (p : Int))), some (.t (.lst ((allR n p).map tupI))), σx, σy, σz, none] (μ ++ List.replicate p none) := by
    refine forL_inv (fun i σ μ' => μ' = μ ++ List.replicate i none ∧ ∃ σx σy σz, σ = [some (.t (.int (n : Int))), some (.t (.int (p : Int))), some (.t (.lst ((allR n i).map tupI))), σx, σy, σz, none]) (fun r => ∃ σx σy σz, r = .nx [some (.t (.int (n : Int))), some (.t (.int (p : Int))), some (.t (.lst ((allR n p).map tupI))), σx, σy, σz, none] (μ ++ List.replicate p none)) ⟨by simp, none, none, none, rfl⟩ ?_ ?_
    · rintro i d σ μ' hd ⟨rfl, σx, σy, σz, rfl⟩
      obtain ⟨hi, rfl⟩ := range_at hd
      obtain ⟨x', y', e⟩ := step i (some (.t (.int i))) σy σz (μ ++ List.replicate i none) (by omega)
      exact ⟨_, asg_nm, .inl ⟨_, _, .inl e, by rw [List.append_assoc, ← List.replicate_succ'], _, _, _, rfl⟩⟩
    · rintro σ μ' ⟨rfl, σx, σy, σz, rfl⟩
      rw [rgI_len]
      exact ⟨_, _, _, rfl⟩
  obtain ⟨σx, σy, σz, e⟩ := loop
  have e0 : ((allR n 0).map tupI) = [.tup []] := rfl
  rw [e0] at e
  simp [fn__law_all, b__law_all, fnOf, startM, range1_ok (n := p) (by omega), e]
/-! tables -/
def inR (n : Nat) (l : List Int) : Prop := ∀ x ∈ l, 0 ≤ x ∧ x < (n : Int)
theorem at_inR {n : Nat} {l : List Int} {i : Nat} (h : inR n l) (hi : i < l.length) : ∃ x : Int, atI (l.map PV.int) (i : Int) = some (.int x) ∧ 0 ≤ x ∧ x < n := by
  rw [at_int hi]
  exact ⟨_, rfl, h _ (PM.getD_mem hi)⟩

/-! the wells of the third powers: what a drawn deed makes; tables -/
theorem eqB_nilT {ts : List PV} : eqB (.tup ts) (.tup []) = ts.isEmpty := by
  cases ts <;> simp [eqB, PV.data, datas, PyData.eqv, PyData.eqvAll]
theorem eqV_nilT {r : List Int} (h : r.length ≤ 1000) : PM.eqV (tupI r) (.tup []) = some (.bl (decide (r = []))) := by
  rw [eq_ok (PM.SD_tupI (k := 0) (by omega)).ok ((SD_tup (n := 0)).mpr ⟨by simp, by simp⟩).ok, eqB_nilT]
  cases r <;> rfl
theorem at_last_inR {n : Nat} {l : List Int} (h : inR n l) (hi : l ≠ []) : ∃ x : Int, atI (l.map PV.int) (-1) = some (.int x) ∧ 0 ≤ x ∧ x < n := by
  have hp := List.length_pos_iff.mpr hi
  obtain ⟨x, e, h1, h2⟩ := at_inR (i := l.length - 1) h (by omega)
  refine ⟨x, ?_, h1, h2⟩
  have e1 : ixN (l.map PV.int).length (-1) = some (l.length - 1) := by
    unfold ixN
    rw [List.length_map, if_neg (by omega), if_pos (by omega)]
    congr 1
    omega
  have e2 : ixN (l.map PV.int).length ((l.length - 1 : Nat) : Int) = some (l.length - 1) := by
    unfold ixN
    rw [List.length_map, if_pos (by omega), if_pos (by omega)]
    congr 1
  unfold atI at e ⊢
  rw [e1]
  rw [e2] at e
  exact e
theorem sortI_inR {n : Nat} {l : List Int} (h : inR n l) : inR n (sortI l) := fun x hx => h x ((List.mergeSort_perm _ _).mem_iff.mp hx)
theorem worth_ok {n num way : Nat} {r : List Int} {μ : Store} (hn1 : 1 ≤ n) (hn : n ≤ 9) (hr : r.length ≤ 3) (hi : inR n r) (hnum : num ≤ 1000) (hw : way ≤ 8) :
    ∃ x : Int, fn__law_worth [.t (.int (way : Int)), .t (.int (num : Int)), .t (tupI r), .t (.int (n : Int))] μ = .ok (.t (.int x)) μ ∧ 0 ≤ x ∧ x < n := by
  have md : ∀ z : Int, modV (.int z) (.int (n : Int)) = some (.int (z % n)) := fun z => mod_ok (by omega)
  have mb : ∀ z : Int, 0 ≤ z % (n : Int) ∧ z % (n : Int) < n := fun z => ⟨Int.emod_nonneg z (by omega), Int.emod_lt_of_pos z (by omega)⟩
  have t0 : PM.gTup [] μ = .ok (.t (.tup [])) μ := gTup_ok rfl (szL _ (by simp))
  have e0 := eqV_nilT (r := r) (by omega)
  have ew : PM.eqV (.int (way : Int)) (.int 0) = some (.bl (decide (way = 0))) := by rw [eqV_int]; congr 2; exact decide_eq_decide.mpr (by omega)
  by_cases c : r = [] ∨ way = 0
  · refine ⟨(num : Int) % n, ?_, mb _⟩
    have md := md (num : Int)
    by_cases c1 : r = []
    · rw [decide_eq_true c1] at e0
      generalize tupI r = T at *
      simp [fn__law_worth, b__law_worth, fnOf, startM, t0, e0, md]
    · rw [decide_eq_false c1] at e0
      rw [decide_eq_true (c.resolve_left c1)] at ew
      generalize tupI r = T at *
      simp [fn__law_worth, b__law_worth, fnOf, startM, t0, e0, ew, md]
  have c1 : r ≠ [] := fun z => c (.inl z)
  have c2 : way ≠ 0 := fun z => c (.inr z)
  have hp := List.length_pos_iff.mpr c1
  rw [decide_eq_false c1] at e0
  rw [decide_eq_false c2] at ew
  obtain ⟨mi, hmi, emi⟩ := minV1_tupI c1
  obtain ⟨ma, hma, ema⟩ := maxV1_tupI c1
  have su := sumV_tupI r
  have le : lenV [tupI r] = some (.int (r.length : Int)) := by simp
  have ml : modV (.int (num : Int)) (.int (r.length : Int)) = some (.int ((num % r.length : Nat) : Int)) := by rw [mod_ok (by omega)]; rfl
  have ff : fdivV (.int (r.length : Int)) (.int 2) = some (.int ((r.length / 2 : Nat) : Int)) := by rw [fdiv_ok (by decide) (by decide)]; rfl
  obtain ⟨x1, a1, b1⟩ := at_inR (i := num % r.length) hi (Nat.mod_lt _ hp)
  obtain ⟨x2, a2, b2⟩ := at_inR (i := 0) hi hp
  obtain ⟨x3, a3, b3⟩ := at_last_inR hi c1
  obtain ⟨x4, a4, b4⟩ := at_inR (i := r.length / 2) hi (by omega)
  have sl : (sortI r).length = r.length := (List.mergeSort_perm _ _).length_eq
  obtain ⟨x5, a5, b5⟩ := at_inR (i := r.length / 2) (sortI_inR hi) (by omega)
  have v1 : atV (tupI r) (.int ((num % r.length : Nat) : Int)) = some (.int x1) := a1
  have v2 : atV (tupI r) (.int 0) = some (.int x2) := a2
  have v3 : atV (tupI r) (.int (-1)) = some (.int x3) := a3
  have v4 : atV (tupI r) (.int ((r.length / 2 : Nat) : Int)) = some (.int x4) := a4
  have v5 : atV (.lst ((sortI r).map .int)) (.int ((r.length / 2 : Nat) : Int)) = some (.int x5) := a5
  have so : sortedTF [tupI r] = some ((sortI r).map .int) := by
    show (intsOf (r.map .int)).map (fun ns => (sortI ns).map PV.int) = _
    rw [intsOf_map]; rfl
  have mu : mulV (.int x2) (.int x3) = some (.int (x2 * x3)) := by
    show (if inW x2 || inW x3 then some (PV.int (x2 * x3)) else none) = _
    rw [show inW x2 = true from Nat.ble_eq_true_of_le (by omega)]; rfl
  have sb : ∀ a b : Int, subV (.int a) (.int b) = some (.int (a - b)) := fun _ _ => rfl
  have g4 : ∀ a b c d : PV, PM.gLst [.t a, .t b, .t c, .t d] μ = .ok [a, b, c, d] μ := fun a b c d => gLst_ok rfl (szL _ (by simp))
  have g2 : ∀ a b : PV, PM.gLst [.t a, .t b] μ = .ok [a, b] μ := fun a b => gLst_ok rfl (szL _ (by simp))
  have ad : ∀ a b : List PV, a.length + b.length ≤ 1000 → addF (.lst a) (.lst b) = some (a ++ b) := fun a b h => addF_ok (by omega)
  obtain ⟨Lst, eL, hL⟩ : ∃ Lst : List Int, Lst = [mi, ma, r.sum % n, (r.sum + num) % n, x1, x2 * x3 % n, (x2 - x4 + x3) % n, x5] ∧ inR n Lst := ⟨_, rfl, fun z hz => by
    simp only [List.mem_cons, List.not_mem_nil, or_false] at hz
    rcases hz with rfl | rfl | rfl | rfl | rfl | rfl | rfl | rfl
    · exact hi _ hmi
    · exact hi _ hma
    · exact mb _
    · exact mb _
    · exact b1
    · exact mb _
    · exact mb _
    · exact b5⟩
  obtain ⟨x, ax, bx⟩ := at_inR (i := way - 1) hL (by rw [eL]; show way - 1 < 8; omega)
  have vx : atV (.lst (Lst.map .int)) (.int ((way : Int) - 1)) = some (.int x) := by
    have : (way : Int) - 1 = ((way - 1 : Nat) : Int) := by omega
    rw [this]; exact ax
  refine ⟨x, ?_, bx⟩
  rw [eL] at vx
  simp only [List.map_cons, List.map_nil] at vx
  have m1 := md r.sum
  have m2 := md (r.sum + num)
  have m3 := md (x2 * x3)
  have m4 := md (x2 - x4 + x3)
  generalize hS : (sortI r).map PV.int = S5 at *
  generalize tupI r = T at *
  generalize r.sum = su0 at *
  generalize (num : Int) = nu at *
  generalize ((num % r.length : Nat) : Int) = i1 at *
  generalize ((r.length / 2 : Nat) : Int) = i2 at *
  generalize (r.length : Int) = le0 at *
  simp [-atV_lst, -gLst_4, -gLst_2, fn__law_worth, b__law_worth, fnOf, startM, t0, e0, ew, emi, ema, su, m1, m2, m3, m4, le, ml, ff, v1, v2, v3, v4, v5, so, mu, sb, g4, g2, ad, vx]
theorem ints_ofR {n : Nat} {ys : List PV} (h : ∀ y ∈ ys, ∃ x : Int, y = .int x ∧ 0 ≤ x ∧ x < (n : Int)) : ∃ row : List Int, ys = row.map .int ∧ inR n row ∧ row.length = ys.length := by
  induction ys with
  | nil => exact ⟨[], rfl, fun _ h => (nomatch h), rfl⟩
  | cons y ys ih =>
    obtain ⟨x, rfl, hx⟩ := h y List.mem_cons_self
    obtain ⟨row, rfl, h2, h3⟩ := ih fun z hz => h z (List.mem_cons_of_mem _ hz)
    refine ⟨x :: row, rfl, fun z hz => ?_, by simp⟩
    rcases List.mem_cons.mp hz with rfl | hz
    · exact hx
    · exact h2 z hz
theorem table_y {n p j : Nat} {w : W3} {t : Store} (hw : Bw (j + 800) w) (hn1 : 1 ≤ n) (hn : n ≤ 9) (hp : p ≤ 3) : ∃ (row : List Int) (w' : W3), fn__law_table [.c 0, .t (.int (n : Int)), .t (.int (p : Int))] (wlw w :: t) = .ok (.t (tupI row)) (wlw w' :: t) ∧ row.length = n ^ p ∧ inR n row ∧ Bw j w' := by
  have h7 := pow_le_729 hn hp
  obtain ⟨way, w1, q1, b1, e1⟩ := drawY (k := j + 799) hw 10 10
  obtain ⟨num, w2, q2, b2, e2⟩ := drawY (k := j + 798) b1 1000 1000
  have e1 := e1 t
  have e2 := e2 t
  have al := all_ok (μ := wlw w2 :: t) hn hp
  have g : gIt (.t (.lst ((allR n p).map tupI))) (wlw w2 :: t) = .ok ((allR n p).map tupI) (wlw w2 :: t) := rfl
  have ln : ((allR n p).map tupI).length = n ^ p := by rw [List.length_map, allR_len]
  have ew : PM.eqV (.int (way : Int)) (.int 9) = some (.bl (decide (way = 9))) := by rw [eqV_int]; congr 2; exact decide_eq_decide.mpr (by omega)
  by_cases c : way = 9
  · rw [decide_eq_true c] at ew
    obtain ⟨lc, b3⟩ := lcL_WB (T := .nm 6) (test := tYes') (elt := e1__law_table) (t := t) (σ := [some (.c 0), some (.t (.int (n : Int))), some (.t (.int (p : Int))), some (.t (.int (way : Int))), some (.t (.int (num : Int))), some (.t (.lst ((allR n p).map tupI))), none]) (items := (allR n p).map tupI) (w := w2) (k := j) (fun _ w => (PV.int ((dr3 n w).1 : Int), (dr3 n w).2)) 1 (fun d hd w k hw => ⟨⟨_, asg_nm, rfl, by
      have e := draw3_dr (t := t) (m := n) hw (by omega) (by omega)
      generalize (allR n p).map tupI = AR
      simp [e1__law_table, e]⟩, hw.dr⟩) (b2.le (by rw [ln]; omega))
    rw [mapW_post (fun (_ : PV) w => ((dr3 n w).1, (dr3 n w).2)) (fun (k : Nat) => PV.int (k : Int))] at lc b3
    have hm : ∀ k ∈ (mapW (fun (_ : PV) w => ((dr3 n w).1, (dr3 n w).2)) ((allR n p).map tupI) w2).1, k < n := mapW_mem (P := fun k => k < n) fun _ _ w => dr3_lt (by omega)
    have hl : (mapW (fun (_ : PV) w => ((dr3 n w).1, (dr3 n w).2)) ((allR n p).map tupI) w2).1.length = n ^ p := by rw [mapW_len, ln]
    generalize mapW (fun (_ : PV) w => ((dr3 n w).1, (dr3 n w).2)) ((allR n p).map tupI) w2 = D at *
    obtain ⟨ks, w3⟩ := D
    simp only at lc b3 hm hl
    obtain ⟨row, er, ri, rl⟩ := ints_ofR (n := n) (ys := ks.map fun (k : Nat) => PV.int (k : Int)) (fun y hy => by
      obtain ⟨k, hk, rfl⟩ := List.mem_map.mp hy
      have := hm k hk
      exact ⟨_, rfl, by omega, by omega⟩)
    rw [List.length_map, hl] at rl
    rw [er] at lc
    have z := szF_ok (ds := row.map PV.int) (μ := wlw w3 :: t) (szL _ (by rw [List.length_map]; omega))
    have tp : tupleV [.lst (row.map PV.int)] = some (tupI row) := rfl
    refine ⟨row, w3, ?_, rl, ri, b3⟩
    generalize tupI row = TR at *
    generalize row.map PV.int = RR at *
    generalize (allR n p).map tupI = AR at *
    simp [-tupleV_lst, fn__law_table, b__law_table, fnOf, startM, e1, e2, al, ew, g, wipeM, lc, z, tp]
  · rw [decide_eq_false c] at ew
    have st : ∃ ys μ', lcL (.nm 6) tYes' e2__law_table ((allR n p).map tupI) [some (.c 0), some (.t (.int (n : Int))), some (.t (.int (p : Int))), some (.t (.int (way : Int))), some (.t (.int (num : Int))), some (.t (.lst ((allR n p).map tupI))), none] (wlw w2 :: t) = .ok ys μ' ∧ μ' = wlw w2 :: t ∧ ys.length = ((allR n p).map tupI).length ∧ ∀ y ∈ ys, ∃ x : Int, y = .int x ∧ 0 ≤ x ∧ x < (n : Int) := by
      refine lcL_inv (fun _ μ' => μ' = wlw w2 :: t) (fun y => ∃ x : Int, y = .int x ∧ 0 ≤ x ∧ x < (n : Int)) rfl ?_
      rintro i d μ' hd rfl
      obtain ⟨r, hr, rfl⟩ := List.mem_map.mp (List.mem_of_getElem? hd)
      have hm := allR_mem hr
      obtain ⟨x, ex, hx⟩ := worth_ok (μ := wlw w2 :: t) (way := way) (num := num) (r := r) hn1 hn (by omega) hm.2 (by omega) (by omega)
      refine ⟨_, .int x, _, asg_nm, rfl, ?_, rfl, x, rfl, hx⟩
      generalize (allR n p).map tupI = AR
      generalize tupI r = T at *
      simp [e2__law_table, ex]
    obtain ⟨ys, μ', lc, rfl, hl, hy⟩ := st
    obtain ⟨row, er, ri, rl⟩ := ints_ofR hy
    rw [hl, ln] at rl
    rw [er] at lc
    have z := szF_ok (ds := row.map PV.int) (μ := wlw w2 :: t) (szL _ (by rw [List.length_map]; omega))
    have tp : tupleV [.lst (row.map PV.int)] = some (tupI row) := rfl
    refine ⟨row, w2, ?_, rl, ri, b2.le (by omega)⟩
    generalize tupI row = TR at *
    generalize row.map PV.int = RR at *
    generalize (allR n p).map tupI = AR at *
    simp [-tupleV_lst, fn__law_table, b__law_table, fnOf, startM, e1, e2, al, ew, g, wipeM, lc, z, tp]

/-! rows, columns and lots, without a house -/
theorem pigeon {α : Type} [DecidableEq α] : ∀ (l m : List α), l.Nodup → (∀ x ∈ l, x ∈ m) → l.length ≤ m.length
  | [], _, _, _ => Nat.zero_le _
  | x :: l, m, hn, h => by
    have hx := h x List.mem_cons_self
    have hn' := List.nodup_cons.mp hn
    have := pigeon l (m.erase x) hn'.2 fun y hy => (List.mem_erase_of_ne (fun e : y = x => hn'.1 (e ▸ hy))).mpr (h y (List.mem_cons_of_mem _ hy))
    rw [List.length_erase_of_mem hx] at this
    have hp : 0 < m.length := List.length_pos_of_mem hx
    rw [List.length_cons]
    omega
theorem eqV_self {x : PV} {k : Nat} (h : SD k x) (hk : k ≤ 64 := by decide) : PM.eqV x x = some (.bl true) := by rw [eq_ok (h.ok hk) (h.ok hk), eqB_refl]
theorem neV_self {x : PV} {k : Nat} (h : SD k x) (hk : k ≤ 64 := by decide) : neV x x = some (.bl false) := by rw [ne_ok (h.ok hk) (h.ok hk), eqB_refl]; rfl
theorem tb_at {tb : List Int} {i : Int} (h0 : 0 ≤ i) (h1 : i < tb.length) : atI (tb.map PV.int) i = some (.int (tb.getD i.toNat 0)) := by
  have := at_int (l := tb) (i := i.toNat) (by omega)
  rwa [Int.toNat_of_nonneg h0] at this
def okRows (n w : Nat) (rs : List (List Int)) : Prop := ∀ r ∈ rs, r.length = w ∧ inR n r
def unI : PV → Int
  | .int i => i
  | _ => 0
theorem unI_map (o : List Int) : (o.map PV.int).map unI = o := by rw [List.map_map]; exact List.map_id'' (fun _ => rfl) o
theorem tupsOf_rows : ∀ l : List (List Int), tupsOf (l.map tupI) = some l
  | [] => rfl
  | x :: l => by
    show (match tupOf (tupI x), tupsOf (l.map tupI) with
      | some k, some ks => some (k :: ks)
      | _, _ => none) = _
    rw [tupsOf_rows l, show tupOf (tupI x) = some x from PM.numsOf_map x]
theorem rows_full {n w : Nat} {R : List (List Int)} (h : okRows n w R) (nd : R.Nodup) : R.length ≤ 1 ∨ ∀ r ∈ R, r ≠ [] := by
  by_cases hw : w = 0
  · left
    have := pigeon R [[]] nd fun r hr => by
      have := (h r hr).1
      rw [hw] at this
      rw [List.eq_nil_of_length_eq_zero this]; simp
    simpa using this
  · exact .inr fun r hr e => by have := (h r hr).1; rw [e] at this; exact hw this.symm
theorem full_b {R : List (List Int)} (h : R.length ≤ 1 ∨ ∀ r ∈ R, r ≠ []) : (Nat.ble R.length 1 || R.all fun k => !k.isEmpty) = true := by
  rw [Bool.or_eq_true]
  rcases h with h | h
  · exact .inl (Nat.ble_eq_true_of_le h)
  · refine .inr (List.all_eq_true.mpr fun r hr => ?_)
    cases r with
    | nil => exact absurd rfl (h _ hr)
    | cons _ _ => rfl
theorem sortSetG_rows {R : List (List Int)} (hl : (sortT R).length ≤ 4000) (h : (sortT R).length ≤ 1 ∨ ∀ r ∈ sortT R, r ≠ []) : sortSetG [.lst (R.map tupI)] = some ((sortT R).map tupI) := by
  cases R with
  | nil => rfl
  | cons r R =>
    have ok : okTs (sortT (r :: R)) = true := by
      unfold okTs
      rw [full_b h, Nat.ble_eq_true_of_le hl]; rfl
    show (tupsOf ((r :: R).map tupI)).bind _ = _
    rw [tupsOf_rows, Option.bind_some, ok]; rfl
theorem eqB_tupc {x y : PV} {a b : List PV} : eqB (.tup (x :: a)) (.tup (y :: b)) = (eqB x y && eqB (.tup a) (.tup b)) := by
  simp only [eqB, PV.data, datas, PyData.eqv, PyData.eqvAll]
theorem eqB_int' {i j : Int} : eqB (.int i) (.int j) = decide (i = j) := by simp only [eqB, PV.data, PyData.eqv, Bool.beq_eq_decide_eq]
theorem eqB_row : ∀ a b : List Int, eqB (tupI a) (tupI b) = decide (a = b)
  | [], [] => rfl
  | [], _ :: _ => rfl
  | _ :: _, [] => rfl
  | x :: a, y :: b => by
    have ih := eqB_row a b
    show eqB (.tup (.int x :: a.map .int)) (.tup (.int y :: b.map .int)) = _
    rw [eqB_tupc, eqB_int', show eqB (.tup (a.map .int)) (.tup (b.map .int)) = _ from ih]
    by_cases h1 : x = y <;> by_cases h2 : a = b <;> simp [h1, h2]
theorem SD_rowsL {w : Nat} {R : List (List Int)} (hw : w ≤ 1000) (h : ∀ r ∈ R, r.length = w) (hl : R.length ≤ 100000) : SD 2 (.lst (R.map tupI)) := SD_lst.mpr ⟨by rw [List.length_map]; omega, fun x hx => by
  obtain ⟨r, hr, rfl⟩ := List.mem_map.mp hx
  exact PM.SD_tupI (k := 0) (by rw [h r hr]; omega)⟩
theorem notIn_rows {w : Nat} {R : List (List Int)} {r : List Int} (hw : w ≤ 1000) (h : ∀ r ∈ R, r.length = w) (hl : R.length ≤ 100000) (hr : r.length ≤ 1000) : notInPV (tupI r) (.lst (R.map tupI)) = some (.bl (!decide (r ∈ R))) := by
  have ok1 : PM.okD (.lst (R.map tupI)) = true := (SD_rowsL hw h hl).ok
  have ok2 : PM.okD (tupI r) = true := (PM.SD_tupI (l := r) (k := 0) (by omega)).ok
  have e : ∀ R : List (List Int), (R.map tupI).any (fun z => eqB z (tupI r)) = decide (r ∈ R) := fun R => by
    rw [List.any_map]
    induction R with
    | nil => simp
    | cons y R ih =>
      rw [List.any_cons, ih]
      simp only [Function.comp, eqB_row]
      by_cases q : y = r
      · simp [q]
      · have q' : ¬ r = y := fun z => q z.symm
        simp [q, q']
  show ((if PM.okD (tupI r) && PM.okD (.lst (R.map tupI)) then some ((R.map tupI).any fun z => eqB z (tupI r)) else none).map fun b => PV.bl (!b)) = _
  rw [ok1, ok2, e]
  rfl
section
variable {n w : Nat} {ds : List Dd} {rows L : List (List Int)} {μ : Store}
theorem rows_lc {T : Tgt} {elt : ME} {σ : Sl} {φ : List Int → List Int} (h : ∀ r ∈ L, ∃ σ1, asg T (.t (tupI r)) σ = some σ1 ∧ elt σ1 μ = .ok (.t (tupI (φ r))) μ) : lcL T tYes' elt (L.map tupI) σ μ = .ok ((L.map φ).map tupI) μ := by
  rw [lcL_map (fun d => match d with | .tup l => tupI (φ (l.map unI)) | _ => .non) fun d hd => ?_]
  · rw [List.map_map, List.map_map]
    congr 1
    refine List.map_congr_left fun r _ => ?_
    have u : (r.map PV.int).map unI = r := unI_map r
    show tupI (φ ((r.map PV.int).map unI)) = _
    rw [u]; rfl
  · obtain ⟨r, hr, rfl⟩ := List.mem_map.mp hd
    obtain ⟨σ1, h1, h2⟩ := h r hr
    have u : (r.map PV.int).map unI = r := unI_map r
    refine ⟨σ1, h1, rfl, ?_⟩
    show _ = R.ok (PM.Val.t (tupI (φ ((r.map PV.int).map unI)))) μ
    rw [u]; exact h2
theorem in_rows {R : List (List Int)} {r : List Int} (hw : w ≤ 1000) (h : ∀ r ∈ R, r.length = w) (hl : R.length ≤ 100000) (hr : r.length ≤ 1000) : inPV (tupI r) (.lst (R.map tupI)) = some (.bl (decide (r ∈ R))) := by
  have e := notIn_rows hw h hl hr
  unfold notInPV at e
  unfold inPV
  cases q : inV' (tupI r) (.lst (R.map tupI)) with
  | none => rw [q] at e; cases e
  | some b =>
    rw [q] at e
    have e' : PV.bl (!b) = .bl (!decide (r ∈ R)) := Option.some.inj e
    have : (!b) = (!decide (r ∈ R)) := PV.bl.inj e'
    show some (PV.bl b) = _
    rw [Bool.not_inj this]
end
theorem isRow_ok {n w : Nat} {r : List Int} (h : r.length = w) (hi : inR n r) : isRowB (tupI r) (w : Int) n = true := by
  unfold isRowB
  simp only [List.length_map, h, decide_true, Bool.true_and]
  exact row_all hi

/-! the wells of the third powers: drawn relations -/
/-- a relation as data -/
def relV (w : Nat) (R : List (List Int)) : PV := .tup [.int (w : Int), .lst (R.map tupI)]
/-- what may be a relation -/
structure Rl (n w m : Nat) (R : List (List Int)) : Prop where
  ok : okRows n w R
  pw : R.Pairwise (· < ·)
  len : R.length ≤ m
theorem Rl.full {n w m : Nat} {R : List (List Int)} (h : Rl n w m R) : R.length ≤ 1 ∨ ∀ r ∈ R, r ≠ [] := rows_full h.ok (pwT_nodup h.pw)
theorem Rl.le {n w m k : Nat} {R : List (List Int)} (h : Rl n w m R) (hk : m ≤ k) : Rl n w k R := ⟨h.ok, h.pw, Nat.le_trans h.len hk⟩
theorem sortT_okRows {n w : Nat} {R : List (List Int)} (h : okRows n w R) : okRows n w (sortT R) := fun r hr => h r (sortT_mem.mp hr)
theorem sortT_rl {n w m : Nat} {R : List (List Int)} (h : okRows n w R) (hl : R.length ≤ m) : Rl n w m (sortT R) := ⟨sortT_okRows h, sortT_pw, Nat.le_trans sortT_len hl⟩
theorem sortSet_ok {n w : Nat} {R : List (List Int)} {μ : Store} (h : okRows n w R) (hl : R.length ≤ 4000) : pfN sortSetG [.t (.lst (R.map tupI))] μ = .ok ((sortT R).map tupI) μ := by
  have so := sortSetG_rows (R := R) (Nat.le_trans sortT_len hl) (rows_full (sortT_okRows h) (pwT_nodup sortT_pw))
  simp [pfN, views, view, so]
/-! relations: check_relation; rows that a table makes of rows -/
theorem lexLt_lt : ∀ {a b : List Int}, a < b → HT.lexLt a b = true
  | [], [], h => absurd h (List.lt_irrefl _)
  | [], _ :: _, _ => rfl
  | _ :: _, [], h => absurd h (List.not_lt_nil _)
  | x :: a, y :: b, h => by
    rw [HT.lexLt_cons]
    rcases List.cons_lt_cons_iff.mp h with h | ⟨h1, h2⟩
    · rw [if_neg (by omega)]; exact decide_eq_true h
    · rw [if_pos h1]; exact lexLt_lt h2
theorem ltV_lt {a b : List Int} (hab : a < b) : ltV (tupI a) (tupI b) = some (.bl true) := by
  show (match intsOf (a.map .int), intsOf (b.map .int) with
    | some l, some m => some (PV.bl (HT.lexLt l m))
    | _, _ => none) = _
  rw [intsOf_map, intsOf_map]
  show some (PV.bl (HT.lexLt a b)) = _
  rw [lexLt_lt hab]
section
variable {n w m : Nat} {R : List (List Int)} {μ : Store}
theorem chkrel_loop {s0 s1 s2 : Option Val} (hn0 : s0 = some (.t (.int (n : Int)))) (hw0 : s2 = some (.t (.int (w : Int)))) (h : Rl n w m R) (hw : w ≤ 1000) : ∃ a b : Option Val, forL (.tp [.nm 4, .nm 5]) f1_check_relation (enumP (R.map tupI)) [s0, s1, s2, some (.t (.lst (R.map tupI))), none, none] μ = .nx [s0, s1, s2, some (.t (.lst (R.map tupI))), a, b] μ := by
  subst hn0 hw0
  refine forL_inv (fun (_ : Nat) (σ : Sl) (ν : Store) => ν = μ ∧ ∃ a b : Option Val, σ = [some (.t (.int (n : Int))), s1, some (.t (.int (w : Int))), some (.t (.lst (R.map tupI))), a, b]) (fun r => ∃ a b : Option Val, r = .nx [some (.t (.int (n : Int))), s1, some (.t (.int (w : Int))), some (.t (.lst (R.map tupI))), a, b] μ) ⟨rfl, none, none, rfl⟩ ?_ ?_
  · rintro i d σ ν hd ⟨rfl, a, b, rfl⟩
    obtain ⟨z, hz, rfl⟩ := enumP_at hd
    rw [List.getElem?_map] at hz
    obtain ⟨r, hr, rfl⟩ := Option.map_eq_some_iff.mp hz
    obtain ⟨hi, er⟩ := List.getElem?_eq_some_iff.mp hr
    have ho := h.ok r (List.mem_of_getElem? hr)
    have ir := is_row_ok (w := (w : Int)) (n := (n : Int)) (μ := ν) (PM.SD_tupI (l := r) (k := 0) (by rw [ho.1]; omega))
    rw [isRow_ok ho.1 ho.2] at ir
    have gt : gtV (.int (i : Int)) (.int 0) = some (.bl (decide (0 < i))) := by
      show some (PV.bl (decide ((0 : Int) < (i : Int)))) = _
      rw [decide_eq_decide.mpr (show ((0 : Int) < (i : Int)) ↔ 0 < i by omega)]
    refine ⟨[some (.t (.int (n : Int))), s1, some (.t (.int (w : Int))), some (.t (.lst (R.map tupI))), some (.t (.int (i : Int))), some (.t (tupI r))], rfl, .inl ⟨[some (.t (.int (n : Int))), s1, some (.t (.int (w : Int))), some (.t (.lst (R.map tupI))), some (.t (.int (i : Int))), some (.t (tupI r))], ν, .inl ?_, rfl, some (.t (.int (i : Int))), some (.t (tupI r)), rfl⟩⟩
    by_cases c : 0 < i
    · rw [decide_eq_true c] at gt
      have sb : subV (.int (i : Int)) (.int 1) = some (.int ((i - 1 : Nat) : Int)) := by
        show some (PV.int ((i : Int) - 1)) = _
        congr 2
        omega
      have at1 : atV (.lst (R.map tupI)) (.int ((i - 1 : Nat) : Int)) = some (tupI R[i - 1]) := by
        show atI _ _ = _
        rw [atI_nat' (by rw [List.length_map]; omega), List.getElem_map]
      have lt := ltV_lt (a := R[i - 1]) (b := r) (by
        rw [← er]
        exact List.pairwise_iff_getElem.mp h.pw (i - 1) i (by omega) hi (by omega))
      generalize tupI R[i - 1] = T1 at *
      generalize tupI r = T at *
      generalize R.map tupI = RR at *
      simp [-atV_lst, f1_check_relation, ir, gt, sb, at1, lt]
    · rw [decide_eq_false c] at gt
      generalize tupI r = T at *
      generalize R.map tupI = RR at *
      simp [-atV_lst, f1_check_relation, ir, gt]
  · rintro σ ν ⟨rfl, a, b, rfl⟩
    exact ⟨a, b, rfl⟩
theorem chkrel_ok (h : Rl n w m R) (hw : w ≤ 12) : fn_check_relation [.t (.int (n : Int)), .t (relV w R)] μ = .ok (.t .non) μ := by
  obtain ⟨a, b, lo⟩ := chkrel_loop (μ := μ) (s0 := some (.t (.int (n : Int)))) (s1 := some (.t (relV w R))) (s2 := some (.t (.int (w : Int)))) rfl rfl h (by omega)
  have ty : isTy "tuple" (relV w R) = some (.bl true) := rfl
  have l2 : lenV [relV w R] = some (.int 2) := rfl
  have tl : isTy "list" (.lst (R.map tupI)) = some (.bl true) := rfl
  have as : asg (.tp [.nm 2, .nm 3]) (.t (relV w R)) [some (.t (.int (n : Int))), some (.t (relV w R)), none, none, none, none] = some [some (.t (.int (n : Int))), some (.t (relV w R)), some (.t (.int (w : Int))), some (.t (.lst (R.map tupI))), none, none] := rfl
  have iw := is_whole_ok (d := .int (w : Int)) (μ := μ) (by intro z; cases z)
  have iw : fn_is_whole [.t (.int (w : Int))] μ = .ok (.t (.bl true)) μ := iw
  have le1 : leV (.int 0) (.int (w : Int)) = some (.bl true) := by
    show some (PV.bl (decide ((0 : Int) ≤ (w : Int)))) = _
    rw [decide_eq_true (by omega)]
  have le2 : leV (.int (w : Int)) (.int 12) = some (.bl true) := by
    show some (PV.bl (decide ((w : Int) ≤ 12))) = _
    rw [decide_eq_true (by omega)]
  have en : gEnum [.t (.lst (R.map tupI))] μ = .ok (enumP (R.map tupI)) μ := by rw [gEnum_lst]
  have nv : neV (.int 2) (.int 2) = some (.bl false) := neV_self (SD_int (n := 0))
  generalize relV w R = RV at *
  generalize enumP (R.map tupI) = EN at *
  generalize R.map tupI = RR at *
  simp [fn_check_relation, b_check_relation, fnOf, startM, ty, l2, nv, sAsg_tp, as, iw, eChain, le1, le2, tl, en, lo]
end
/-! tables that keep a parting -/
theorem keysOf_int : ∀ r : List Int, keysOf (r.map .int) = some (r.map Sum.inl)
  | [] => rfl
  | x :: r => by
    show (match keyOf (.int x), keysOf (r.map .int) with | some k, some ks => some (k :: ks) | _, _ => none) = _
    rw [keysOf_int r]
    rfl
theorem keyB_tupI {r : List Int} : keyB true (tupI r) = true := by
  show (keysOf (r.map .int)).isSome = true
  rw [keysOf_int]
  rfl
theorem keyEq_tupI (a b : List Int) : keyEq (tupI a) (tupI b) = decide (a = b) := by
  have h := keyEq_t (a.map Sum.inl) (b.map Sum.inl)
  have e : ∀ l : List Int, (l.map (Sum.inl : Int → Key)).map kPV = l.map .int := fun l => by rw [List.map_map]; rfl
  rw [e, e] at h
  show keyEq (.tup (a.map .int)) (.tup (b.map .int)) = _
  rw [h]
  have inj : ∀ {x y : List Int}, x.map (Sum.inl : Int → Key) = y.map Sum.inl ↔ x = y := fun {x y} => by
    constructor
    · intro h
      exact (List.map_inj_right (fun _ _ h => Sum.inl.inj h)).mp h
    · intro h; rw [h]
  by_cases hab : a = b
  · simp [hab]
  · rw [decide_eq_false hab, decide_eq_false (fun z => hab (inj.mp z))]
theorem any_tupI (ks : List (List Int)) (k : List Int) : (ks.map tupI).any (keyEq · (tupI k)) = decide (k ∈ ks) := by
  rw [List.any_map]
  induction ks with
  | nil => simp
  | cons x ks ih =>
    rw [List.any_cons, ih]
    simp only [Function.comp, keyEq_tupI]
    by_cases h : x = k
    · simp [h]
    · have h' : ¬ k = x := fun z => h z.symm
      simp [h, h']
theorem notInPV_dic {b : Bool} {ks vs : List PV} {k : PV} (h : keyB b k = true) : notInPV k (.dic b ks vs) = some (.bl (!(dfind ks vs k).isSome)) := by
  have e := inPV_dic (ks := ks) (vs := vs) h
  unfold inPV at e
  unfold notInPV
  cases hv : inV' k (.dic b ks vs) with
  | none => rw [hv] at e; cases e
  | some z =>
    rw [hv] at e
    have : z = (dfind ks vs k).isSome := by simpa using e
    rw [this]; rfl
def addT (F : List (List Int)) : List (List Int) → List (List Int)
  | [] => F
  | x :: xs => addT (if x ∈ F then F else F ++ [x]) xs
theorem addT_mem : ∀ {xs F : List (List Int)} {k : List Int}, k ∈ addT F xs ↔ k ∈ F ∨ k ∈ xs
  | [], F, k => by simp [addT]
  | x :: xs, F, k => by
    unfold addT
    rw [addT_mem, List.mem_cons]
    by_cases h : x ∈ F
    · rw [if_pos h]
      constructor
      · rintro (a | a)
        · exact .inl a
        · exact .inr (.inr a)
      · rintro (a | a | a)
        · exact .inl a
        · exact .inl (a ▸ h)
        · exact .inr a
    · rw [if_neg h, List.mem_append, List.mem_singleton]
      exact or_assoc
theorem dset_trueT : ∀ (F : List (List Int)) (x : PV), dset (F.map tupI) (F.map fun _ => .bl true) x (.bl true) = F.map fun _ => .bl true
  | [], _ => rfl
  | y :: F, x => by
    show (if keyEq (tupI y) x then PV.bl true else .bl true) :: dset (F.map tupI) (F.map fun _ => .bl true) x (.bl true) = _
    rw [dset_trueT F x]
    split <;> rfl
theorem dmergeT_true : ∀ (xs F : List (List Int)), dmergeT (xs.map fun x => .tup [tupI x, .bl true]) (F.map tupI) (F.map fun _ => .bl true) = some ((addT F xs).map tupI, (addT F xs).map fun _ => .bl true)
  | [], F => by rw [List.map_nil, dmergeT]; rfl
  | x :: xs, F => by
    have ih := dmergeT_true xs (if x ∈ F then F else F ++ [x])
    rw [List.map_cons]
    show dmergeT (.tup [.tup (x.map .int), .bl true] :: _) _ _ = _
    rw [dmergeT, keysOf_int]
    have hp : dput (F.map tupI) (F.map fun _ => .bl true) (tupI x) (.bl true) = ((if x ∈ F then F else F ++ [x]).map tupI, (if x ∈ F then F else F ++ [x]).map fun _ => .bl true) := by
      unfold dput
      rw [any_tupI]
      by_cases h : x ∈ F
      · rw [decide_eq_true h, if_pos rfl, if_pos h, dset_trueT]
      · rw [decide_eq_false h, if_neg (by decide), if_neg h, List.map_append, List.map_append]
        rfl
    simp only [Option.isSome_some, if_true]
    show dmergeT _ (dput (F.map tupI) (F.map fun _ => .bl true) (tupI x) (.bl true)).1 (dput (F.map tupI) (F.map fun _ => .bl true) (tupI x) (.bl true)).2 = _
    rw [hp]
    exact ih

/-! things at a spot -/
def digs (n : Nat) : Nat → Nat → List Int
  | 0, _ => []
  | p + 1, s => digs n p (s / n) ++ [((s % n : Nat) : Int)]
theorem digs_len {n : Nat} : ∀ {p s : Nat}, (digs n p s).length = p
  | 0, _ => rfl
  | p + 1, s => by show (digs n p (s / n) ++ [_]).length = _; rw [List.length_append, digs_len]; rfl
theorem digs_inR {n : Nat} (hn : 0 < n) : ∀ {p s : Nat}, inR n (digs n p s)
  | 0, _ => fun x hx => nomatch hx
  | p + 1, s => fun x hx => by
    rcases List.mem_append.mp hx with hx | hx
    · exact digs_inR hn x hx
    · rw [List.mem_singleton.mp hx]
      have := Nat.mod_lt s hn
      omega
theorem tat_loop {n : Nat} {s1 : Option Val} {μ : Store} (hn1 : 0 < n) (hn : n ≤ 1000) : ∀ (items : List PV) (s : Nat) (acc : List Int) (x : Option Val), acc.length + items.length ≤ 1000 → ∃ s' x', forL (.nm 4) f1_things_at items [some (.t (.int (s : Int))), s1, some (.t (.int (n : Int))), some (.t (tupI acc)), x] μ = .nx [s', s1, some (.t (.int (n : Int))), some (.t (tupI (digs n items.length s ++ acc))), x'] μ
  | [], s, acc, x, _ => ⟨_, x, rfl⟩
  | d :: items, s, acc, x, hl => by
    have hl' : acc.length + (items.length + 1) ≤ 1000 := hl
    have md : modV (.int (s : Int)) (.int (n : Int)) = some (.int ((s % n : Nat) : Int)) := by rw [mod_ok (by omega)]; simp
    have dv : fdivV (.int (s : Int)) (.int (n : Int)) = some (.int ((s / n : Nat) : Int)) := by rw [fdiv_ok (by omega) (by omega)]; simp
    have ad := addV_tup (a := [PV.int ((s % n : Nat) : Int)]) (b := acc.map PV.int) (by simp; omega)
    have ad' : addV (.tup [PV.int ((s % n : Nat) : Int)]) (tupI acc) = some (tupI (((s % n : Nat) : Int) :: acc)) := ad
    obtain ⟨s', x', e⟩ := tat_loop (s1 := s1) (μ := μ) hn1 hn items (s / n) (((s % n : Nat) : Int) :: acc) (some (.t d)) (by simp; omega)
    refine ⟨s', x', ?_⟩
    have ee : digs n (d :: items).length s ++ acc = digs n items.length (s / n) ++ (((s % n : Nat) : Int) :: acc) := by
      show digs n (items.length + 1) s ++ acc = _
      rw [digs, List.append_assoc]; rfl
    rw [ee, forL_nx (σ1 := [some (.t (.int (s : Int))), s1, some (.t (.int (n : Int))), some (.t (tupI acc)), some (.t d)]) (σ2 := [some (.t (.int ((s / n : Nat) : Int))), s1, some (.t (.int (n : Int))), some (.t (tupI (((s % n : Nat) : Int) :: acc))), some (.t d)]) (μ2 := μ) (by simp) ?_, e]
    generalize tupI (((s % n : Nat) : Int) :: acc) = T at ad'
    generalize tupI acc = A at ad'
    generalize ((s % n : Nat) : Int) = sm at md ad'
    generalize ((s / n : Nat) : Int) = sd at dv
    simp [f1_things_at, md, dv, ad']
theorem things_at_ok {n p s : Nat} {μ : Store} (hn1 : 0 < n) (hn : n ≤ 1000) (hp : p ≤ 1000) : fn_things_at [.t (.int (s : Int)), .t (.int (p : Int)), .t (.int (n : Int))] μ = .ok (.t (tupI (digs n p s))) μ := by
  obtain ⟨s', x', e⟩ := tat_loop (s1 := some (.t (.int (p : Int)))) (μ := μ) hn1 hn (rgI 0 p) s [] none (by rw [rgI_len]; simp; omega)
  rw [rgI_len, List.append_nil] at e
  have e' : forL (.nm 4) f1_things_at (rgI 0 p) [some (.t (.int (s : Int))), some (.t (.int (p : Int))), some (.t (.int (n : Int))), some (.t (.tup [])), none] μ = _ := e
  simp [fn_things_at, b_things_at, fnOf, startM, range1_ok (n := p) (by omega), e']
theorem flat_at {α β : Type} {n : Nat} (f : α → List β) : ∀ (l : List α) (s : Nat), (∀ a ∈ l, (f a).length = n) → 0 < n → (l.flatMap f)[s]? = (l[s / n]?).bind fun a => (f a)[s % n]?
  | [], s, _, _ => by simp
  | a :: l, s, h, hn => by
    rw [List.flatMap_cons]
    have ha := h a List.mem_cons_self
    by_cases q : s < n
    · rw [List.getElem?_append_left (by omega), Nat.div_eq_of_lt q, Nat.mod_eq_of_lt q]; rfl
    · rw [List.getElem?_append_right (by omega), ha, flat_at f l (s - n) (fun b hb => h b (List.mem_cons_of_mem _ hb)) hn]
      have e1 : s / n = (s - n) / n + 1 := by rw [Nat.div_eq s n, if_pos ⟨hn, by omega⟩]
      have e2 : s % n = (s - n) % n := by rw [Nat.mod_eq_sub_mod (by omega)]
      rw [e1, e2, List.getElem?_cons_succ]
theorem allR_at {n : Nat} (hn : 0 < n) : ∀ {p s : Nat}, s < n ^ p → (allR n p)[s]? = some (digs n p s)
  | 0, s, h => by
    have : s = 0 := by simpa using h
    rw [this]; rfl
  | p + 1, s, h => by
    show ((allR n p).flatMap fun r => (List.range n).map fun (t : Nat) => r ++ [(t : Int)])[s]? = _
    rw [flat_at (n := n) _ _ _ (by simp) hn]
    have hq : s / n < n ^ p := by
      rw [Nat.pow_succ] at h
      exact Nat.div_lt_of_lt_mul (by rw [Nat.mul_comm]; exact h)
    rw [allR_at hn hq]
    have hm := Nat.mod_lt s hn
    simp [digs, hm]
/-! put_together of a list that stands in a cell -/
section
variable {n w m p : Nat} {tb : List Int} {R : List (List Int)} {μ : Store} {l : List Nat}
/-! led_out: the first rows by which a table leads out of a lot -/
abbrev dicR (R : List (List Int)) : PV := .dic true ((addT [] R).map tupI) ((addT [] R).map fun _ => .bl true)
theorem notIn_dicR {r : List Int} : notInPV (tupI r) (dicR R) = some (.bl (!decide (r ∈ R))) := by
  have mem : r ∈ addT [] R ↔ r ∈ R := by rw [addT_mem]; simp
  rw [notInPV_dic keyB_tupI, dfind_some (by simp), any_tupI]
  by_cases q : r ∈ R
  · rw [decide_eq_true q, decide_eq_true (mem.mpr q)]
  · rw [decide_eq_false q, decide_eq_false fun h => q (mem.mp h)]
end
section
variable {n w v p m k : Nat} {P : List Int} {R S : List (List Int)}
/-! relations: beside, chosen, equal things, put together by hand -/
theorem lt_app {x y : List Int} : ∀ {a b : List Int}, a.length = b.length → a < b → a ++ x < b ++ y
  | [], [], _, h => absurd h (List.lt_irrefl _)
  | [], _ :: _, hl, _ => by simp at hl
  | _ :: _, [], hl, _ => by simp at hl
  | u :: a, v :: b, hl, h => by
    rw [List.cons_append, List.cons_append]
    have hl' : a.length = b.length := Nat.succ.inj hl
    rcases List.cons_lt_cons_iff.mp h with h' | ⟨e, h'⟩
    · exact List.cons_lt_cons_iff.mpr (.inl h')
    · exact List.cons_lt_cons_iff.mpr (.inr ⟨e, lt_app hl' h'⟩)
def besL (R S : List (List Int)) : List (List Int) := R.flatMap fun r => S.map fun s => r ++ s
theorem bes_mem {q : List Int} : q ∈ besL R S ↔ ∃ a ∈ R, ∃ b ∈ S, a ++ b = q := by
  unfold besL
  rw [List.mem_flatMap]
  constructor
  · rintro ⟨a, ha, h⟩
    obtain ⟨b, hb, e⟩ := List.mem_map.mp h
    exact ⟨a, ha, b, hb, e⟩
  · rintro ⟨a, ha, b, hb, e⟩
    exact ⟨a, ha, List.mem_map.mpr ⟨b, hb, e⟩⟩
theorem app_lt {s t : List Int} (h : s < t) : ∀ r : List Int, r ++ s < r ++ t
  | [] => h
  | x :: r => List.cons_lt_cons_iff.mpr (.inr ⟨rfl, app_lt h r⟩)
theorem bes_pw (hR : okRows n w R) (p1 : R.Pairwise (· < ·)) (p2 : S.Pairwise (· < ·)) : (besL R S).Pairwise (· < ·) := by
  induction R with
  | nil => exact List.Pairwise.nil
  | cons a R ih =>
    obtain ⟨h1, h2⟩ := List.pairwise_cons.mp p1
    show (S.map (fun s => a ++ s) ++ besL R S).Pairwise (· < ·)
    refine List.pairwise_append.mpr ⟨List.Pairwise.map _ (fun x y h => app_lt h a) p2, ih (fun r hr => hR r (List.mem_cons_of_mem _ hr)) h2, fun x hx y hy => ?_⟩
    obtain ⟨s, _, rfl⟩ := List.mem_map.mp hx
    obtain ⟨b, hb, t, _, rfl⟩ := bes_mem.mp hy
    exact lt_app (by rw [(hR a List.mem_cons_self).1, (hR b (List.mem_cons_of_mem _ hb)).1]) (h1 b hb)
theorem bes_len : (besL R S).length = R.length * S.length := by
  induction R with
  | nil => simp [besL]
  | cons a R ih =>
    show (S.map (fun s => a ++ s) ++ besL R S).length = _
    rw [List.length_append, ih, List.length_map, List.length_cons, Nat.add_mul, Nat.one_mul, Nat.add_comm]
theorem bes_ok (hR : okRows n w R) (hS : okRows n v S) : okRows n (w + v) (besL R S) := fun q hq => by
  obtain ⟨a, ha, b, hb, rfl⟩ := bes_mem.mp hq
  refine ⟨by rw [List.length_append, (hR a ha).1, (hS b hb).1], fun x hx => ?_⟩
  rcases List.mem_append.mp hx with hx | hx
  · exact (hR a ha).2 x hx
  · exact (hS b hb).2 x hx
def pickL (P r : List Int) : List Int := P.map fun x => r.getD x.toNat 0
theorem pick_ok {P : List Int} (hP : inR w P) (h : okRows n w R) : okRows n P.length (R.map (pickL P)) := fun r hr => by
  obtain ⟨q, hq, rfl⟩ := List.mem_map.mp hr
  refine ⟨List.length_map _, fun x hx => ?_⟩
  obtain ⟨y, hy, rfl⟩ := List.mem_map.mp hx
  have := hP y hy
  exact (h q hq).2 _ (PM.getD_mem (by rw [(h q hq).1]; omega))
def eqL (n : Nat) : List (List Int) := (List.range n).map fun (k : Nat) => [(k : Int), (k : Int)]
theorem eq_rl (hn : n ≤ 24) : Rl n 2 24 (eqL n) := ⟨fun r hr => by
  obtain ⟨k, hk, rfl⟩ := List.mem_map.mp hr
  have := List.mem_range.mp hk
  exact ⟨rfl, fun x hx => by simp at hx; omega⟩, by
  refine List.Pairwise.map _ (fun a b (hab : a < b) => ?_) List.pairwise_lt_range
  exact List.cons_lt_cons_iff.mpr (.inl (by omega)), by simp [eqL]; exact hn⟩
end
section
variable {n w v p m k : Nat} {P : List Int} {R S : List (List Int)} {μ : Store}
/-! k31: crossed, beside, chosen, equal_things, graph: told with a list of their own */ -/
theorem fin_g1 {n k : Nat} {d : PV} {X : List PV} {μ : Store} (h : μ[k]? = some (some (.lst X))) (hk : n ≤ k) : fin n (.g .tup [.t d, .c k]) μ = .ok (.g .tup [.t d, .c n]) (μ.take n ++ [some (.lst X)]) := by
  have h1 : ¬ k < n := by omega
  simp [fin, Fl.below, h1, h, noOb, Fl.only, Fl.ren]
/-- a relation whose list is a thing that changes -/
abbrev relG (w k : Nat) : PM.Val := PM.Val.g .tup [.t (.int (w : Int)), .c k]
theorem tupG_c {d : PV} {k : Nat} {ν : Store} : gTupG [.t d, .c k] ν = .ok (.g .tup [.t d, .c k]) ν := by
  unfold gTupG
  rw [if_pos (szL _ (by simp))]
  rfl
theorem eqthings_ok (hn : n ≤ 9) : fn_equal_things [.t (.int (n : Int))] μ = .ok (relG 2 μ.length) (μ ++ [some (.lst ((eqL n).map tupI))]) := by
  have rg := range1_ok (n := n) (μ := μ) (by omega)
  have lc : lcL (.nm 1) tYes' e1_equal_things (rgI 0 n) [some (.t (.int (n : Int))), none] μ = .ok ((eqL n).map tupI) μ := by
    rw [rgI_nat, lcL_map (fun d => .tup [d, d]) fun d hd => ⟨_, asg_nm, rfl, by simp [e1_equal_things]⟩]
    unfold eqL
    rw [List.map_map, List.map_map]
    rfl
  have z : szF ((eqL n).map tupI) μ = .ok _ μ := szF_ok (szL _ (by simp [eqL]; omega))
  have fg := fin_g1 (n := μ.length) (k := μ.length) (d := .int 2) (X := (eqL n).map tupI) (μ := μ ++ [some (.lst ((eqL n).map tupI))]) at_snoc (Nat.le_refl _)
  rw [List.take_left] at fg
  show _ = PM.R.ok (PM.Val.g .tup [.t (.int 2), .c μ.length]) _
  generalize (eqL n).map tupI = EL at *
  generalize rgI 0 n = RG at *
  simp [fn_equal_things, b_equal_things, fnOf, startM, rg, wipeM, lc, z, tupG_c, endM, fg]
theorem in_dicR {r : List Int} : inPV (tupI r) (dicR S) = some (.bl (decide (r ∈ S))) := by
  have h := notIn_dicR (R := S) (r := r)
  unfold notInPV at h
  unfold inPV
  cases e : inV' (tupI r) (dicR S) with
  | none => rw [e] at h; cases h
  | some b =>
    rw [e] at h
    have h := Option.some.inj h
    have h : PV.bl (!b) = PV.bl (!decide (r ∈ S)) := h
    have : (!b) = (!decide (r ∈ S)) := by injection h
    rw [Option.map_some, show b = decide (r ∈ S) from by cases b <;> cases hd : decide (r ∈ S) <;> simp_all]
theorem crossed_ok (hR : Rl n w 25 R) (hS : Rl n w 25 S) (hw : w ≤ 12) : fn_crossed [.t (.int (n : Int)), .t (relV w R), .t (relV w S)] μ = .ok (relG w μ.length) (μ ++ [some (.lst ((R.filter fun r => decide (r ∈ S)).map tupI))]) := by
  have c1 := chkrel_ok (μ := μ) hR hw
  have c2 := chkrel_ok (μ := μ) hS hw
  have a10 : atV (relV w R) (.int 0) = some (.int (w : Int)) := rfl
  have a11 : atV (relV w R) (.int 1) = some (.lst (R.map tupI)) := rfl
  have a20 : atV (relV w S) (.int 0) = some (.int (w : Int)) := rfl
  have a21 : atV (relV w S) (.int 1) = some (.lst (S.map tupI)) := rfl
  have nv : neV (.int (w : Int)) (.int (w : Int)) = some (.bl false) := by rw [neV_int, decide_eq_true rfl]; rfl
  have gS : gIt (.t (.lst (S.map tupI))) μ = .ok (S.map tupI) μ := rfl
  have lcS : ∀ σ : Sl, 4 < σ.length → lcL (.nm 4) tYes' e1_crossed (S.map tupI) σ μ = .ok (S.map fun x => .tup [tupI x, .bl true]) μ := fun σ h9 => by
    rw [lcL_map (fun d => .tup [d, .bl true]) fun d hd => ⟨_, asg_nm, rfl, by simp [e1_crossed, h9]⟩, List.map_map]
    rfl
  have l2 := hS.len
  have l1 := hR.len
  have z1 := szF_ok (ds := S.map fun x => PV.tup [tupI x, .bl true]) (μ := μ) (szL _ (by rw [List.length_map]; omega))
  have gd : gDictT (.t (.lst (S.map fun x => PV.tup [tupI x, .bl true]))) μ = .ok (.c μ.length) (μ ++ [some (.dic true ((addT [] S).map tupI) ((addT [] S).map fun _ => .bl true))]) := by
    have dm' : dmergeT (S.map fun x => PV.tup [tupI x, .bl true]) [] [] = _ := dmergeT_true S []
    simp only [gDictT, view, dm']
  have fz : frz1 (μ ++ [some (.dic true ((addT [] S).map tupI) ((addT [] S).map fun _ => .bl true))]) (.c μ.length) = some (.t (dicR S), μ ++ [none]) := by
    rw [frz_dic at_snoc, set_snoc]
  have gR : ∀ κ, gIt (.t (.lst (R.map tupI))) κ = .ok (R.map tupI) κ := fun _ => rfl
  have lcR : ∀ (κ : Store) (rs : List (List Int)), lcL (.nm 4) t1_crossed e2_crossed (rs.map tupI) [some (.t (.int (n : Int))), some (.t (relV w R)), some (.t (relV w S)), some (.t (dicR S)), none] κ = .ok ((rs.filter fun r => decide (r ∈ S)).map tupI) κ := fun κ rs => by
    induction rs with
    | nil => rfl
    | cons r rs ih =>
      have i := in_dicR (S := S) (r := r)
      have tt : t1_crossed [some (.t (.int (n : Int))), some (.t (relV w R)), some (.t (relV w S)), some (.t (dicR S)), some (.t (tupI r))] κ = .ok (decide (r ∈ S)) κ := by
        generalize dicR S = DS at *
        generalize tupI r = TR at *
        generalize relV w R = V1 at *
        generalize relV w S = V2 at *
        simp [t1_crossed, i]
      rw [List.map_cons, List.filter_cons]
      by_cases q : r ∈ S
      · rw [decide_eq_true q] at tt ⊢
        rw [if_pos rfl, List.map_cons]
        exact lcL_cons (μ2 := κ) (by simp) tt (by simp [e2_crossed]) ih
      · rw [decide_eq_false q] at tt ⊢
        rw [if_neg (by simp)]
        exact lcL_skip (by simp) tt ih
  have fl : (R.filter fun r => decide (r ∈ S)).length ≤ 25 := Nat.le_trans (List.length_filter_le _ _) l1
  have z2 : ∀ κ, szF ((R.filter fun r => decide (r ∈ S)).map tupI) κ = .ok _ κ := fun κ => szF_ok (szL _ (by rw [List.length_map]; omega))
  have fg := fin_g1 (n := μ.length) (k := μ.length + 1) (d := .int (w : Int)) (X := (R.filter fun r => decide (r ∈ S)).map tupI) (μ := μ ++ [none] ++ [some (.lst ((R.filter fun r => decide (r ∈ S)).map tupI))]) (by rw [List.getElem?_append_right (by simp)]; simp) (by omega)
  rw [show List.take μ.length (μ ++ [none] ++ [some (Cell.lst ((R.filter fun r => decide (r ∈ S)).map tupI))]) = μ from by rw [List.append_assoc, List.take_left]] at fg
  rw [List.append_assoc, List.cons_append, List.nil_append] at fg
  unfold relG
  have lcR' := fun κ => lcR κ R
  generalize (R.filter fun r => decide (r ∈ S)).map tupI = FL at *
  generalize (S.map fun x => PV.tup [tupI x, .bl true]) = SX at *
  generalize dicR S = DS at *
  generalize relV w R = V1 at *
  generalize relV w S = V2 at *
  generalize R.map tupI = RT at *
  generalize S.map tupI = ST at *
  generalize some (Cell.dic true ((addT [] S).map tupI) ((addT [] S).map fun _ => PV.bl true)) = DC at *
  simp [fn_crossed, b_crossed, fnOf, startM, c1, c2, a10, a11, a20, a21, nv, gS, wipeM, lcS, z1, eFrz, gd, fz, gR, lcR', z2, tupG_c, endM, fg]
end
section
variable {n w v p m k : Nat} {P : List Int} {R S : List (List Int)} {μ : Store}
/-! k31: beside, chosen -/
theorem ext_snocR {μ : Store} {A B : List PV} (h : A.length + B.length ≤ 1000000) : gExt (.c μ.length) [.t (.lst B)] (μ ++ [some (.lst A)]) = .ok (.t .non) (μ ++ [some (.lst (A ++ B))]) := by
  have := szL _ h
  simp [gExt, lstAt, views, this]
theorem beside_loop {s0 s1 : Option Val} (hS : ∀ s ∈ S, s.length ≤ 100) : ∀ (rs : List (List Int)) (acc : List (List Int)) (x4 : Option Val), (∀ r ∈ rs, r.length ≤ 100) → acc.length + rs.length * S.length ≤ 1000 → ∃ y4, forL (.nm 4) f1_beside (rs.map tupI) [s0, s1, some (.t (relV v S)), some (.c μ.length), x4, none] (μ ++ [some (.lst (acc.map tupI))]) = .nx [s0, s1, some (.t (relV v S)), some (.c μ.length), y4, none] (μ ++ [some (.lst ((acc ++ besL rs S).map tupI))])
  | [], acc, x4, _, _ => ⟨x4, by simp [forL, besL]⟩
  | r :: rs, acc, x4, hr, h => by
    rw [List.length_cons, Nat.add_mul, Nat.one_mul] at h
    have hrl := hr r List.mem_cons_self
    have a21 : atV (relV v S) (.int 1) = some (.lst (S.map tupI)) := rfl
    have gS : ∀ κ, gIt (.t (.lst (S.map tupI))) κ = .ok (S.map tupI) κ := fun _ => rfl
    have lc : ∀ κ, lcL (.nm 5) tYes' e1_beside (S.map tupI) [s0, s1, some (.t (relV v S)), some (.c μ.length), some (.t (tupI r)), none] κ = .ok ((S.map fun s => r ++ s).map tupI) κ := fun κ => by
      have := rows_lc (T := .nm 5) (elt := e1_beside) (L := S) (σ := [s0, s1, some (.t (relV v S)), some (.c μ.length), some (.t (tupI r)), none]) (μ := κ) (φ := fun s => r ++ s) fun s hs => ⟨_, asg_nm, by
        have ad : addV (tupI r) (tupI s) = some (tupI (r ++ s)) := by
          have := hS s hs
          have h2 := addV_tup (a := r.map PV.int) (b := s.map PV.int) (by rw [List.length_map, List.length_map]; omega)
          rw [← List.map_append] at h2
          exact h2
        generalize tupI (r ++ s) = RS at *
        generalize tupI r = TR at *
        generalize tupI s = TS at *
        simp [e1_beside, ad]⟩
      exact this
    have z : ∀ κ, szF ((S.map fun s => r ++ s).map tupI) κ = .ok _ κ := fun κ => szF_ok (szL _ (by rw [List.length_map, List.length_map]; omega))
    have la : lstAt (μ ++ [some (.lst (acc.map tupI))]) (.c μ.length) = some (μ.length, acc.map tupI) := lstAt_cell at_snoc
    have ex : gExt (.c μ.length) [.t (.lst ((S.map fun s => r ++ s).map tupI))] (μ ++ [some (.lst (acc.map tupI))]) = .ok (.t .non) (μ ++ [some (.lst ((acc ++ S.map fun s => r ++ s).map tupI))]) := by
      rw [ext_snocR (by rw [List.length_map, List.length_map, List.length_map]; omega), ← List.map_append]
    obtain ⟨y4, ih⟩ := beside_loop (s0 := s0) (s1 := s1) hS rs (acc ++ S.map fun s => r ++ s) (some (.t (tupI r))) (fun q hq => hr q (List.mem_cons_of_mem _ hq)) (by rw [List.length_append, List.length_map]; omega)
    refine ⟨y4, ?_⟩
    have bd : f1_beside [s0, s1, some (.t (relV v S)), some (.c μ.length), some (.t (tupI r)), none] (μ ++ [some (.lst (acc.map tupI))]) = .nx [s0, s1, some (.t (relV v S)), some (.c μ.length), some (.t (tupI r)), none] (μ ++ [some (.lst ((acc ++ S.map fun s => r ++ s).map tupI))]) := by
      generalize μ ++ [some (Cell.lst ((acc ++ S.map fun s => r ++ s).map tupI))] = S2 at *
      generalize μ ++ [some (Cell.lst (acc.map tupI))] = S1 at *
      generalize (S.map fun s => r ++ s).map tupI = RS at *
      generalize S.map tupI = ST at *
      generalize tupI r = TR at *
      generalize relV v S = V2 at *
      simp [f1_beside, a21, gS, wipeM, lc, z, eExt, eMutG_eq, la, ex]
    rw [List.map_cons, forL_nx (by simp) bd, ih, List.append_assoc]
    rfl
theorem beside_ok (hR : Rl n w 25 R) (hS : Rl n v 25 S) (hw : w + v ≤ 12) (hl : R.length * S.length ≤ 400) : fn_beside [.t (.int (n : Int)), .t (relV w R), .t (relV v S)] μ = .ok (relG (w + v) μ.length) (μ ++ [some (.lst ((besL R S).map tupI))]) := by
  have c1 := chkrel_ok (μ := μ) hR (by omega)
  have c2 := chkrel_ok (μ := μ) hS (by omega)
  have a10 : atV (relV w R) (.int 0) = some (.int (w : Int)) := rfl
  have a11 : atV (relV w R) (.int 1) = some (.lst (R.map tupI)) := rfl
  have a20 : atV (relV v S) (.int 0) = some (.int (v : Int)) := rfl
  have a21 : atV (relV v S) (.int 1) = some (.lst (S.map tupI)) := rfl
  have ad : addV (.int (w : Int)) (.int (v : Int)) = some (.int ((w + v : Nat) : Int)) := by rw [addV_int]; congr 2
  have gt1 : gtV (.int ((w + v : Nat) : Int)) (.int 12) = some (.bl false) := by rw [gtV_int, decide_eq_false (by omega)]
  have lnR : lenV [.lst (R.map tupI)] = some (.int (R.length : Int)) := by rw [lenV_lst, List.length_map]
  have lnS : lenV [.lst (S.map tupI)] = some (.int (S.length : Int)) := by rw [lenV_lst, List.length_map]
  have mu : mulV (.int (R.length : Int)) (.int (S.length : Int)) = some (.int ((R.length * S.length : Nat) : Int)) := by
    have hm := mulV_ok' (i := (R.length : Int)) (j := (S.length : Int)) (by omega) (by have := hR.len; omega)
    rw [hm]
    congr 2
  have gt2 : gtV (.int ((R.length * S.length : Nat) : Int)) (.int 400) = some (.bl false) := by rw [gtV_int, decide_eq_false (by omega)]
  have gR : ∀ κ, gIt (.t (.lst (R.map tupI))) κ = .ok (R.map tupI) κ := fun _ => rfl
  obtain ⟨y4, lp⟩ := beside_loop (μ := μ) (v := v) (S := S) (s0 := some (.t (.int (n : Int)))) (s1 := some (.t (relV w R))) (fun s hs => by have := (hS.ok s hs).1; omega) R [] none (fun r hr => by have := (hR.ok r hr).1; omega) (by simp; omega)
  rw [List.nil_append, List.map_nil] at lp
  have fg := fin_g1 (n := μ.length) (k := μ.length) (d := .int ((w + v : Nat) : Int)) (X := (besL R S).map tupI) (μ := μ ++ [some (.lst ((besL R S).map tupI))]) at_snoc (Nat.le_refl _)
  rw [List.take_left] at fg
  unfold relG
  generalize (besL R S).map tupI = BL at *
  generalize relV w R = V1 at *
  generalize relV v S = V2 at *
  generalize R.map tupI = RT at *
  generalize S.map tupI = ST at *
  generalize ((R.length * S.length : Nat) : Int) = PR at *
  generalize (R.length : Int) = RL at *
  generalize (S.length : Int) = SL at *
  generalize ((w + v : Nat) : Int) = WV at *
  simp [-addV_int, -gtV_int, -lenV_lst, fn_beside, b_beside, fnOf, startM, c1, c2, a10, a11, a20, a21, ad, gt1, lnR, lnS, mu, gt2, gR, lp, tupG_c, endM, fg]
theorem chosen_ok (hR : Rl n w 25 R) (hw : w ≤ 12) (hP : inR w P) (hl : P.length ≤ 12) : fn_chosen [.t (.int (n : Int)), .t (relV w R), .t (lstI P)] μ = .ok (relG P.length μ.length) (μ ++ [some (.lst ((sortT (R.map (pickL P))).map tupI))]) := by
  have c1 := chkrel_ok (μ := μ) hR hw
  have a10 : atV (relV w R) (.int 0) = some (.int (w : Int)) := rfl
  have a11 : atV (relV w R) (.int 1) = some (.lst (R.map tupI)) := rfl
  have ty : isTy "list" (lstI P) = some (.bl true) := rfl
  have ln : lenV [lstI P] = some (.int (P.length : Int)) := by rw [lenV_lst, List.length_map]
  have gt1 : gtV (.int (P.length : Int)) (.int 12) = some (.bl false) := by rw [gtV_int, decide_eq_false (by omega)]
  have lp : ∀ (ps : List Int) (k : Nat) (a b : Option Val), inR w ps → ∃ a' b', forL (.tp [.nm 3, .nm 4]) f1_chosen (enumF k (ps.map .int)) [some (.t (.int (n : Int))), some (.t (relV w R)), some (.t (lstI P)), a, b, none] μ = .nx [some (.t (.int (n : Int))), some (.t (relV w R)), some (.t (lstI P)), a', b', none] μ := by
    intro ps
    induction ps with
    | nil => intro k a b _; exact ⟨a, b, rfl⟩
    | cons x ps ih =>
      intro k a b hp
      have it := is_thing_ok (d := .int x) (n := (w : Int)) (μ := μ) (by simp [tyN])
      have hx := hp x List.mem_cons_self
      rw [show isThingB (w : Int) (.int x) = true from by simp [isThingB, hx.1, hx.2]] at it
      obtain ⟨a', b', e⟩ := ih (k + 1) (some (.t (.int (k : Int)))) (some (.t (.int x))) fun y hy => hp y (List.mem_cons_of_mem _ hy)
      refine ⟨a', b', ?_⟩
      have bd : f1_chosen [some (.t (.int (n : Int))), some (.t (relV w R)), some (.t (lstI P)), some (.t (.int (k : Int))), some (.t (.int x)), none] μ = .nx [some (.t (.int (n : Int))), some (.t (relV w R)), some (.t (lstI P)), some (.t (.int (k : Int))), some (.t (.int x)), none] μ := by
        generalize relV w R = V1 at *
        generalize lstI P = LP at *
        simp [f1_chosen, a10, it]
      rw [List.map_cons, enumF, forL_nx (by simp) bd]
      exact e
  obtain ⟨a', b', e⟩ := lp P 0 none none hP
  have en : gEnum [.t (lstI P)] μ = .ok (enumF 0 (P.map .int)) μ := by rw [← enumP_F]; exact gEnum_lst
  have gR : gIt (.t (.lst (R.map tupI))) μ = .ok (R.map tupI) μ := rfl
  have gP : gIt (.t (lstI P)) μ = .ok (P.map .int) μ := rfl
  have lc : ∀ a b : Option Val, lcL (.nm 5) tYes' e2_chosen (R.map tupI) [some (.t (.int (n : Int))), some (.t (relV w R)), some (.t (lstI P)), a, b, none] μ = .ok ((R.map (pickL P)).map tupI) μ := fun a b => by
    refine rows_lc (T := .nm 5) (elt := e2_chosen) (L := R) (φ := pickL P) fun r hr => ⟨_, asg_nm, ?_⟩
    have rl := (hR.ok r hr).1
    have li : ∀ b : Option Val, lcL (.nm 4) tYes' e1_chosen (P.map .int) [some (.t (.int (n : Int))), some (.t (relV w R)), some (.t (lstI P)), a, b, some (.t (tupI r))] μ = .ok ((pickL P r).map .int) μ := fun b => by
      rw [lcL_map (fun d => match d with | .int x => .int (r.getD x.toNat 0) | _ => .non) fun d hd => ?_, List.map_map]
      · unfold pickL; rw [List.map_map]; rfl
      · obtain ⟨x, hx, rfl⟩ := List.mem_map.mp hd
        have hx := hP x hx
        refine ⟨_, asg_nm, rfl, ?_⟩
        have ax : atV (tupI r) (.int x) = some (.int (r.getD x.toNat 0)) := tb_at hx.1 (by omega)
        show e1_chosen _ μ = .ok (.t (.int (r.getD x.toNat 0))) μ
        generalize r.getD x.toNat 0 = RX at *
        generalize tupI r = TR at *
        generalize relV w R = V1 at *
        generalize lstI P = LP at *
        simp [e1_chosen, ax]
    have z : szF ((pickL P r).map PV.int) μ = .ok _ μ := szF_ok (szL _ (by simp [pickL]; omega))
    have tv : tupleV [.lst ((pickL P r).map .int)] = some (tupI (pickL P r)) := rfl
    generalize tupI (pickL P r) = TP at *
    generalize (pickL P r).map PV.int = PI at *
    generalize P.map PV.int = PL at *
    generalize tupI r = TR at *
    generalize relV w R = V1 at *
    generalize lstI P = LP at *
    simp [e2_chosen, gP, wipeM, li, z, tv]
  have z1 : szF ((R.map (pickL P)).map tupI) μ = .ok _ μ := szF_ok (szL _ (by have := hR.len; rw [List.length_map, List.length_map]; omega))
  have so := sortSet_ok (μ := μ) (pick_ok hP hR.ok) (by have := hR.len; rw [List.length_map]; omega)
  have fg := fin_g1 (n := μ.length) (k := μ.length) (d := .int (P.length : Int)) (X := (sortT (R.map (pickL P))).map tupI) (μ := μ ++ [some (.lst ((sortT (R.map (pickL P))).map tupI))]) at_snoc (Nat.le_refl _)
  rw [List.take_left] at fg
  unfold relG
  generalize (sortT (R.map (pickL P))).map tupI = ST at *
  generalize (R.map (pickL P)).map tupI = RP at *
  generalize enumF 0 (P.map PV.int) = EE at *
  generalize P.map PV.int = PL at *
  generalize R.map tupI = RT at *
  generalize relV w R = V1 at *
  generalize lstI P = LP at *
  generalize (P.length : Int) = PN at *
  simp [-gtV_int, -lenV_lst, fn_chosen, b_chosen, fnOf, startM, c1, ty, ln, gt1, en, e, a11, gR, wipeM, lc, z1, so, tupG_c, endM, fg]
end
section
variable {μ : Store} {σ : Sl} {f : ME} {j k : Nat} {items l : List PV} {d : PV}
/-! lending, what comes back -/
theorem lfrees_ints : ∀ r : List Int, lfrees (r.map .int) = true
  | [] => by simp [lfrees]
  | x :: r => by simp [lfrees, lfree, lfrees_ints r]
theorem lfree_tupI (r : List Int) : lfree (tupI r) = true := by
  show lfree (.tup (r.map .int)) = true
  unfold lfree
  exact lfrees_ints r
theorem lfrees_rows : ∀ R : List (List Int), lfrees (R.map tupI) = true
  | [] => by simp [lfrees]
  | r :: R => by
    rw [List.map_cons]
    unfold lfrees
    rw [lfree_tupI, lfrees_rows R]; rfl
theorem lfStore_app {ν : Store} (h1 : lfStore μ = true) (h2 : lfStore ν = true) : lfStore (μ ++ ν) = true := by
  unfold lfStore at *
  rw [List.all_append, h1, h2]; rfl
theorem lfStore_cons {x : Option Cell} (h1 : (match x with
    | none => true
    | some c => lfCell c) = true) (h2 : lfStore μ = true) : lfStore (x :: μ) = true := by
  unfold lfStore at *
  rw [List.all_cons, h2, Bool.and_true]
  exact h1
theorem lf_kill (h : lfStore μ = true) : lfStore (μ.set k none) = true := by
  unfold lfStore at *
  rw [List.all_eq_true] at h ⊢
  intro x hx
  rcases List.mem_or_eq_of_mem_set hx with hx | rfl
  · exact h x hx
  · rfl
theorem set_back {x : Option Cell} (h : μ[k]? = some x) : (μ.set k none).set k x = μ := by
  rw [List.set_set]
  obtain ⟨hk, e⟩ := List.getElem?_eq_some_iff.mp h
  rw [← e]
  exact List.set_getElem_self hk
end
theorem lf_well (w : W3) : lfCell (.lst [.int w.1, .int w.2.1, .int w.2.2]) = true := by simp [lfCell, lfrees, lfree]

section
variable {n w v p m k : Nat} {P : List Int} {R S : List (List Int)} {μ : Store}
/-! k31: refusals, graph, what is said -/
theorem crossed_no (hR : Rl n w 25 R) (hS : Rl n v 25 S) (hw : w ≤ 12) (hv : v ≤ 12) (ne : w ≠ v) : fn_crossed [.t (.int (n : Int)), .t (relV w R), .t (relV v S)] μ = .ex "NoFit" none μ := by
  have c1 := chkrel_ok (μ := μ) hR hw
  have c2 := chkrel_ok (μ := μ) hS hv
  have a10 : atV (relV w R) (.int 0) = some (.int (w : Int)) := rfl
  have a20 : atV (relV v S) (.int 0) = some (.int (v : Int)) := rfl
  have nv : neV (.int (w : Int)) (.int (v : Int)) = some (.bl true) := by rw [neV_int, decide_eq_false (by omega)]; rfl
  generalize relV w R = V1 at *
  generalize relV v S = V2 at *
  simp [-neV_int, fn_crossed, b_crossed, fnOf, startM, c1, c2, a10, a20, nv, sRaise0, endM]
theorem beside_wide (hR : Rl n w 25 R) (hS : Rl n v 25 S) (hw : w ≤ 12) (hv : v ≤ 12) (ne : 12 < w + v) : fn_beside [.t (.int (n : Int)), .t (relV w R), .t (relV v S)] μ = .ex "TooMany" (some ("many", .int ((w + v : Nat) : Int))) μ := by
  have c1 := chkrel_ok (μ := μ) hR hw
  have c2 := chkrel_ok (μ := μ) hS hv
  have a10 : atV (relV w R) (.int 0) = some (.int (w : Int)) := rfl
  have a20 : atV (relV v S) (.int 0) = some (.int (v : Int)) := rfl
  have ad : addV (.int (w : Int)) (.int (v : Int)) = some (.int ((w + v : Nat) : Int)) := by rw [addV_int]; congr 2
  have gt1 : gtV (.int ((w + v : Nat) : Int)) (.int 12) = some (.bl true) := by rw [gtV_int, decide_eq_true (by omega)]
  generalize relV w R = V1 at *
  generalize relV v S = V2 at *
  generalize ((w + v : Nat) : Int) = WV at *
  simp [-addV_int, -gtV_int, fn_beside, b_beside, fnOf, startM, c1, c2, a10, a20, ad, gt1, sRaise, endM]
theorem beside_many (hR : Rl n w 25 R) (hS : Rl n v 25 S) (hw : w + v ≤ 12) (hl : 400 < R.length * S.length) : fn_beside [.t (.int (n : Int)), .t (relV w R), .t (relV v S)] μ = .ex "TooMany" (some ("many", .int ((R.length * S.length : Nat) : Int))) μ := by
  have c1 := chkrel_ok (μ := μ) hR (by omega)
  have c2 := chkrel_ok (μ := μ) hS (by omega)
  have a10 : atV (relV w R) (.int 0) = some (.int (w : Int)) := rfl
  have a11 : atV (relV w R) (.int 1) = some (.lst (R.map tupI)) := rfl
  have a20 : atV (relV v S) (.int 0) = some (.int (v : Int)) := rfl
  have a21 : atV (relV v S) (.int 1) = some (.lst (S.map tupI)) := rfl
  have ad : addV (.int (w : Int)) (.int (v : Int)) = some (.int ((w + v : Nat) : Int)) := by rw [addV_int]; congr 2
  have gt1 : gtV (.int ((w + v : Nat) : Int)) (.int 12) = some (.bl false) := by rw [gtV_int, decide_eq_false (by omega)]
  have lnR : lenV [.lst (R.map tupI)] = some (.int (R.length : Int)) := by rw [lenV_lst, List.length_map]
  have lnS : lenV [.lst (S.map tupI)] = some (.int (S.length : Int)) := by rw [lenV_lst, List.length_map]
  have mu : mulV (.int (R.length : Int)) (.int (S.length : Int)) = some (.int ((R.length * S.length : Nat) : Int)) := by
    have hm := mulV_ok' (i := (R.length : Int)) (j := (S.length : Int)) (by omega) (by have := hR.len; omega)
    rw [hm]
    congr 2
  have gt2 : gtV (.int ((R.length * S.length : Nat) : Int)) (.int 400) = some (.bl true) := by rw [gtV_int, decide_eq_true (by omega)]
  generalize relV w R = V1 at *
  generalize relV v S = V2 at *
  generalize R.map tupI = RT at *
  generalize S.map tupI = ST at *
  generalize ((R.length * S.length : Nat) : Int) = PR at *
  generalize (R.length : Int) = RL at *
  generalize (S.length : Int) = SL at *
  generalize ((w + v : Nat) : Int) = WV at *
  simp [-addV_int, -gtV_int, -lenV_lst, fn_beside, b_beside, fnOf, startM, c1, c2, a10, a11, a20, a21, ad, gt1, lnR, lnS, mu, gt2, sRaise, endM]
/-! what is said -/
theorem fin_g2 {n k : Nat} {a d : PV} {X : List PV} {μ : Store} (h : μ[k]? = some (some (.lst X))) (hk : n ≤ k) : fin n (.g .two [.t a, .t d, .c k]) μ = .ok (.g .two [.t a, .t d, .c n]) (μ.take n ++ [some (.lst X)]) := by
  have h1 : ¬ k < n := by omega
  simp [fin, Fl.below, h1, h, noOb, Fl.only, Fl.ren]
/-- told, a relation whose list is a thing that changes -/
abbrev saidG (w k : Nat) : PM.Val := PM.Val.g .two [.t (.str "told"), .t (.int (w : Int)), .c k]
theorem said_G {th : ME} {fs : List (Option Fl)} {μ : Store} {w : Nat} {X : List PV} (h : th (capM fs) μ = .ok (relG w μ.length) (μ ++ [some (.lst X)])) : ∀ L, fl__law_said L th [.lam L fs] μ = .ok (saidG w μ.length) (μ ++ [some (.lst X)]) := fun L => by
  have g2 : ∀ ν, gTup2 [.t (.str "told"), relG w μ.length] ν = .ok (saidG w μ.length) ν := fun ν => rfl
  have fg := fin_g2 (n := μ.length) (k := μ.length) (a := .str "told") (d := .int (w : Int)) (X := X) (μ := μ ++ [some (.lst X)]) at_snoc (Nat.le_refl _)
  rw [List.take_left] at fg
  unfold relG saidG at *
  simp [fl__law_said, b__law_said, fnOf, startM, sTry, wipeX, eAct_eq, h, g2, endM, fg]
theorem said_many {th : ME} {fs : List (Option Fl)} {μ : Store} {z : PV} (h : th (capM fs) μ = .ex "TooMany" (some ("many", z)) μ) : ∀ L, fl__law_said L th [.lam L fs] μ = .ok (.t (.tup [.str "many", z])) μ := fun L => by
  have gt : PM.gTup [.t (.str "many"), .t z] μ = .ok (.t (.tup [.str "many", z])) μ := gTup_ok rfl (szL _ (by simp))
  simp [-gTup_2, fl__law_said, b__law_said, fnOf, startM, sTry, wipeX, eAct_eq, h, handle, gXf, gIsX, RS.unset, plainO, List.lookup, gt]
theorem said_fit {th : ME} {fs : List (Option Fl)} {μ : Store} (h : th (capM fs) μ = .ex "NoFit" none μ) : ∀ L, fl__law_said L th [.lam L fs] μ = .ok (.t (.tup [.str "fit", .int 0])) μ := fun L => by
  have gt : PM.gTup [.t (.str "fit"), .t (.int 0)] μ = .ok (.t (.tup [.str "fit", .int 0])) μ := gTup_ok rfl (szL _ (by simp))
  have a1 : atV (.lst [.str "other", .str "fit"]) (.int 1) = some (.str "fit") := rfl
  have z : szF [.str "other", .str "fit"] μ = .ok [.str "other", .str "fit"] μ := szF_ok (szL _ (by simp))
  have ne1 : (("NoFit" : Str) = "TooMany") = False := eq_false (by decide +kernel)
  have ne2 : (("NoFit" : Str) = "NoLot") = False := eq_false (by decide +kernel)
  have ne3 : (("NoFit" : Str) = "NoRow") = False := eq_false (by decide +kernel)
  simp [-gTup_2, -atV_lst, fl__law_said, b__law_said, fnOf, startM, sTry, wipeX, eAct_eq, h, handle, gXf, gIsX, RS.unset, plainO, List.lookup, a1, z, gt, ne1, ne2, ne3]
theorem lam_G {th : ME} {σ : Sl} {μ : Store} {w : Nat} {X : List PV} (h : th (capM (capS σ)) μ = .ok (relG w μ.length) (μ ++ [some (.lst X)])) : eLam fl__law_said th σ μ = .ok (saidG w μ.length) (μ ++ [some (.lst X)]) := eLam_eq (said_G h)
theorem lam_many {th : ME} {σ : Sl} {μ : Store} {z : PV} (h : th (capM (capS σ)) μ = .ex "TooMany" (some ("many", z)) μ) : eLam fl__law_said th σ μ = .ok (.t (.tup [.str "many", z])) μ := eLam_eq (said_many h)
theorem lam_fit {th : ME} {σ : Sl} {μ : Store} (h : th (capM (capS σ)) μ = .ex "NoFit" none μ) : eLam fl__law_said th σ μ = .ok (.t (.tup [.str "fit", .int 0])) μ := eLam_eq (said_fit h)
end
section
variable {n w v p m k : Nat} {P : List Int} {R S : List (List Int)} {μ : Store}
/-! k31: plain, told right */ -/
theorem plain_loop {s0 : Option Val} : ∀ (rs : List (List Int)) (acc : List Int) (x2 : Option Val), acc.length + (rs.flatMap id).length ≤ 1000000 → ∃ y2, forL (.nm 2) f1__law_plain (rs.map tupI) [s0, some (.c μ.length), x2, none] (μ ++ [some (.lst (acc.map .int))]) = .nx [s0, some (.c μ.length), y2, none] (μ ++ [some (.lst ((acc ++ rs.flatMap id).map .int))])
  | [], acc, x2, _ => ⟨x2, by simp [forL]⟩
  | r :: rs, acc, x2, h => by
    rw [List.flatMap_cons, List.length_append] at h
    have h : acc.length + (r.length + (rs.flatMap id).length) ≤ 1000000 := h
    have ty : isTy "tuple" (tupI r) = some (.bl true) := rfl
    have ls : ∀ κ, pfN listF [.t (tupI r)] κ = .ok (r.map .int) κ := fun κ => by simp [pfN, views, view, listF]
    have z : ∀ κ, szF (r.map PV.int) κ = .ok (r.map .int) κ := fun κ => szF_ok (szL _ (by rw [List.length_map]; omega))
    have ex : gExt (.c μ.length) [.t (.lst (r.map .int))] (μ ++ [some (.lst (acc.map .int))]) = .ok (.t .non) (μ ++ [some (.lst ((acc ++ r).map .int))]) := by
      rw [ext_snocR (by rw [List.length_map, List.length_map]; omega), ← List.map_append]
    have la : lstAt (μ ++ [some (.lst (acc.map .int))]) (.c μ.length) = some (μ.length, acc.map .int) := lstAt_cell at_snoc
    obtain ⟨y2, ih⟩ := plain_loop (s0 := s0) rs (acc ++ r) (some (.t (tupI r))) (by rw [List.length_append]; omega)
    refine ⟨y2, ?_⟩
    have bd : f1__law_plain [s0, some (.c μ.length), some (.t (tupI r)), none] (μ ++ [some (.lst (acc.map .int))]) = .nx [s0, some (.c μ.length), some (.t (tupI r)), none] (μ ++ [some (.lst ((acc ++ r).map .int))]) := by
      generalize μ ++ [some (Cell.lst ((acc ++ r).map PV.int))] = S2 at *
      generalize μ ++ [some (Cell.lst (acc.map PV.int))] = S1 at *
      generalize r.map PV.int = RI at *
      generalize tupI r = TR at *
      simp [f1__law_plain, ty, ls, z, eExt, eMutG_eq, la, ex]
    rw [List.map_cons, forL_nx (by simp) bd, ih, List.append_assoc, List.flatMap_cons]
    rfl
theorem flat_le {M : Nat} : ∀ {rs : List (List Int)}, (∀ r ∈ rs, r.length ≤ 12) → rs.length ≤ M → (rs.flatMap id).length ≤ 12 * M := by
  intro rs
  induction rs generalizing M with
  | nil => intro _ _; simp
  | cons r rs ih =>
    intro h hl
    rw [List.length_cons] at hl
    have h1 := h r List.mem_cons_self
    have h2 := ih (M := M - 1) (fun q hq => h q (List.mem_cons_of_mem _ hq)) (by omega)
    rw [List.flatMap_cons, List.length_append]
    show r.length + _ ≤ _
    omega
theorem plain_ok (hR : Rl n w 400 R) (hw : w ≤ 12) : fn__law_plain [.t (relV w R)] μ = .ok (.t (.bl true)) μ := by
  have ty : isTy "tuple" (relV w R) = some (.bl true) := rfl
  have l2 : lenV [relV w R] = some (.int 2) := rfl
  have a0 : atV (relV w R) (.int 0) = some (.int (w : Int)) := rfl
  have a1 : atV (relV w R) (.int 1) = some (.lst (R.map tupI)) := rfl
  have tl : isTy "list" (.lst (R.map tupI)) = some (.bl true) := rfl
  have nv : neV (.int 2) (.int 2) = some (.bl false) := neV_self (SD_int (n := 0))
  have fl := flat_le (M := 400) (rs := R) (fun r hr => by rw [(hR.ok r hr).1]; exact hw) hR.len
  obtain ⟨y2, lp⟩ := plain_loop (μ := μ) (s0 := some (.t (relV w R))) R [(w : Int)] none (by rw [List.length_singleton]; omega)
  have gR : ∀ κ, gIt (.t (.lst (R.map tupI))) κ = .ok (R.map tupI) κ := fun _ => rfl
  have lp : forL (.nm 2) f1__law_plain (R.map tupI) [some (.t (relV w R)), some (.c μ.length), none, none] (μ ++ [some (.lst [.int (w : Int)])]) = _ := lp
  generalize hF : [(w : Int)] ++ R.flatMap id = F at *
  have fz : frz1 (μ ++ [some (.lst (F.map .int))]) (.c μ.length) = some (.t (.lst (F.map .int)), μ ++ [none]) := by rw [frz_lst at_snoc, set_snoc]
  have gF : ∀ κ, gIt (.t (.lst (F.map .int))) κ = .ok (F.map .int) κ := fun _ => rfl
  have lc : ∀ κ, lcL (.nm 3) tYes' e1__law_plain (F.map .int) [some (.t (relV w R)), some (.t (.lst (F.map .int))), y2, none] κ = .ok (F.map fun _ => .bl true) κ := fun κ => by
    rw [lcL_map (fun _ => .bl true) fun d hd => ?_, List.map_map]
    · rfl
    · obtain ⟨x, _, rfl⟩ := List.mem_map.mp hd
      refine ⟨_, asg_nm, rfl, ?_⟩
      have t1 : isTy "int" (.int x) = some (.bl true) := rfl
      have t2 : isTy "bool" (.int x) = some (.bl false) := rfl
      show e1__law_plain [some (.t (relV w R)), some (.t (.lst (F.map .int))), y2, some (.t (.int x))] κ = .ok (.t (.bl true)) κ
      generalize relV w R = V1 at *
      generalize PV.lst (F.map .int) = LF at *
      simp [e1__law_plain, t1, t2]
  have z : ∀ κ, szF (F.map fun _ => PV.bl true) κ = .ok (F.map fun _ => .bl true) κ := fun κ => szF_ok (szL _ (by rw [List.length_map, ← hF, List.length_append, List.length_singleton]; omega))
  have av : allV [.lst (F.map fun _ => PV.bl true)] = some (.bl true) := by
    have := allV_map F fun _ => true
    rw [this, show F.all (fun _ => true) = true from by simp]
  have tk : (μ ++ [none]).take μ.length = μ := List.take_left
  have g1 : PM.gLst [.t (.int (w : Int))] μ = .ok [.int (w : Int)] μ := gLst_ok rfl (szL _ (by simp))
  generalize (F.map fun _ => PV.bl true) = BT at *
  generalize F.map PV.int = FI at *
  generalize relV w R = V1 at *
  generalize R.map tupI = RT at *
  simp [-neV_int, fn__law_plain, b__law_plain, fnOf, startM, ty, l2, nv, a0, a1, tl, g1, gR, lp, sFrz, fz, gF, wipeM, lc, z, av, endM, fin, tk]
/-- what was told is right, and the asker's own -/
theorem told_right {rows : List (List Int)} (hR : Rl n w 400 R) (hw : w ≤ 12) (hr : okRows n w rows) (hl : rows.length ≤ 1000) (e : sortT rows = R) (hk : μ[k]? = some (some (.lst (R.map tupI)))) (hf : lfStore μ = true) (hlt : k < μ.length) :
    fn__law_told_right [.t (.int (n : Int)), saidG w k, .t (.int (w : Int)), .t (.lst (rows.map tupI))] μ = .ok (.t (.bl true)) (μ.set k (some (.lst []))) := by
  have g0 : ∀ κ, gAt2 (saidG w k) (.t (.int 0)) κ = .ok (.t (.str "told")) κ := fun _ => rfl
  have g1 : ∀ κ, gAt2 (saidG w k) (.t (.int 1)) κ = .ok (relG w k) κ := fun _ => rfl
  have g2 : ∀ κ, gAtG (relG w k) (.t (.int 1)) κ = .ok (.c k) κ := fun _ => rfl
  have nt : neV (.str "told") (.str "told") = some (.bl false) := rfl
  have kill := lf_kill (k := k) hf
  have back := set_back hk
  have lent : ∀ {f : ME} {d : PV} (s0 s2 s3 : Option Val), f [s0, some (.t (.tup [.str "told", relV w R])), s2, s3] (μ.set k none) = .ok (.t d) (μ.set k none) → lfree d = true → eLend 1 f [s0, some (saidG w k), s2, s3] μ = .ok (.t d) μ := fun {f d} s0 s2 s3 h1 h2 => by
    rw [eLend_2 (k := k) (items := R.map tupI) (l := [.str "told", .int (w : Int), .lst (R.map tupI)]) (fs := [.t (.str "told"), .t (.int (w : Int)), .c k]) rfl rfl hk (by simp [fillC])]
    show backE k (R.map tupI) (f [s0, some (.t (.tup [.str "told", relV w R])), s2, s3] (μ.set k none)) = _
    rw [h1, backE_ok (by exact h2) kill, back]
  have a1 : atV (.tup [.str "told", relV w R]) (.int 1) = some (relV w R) := rfl
  have pl := plain_ok (μ := μ.set k none) hR hw
  have ck := chkrel_ok (μ := μ.set k none) hR hw
  have so := sortSet_ok (μ := μ.set k none) hr (by omega)
  rw [e] at so
  have zR : szF (R.map tupI) (μ.set k none) = .ok (R.map tupI) (μ.set k none) := szF_ok (szL _ (by have := hR.len; rw [List.length_map]; omega))
  have gt : PM.gTup [.t (.int (w : Int)), .t (.lst (R.map tupI))] (μ.set k none) = .ok (.t (relV w R)) (μ.set k none) := gTup_2
  have ne : neV (relV w R) (relV w R) = some (.bl false) := by
    refine neV_self (k := 3) (SD_tup.mpr ⟨by simp, fun x hx => ?_⟩)
    simp only [List.mem_cons, List.not_mem_nil, or_false] at hx
    rcases hx with rfl | rfl
    · exact SD_int
    · refine SD_lst.mpr ⟨by have := hR.len; rw [List.length_map]; omega, fun y hy => ?_⟩
      obtain ⟨r, hr, rfl⟩ := List.mem_map.mp hy
      exact SD_tupI (by have := (hR.ok r hr).1; omega)
  have i1 : isntV (.non) (.non) = some (.bl false) := rfl
  have la : lstAt μ (.c k) = some (k, R.map tupI) := lstAt_cell hk
  have cl : gMut mClear (.c k) [] μ = .ok (.t .non) (μ.set k (some (.lst []))) := by
    simp only [gMut, la, asT, mClear]
  have tk : (μ.set k (some (Cell.lst []))).take μ.length = μ.set k (some (.lst [])) := List.take_of_length_le (by rw [List.length_set]; omega)
  have so2 : sortSetG [.lst (rows.map tupI)] = some (R.map tupI) := by
    simp only [pfN, views, view] at so
    cases h : sortSetG [.lst (rows.map tupI)] with
    | none => rw [h] at so; cases so
    | some x => rw [h] at so; cases so; rfl
  clear so
  generalize hV : relV w R = V1 at *
  generalize rows.map tupI = ROWS at *
  have L1 : eLend 1 (eN (gCall 1 fn__law_plain) (aCons (e2 (p2 atV) (eV 1) (eC (.int 1))) aNil)) [some (.t (.int (n : Int))), some (saidG w k), some (.t (.int (w : Int))), some (.t (.lst ROWS))] μ = .ok (.t (.bl true)) μ := lent _ _ _ (by
    generalize μ.set k none = ν at *
    simp [a1, pl]) (by simp [lfree])
  have L2 : eLend 1 (eN (gCall 2 fn_check_relation) (aCons (eV 0) (aCons (e2 (p2 atV) (eV 1) (eC (.int 1))) aNil))) [some (.t (.int (n : Int))), some (saidG w k), some (.t (.int (w : Int))), some (.t (.lst ROWS))] μ = .ok (.t .non) μ := lent _ _ _ (by
    generalize μ.set k none = ν at *
    simp [a1, ck]) (by simp [lfree])
  have L3 : tLend 1 (tVal (e2 (p2 neV) (e2 (p2 atV) (eV 1) (eC (.int 1))) (eN PM.gTup (aCons (eV 2) (aCons (eOfF (eN (pfN sortSetG) (aCons (eV 3) aNil))) aNil))))) [some (.t (.int (n : Int))), some (saidG w k), some (.t (.int (w : Int))), some (.t (.lst ROWS))] μ = .ok false μ := by
    unfold tLend
    have hl : lendV μ (saidG w k) = some (.tup [.str "told", V1], k, R.map tupI) := by
      rw [← hV]
      simp [lendV, PM.cellOf, hk, fillC, relV]
    show (match lendV μ (saidG w k) with
      | some (d, k, items) => backT k items (_)
      | none => .stuck) = _
    rw [hl]
    have body : tVal (e2 (p2 neV) (e2 (p2 atV) (eV 1) (eC (.int 1))) (eN PM.gTup (aCons (eV 2) (aCons (eOfF (eN (pfN sortSetG) (aCons (eV 3) aNil))) aNil)))) [some (.t (.int (n : Int))), some (.t (.tup [.str "told", V1])), some (.t (.int (w : Int))), some (.t (.lst ROWS))] (μ.set k none) = .ok false (μ.set k none) := by
      generalize μ.set k none = ν at *
      generalize R.map tupI = RT at *
      simp [-gTup_2, a1, so2, zR, gt, ne]
    show backT k (R.map tupI) (tVal _ [some (.t (.int (n : Int))), some (.t (.tup [.str "told", V1])), some (.t (.int (w : Int))), some (.t (.lst ROWS))] (μ.set k none)) = _
    rw [body]
    simp only [backT, kill, if_true, back]
  have M1 : gMut mClear (.c k) [] μ = .ok (.t .non) (μ.set k (some (.lst []))) := cl
  clear lent a1 pl ck so2 zR gt ne kill back
  generalize hS : saidG w k = SG at *
  generalize relG w k = RG at *
  generalize μ.set k (some (Cell.lst [])) = μ2 at *
  generalize hlen : μ.length = len at *
  simp [fn__law_told_right, b__law_told_right, fnOf, startM, g0, g1, g2, nt, L1, L2, L3, i1, eMut, eMutG_eq, la, M1, endM, fin, tk, hlen]
end
/-! k31: relations drawn; crossed and beside are right -/
theorem sortT_id {L : List (List Int)} (hp : L.Pairwise (· < ·)) : sortT L = L := pwT_uni sortT_pw hp fun k => sortT_mem
theorem rel31 {n wd m j : Nat} {w : W3} {t : Store} (hw : Bw (j + 200) w) (hn1 : 1 ≤ n) (hn : n ≤ 9) (hd : wd ≤ 7) (hm : m ≤ 25) :
    ∃ (R : List (List Int)) (w' : W3), fn__law_relation [.c 0, .t (.int (n : Int)), .t (.int (wd : Int)), .t (.int (m : Int))] (wlw w :: t) = .ok (.t (relV wd R)) (wlw w' :: t) ∧ Rl n wd m R ∧ Bw j w' := by
  have ln : (rgI 0 m).length = m := by rw [rgI_nat]; simp
  have hmul : m * wd ≤ 175 := Nat.mul_le_mul hm hd
  have r1 : ∀ μ, gRange1 [.t (.int (wd : Int))] μ = .ok (rgI 0 wd) μ := fun μ => range1_ok (by omega)
  have r2 : ∀ μ, gRange1 [.t (.int (m : Int))] μ = .ok (rgI 0 m) μ := fun μ => range1_ok (by omega)
  obtain ⟨lc, b3⟩ := lcL_WB (T := .nm 5) (test := tYes') (elt := e2__law_relation) (t := t) (σ := [some (.c 0), some (.t (.int (n : Int))), some (.t (.int (wd : Int))), some (.t (.int (m : Int))), none, none, none]) (items := rgI 0 m) (w := w) (k := j) (fun _ w => (tupI (drY n wd w).1, (drY n wd w).2)) wd (fun d hd w k hw => ⟨⟨_, asg_nm, rfl, by
      have lc := fun σ (h0 : σ[0]? = some (some (PM.Val.c 0))) (h1 : σ[1]? = some (some (PM.Val.t (.int (n : Int))))) (h6 : 6 < σ.length) => lc_draws3 (T := .nm 6) (test := tYes') (elt := e1__law_relation) (t := t) (m := n) (k := wd) (j := k) (σ := σ) (w := w) hw (fun d hd w i hw => ⟨_, asg_nm, rfl, by
        have e := draw3_dr (t := t) (m := n) hw (by omega) (by omega)
        simp [e1__law_relation, h0, h1, h6, e]⟩)
      have z := szF_ok (ds := (drY n wd w).1.map PV.int) (μ := wlw (drY n wd w).2 :: t) (szL _ (by rw [List.length_map, drY_len]; omega))
      have tp : tupleV [.lst ((drY n wd w).1.map PV.int)] = some (tupI (drY n wd w).1) := rfl
      generalize tupI (drY n wd w).1 = TR at *
      generalize (drY n wd w).1.map PV.int = RR at *
      generalize (drY n wd w).2 = w2 at *
      simp [-tupleV_lst, e2__law_relation, r1, wipeM, lc, z, tp]⟩, hw.drY⟩) (hw.le (by rw [ln]; omega))
  rw [mapW_post (fun (_ : PV) w => drY n wd w) tupI] at lc b3
  have hR : okRows n wd (mapW (fun (_ : PV) w => drY n wd w) (rgI 0 m) w).1 := mapW_mem (f := fun (_ : PV) w => drY n wd w) (P := fun r => r.length = wd ∧ inR n r) fun _ _ w => ⟨drY_len, drY_mem (by omega)⟩
  have hl : (mapW (fun (_ : PV) w => drY n wd w) (rgI 0 m) w).1.length = m := by rw [mapW_len, ln]
  generalize mapW (fun (_ : PV) w => drY n wd w) (rgI 0 m) w = D at *
  obtain ⟨R, w3⟩ := D
  simp only at lc b3 hR hl
  refine ⟨sortT R, w3, ?_, sortT_rl hR (by omega), b3⟩
  have z := szF_ok (ds := R.map tupI) (μ := wlw w3 :: t) (szL _ (by rw [List.length_map]; omega))
  have so := sortSet_ok (μ := wlw w3 :: t) hR (by omega)
  have tp : PM.gTup [.t (.int (wd : Int)), .t (.lst ((sortT R).map tupI))] (wlw w3 :: t) = .ok (.t (relV wd (sortT R))) (wlw w3 :: t) := gTup_ok rfl (szL _ (by simp))
  generalize relV wd (sortT R) = RV at *
  generalize (sortT R).map tupI = S at *
  generalize R.map tupI = RR at *
  have so : sortSetG [.lst RR] = some S := by
    simp only [pfN, views, view] at so
    cases h : sortSetG [.lst RR] with
    | none => rw [h] at so; cases so
    | some x => rw [h] at so; cases so; rfl
  simp [-gTup_2, fn__law_relation, b__law_relation, fnOf, startM, r2, wipeM, lc, z, so, tp]

section
variable {n w v p m k : Nat} {P : List Int} {R S : List (List Int)} {μ : Store}
theorem gCall_4tgtt {fn : Fn} {d e f : PV} {w k : Nat} : gCall 4 fn [.t d, saidG w k, .t e, .t f] μ = fn [.t d, saidG w k, .t e, .t f] μ := rfl
theorem set_snoc_ {x y : Option Cell} : (μ ++ [x]).set μ.length y = μ ++ [y] := by simp
theorem cross_right (hR : Rl n w 25 R) (hS : Rl n v 25 S) (hw : w ≤ 12) (hv : v ≤ 12) (hf : lfStore μ = true) : fn__law_crossed_right [.t (.int (n : Int)), .t (relV w R), .t (relV v S)] μ = .ok (.t (.bl true)) μ := by
  have a10 : atV (relV w R) (.int 0) = some (.int (w : Int)) := rfl
  have a11 : atV (relV w R) (.int 1) = some (.lst (R.map tupI)) := rfl
  have a20 : atV (relV v S) (.int 0) = some (.int (v : Int)) := rfl
  have a21 : atV (relV v S) (.int 1) = some (.lst (S.map tupI)) := rfl
  by_cases e : w = v
  · subst e
    have nv : neV (.int (w : Int)) (.int (w : Int)) = some (.bl false) := by rw [neV_int, decide_eq_true rfl]; rfl
    have lam := lam_G (th := l1__law_crossed_right) (σ := [some (.t (.int (n : Int))), some (.t (relV w R)), some (.t (relV w S)), none, none]) (μ := μ) (w := w) (X := (R.filter fun r => decide (r ∈ S)).map tupI) (by
      have c := crossed_ok (μ := μ) hR hS hw
      generalize relV w R = V1 at *
      generalize relV w S = V2 at *
      generalize relG w μ.length = G at *
      simpa [l1__law_crossed_right, capM, capS, capV, Fl.v] using c)
    have gR : ∀ κ, gIt (.t (.lst (R.map tupI))) κ = .ok (R.map tupI) κ := fun _ => rfl
    have lc : ∀ (κ : Store) (rs : List (List Int)), (∀ r ∈ rs, r.length ≤ 1000) → lcL (.nm 4) t1__law_crossed_right e1__law_crossed_right (rs.map tupI) [some (.t (.int (n : Int))), some (.t (relV w R)), some (.t (relV w S)), some (saidG w μ.length), none] κ = .ok ((rs.filter fun r => decide (r ∈ S)).map tupI) κ := fun κ rs => by
      induction rs with
      | nil => exact fun _ => rfl
      | cons r rs ih =>
        intro hrs
        have ih := ih fun q hq => hrs q (List.mem_cons_of_mem _ hq)
        have i : inPV (tupI r) (.lst (S.map tupI)) = some (.bl (decide (r ∈ S))) := in_rows (w := w) (by omega) (fun r hr => (hS.ok r hr).1) (by have := hS.len; omega) (hrs r List.mem_cons_self)
        have tt : t1__law_crossed_right [some (.t (.int (n : Int))), some (.t (relV w R)), some (.t (relV w S)), some (saidG w μ.length), some (.t (tupI r))] κ = .ok (decide (r ∈ S)) κ := by
          generalize tupI r = TR at *
          generalize relV w R = V1 at *
          generalize relV w S = V2 at *
          generalize S.map tupI = ST at *
          generalize saidG w μ.length = SG at *
          simp [t1__law_crossed_right, a21, i]
        rw [List.map_cons, List.filter_cons]
        by_cases q : r ∈ S
        · rw [decide_eq_true q] at tt ⊢
          rw [if_pos rfl, List.map_cons]
          exact lcL_cons (μ2 := κ) (by simp) tt (by simp [e1__law_crossed_right]) ih
        · rw [decide_eq_false q] at tt ⊢
          rw [if_neg (by simp)]
          exact lcL_skip (by simp) tt ih
    have fl : (R.filter fun r => decide (r ∈ S)).length ≤ 25 := Nat.le_trans (List.length_filter_le _ _) hR.len
    have fr : Rl n w 400 (R.filter fun r => decide (r ∈ S)) := ⟨fun r hr => hR.ok r (List.mem_filter.mp hr).1, hR.pw.filter _, by omega⟩
    have z : ∀ κ, szF ((R.filter fun r => decide (r ∈ S)).map tupI) κ = .ok _ κ := fun κ => szF_ok (szL _ (by rw [List.length_map]; omega))
    have tr := told_right (μ := μ ++ [some (.lst ((R.filter fun r => decide (r ∈ S)).map tupI))]) (k := μ.length) (rows := R.filter fun r => decide (r ∈ S)) fr hw fr.ok (by omega) (sortT_id fr.pw) at_snoc (lfStore_app hf (by simp [lfStore, lfCell, lfrees_rows])) (by simp)
    rw [set_snoc_] at tr
    have lc' := fun κ => lc κ R fun r hr => by rw [(hR.ok r hr).1]; omega
    have tk : (μ ++ [some (Cell.lst [])]).take μ.length = μ := List.take_left
    generalize (R.filter fun r => decide (r ∈ S)).map tupI = FL at *
    generalize relV w R = V1 at *
    generalize relV w S = V2 at *
    generalize R.map tupI = RT at *
    generalize S.map tupI = ST at *
    simp [fn__law_crossed_right, b__law_crossed_right, fnOf, startM, a10, a11, a20, a21, lam, nv, gR, wipeM, lc', z, gCall_4tgtt, tr, endM, fin, tk]
  · have nv : neV (.int (w : Int)) (.int (v : Int)) = some (.bl true) := by rw [neV_int, decide_eq_false (by omega)]; rfl
    have lam := lam_fit (th := l1__law_crossed_right) (σ := [some (.t (.int (n : Int))), some (.t (relV w R)), some (.t (relV v S)), none, none]) (μ := μ) (by
      have c := crossed_no (μ := μ) hR hS hw hv e
      generalize relV w R = V1 at *
      generalize relV v S = V2 at *
      simpa [l1__law_crossed_right, capM, capS, capV, Fl.v] using c)
    have gt : PM.gTup [.t (.str "fit"), .t (.int 0)] μ = .ok (.t (.tup [.str "fit", .int 0])) μ := gTup_ok rfl (szL _ (by simp))
    have ev : PM.eqV (.tup [.str "fit", .int 0]) (.tup [.str "fit", .int 0]) = some (.bl true) := rfl
    generalize relV w R = V1 at *
    generalize relV v S = V2 at *
    generalize PV.tup [.str "fit", .int 0] = F0 at *
    simp [-gTup_2, -neV_int, fn__law_crossed_right, b__law_crossed_right, fnOf, startM, a10, a11, a20, a21, lam, nv, gt, ev]
end
section
variable {n w v p m k : Nat} {P : List Int} {R S : List (List Int)} {μ : Store}
/-! k31: beside is right -/
theorem lbes_loop {s0 s1 s3 : Option Val} {ν : Store} (hS : ∀ s ∈ S, s.length ≤ 100) : ∀ (rs : List (List Int)) (acc : List (List Int)) (x5 : Option Val), (∀ r ∈ rs, r.length ≤ 100) → acc.length + rs.length * S.length ≤ 1000 → ∃ y5, forL (.nm 5) f1__law_beside_right (rs.map tupI) [s0, s1, some (.t (relV v S)), s3, some (.c ν.length), x5, none] (ν ++ [some (.lst (acc.map tupI))]) = .nx [s0, s1, some (.t (relV v S)), s3, some (.c ν.length), y5, none] (ν ++ [some (.lst ((acc ++ besL rs S).map tupI))])
  | [], acc, x5, _, _ => ⟨x5, by simp [forL, besL]⟩
  | r :: rs, acc, x5, hr, h => by
    rw [List.length_cons, Nat.add_mul, Nat.one_mul] at h
    have hrl := hr r List.mem_cons_self
    have a21 : atV (relV v S) (.int 1) = some (.lst (S.map tupI)) := rfl
    have gS : ∀ κ, gIt (.t (.lst (S.map tupI))) κ = .ok (S.map tupI) κ := fun _ => rfl
    have lc : ∀ κ, lcL (.nm 6) tYes' e1__law_beside_right (S.map tupI) [s0, s1, some (.t (relV v S)), s3, some (.c ν.length), some (.t (tupI r)), none] κ = .ok ((S.map fun s => r ++ s).map tupI) κ := fun κ => by
      have := rows_lc (T := .nm 6) (elt := e1__law_beside_right) (L := S) (σ := [s0, s1, some (.t (relV v S)), s3, some (.c ν.length), some (.t (tupI r)), none]) (μ := κ) (φ := fun s => r ++ s) fun s hs => ⟨_, asg_nm, by
        have ad : addV (tupI r) (tupI s) = some (tupI (r ++ s)) := by
          have := hS s hs
          have h2 := addV_tup (a := r.map PV.int) (b := s.map PV.int) (by rw [List.length_map, List.length_map]; omega)
          rw [← List.map_append] at h2
          exact h2
        generalize tupI (r ++ s) = RS at *
        generalize tupI r = TR at *
        generalize tupI s = TS at *
        simp [e1__law_beside_right, ad]⟩
      exact this
    have z : ∀ κ, szF ((S.map fun s => r ++ s).map tupI) κ = .ok _ κ := fun κ => szF_ok (szL _ (by rw [List.length_map, List.length_map]; omega))
    have la : lstAt (ν ++ [some (.lst (acc.map tupI))]) (.c ν.length) = some (ν.length, acc.map tupI) := lstAt_cell at_snoc
    have ex : gExt (.c ν.length) [.t (.lst ((S.map fun s => r ++ s).map tupI))] (ν ++ [some (.lst (acc.map tupI))]) = .ok (.t .non) (ν ++ [some (.lst ((acc ++ S.map fun s => r ++ s).map tupI))]) := by
      rw [ext_snocR (by rw [List.length_map, List.length_map, List.length_map]; omega), ← List.map_append]
    obtain ⟨y5, ih⟩ := lbes_loop (s0 := s0) (s1 := s1) (s3 := s3) (ν := ν) hS rs (acc ++ S.map fun s => r ++ s) (some (.t (tupI r))) (fun q hq => hr q (List.mem_cons_of_mem _ hq)) (by rw [List.length_append, List.length_map]; omega)
    refine ⟨y5, ?_⟩
    have bd : f1__law_beside_right [s0, s1, some (.t (relV v S)), s3, some (.c ν.length), some (.t (tupI r)), none] (ν ++ [some (.lst (acc.map tupI))]) = .nx [s0, s1, some (.t (relV v S)), s3, some (.c ν.length), some (.t (tupI r)), none] (ν ++ [some (.lst ((acc ++ S.map fun s => r ++ s).map tupI))]) := by
      generalize ν ++ [some (Cell.lst ((acc ++ S.map fun s => r ++ s).map tupI))] = S2 at *
      generalize ν ++ [some (Cell.lst (acc.map tupI))] = S1 at *
      generalize (S.map fun s => r ++ s).map tupI = RS at *
      generalize S.map tupI = ST at *
      generalize tupI r = TR at *
      generalize relV v S = V2 at *
      simp [f1__law_beside_right, a21, gS, wipeM, lc, z, eExt, eMutG_eq, la, ex]
    rw [List.map_cons, forL_nx (by simp) bd, ih, List.append_assoc]
    rfl
theorem bes_right (hR : Rl n w 25 R) (hS : Rl n v 25 S) (hw : w ≤ 12) (hv : v ≤ 12) (hf : lfStore μ = true) : fn__law_beside_right [.t (.int (n : Int)), .t (relV w R), .t (relV v S)] μ = .ok (.t (.bl true)) μ := by
  have a10 : atV (relV w R) (.int 0) = some (.int (w : Int)) := rfl
  have a11 : atV (relV w R) (.int 1) = some (.lst (R.map tupI)) := rfl
  have a20 : atV (relV v S) (.int 0) = some (.int (v : Int)) := rfl
  have a21 : atV (relV v S) (.int 1) = some (.lst (S.map tupI)) := rfl
  have ad : addV (.int (w : Int)) (.int (v : Int)) = some (.int ((w + v : Nat) : Int)) := by rw [addV_int]; congr 2
  have sv : ∀ z : PV, PM.eqV (.tup [.str "many", z]) (.tup [.str "many", z]) = PM.eqV (.tup [.str "many", z]) (.tup [.str "many", z]) := fun _ => rfl
  have ev : ∀ x : Int, PM.eqV (.tup [.str "many", .int x]) (.tup [.str "many", .int x]) = some (.bl true) := fun x => by
    refine eqV_self (k := 2) (SD_tup.mpr ⟨by simp, fun y hy => ?_⟩)
    simp only [List.mem_cons, List.not_mem_nil, or_false] at hy
    rcases hy with rfl | rfl
    · exact SD_str
    · exact SD_int
  have gtm : ∀ (z : PV) κ, PM.gTup [.t (.str "many"), .t z] κ = .ok (.t (.tup [.str "many", z])) κ := fun z κ => gTup_ok rfl (szL _ (by simp))
  by_cases c1 : 12 < w + v
  · have gt1 : gtV (.int ((w + v : Nat) : Int)) (.int 12) = some (.bl true) := by rw [gtV_int, decide_eq_true (by omega)]
    have lam := lam_many (th := l1__law_beside_right) (σ := [some (.t (.int (n : Int))), some (.t (relV w R)), some (.t (relV v S)), none, none, none, none]) (μ := μ) (z := .int ((w + v : Nat) : Int)) (by
      have c := beside_wide (μ := μ) hR hS hw hv c1
      generalize relV w R = V1 at *
      generalize relV v S = V2 at *
      simpa [l1__law_beside_right, capM, capS, capV, Fl.v] using c)
    have ev := ev ((w + v : Nat) : Int)
    have gtm := gtm (.int ((w + v : Nat) : Int))
    generalize relV w R = V1 at *
    generalize relV v S = V2 at *
    generalize ((w + v : Nat) : Int) = WV at *
    generalize PV.tup [.str "many", .int WV] = F0 at *
    simp [-gTup_2, -addV_int, -gtV_int, fn__law_beside_right, b__law_beside_right, fnOf, startM, a10, a20, lam, ad, gt1, gtm, ev]
  have gt1 : gtV (.int ((w + v : Nat) : Int)) (.int 12) = some (.bl false) := by rw [gtV_int, decide_eq_false (by omega)]
  have lnR : lenV [.lst (R.map tupI)] = some (.int (R.length : Int)) := by rw [lenV_lst, List.length_map]
  have lnS : lenV [.lst (S.map tupI)] = some (.int (S.length : Int)) := by rw [lenV_lst, List.length_map]
  have mu : mulV (.int (R.length : Int)) (.int (S.length : Int)) = some (.int ((R.length * S.length : Nat) : Int)) := by
    have hm := mulV_ok' (i := (R.length : Int)) (j := (S.length : Int)) (by omega) (by have := hR.len; omega)
    rw [hm]
    congr 2
  by_cases c2 : 400 < R.length * S.length
  · have gt2 : gtV (.int ((R.length * S.length : Nat) : Int)) (.int 400) = some (.bl true) := by rw [gtV_int, decide_eq_true (by omega)]
    have lam := lam_many (th := l1__law_beside_right) (σ := [some (.t (.int (n : Int))), some (.t (relV w R)), some (.t (relV v S)), none, none, none, none]) (μ := μ) (z := .int ((R.length * S.length : Nat) : Int)) (by
      have c := beside_many (μ := μ) hR hS (by omega) c2
      generalize relV w R = V1 at *
      generalize relV v S = V2 at *
      simpa [l1__law_beside_right, capM, capS, capV, Fl.v] using c)
    have ev := ev ((R.length * S.length : Nat) : Int)
    have gtm := gtm (.int ((R.length * S.length : Nat) : Int))
    generalize relV w R = V1 at *
    generalize relV v S = V2 at *
    generalize R.map tupI = RT at *
    generalize S.map tupI = ST at *
    generalize ((R.length * S.length : Nat) : Int) = PR at *
    generalize (R.length : Int) = RL at *
    generalize (S.length : Int) = SL at *
    generalize ((w + v : Nat) : Int) = WV at *
    generalize PV.tup [.str "many", .int PR] = F0 at *
    simp [-gTup_2, -addV_int, -gtV_int, -lenV_lst, fn__law_beside_right, b__law_beside_right, fnOf, startM, a10, a11, a20, a21, lam, ad, gt1, lnR, lnS, mu, gt2, gtm, ev]
  have gt2 : gtV (.int ((R.length * S.length : Nat) : Int)) (.int 400) = some (.bl false) := by rw [gtV_int, decide_eq_false (by omega)]
  have lam := lam_G (th := l1__law_beside_right) (σ := [some (.t (.int (n : Int))), some (.t (relV w R)), some (.t (relV v S)), none, none, none, none]) (μ := μ) (w := w + v) (X := (besL R S).map tupI) (by
    have c := beside_ok (μ := μ) hR hS (by omega) (by omega)
    generalize relV w R = V1 at *
    generalize relV v S = V2 at *
    generalize relG (w + v) μ.length = G at *
    simpa [l1__law_beside_right, capM, capS, capV, Fl.v] using c)
  have gR : ∀ κ, gIt (.t (.lst (R.map tupI))) κ = .ok (R.map tupI) κ := fun _ => rfl
  have bl : (besL R S).length ≤ 400 := by rw [bes_len]; omega
  have br : Rl n (w + v) 400 (besL R S) := ⟨bes_ok hR.ok hS.ok, bes_pw hR.ok hR.pw hS.pw, bl⟩
  generalize hν : μ ++ [some (Cell.lst ((besL R S).map tupI))] = ν at *
  have hνl : μ.length < ν.length := by rw [← hν]; simp
  obtain ⟨y5, lp⟩ := lbes_loop (v := v) (S := S) (ν := ν) (s0 := some (.t (.int (n : Int)))) (s1 := some (.t (relV w R))) (s3 := some (saidG (w + v) μ.length)) (fun s hs => by have := (hS.ok s hs).1; omega) R [] none (fun r hr => by have := (hR.ok r hr).1; omega) (by rw [List.length_nil]; omega)
  rw [List.nil_append, List.map_nil] at lp
  have fz : frz1 (ν ++ [some (.lst ((besL R S).map tupI))]) (.c ν.length) = some (.t (.lst ((besL R S).map tupI)), ν ++ [none]) := by rw [frz_lst at_snoc, set_snoc]
  have tr := told_right (μ := ν ++ [none]) (k := μ.length) (rows := besL R S) br (by omega) br.ok (by omega) (sortT_id br.pw) (by rw [← hν, List.append_assoc]; simp) (by
    rw [← hν]
    exact lfStore_app (lfStore_app hf (by simp [lfStore, lfCell, lfrees_rows])) rfl) (by rw [List.length_append]; omega)
  have tk : ((ν ++ [none]).set μ.length (some (Cell.lst []))).take μ.length = μ := by
    rw [← hν, List.append_assoc, List.set_append_right _ _ (by omega), List.take_left]
  have en : ∀ κ, PM.gLst [] κ = .ok [] κ := fun κ => gLst_ok rfl (szL _ (by simp))
  generalize (ν ++ [none]).set μ.length (some (Cell.lst [])) = ν2 at *
  generalize (besL R S).map tupI = BL at *
  generalize relV w R = V1 at *
  generalize relV v S = V2 at *
  generalize R.map tupI = RT at *
  generalize S.map tupI = ST at *
  generalize ((R.length * S.length : Nat) : Int) = PR at *
  generalize (R.length : Int) = RL at *
  generalize (S.length : Int) = SL at *
  have g4 := gCall_4tgtt (fn := fn__law_told_right) (d := .int (n : Int)) (w := w + v) (k := μ.length) (μ := ν ++ [none]) (e := .int ((w + v : Nat) : Int)) (f := .lst BL)
  rw [tr] at g4
  generalize saidG (w + v) μ.length = SG at *
  generalize ((w + v : Nat) : Int) = WV at *
  clear hν
  simp [-gTup_2, -addV_int, -gtV_int, -lenV_lst, fn__law_beside_right, b__law_beside_right, fnOf, startM, a10, a11, a20, a21, lam, ad, gt1, lnR, lnS, mu, gt2, gR, lp, sFrz, fz, g4, endM, fin, tk]
end
section
variable {n wd v p m k j : Nat} {P : List Int} {R S : List (List Int)} {μ : Store} {w : W3} {t : Store}
/-! k31: chosen is right -/
theorem cho_tail (hR : Rl n wd 25 R) (hw : wd ≤ 12) (hP : inR wd P) (hl : P.length ≤ 12) (hf : lfStore μ = true) (x0 : Option Val) (hx : x0 = some (.c 0)) :
    ∃ σ, k1__law_chosen_right [x0, some (.t (.int (n : Int))), some (.t (relV wd R)), some (.t (lstI P)), none, none, none, none, none, none] μ = .rt (.t (.bl true)) (μ ++ [some (Cell.lst [])]) ∧ σ = x0 := by
  refine ⟨x0, ?_, rfl⟩
  have ls : pfN listF [.t (lstI P)] μ = .ok (P.map .int) μ := by simp [pfN, views, view, listF]
  have zP : ∀ κ, szF (P.map PV.int) κ = .ok (P.map .int) κ := fun κ => szF_ok (szL _ (by rw [List.length_map]; omega))
  have lam := lam_G (th := l1__law_chosen_right) (σ := [x0, some (.t (.int (n : Int))), some (.t (relV wd R)), some (.t (lstI P)), some (.t (lstI P)), none, none, none, none, none]) (μ := μ) (w := P.length) (X := (sortT (R.map (pickL P))).map tupI) (by
    have c := chosen_ok (μ := μ) hR hw hP hl
    subst hx
    generalize relV wd R = V1 at *
    generalize lstI P = LP at *
    generalize relG P.length μ.length = G at *
    simpa [l1__law_chosen_right, capM, capS, capV, Fl.v] using c)
  have nv : neV (lstI P) (lstI P) = some (.bl false) := neV_self (k := 2) (SD_lst.mpr ⟨by rw [List.length_map]; omega, SD_ints⟩)
  have a11 : atV (relV wd R) (.int 1) = some (.lst (R.map tupI)) := rfl
  have gR : ∀ κ, gIt (.t (.lst (R.map tupI))) κ = .ok (R.map tupI) κ := fun _ => rfl
  have gP : ∀ κ, gIt (.t (lstI P)) κ = .ok (P.map .int) κ := fun _ => rfl
  have lc : ∀ κ, lcL (.nm 7) tYes' e3__law_chosen_right (R.map tupI) [x0, some (.t (.int (n : Int))), some (.t (relV wd R)), some (.t (lstI P)), some (.t (lstI P)), some (saidG P.length μ.length), none, none, none, none] κ = .ok ((R.map (pickL P)).map tupI) κ := fun κ => by
    refine rows_lc (T := .nm 7) (elt := e3__law_chosen_right) (L := R) (φ := pickL P) fun r hr => ⟨_, asg_nm, ?_⟩
    have rl := (hR.ok r hr).1
    have li : lcL (.nm 9) tYes' e2__law_chosen_right (P.map .int) [x0, some (.t (.int (n : Int))), some (.t (relV wd R)), some (.t (lstI P)), some (.t (lstI P)), some (saidG P.length μ.length), none, some (.t (tupI r)), none, none] κ = .ok ((pickL P r).map .int) κ := by
      rw [lcL_map (fun d => match d with | .int x => .int (r.getD x.toNat 0) | _ => .non) fun d hd => ?_, List.map_map]
      · unfold pickL; rw [List.map_map]; rfl
      · obtain ⟨x, hx, rfl⟩ := List.mem_map.mp hd
        have hx := hP x hx
        refine ⟨_, asg_nm, rfl, ?_⟩
        have ax : atV (tupI r) (.int x) = some (.int (r.getD x.toNat 0)) := tb_at hx.1 (by omega)
        show e2__law_chosen_right _ κ = .ok (.t (.int (r.getD x.toNat 0))) κ
        generalize r.getD x.toNat 0 = RX at *
        generalize tupI r = TR at *
        generalize relV wd R = V1 at *
        generalize lstI P = LP at *
        generalize saidG P.length μ.length = SG at *
        simp [e2__law_chosen_right, ax]
    have z : szF ((pickL P r).map PV.int) κ = .ok _ κ := szF_ok (szL _ (by simp [pickL]; omega))
    have tv : tupleV [.lst ((pickL P r).map .int)] = some (tupI (pickL P r)) := rfl
    generalize saidG P.length μ.length = SG at *
    generalize tupI (pickL P r) = TP at *
    generalize (pickL P r).map PV.int = PI at *
    have gP := gP κ
    generalize P.map PV.int = PL at *
    generalize tupI r = TR at *
    generalize relV wd R = V1 at *
    generalize lstI P = LP at *
    simp [e3__law_chosen_right, gP, wipeM, li, z, tv]
  have z1 : ∀ κ, szF ((R.map (pickL P)).map tupI) κ = .ok _ κ := fun κ => szF_ok (szL _ (by have := hR.len; rw [List.length_map, List.length_map]; omega))
  have ln : lenV [lstI P] = some (.int (P.length : Int)) := by rw [lenV_lst, List.length_map]
  have okp := pick_ok hP hR.ok
  have lR := hR.len
  have sl : (sortT (R.map (pickL P))).length ≤ 25 := Nat.le_trans sortT_len (by rw [List.length_map]; omega)
  have tr := told_right (n := n) (w := P.length) (μ := μ ++ [some (.lst ((sortT (R.map (pickL P))).map tupI))]) (k := μ.length) (rows := R.map (pickL P)) (R := sortT (R.map (pickL P))) ⟨sortT_okRows okp, sortT_pw, by omega⟩ hl okp (by rw [List.length_map]; omega) rfl at_snoc (lfStore_app hf (by simp [lfStore, lfCell, lfrees_rows])) (by simp)
  rw [set_snoc_] at tr
  have g4 := gCall_4tgtt (fn := fn__law_told_right) (d := .int (n : Int)) (w := P.length) (k := μ.length) (μ := μ ++ [some (.lst ((sortT (R.map (pickL P))).map tupI))]) (e := .int (P.length : Int)) (f := .lst ((R.map (pickL P)).map tupI))
  rw [tr] at g4
  generalize μ ++ [some (Cell.lst ((sortT (R.map (pickL P))).map tupI))] = ν1 at *
  generalize saidG P.length μ.length = SG at *
  generalize (R.map (pickL P)).map tupI = RP at *
  have gR1 := gR ν1
  simp only [lstI] at *
  generalize P.map PV.int = PL at *
  generalize R.map tupI = RT at *
  generalize relV wd R = V1 at *
  generalize (P.length : Int) = PN at *
  subst hx
  simp [-lenV_lst, -neV_int, k1__law_chosen_right, ls, zP, lam, nv, a11, gR1, wipeM, lc, z1, ln, g4]
theorem cho_right (hw : Bw (j + 20) w) (hn1 : 1 ≤ n) (hn : n ≤ 9) (hR : Rl n wd 25 R) (hd : wd ≤ 12) (ht : lfStore t = true) : ∃ w', fn__law_chosen_right [.c 0, .t (.int (n : Int)), .t (relV wd R)] (wlw w :: t) = .ok (.t (.bl true)) (wlw w' :: t) ∧ Bw j w' := by
  have a10 : atV (relV wd R) (.int 0) = some (.int (wd : Int)) := rfl
  have lf : ∀ w : W3, lfStore (wlw w :: t) = true := fun w => lfStore_cons (lf_well w) ht
  have fin1 : ∀ w' : W3, fin (t.length + 1) (.t (.bl true)) (wlw w' :: t ++ [some (Cell.lst [])]) = .ok (.t (.bl true)) (wlw w' :: t) := fun w' => by
    show PM.R.ok _ ((wlw w' :: t ++ [some (Cell.lst [])]).take (wlw w' :: t).length) = _
    rw [List.take_left]
  by_cases c : wd = 0
  · subst c
    have gt : gtV (.int 0) (.int 0) = some (.bl false) := rfl
    obtain ⟨_, e, _⟩ := cho_tail (P := []) (μ := wlw w :: t) hR hd (fun _ h => nomatch h) (by simp) (lf w) (some (.c 0)) rfl
    have e : k1__law_chosen_right [some (.c 0), some (.t (.int (n : Int))), some (.t (relV 0 R)), some (.t (.lst [])), none, none, none, none, none, none] (wlw w :: t) = _ := e
    have f1 := fin1 w
    refine ⟨w, ?_, hw.le (by omega)⟩
    generalize wlw w :: t ++ [some (Cell.lst [])] = ν at *
    generalize relV 0 R = V1 at *
    simp [-gtV_int, fn__law_chosen_right, b__law_chosen_right, fnOf, startM, a10, gt, e, endM, f1]
  · have gt : gtV (.int (wd : Int)) (.int 0) = some (.bl true) := by rw [gtV_int, decide_eq_true (by omega)]
    obtain ⟨i, w1, q1, b1, e1⟩ := drawY (k := j + 19) hw 2 2
    have e1 := e1 t
    have hcnt : ∃ c : Nat, 0 < c ∧ c ≤ 13 ∧ atV (.lst [.int 4, .int 13]) (.int (i : Int)) = some (.int (c : Int)) := by
      have : i = 0 ∨ i = 1 := by omega
      rcases this with rfl | rfl
      · exact ⟨4, by omega, by omega, rfl⟩
      · exact ⟨13, by omega, by omega, rfl⟩
    obtain ⟨c0, hc0, hc1, at0⟩ := hcnt
    obtain ⟨cnt, w2, q2, b2, e2⟩ := drawY (k := j + 18) b1 c0 (c0 : Int)
    have e2 := e2 t
    have rg : gRange1 [.t (.int (cnt : Int))] (wlw w2 :: t) = .ok (rgI 0 cnt) (wlw w2 :: t) := range1_ok (by omega)
    have lc := lc_draws3 (T := .nm 8) (test := tYes') (elt := e1__law_chosen_right) (t := t) (m := wd) (k := cnt) (j := j) (σ := [some (.c 0), some (.t (.int (n : Int))), some (.t (relV wd R)), some (.t (.lst [])), none, none, none, none, none, none]) (w := w2) (b2.le (by omega)) (fun d hd2 w3 i2 hw3 => ⟨_, asg_nm, rfl, by
      have e := draw3_dr (t := t) (m := wd) hw3 (by omega) (by omega)
      generalize relV wd R = V1 at *
      simp [e1__law_chosen_right, a10, e]⟩)
    have hP : inR wd (drY wd cnt w2).1 := drY_mem (by omega)
    have hl : (drY wd cnt w2).1.length = cnt := drY_len
    have b3 : Bw j (drY wd cnt w2).2 := Bw.drY (k := cnt) (b2.le (by omega))
    generalize (drY wd cnt w2).1 = P at *
    generalize (drY wd cnt w2).2 = w3 at *
    have z : szF (P.map PV.int) (wlw w3 :: t) = .ok (P.map .int) (wlw w3 :: t) := szF_ok (szL _ (by rw [List.length_map]; omega))
    obtain ⟨_, e, _⟩ := cho_tail (P := P) (μ := wlw w3 :: t) hR hd hP (by omega) (lf w3) (some (.c 0)) rfl
    simp only [lstI] at e
    have f1 := fin1 w3
    refine ⟨w3, ?_, b3⟩
    have g2 : ∀ κ, PM.gLst [.t (.int 4), .t (.int 13)] κ = .ok [.int 4, .int 13] κ := fun κ => gLst_ok rfl (szL _ (by simp))
    have zl : ∀ κ, szF [PV.int 4, PV.int 13] κ = .ok [PV.int 4, PV.int 13] κ := fun κ => szF_ok (szL _ (by simp))
    generalize wlw w3 :: t ++ [some (Cell.lst [])] = ν at *
    generalize relV wd R = V1 at *
    generalize P.map PV.int = PL at *
    generalize (c0 : Int) = C0 at *
    generalize (cnt : Int) = CN at *
    generalize (i : Int) = II at *
    simp [-gtV_int, -atV_lst, -gLst_2, fn__law_chosen_right, b__law_chosen_right, fnOf, startM, a10, gt, e1, at0, g2, zl, e2, rg, wipeM, lc, z, e, endM, f1]
end
/-! k31: graph is right -/
theorem lt_last {s t : Int} (h : s < t) : ∀ {a : List Int}, a ++ [s] < a ++ [t]
  | [] => List.cons_lt_cons_iff.mpr (.inl h)
  | u :: a => List.cons_lt_cons_iff.mpr (.inr ⟨rfl, lt_last h⟩)
theorem allR_pw (n : Nat) : ∀ p, (allR n p).Pairwise (· < ·)
  | 0 => by unfold allR; exact List.pairwise_singleton _ _
  | p + 1 => by
    unfold allR
    rw [List.pairwise_flatMap]
    refine ⟨fun r _ => ?_, (allR_pw n p).imp_of_mem fun {r s} hr hs h x hx y hy => ?_⟩
    · rw [List.pairwise_map]
      refine List.Pairwise.imp (fun {i j} h => ?_) List.pairwise_lt_range
      exact lt_last (by omega)
    · obtain ⟨i, _, rfl⟩ := List.mem_map.mp hx
      obtain ⟨j, _, rfl⟩ := List.mem_map.mp hy
      exact lt_app (by rw [(allR_mem hr).1, (allR_mem hs).1]) h
section
variable {n wd v p m k j : Nat} {P : List Int} {R S : List (List Int)} {μ : Store} {w : W3} {t : Store}
/-- the rows of a deed's graph -/
def graL (n p : Nat) (row : List Int) : List (List Int) := (List.range (n ^ p)).map fun s => digs n p s ++ [row.getD s 0]
theorem gra_ok {row : List Int} (hn : 0 < n) (hr : row.length = n ^ p) (hi : inR n row) : okRows n (p + 1) (graL n p row) := fun q hq => by
  obtain ⟨s, hs, rfl⟩ := List.mem_map.mp hq
  have hs := List.mem_range.mp hs
  refine ⟨by rw [List.length_append, digs_len]; rfl, fun x hx => ?_⟩
  rcases List.mem_append.mp hx with hx | hx
  · exact digs_inR hn x hx
  · rw [List.mem_singleton.mp hx]
    exact hi _ (PM.getD_mem (by omega))
theorem gra_pw {row : List Int} (hn : 0 < n) : (graL n p row).Pairwise (· < ·) := by
  have h := allR_pw n p
  unfold graL
  rw [List.pairwise_map]
  rw [List.pairwise_iff_getElem] at h ⊢
  intro i j' hi hj hij
  rw [List.length_range] at hi hj
  rw [List.getElem_range, List.getElem_range]
  have e : ∀ s, (hs : s < n ^ p) → (allR n p)[s]'(by rw [allR_len]; exact hs) = digs n p s := fun s hs => by
    have := allR_at hn hs
    exact (List.getElem?_eq_some_iff.mp this).2
  refine lt_app (by rw [digs_len, digs_len]) ?_
  rw [← e i hi, ← e j' hj]
  exact h i j' _ _ hij
theorem graph_ok {row : List Int} {nm : Str} (hn1 : 0 < n) (hn : n ≤ 9) (hp : p ≤ 3) (hr : row.length = n ^ p) : fn_graph [.t (.int (n : Int)), .t (.tup [.str nm, .int (p : Int), tupI row])] μ = .ok (relG (p + 1) μ.length) (μ ++ [some (.lst ((graL n p row).map tupI))]) := by
  have h7 := pow_le_729 hn hp
  have as : asg (.tp [.nm 2, .nm 3, .nm 4]) (.t (.tup [.str nm, .int (p : Int), tupI row])) [some (.t (.int (n : Int))), some (.t (.tup [.str nm, .int (p : Int), tupI row])), none, none, none, none, none] = some [some (.t (.int (n : Int))), some (.t (.tup [.str nm, .int (p : Int), tupI row])), some (.t (.str nm)), some (.t (.int (p : Int))), some (.t (tupI row)), none, none] := rfl
  have ad : addV (.int (p : Int)) (.int 1) = some (.int ((p + 1 : Nat) : Int)) := by rw [addV_int]; congr 2
  have en : ∀ κ, gEnum [.t (tupI row)] κ = .ok (enumF 0 (row.map .int)) κ := fun κ => by rw [← enumP_F]; exact gEnum_tup
  have lc : ∀ (κ : Store) (x1 : Option Val) (rs : List Int) (s : Nat), s + rs.length = n ^ p → (∀ i, i < rs.length → row.getD (s + i) 0 = rs.getD i 0) → lcL (.tp [.nm 5, .nm 6]) tYes' e1_graph (enumF s (rs.map .int)) [some (.t (.int (n : Int))), x1, some (.t (.str nm)), some (.t (.int (p : Int))), some (.t (tupI row)), none, none] κ = .ok (((List.range' s rs.length).map fun s => digs n p s ++ [row.getD s 0]).map tupI) κ := fun κ x1 rs => by
    induction rs with
    | nil => intro s _ _; rfl
    | cons x rs ih =>
      intro s hl hx
      rw [List.length_cons] at hl
      have ih := ih (s + 1) (by omega) fun i hi => by
        have := hx (i + 1) (by rw [List.length_cons]; omega)
        rw [show s + 1 + i = s + (i + 1) by omega, this]
        rfl
      have x0 : row.getD s 0 = x := by have := hx 0 (by simp); simpa using this
      have ta := things_at_ok (n := n) (p := p) (s := s) (μ := κ) hn1 (by omega) (by omega)
      have gt1 : ∀ d : PV, PM.gTup [.t d] κ = .ok (.t (.tup [d])) κ := fun d => gTup_ok rfl (szL _ (by simp))
      have ad2 : addV (tupI (digs n p s)) (.tup [.int x]) = some (tupI (digs n p s ++ [x])) := by
        have h2 := addV_tup (a := (digs n p s).map PV.int) (b := [PV.int x]) (by rw [List.length_map, digs_len]; simp; omega)
        rw [show (digs n p s).map PV.int ++ [PV.int x] = (digs n p s ++ [x]).map PV.int by simp] at h2
        exact h2
      rw [List.map_cons, List.length_cons, List.range'_succ, List.map_cons, List.map_cons, x0]
      refine lcL_cons (σ1 := [some (.t (.int (n : Int))), x1, some (.t (.str nm)), some (.t (.int (p : Int))), some (.t (tupI row)), some (.t (.int (s : Int))), some (.t (.int x))]) (μ2 := κ) rfl rfl ?_ ih
      generalize tupI (digs n p s ++ [x]) = T2 at *
      generalize tupI (digs n p s) = T1 at *
      generalize tupI row = TR at *
      simp [-addV_int, e1_graph, ta, gt1, ad2]
  have lc0 := fun κ x1 => lc κ x1 row 0 (by omega) (fun i hi => by rw [Nat.zero_add])
  rw [hr, ← List.range_eq_range'] at lc0
  have lc0 : ∀ κ x1, lcL (.tp [.nm 5, .nm 6]) tYes' e1_graph (enumF 0 (row.map .int)) [some (.t (.int (n : Int))), x1, some (.t (.str nm)), some (.t (.int (p : Int))), some (.t (tupI row)), none, none] κ = .ok ((graL n p row).map tupI) κ := lc0
  have gl : (graL n p row).length = n ^ p := by simp [graL]
  have z : ∀ κ, szF ((graL n p row).map tupI) κ = .ok _ κ := fun κ => szF_ok (szL _ (by rw [List.length_map]; omega))
  have fg := fin_g1 (n := μ.length) (k := μ.length) (d := .int ((p + 1 : Nat) : Int)) (X := (graL n p row).map tupI) (μ := μ ++ [some (.lst ((graL n p row).map tupI))]) at_snoc (Nat.le_refl _)
  rw [List.take_left] at fg
  unfold relG
  clear lc
  generalize (graL n p row).map tupI = GL at *
  generalize enumF 0 (row.map PV.int) = EE at *
  generalize tupI row = TR at *
  generalize ((p + 1 : Nat) : Int) = P1 at *
  simp [-addV_int, fn_graph, b_graph, fnOf, startM, sAsg_tp, as, ad, en, wipeM, lc0, z, tupG_c, endM, fg]
theorem gra_right (hw : Bw (j + 900) w) (ht : lfStore t = true) : ∃ w', fn__law_graph_right [.c 0] (wlw w :: t) = .ok (.t (.bl true)) (wlw w' :: t) ∧ Bw j w' := by
  have lf : ∀ w : W3, lfStore (wlw w :: t) = true := fun w => lfStore_cons (lf_well w) ht
  obtain ⟨i, w1, q1, b1, e1⟩ := drawY (k := j + 899) hw 4 4
  have e1 := e1 t
  have ad : addV (.int 1) (.int (i : Int)) = some (.int ((i + 1 : Nat) : Int)) := by rw [addV_int]; congr 2; omega
  generalize hn : i + 1 = n at *
  have hn1 : 1 ≤ n := by omega
  have hn4 : n ≤ 4 := by omega
  obtain ⟨p, w2, q2, b2, e2⟩ := drawY (k := j + 898) b1 4 4
  have e2 := e2 t
  obtain ⟨row, w3, e3, r1, r2, b3⟩ := table_y (n := n) (p := p) (j := j) (t := t) (b2.le (by omega)) hn1 (by omega) (by omega)
  have al := all_ok (n := n) (p := p) (μ := wlw w3 :: t) (by omega) (by omega)
  have en : ∀ κ, gEnum [.t (.lst ((allR n p).map tupI))] κ = .ok (enumF 0 ((allR n p).map tupI)) κ := fun κ => by rw [← enumP_F]; exact gEnum_lst
  have lc : ∀ (κ : Store) (rs : List (List Int)) (s : Nat), s + rs.length = n ^ p → (∀ i, (h : i < rs.length) → rs[i] = digs n p (s + i)) → lcL (.tp [.nm 5, .nm 6]) tYes' e1__law_graph_right (enumF s (rs.map tupI)) [some (.c 0), some (.t (.int (n : Int))), some (.t (.int (p : Int))), some (.t (tupI row)), none, none, none] κ = .ok (((List.range' s rs.length).map fun s => digs n p s ++ [row.getD s 0]).map tupI) κ := fun κ rs => by
    induction rs with
    | nil => intro s _ _; rfl
    | cons r rs ih =>
      intro s hl hx
      rw [List.length_cons] at hl
      have ih := ih (s + 1) (by omega) fun i hi => by
        have := hx (i + 1) (by rw [List.length_cons]; omega)
        rw [show s + 1 + i = s + (i + 1) by omega, ← this]
        rfl
      have x0 : r = digs n p s := by have := hx 0 (by simp); simpa using this
      subst x0
      have at1 : atV (tupI row) (.int (s : Int)) = some (.int (row.getD s 0)) := by
        have := tb_at (tb := row) (i := (s : Int)) (by omega) (by omega)
        show atI _ _ = _
        rw [this]; congr 2
      have gt1 : ∀ d : PV, PM.gTup [.t d] κ = .ok (.t (.tup [d])) κ := fun d => gTup_ok rfl (szL _ (by simp))
      have ad2 : addV (tupI (digs n p s)) (.tup [.int (row.getD s 0)]) = some (tupI (digs n p s ++ [row.getD s 0])) := by
        have h2 := addV_tup (a := (digs n p s).map PV.int) (b := [PV.int (row.getD s 0)]) (by rw [List.length_map, digs_len]; simp; omega)
        rw [show (digs n p s).map PV.int ++ [PV.int (row.getD s 0)] = (digs n p s ++ [row.getD s 0]).map PV.int by simp] at h2
        exact h2
      rw [List.map_cons, List.length_cons, List.range'_succ, List.map_cons, List.map_cons]
      refine lcL_cons (σ1 := [some (.c 0), some (.t (.int (n : Int))), some (.t (.int (p : Int))), some (.t (tupI row)), none, some (.t (.int (s : Int))), some (.t (tupI (digs n p s)))]) (μ2 := κ) rfl rfl ?_ ih
      generalize tupI (digs n p s ++ [row.getD s 0]) = T2 at *
      generalize tupI (digs n p s) = T1 at *
      generalize tupI row = TR at *
      generalize row.getD s 0 = RS at *
      simp [-addV_int, -atV_tup, e1__law_graph_right, at1, gt1, ad2]
  have lc0 := fun κ => lc κ (allR n p) 0 (by rw [allR_len]; omega) (fun i hi => by
    rw [allR_len] at hi
    have := allR_at hn1 hi
    rw [Nat.zero_add]
    exact (List.getElem?_eq_some_iff.mp this).2)
  rw [allR_len, ← List.range_eq_range'] at lc0
  have lc0 : ∀ κ, lcL (.tp [.nm 5, .nm 6]) tYes' e1__law_graph_right (enumF 0 ((allR n p).map tupI)) [some (.c 0), some (.t (.int (n : Int))), some (.t (.int (p : Int))), some (.t (tupI row)), none, none, none] κ = .ok ((graL n p row).map tupI) κ := lc0
  have h64 : n ^ p ≤ 64 := by
    have a1 := Nat.pow_le_pow_left hn4 p
    have a2 := Nat.pow_le_pow_right (n := 4) (by omega) (show p ≤ 3 by omega)
    omega
  have gl : (graL n p row).length = n ^ p := by simp [graL]
  have z : ∀ κ, szF ((graL n p row).map tupI) κ = .ok _ κ := fun κ => szF_ok (szL _ (by rw [List.length_map]; omega))
  have gk := gra_ok (p := p) hn1 r1 r2
  have gp := gra_pw (n := n) (p := p) (row := row) hn1
  have gtd : ∀ κ, PM.gTup [.t (.str "aa"), .t (.int (p : Int)), .t (tupI row)] κ = .ok (.t (.tup [.str "aa", .int (p : Int), tupI row])) κ := fun κ => gTup_ok rfl (szL _ (by simp))
  have lam := lam_G (th := l1__law_graph_right) (σ := [some (.c 0), some (.t (.int (n : Int))), some (.t (.int (p : Int))), some (.t (tupI row)), some (.t (.lst ((graL n p row).map tupI))), none, none]) (μ := wlw w3 :: t) (w := p + 1) (X := (graL n p row).map tupI) (by
    have c := graph_ok (n := n) (p := p) (nm := "aa") (μ := wlw w3 :: t) hn1 (by omega) (by omega) r1
    have gtd := gtd (wlw w3 :: t)
    generalize relG (p + 1) (wlw w3 :: t).length = G at *
    generalize (graL n p row).map tupI = GL at *
    generalize tupI row = TR at *
    generalize wlw w3 :: t = ν at *
    simp only [l1__law_graph_right, capM, capS, capV, Fl.v, List.map_cons, List.map_nil, Option.map_some, Option.map_none]
    simp [gtd, c])
  have tr := told_right (n := n) (w := p + 1) (μ := wlw w3 :: t ++ [some (.lst ((graL n p row).map tupI))]) (k := (wlw w3 :: t).length) (rows := graL n p row) (R := graL n p row) ⟨gk, gp, by omega⟩ (by omega) gk (by omega) (sortT_id gp) at_snoc (lfStore_app (lf w3) (by simp [lfStore, lfCell, lfrees_rows])) (by simp)
  rw [set_snoc_] at tr
  have g4 := gCall_4tgtt (fn := fn__law_told_right) (d := .int (n : Int)) (w := p + 1) (k := (wlw w3 :: t).length) (μ := wlw w3 :: t ++ [some (.lst ((graL n p row).map tupI))]) (e := .int ((p + 1 : Nat) : Int)) (f := .lst ((graL n p row).map tupI))
  rw [tr] at g4
  have ad3 : addV (.int (p : Int)) (.int 1) = some (.int ((p + 1 : Nat) : Int)) := by rw [addV_int]; congr 2
  have f1 : fin (t.length + 1) (.t (.bl true)) (wlw w3 :: t ++ [some (Cell.lst [])]) = .ok (.t (.bl true)) (wlw w3 :: t) := by
    show PM.R.ok _ ((wlw w3 :: t ++ [some (Cell.lst [])]).take (wlw w3 :: t).length) = _
    rw [List.take_left]
  refine ⟨w3, ?_, b3⟩
  clear lc tr
  generalize saidG (p + 1) (wlw w3 :: t).length = SG at *
  generalize wlw w3 :: t ++ [some (Cell.lst ((graL n p row).map tupI))] = ν1 at *
  generalize wlw w3 :: t ++ [some (Cell.lst [])] = ν2 at *
  generalize (graL n p row).map tupI = GL at *
  generalize enumF 0 ((allR n p).map tupI) = EE at *
  generalize (allR n p).map tupI = AR at *
  generalize tupI row = TR at *
  generalize ((p + 1 : Nat) : Int) = P1 at *
  simp [-addV_int, fn__law_graph_right, b__law_graph_right, fnOf, startM, e1, ad, e2, e3, al, en, wipeM, lc0, z, lam, ad3, g4, endM, f1]
end
section
variable {n wd v p m k j : Nat} {P : List Int} {R S : List (List Int)} {μ : Store} {w : W3} {t : Store} {s1 s3 s4 s5 s6 s7 s8 : Option Val}
/-! k31: the law's turn -/
theorem SD_rel (hR : Rl n wd 25 R) (hw : wd ≤ 12) : SD 3 (relV wd R) := by
  refine SD_tup.mpr ⟨by simp, fun x hx => ?_⟩
  simp only [List.mem_cons, List.not_mem_nil, or_false] at hx
  rcases hx with rfl | rfl
  · exact SD_int
  · refine SD_lst.mpr ⟨by have := hR.len; rw [List.length_map]; omega, fun y hy => ?_⟩
    obtain ⟨r, hr, rfl⟩ := List.mem_map.mp hy
    exact SD_tupI (by have := (hR.ok r hr).1; omega)
theorem right_k1 (hw : Bw (j + 900) w) (hn1 : 1 ≤ n) (hn : n ≤ 9) (hR : Rl n wd 25 R) (hd : wd ≤ 12) (hS : Rl n v 25 S) (hv : v ≤ 12) :
    ∃ w', k1__law_right [some (.c 0), s1, some (.t (.int (n : Int))), s3, some (.t (relV wd R)), some (.t (relV v S)), some (.t (.lst [relV wd R, relV v S])), s7, s8, none, none] [wlw w] = .rt (.t (.bl true)) [wlw w', some (.lst [])] ∧ Bw j w' := by
  have lam := lam_G (th := l1__law_right) (σ := [some (.c 0), s1, some (.t (.int (n : Int))), s3, some (.t (relV wd R)), some (.t (relV v S)), some (.t (.lst [relV wd R, relV v S])), s7, s8, none, none]) (μ := [wlw w]) (w := 2) (X := (eqL n).map tupI) (by
    have c := eqthings_ok (μ := [wlw w]) hn
    generalize relV wd R = V1 at *
    generalize relV v S = V2 at *
    generalize relG 2 [wlw w].length = G at *
    generalize [wlw w] = ν at *
    simp only [l1__law_right, capM, capS, capV, Fl.v, List.map_cons, List.map_nil, Option.map_some, Option.map_none]
    simp [c])
  have er := eq_rl (n := n) (by omega)
  have el : (eqL n).length = n := by simp [eqL]
  have rg : ∀ κ, gRange1 [.t (.int (n : Int))] κ = .ok (rgI 0 n) κ := fun κ => range1_ok (by omega)
  have lc : ∀ (κ : Store) (σ : Sl), 10 < σ.length → lcL (.nm 10) tYes' e2__law_right (rgI 0 n) σ κ = .ok ((eqL n).map tupI) κ := fun κ σ h10 => by
    rw [rgI_nat, lcL_map (fun d => .tup [d, d]) fun d hd => ⟨_, asg_nm, rfl, by
      have : PM.gTup [.t d, .t d] κ = .ok (.t (.tup [d, d])) κ := gTup_2
      simp [-gTup_2, e2__law_right, h10, this]⟩]
    unfold eqL
    rw [List.map_map, List.map_map]
    rfl
  have z : ∀ κ, szF ((eqL n).map tupI) κ = .ok _ κ := fun κ => szF_ok (szL _ (by rw [List.length_map]; omega))
  have tr := told_right (n := n) (w := 2) (μ := [wlw w] ++ [some (.lst ((eqL n).map tupI))]) (k := [wlw w].length) (rows := eqL n) (R := eqL n) (er.le (by omega)) (by omega) er.ok (by omega) (sortT_id er.pw) at_snoc (lfStore_app (lfStore_cons (lf_well w) rfl) (by simp [lfStore, lfCell, lfrees_rows])) (by simp)
  rw [set_snoc_] at tr
  have g4 := gCall_4tgtt (fn := fn__law_told_right) (d := .int (n : Int)) (w := 2) (k := [wlw w].length) (μ := [wlw w] ++ [some (.lst ((eqL n).map tupI))]) (e := .int ((2 : Nat) : Int)) (f := .lst ((eqL n).map tupI))
  rw [tr] at g4
  have g4 : gCall 4 fn__law_told_right [.t (.int (n : Int)), saidG 2 [wlw w].length, .t (.int 2), .t (.lst ((eqL n).map tupI))] ([wlw w] ++ [some (.lst ((eqL n).map tupI))]) = .ok (.t (.bl true)) ([wlw w] ++ [some (Cell.lst [])]) := g4
  obtain ⟨w', gr, b'⟩ := gra_right (t := [some (.lst [])]) hw rfl
  have gr : fn__law_graph_right [.c 0] ([wlw w] ++ [some (Cell.lst [])]) = .ok (.t (.bl true)) [wlw w', some (.lst [])] := gr
  have ev : PM.eqV (.lst [relV wd R, relV v S]) (.lst [relV wd R, relV v S]) = some (.bl true) := by
    refine eqV_self (k := 4) (SD_lst.mpr ⟨by simp, fun x hx => ?_⟩)
    simp only [List.mem_cons, List.not_mem_nil, or_false] at hx
    rcases hx with rfl | rfl
    · exact SD_rel hR hd
    · exact SD_rel hS hv
  have gl : ∀ κ, PM.gLst [.t (relV wd R), .t (relV v S)] κ = .ok [relV wd R, relV v S] κ := fun κ => gLst_ok rfl (szL _ (by simp))
  have zl : ∀ κ, szF [relV wd R, relV v S] κ = .ok [relV wd R, relV v S] κ := fun κ => szF_ok (szL _ (by simp))
  refine ⟨w', ?_, b'⟩
  clear tr
  generalize saidG 2 [wlw w].length = SG at *
  generalize [wlw w] ++ [some (Cell.lst ((eqL n).map tupI))] = ν1 at *
  generalize [wlw w] ++ [some (Cell.lst [])] = ν2 at *
  generalize [wlw w', some (Cell.lst [])] = ν3 at *
  generalize [wlw w] = ν0 at *
  generalize (eqL n).map tupI = EL at *
  generalize rgI 0 n = RG at *
  generalize relV wd R = V1 at *
  generalize relV v S = V2 at *
  simp [-gLst_2, k1__law_right, lam, rg, wipeM, lc, z, g4, ev, gl, zl, gr]
theorem right_k2 (hw : Bw (j + 940) w) (hn1 : 1 ≤ n) (hn : n ≤ 9) (hR : Rl n wd 25 R) (hd : wd ≤ 12) (hS : Rl n v 25 S) (hv : v ≤ 12) :
    ∃ w', k2__law_right [some (.c 0), s1, some (.t (.int (n : Int))), s3, some (.t (relV wd R)), some (.t (relV v S)), some (.t (.lst [relV wd R, relV v S])), s7, s8, none, none] [wlw w] = .rt (.t (.bl true)) [wlw w', some (.lst [])] ∧ Bw j w' := by
  obtain ⟨w1, c1, b1⟩ := cho_right (t := []) (j := j + 920) hw hn1 hn hR hd rfl
  obtain ⟨w2, c2, b2⟩ := cho_right (t := []) (j := j + 900) b1 hn1 hn hS hv rfl
  obtain ⟨w', e, b'⟩ := right_k1 (s1 := s1) (s3 := s3) (s7 := s7) (s8 := s8) b2 hn1 hn hR hd hS hv
  have a0 : atV (.lst [relV wd R, relV v S]) (.int 0) = some (relV wd R) := rfl
  have a1 : atV (.lst [relV wd R, relV v S]) (.int 1) = some (relV v S) := rfl
  refine ⟨w', ?_, b'⟩
  generalize PV.lst [relV wd R, relV v S] = HV at *
  generalize relV wd R = V1 at *
  generalize relV v S = V2 at *
  generalize [wlw w', some (Cell.lst [])] = ν3 at *
  generalize [wlw w] = ν0 at *
  generalize [wlw w1] = ν1 at *
  generalize [wlw w2] = ν2 at *
  simp [-atV_lst, k2__law_right, a0, c1, a1, c2, e]
theorem right_k3 (hw : Bw (j + 940) w) (hn1 : 1 ≤ n) (hn : n ≤ 9) (hR : Rl n wd 25 R) (hd : wd ≤ 12) (hS : Rl n v 25 S) (hv : v ≤ 12) :
    ∃ w', k3__law_right [some (.c 0), s1, some (.t (.int (n : Int))), s3, some (.t (relV wd R)), some (.t (relV v S)), some (.t (.lst [relV wd R, relV v S])), none, none, none, none] [wlw w] = .rt (.t (.bl true)) [wlw w', some (.lst [])] ∧ Bw j w' := by
  have lf : lfStore [wlw w] = true := lfStore_cons (lf_well w) rfl
  have c1 := cross_right (μ := [wlw w]) hR hS hd hv lf
  have c2 := cross_right (μ := [wlw w]) hS hR hv hd lf
  have c3 := cross_right (μ := [wlw w]) hR hR hd hd lf
  have d1 := bes_right (μ := [wlw w]) hR hS hd hv lf
  have d2 := bes_right (μ := [wlw w]) hS hR hv hd lf
  have d3 := bes_right (μ := [wlw w]) hR hR hd hd lf
  obtain ⟨w', e, b'⟩ := right_k2 (s1 := s1) (s3 := s3) (s7 := some (.t (relV wd R))) (s8 := some (.t (relV wd R))) hw hn1 hn hR hd hS hv
  have a0 : atV (.lst [relV wd R, relV v S]) (.int 0) = some (relV wd R) := rfl
  have a1 : atV (.lst [relV wd R, relV v S]) (.int 1) = some (relV v S) := rfl
  have gt : ∀ (x y : PV) κ, PM.gTup [.t x, .t y] κ = .ok (.t (.tup [x, y])) κ := fun x y κ => gTup_2
  have gl : ∀ (x y z : PV) κ, PM.gLst [.t x, .t y, .t z] κ = .ok [x, y, z] κ := fun x y z κ => gLst_ok rfl (szL _ (by simp))
  have zl : ∀ (x y z : PV) κ, szF [x, y, z] κ = .ok [x, y, z] κ := fun x y z κ => szF_ok (szL _ (by simp))
  have gi : ∀ (l : List PV) κ, gIt (.t (.lst l)) κ = .ok l κ := fun _ _ => rfl
  have body : ∀ (s4 s5 s6 s7 s8 : Option Val) (x y : PV), fn__law_crossed_right [.t (.int (n : Int)), .t x, .t y] [wlw w] = .ok (.t (.bl true)) [wlw w] → fn__law_beside_right [.t (.int (n : Int)), .t x, .t y] [wlw w] = .ok (.t (.bl true)) [wlw w] →
      f1__law_right [some (.c 0), s1, some (.t (.int (n : Int))), s3, s4, s5, s6, some (.t x), some (.t y), none, none] [wlw w] = .nx [some (.c 0), s1, some (.t (.int (n : Int))), s3, s4, s5, s6, some (.t x), some (.t y), none, none] [wlw w] := fun s4 s5 s6 s7 s8 x y h1 h2 => by
    generalize [wlw w] = ν at *
    simp [f1__law_right, h1, h2]
  have lp : forL (.tp [.nm 7, .nm 8]) f1__law_right [.tup [relV wd R, relV v S], .tup [relV v S, relV wd R], .tup [relV wd R, relV wd R]] [some (.c 0), s1, some (.t (.int (n : Int))), s3, some (.t (relV wd R)), some (.t (relV v S)), some (.t (.lst [relV wd R, relV v S])), none, none, none, none] [wlw w] = .nx [some (.c 0), s1, some (.t (.int (n : Int))), s3, some (.t (relV wd R)), some (.t (relV v S)), some (.t (.lst [relV wd R, relV v S])), some (.t (relV wd R)), some (.t (relV wd R)), none, none] [wlw w] := by
    rw [forL_nx rfl (body _ _ _ none none _ _ c1 d1), forL_nx rfl (body _ _ _ none none _ _ c2 d2), forL_nx rfl (body _ _ _ none none _ _ c3 d3)]
    rfl
  refine ⟨w', ?_, b'⟩
  clear body
  generalize PV.lst [relV wd R, relV v S] = HV at *
  generalize relV wd R = V1 at *
  generalize relV v S = V2 at *
  generalize [wlw w', some (Cell.lst [])] = ν3 at *
  generalize [wlw w] = ν0 at *
  simp [-atV_lst, -gTup_2, -gLst_3, k3__law_right, a0, a1, gt, gl, zl, gi, lp, e]
theorem right_k4 (hw : Bw (j + 940) w) (hn1 : 1 ≤ n) (hn : n ≤ 9) (hR : Rl n wd 25 R) (hd : wd ≤ 12) (hS : Rl n v 25 S) (hv : v ≤ 12) :
    ∃ w', k4__law_right [some (.c 0), s1, some (.t (.int (n : Int))), s3, some (.t (relV wd R)), some (.t (relV v S)), none, none, none, none, none] [wlw w] = .rt (.t (.bl true)) [wlw w', some (.lst [])] ∧ Bw j w' := by
  obtain ⟨w', e, b'⟩ := right_k3 (s1 := s1) (s3 := s3) hw hn1 hn hR hd hS hv
  have a10 : atV (relV wd R) (.int 0) = some (.int (wd : Int)) := rfl
  have a11 : atV (relV wd R) (.int 1) = some (.lst (R.map tupI)) := rfl
  have a20 : atV (relV v S) (.int 0) = some (.int (v : Int)) := rfl
  have a21 : atV (relV v S) (.int 1) = some (.lst (S.map tupI)) := rfl
  have l1 : ∀ κ, pfN listF [.t (.lst (R.map tupI))] κ = .ok (R.map tupI) κ := fun κ => by simp [pfN, views, view]
  have l2 : ∀ κ, pfN listF [.t (.lst (S.map tupI))] κ = .ok (S.map tupI) κ := fun κ => by simp [pfN, views, view]
  have z1 : ∀ κ, szF (R.map tupI) κ = .ok (R.map tupI) κ := fun κ => szF_ok (szL _ (by have := hR.len; rw [List.length_map]; omega))
  have z2 : ∀ κ, szF (S.map tupI) κ = .ok (S.map tupI) κ := fun κ => szF_ok (szL _ (by have := hS.len; rw [List.length_map]; omega))
  have gt1 : ∀ κ, PM.gTup [.t (.int (wd : Int)), .t (.lst (R.map tupI))] κ = .ok (.t (relV wd R)) κ := fun κ => gTup_2
  have gt2 : ∀ κ, PM.gTup [.t (.int (v : Int)), .t (.lst (S.map tupI))] κ = .ok (.t (relV v S)) κ := fun κ => gTup_2
  have gl : ∀ κ, PM.gLst [.t (relV wd R), .t (relV v S)] κ = .ok [relV wd R, relV v S] κ := fun κ => gLst_ok rfl (szL _ (by simp))
  have zl : ∀ κ, szF [relV wd R, relV v S] κ = .ok [relV wd R, relV v S] κ := fun κ => szF_ok (szL _ (by simp))
  refine ⟨w', ?_, b'⟩
  generalize relV wd R = V1 at *
  generalize relV v S = V2 at *
  generalize R.map tupI = RT at *
  generalize S.map tupI = ST at *
  generalize [wlw w', some (Cell.lst [])] = ν3 at *
  generalize [wlw w] = ν0 at *
  simp [-gTup_2, -gLst_2, -listF_lst, k4__law_right, a10, a11, a20, a21, l1, l2, z1, z2, gt1, gt2, gl, zl, e]
end
section
variable {n wd v p m k j : Nat} {R S : List (List Int)} {w : W3} {t : Store}
/-! k31: the law -/
theorem lcL_consT {T : Tgt} {test : Sl → Store → PM.R Bool} {elt : ME} {d y : PV} {l ys : List PV} {σ σ1 : Sl} {μ μ1 μ2 μ3 : Store} (h1 : asg T (.t d) σ = some σ1) (h2 : test σ1 μ = .ok true μ1) (h3 : elt σ1 μ1 = .ok (.t y) μ2) (h4 : lcL T test elt l σ μ2 = .ok ys μ3) : lcL T test elt (d :: l) σ μ = .ok (y :: ys) μ3 := by
  unfold lcL
  rw [h1]
  simp only [h2, h3, noex_ok, bind_ok, if_true, gT, h4]
theorem lcL_skipT {T : Tgt} {test : Sl → Store → PM.R Bool} {elt : ME} {d : PV} {l ys : List PV} {σ σ1 : Sl} {μ μ1 μ3 : Store} (h1 : asg T (.t d) σ = some σ1) (h2 : test σ1 μ = .ok false μ1) (h4 : lcL T test elt l σ μ1 = .ok ys μ3) : lcL T test elt (d :: l) σ μ = .ok ys μ3 := by
  unfold lcL
  rw [h1]
  simp [h2, noex_ok, bind_ok, h4]
/-- some rows of a list, each by a draw -/
theorem some_y {σ : Sl} (h0 : σ[0]? = some (some (.c 0))) (h9 : 9 < σ.length) : ∀ (R : List (List Int)) (w : W3) (j : Nat), Bw (j + R.length) w → ∃ (S : List (List Int)) (w' : W3), lcL (.nm 9) t1__law_right e1__law_right (R.map tupI) σ (wlw w :: t) = .ok (S.map tupI) (wlw w' :: t) ∧ S.Sublist R ∧ Bw j w'
  | [], w, j, hw => ⟨[], w, rfl, List.Sublist.slnil, hw.le (by simp)⟩
  | r :: R, w, j, hw => by
    rw [List.length_cons] at hw
    obtain ⟨i, w1, q1, b1, e1⟩ := drawY (k := j + R.length) hw 3 3
    have e1 := e1 t
    obtain ⟨S, w', ih, sub, b'⟩ := some_y h0 h9 R w1 j b1
    have as : asg (.nm 9) (.t (tupI r)) σ = some (σ.set 9 (some (.t (tupI r)))) := asg_nm
    have gt : gtV (.int (i : Int)) (.int 0) = some (.bl (decide (0 < i))) := by rw [gtV_int]; congr 2; exact decide_eq_decide.mpr (by omega)
    have h0' : (σ.set 9 (some (.t (tupI r))))[0]? = some (some (.c 0)) := by rw [List.getElem?_set_ne (by omega)]; exact h0
    have h9' : (σ.set 9 (some (.t (tupI r))))[9]? = some (some (.t (tupI r))) := by rw [List.getElem?_set_self h9]
    have tt : t1__law_right (σ.set 9 (some (.t (tupI r)))) (wlw w :: t) = .ok (decide (0 < i)) (wlw w1 :: t) := by
      generalize σ.set 9 (some (.t (tupI r))) = σ1 at *
      simp [-gtV_int, t1__law_right, h0', e1, gt]
    rw [List.map_cons]
    by_cases q : 0 < i
    · rw [decide_eq_true q] at tt
      refine ⟨r :: S, w', ?_, sub.cons₂ r, b'⟩
      rw [List.map_cons]
      refine lcL_consT (μ2 := wlw w1 :: t) as tt ?_ ih
      generalize σ.set 9 (some (.t (tupI r))) = σ1 at *
      simp [e1__law_right, h9']
    · rw [decide_eq_false q] at tt
      exact ⟨S, w', lcL_skipT as tt ih, sub.cons r, b'⟩
theorem right_y {w0 : W3} (hw : Bw 20000 w0) : ∃ w', fn__law_right [.c 0] [wlw w0] = .ok (.t (.bl true)) [wlw w'] := by
  obtain ⟨way, w1, q1, b1, e1⟩ := drawY (k := 19999) hw 4 4
  obtain ⟨i, w2, q2, b2, e2⟩ := drawY (k := 19998) b1 9 9
  have ad : addV (.int 1) (.int (i : Int)) = some (.int ((i + 1 : Nat) : Int)) := by rw [addV_int]; congr 2; omega
  generalize hn : i + 1 = n at *
  have hn1 : 1 ≤ n := by omega
  have hn9 : n ≤ 9 := by omega
  obtain ⟨m2, w3, q3, b3, e3⟩ := drawY (k := 19997) b2 7 7
  obtain ⟨m3, w4, q4, b4, e4⟩ := drawY (k := 19996) b3 26 26
  have pick : ∀ a : Nat, a < 4 → ∃ m : Nat, m ≤ 25 ∧ atV (.lst [.int 0, .int 1, .int (m2 : Int), .int (m3 : Int)]) (.int (a : Int)) = some (.int (m : Int)) := fun a ha => by
    have : a = 0 ∨ a = 1 ∨ a = 2 ∨ a = 3 := by omega
    rcases this with rfl | rfl | rfl | rfl
    · exact ⟨0, by omega, rfl⟩
    · exact ⟨1, by omega, rfl⟩
    · exact ⟨m2, by omega, rfl⟩
    · exact ⟨m3, by omega, rfl⟩
  have gl : ∀ κ, PM.gLst [.t (.int 0), .t (.int 1), .t (.int (m2 : Int)), .t (.int (m3 : Int))] κ = .ok [.int 0, .int 1, .int (m2 : Int), .int (m3 : Int)] κ := fun κ => gLst_ok rfl (szL _ (by simp))
  have zl : ∀ κ, szF [PV.int 0, .int 1, .int (m2 : Int), .int (m3 : Int)] κ = .ok [PV.int 0, .int 1, .int (m2 : Int), .int (m3 : Int)] κ := fun κ => szF_ok (szL _ (by simp))
  -- the first relation
  obtain ⟨wd, w5, q5, b5, e5⟩ := drawY (k := 19995) b4 8 8
  obtain ⟨a1, w6, q6, b6, e6⟩ := drawY (k := 19994) b5 4 4
  obtain ⟨n1, k1, p1⟩ := pick a1 q6
  obtain ⟨R, w7, r1, hR, b7⟩ := rel31 (j := 19000) (t := []) (n := n) (wd := wd) (m := n1) (b6.le (by omega)) hn1 hn9 (by omega) k1
  -- the second one
  obtain ⟨v, w8, q8, b8, e8⟩ := drawY (k := 18999) b7 8 8
  obtain ⟨a2, w9, q9, b9, e9⟩ := drawY (k := 18998) b8 4 4
  obtain ⟨n2, k2, p2'⟩ := pick a2 q9
  obtain ⟨S, wA, r2, hS, bA⟩ := rel31 (j := 18000) (t := []) (n := n) (wd := v) (m := n2) (b9.le (by omega)) hn1 hn9 (by omega) k2
  have e1 := e1 []; have e2 := e2 []; have e3 := e3 []; have e4 := e4 []; have e5 := e5 []; have e6 := e6 []; have e8 := e8 []; have e9 := e9 []
  have hR := hR.le k1
  have hS := hS.le k2
  have a10 : atV (relV wd R) (.int 0) = some (.int (wd : Int)) := rfl
  have a11 : atV (relV wd R) (.int 1) = some (.lst (R.map tupI)) := rfl
  have ev0 : PM.eqV (.int (way : Int)) (.int 0) = some (.bl (decide (way = 0))) := by rw [eqV_int]; congr 2; exact decide_eq_decide.mpr (by omega)
  have ev1 : PM.eqV (.int (way : Int)) (.int 1) = some (.bl (decide (way = 1))) := by rw [eqV_int]; congr 2; exact decide_eq_decide.mpr (by omega)
  have fn1 : ∀ w' : W3, fin 1 (.t (.bl true)) [wlw w', some (.lst [])] = .ok (.t (.bl true)) [wlw w'] := fun _ => rfl
  by_cases c0 : way = 0
  · rw [decide_eq_true c0] at ev0
    rw [decide_eq_false (by omega)] at ev1
    obtain ⟨a3, wB, qB, bB, eB⟩ := drawY (k := 17999) bA 4 4
    have eB := eB []
    obtain ⟨n3, k3, p3⟩ := pick a3 qB
    obtain ⟨S', wC, r3, hS', bC⟩ := rel31 (j := 17000) (t := []) (n := n) (wd := wd) (m := n3) (bB.le (by omega)) hn1 hn9 (by omega) k3
    obtain ⟨w', e, _⟩ := right_k4 (j := 0) (s1 := some (.t (.int (way : Int)))) (s3 := some (.t (.lst [.int 0, .int 1, .int (m2 : Int), .int (m3 : Int)]))) (bC.le (by omega)) hn1 hn9 hR (by omega) (hS'.le k3) (by omega)
    have fn1 := fn1 w'
    refine ⟨w', ?_⟩
    clear pick
    generalize hL : PV.lst [.int 0, .int 1, .int (m2 : Int), .int (m3 : Int)] = L4 at *
    generalize relV wd R = V1 at *
    generalize relV v S = V2 at *
    generalize relV wd S' = V3 at *
    generalize [wlw w', some (Cell.lst [])] = ν3 at *
    generalize [wlw w'] = ν4 at *
    simp [-atV_lst, -eqV_int, -addV_int, -gLst_4, fn__law_right, b__law_right, fnOf, startM, e1, e2, ad, e3, e4, gl, zl, hL, e5, e6, p1, r1, e8, e9, p2', r2, ev0, ev1, a10, eB, p3, r3, e, endM, fn1]
  rw [decide_eq_false c0] at ev0
  by_cases c1 : way = 1
  · rw [decide_eq_true c1] at ev1
    obtain ⟨S', wC, ls, sub, bC⟩ := some_y (t := []) (σ := [some (.c 0), some (.t (.int (way : Int))), some (.t (.int (n : Int))), some (.t (.lst [.int 0, .int 1, .int (m2 : Int), .int (m3 : Int)])), some (.t (relV wd R)), some (.t (relV v S)), none, none, none, none, none]) rfl (by simp) R wA 17000 (bA.le (by have := hR.len; omega))
    have hS' : Rl n wd 25 S' := ⟨fun r hr => hR.ok r (sub.subset hr), hR.pw.sublist sub, Nat.le_trans sub.length_le hR.len⟩
    obtain ⟨w', e, _⟩ := right_k4 (j := 0) (s1 := some (.t (.int (way : Int)))) (s3 := some (.t (.lst [.int 0, .int 1, .int (m2 : Int), .int (m3 : Int)]))) (bC.le (by omega)) hn1 hn9 hR (by omega) hS' (by omega)
    have gR : ∀ κ, gIt (.t (.lst (R.map tupI))) κ = .ok (R.map tupI) κ := fun _ => rfl
    have z : ∀ κ, szF (S'.map tupI) κ = .ok (S'.map tupI) κ := fun κ => szF_ok (szL _ (by have := hS'.len; rw [List.length_map]; omega))
    have gt : ∀ κ, PM.gTup [.t (.int (wd : Int)), .t (.lst (S'.map tupI))] κ = .ok (.t (relV wd S')) κ := fun κ => gTup_2
    have fn1 := fn1 w'
    refine ⟨w', ?_⟩
    clear pick
    generalize hL : PV.lst [.int 0, .int 1, .int (m2 : Int), .int (m3 : Int)] = L4 at *
    generalize relV wd R = V1 at *
    generalize relV v S = V2 at *
    generalize relV wd S' = V3 at *
    generalize S'.map tupI = ST at *
    generalize R.map tupI = RT at *
    generalize [wlw w', some (Cell.lst [])] = ν3 at *
    generalize [wlw w'] = ν4 at *
    simp [-atV_lst, -eqV_int, -addV_int, -gLst_4, -gTup_2, fn__law_right, b__law_right, fnOf, startM, e1, e2, ad, e3, e4, gl, zl, hL, e5, e6, p1, r1, e8, e9, p2', r2, ev0, ev1, a10, a11, gR, wipeM, ls, z, gt, e, endM, fn1]
  · rw [decide_eq_false c1] at ev1
    obtain ⟨w', e, _⟩ := right_k4 (j := 0) (s1 := some (.t (.int (way : Int)))) (s3 := some (.t (.lst [.int 0, .int 1, .int (m2 : Int), .int (m3 : Int)]))) (bA.le (by omega)) hn1 hn9 hR (by omega) hS (by omega)
    have fn1 := fn1 w'
    refine ⟨w', ?_⟩
    clear pick
    generalize hL : PV.lst [.int 0, .int 1, .int (m2 : Int), .int (m3 : Int)] = L4 at *
    generalize relV wd R = V1 at *
    generalize relV v S = V2 at *
    generalize [wlw w', some (Cell.lst [])] = ν3 at *
    generalize [wlw w'] = ν4 at *
    simp [-atV_lst, -eqV_int, -addV_int, -gLst_4, fn__law_right, b__law_right, fnOf, startM, e1, e2, ad, e3, e4, gl, zl, hL, e5, e6, p1, r1, e8, e9, p2', r2, ev0, ev1, e, endM, fn1]
end
section
/-! the law's turns, wells of the third powers: right_y of 20000 draws ahead */ -/
theorem well_y {i c : Int} : ∃ g : Int, fn__law_well [.t (.int c), .t (.int i)] [] = .ok (.c 0) [wlw (g, c % 2147483647 + 7919 * i, 0)] := by
  have md := mod_ok (i := c) (j := 2147483647) (by decide)
  have pw : powV (.int 10) (.int 18) = some (.int 1000000000000000000) := rfl
  have w1 : inW 0 = true := by decide
  have w2 : inW 1 = true := by decide
  have w3 : inW 7919 = true := by decide
  by_cases hn : (1000000000000000000 : Int) ≤ c
  · exact ⟨c * 1, by simp [fn__law_well, b__law_well, fnOf, startM, pw, hn, mulV, w1, w2, w3, md, wlw, endM, fin]; rfl⟩
  · exact ⟨c * 0, by simp [fn__law_well, b__law_well, fnOf, startM, pw, hn, mulV, w1, w2, w3, md, wlw, endM, fin]; rfl⟩
theorem law_turn3 {ns : List Int} {i : Nat} {c : Int} (hi : i ≤ 64) : sScope f1_law [some (.s ns), some (.t (.int (i : Int))), some (.t (.int c))] [] = .nx [some (.s ns), some (.t (.int (i : Int))), some (.t (.int c))] [] := by
  obtain ⟨g, eg⟩ := well_y (i := (i : Int)) (c := c)
  have h1 := Int.emod_nonneg c (b := 2147483647) (by decide)
  have h2 := Int.emod_lt_of_pos c (b := 2147483647) (by decide)
  obtain ⟨w', r⟩ := right_y (w0 := (g, c % 2147483647 + 7919 * (i : Int), 0)) ⟨by show 0 ≤ c % 2147483647 + 7919 * (i : Int); omega, by show c % 2147483647 + 7919 * (i : Int) ≤ 8589934592; omega, by show (0 : Int) ≤ 0; omega, by show (0 : Int) + ((20000 : Nat) : Int) ≤ _; omega⟩
  have key : f1_law [some (.s ns), some (.t (.int (i : Int))), some (.t (.int c))] [] = .nx [some (.s ns), some (.t (.int (i : Int))), some (.t (.int c))] [wlw w'] := by
    generalize (g, c % 2147483647 + 7919 * (i : Int), (0 : Int)) = W at *
    simp [f1_law, eg, r]
  unfold sScope
  rw [key]
  have hb : List.all [some (PM.Val.s ns), some (.t (.int (i : Int))), some (.t (.int c))] (belowV ([] : Store).length) = true := rfl
  simp only [hb, if_true]
  rfl
theorem law_loop3 (N : Int) (ns : List Int) (hn : ns.length ≤ 63) : ∃ s1 s2, forL (.tp [(.nm 1), (.nm 2)]) (sScope f1_law) (enumP (cutG (ns.map PV.int ++ [.int 0]) none (some N))) [some (.s ns), none, none] [] = .nx [some (.s ns), s1, s2] [] := by
  have hint : ∀ d ∈ cutG (ns.map PV.int ++ [.int 0]) none (some N), ∃ n : Int, d = .int n := by
    intro d hd
    rcases List.mem_append.mp (cut_mem hd) with h | h
    · obtain ⟨n, _, rfl⟩ := List.mem_map.mp h
      exact ⟨n, rfl⟩
    · exact ⟨0, List.mem_singleton.mp h⟩
  have hlen := cut_len (ns.map PV.int ++ [.int 0]) none (some N)
  rw [List.length_append, List.length_map, List.length_singleton] at hlen
  refine forL_inv (fun (_ : Nat) (σ : Sl) (μ : Store) => μ = [] ∧ ∃ s1 s2 : Option Val, σ = [some (.s ns), s1, s2]) (fun (r : RS) => ∃ s1 s2, r = .nx [some (.s ns), s1, s2] []) ⟨rfl, none, none, rfl⟩ ?_ ?_
  · rintro i d σ μ hd ⟨rfl, s1, s2, rfl⟩
    obtain ⟨z, hz, rfl⟩ := enumP_at hd
    have hi := (List.getElem?_eq_some_iff.mp hz).1
    obtain ⟨n, rfl⟩ := hint z (List.mem_of_getElem? hz)
    exact ⟨[some (.s ns), some (.t (.int i)), some (.t (.int n))], by simp, .inl ⟨_, _, .inl (law_turn3 (by omega)), rfl, _, _, rfl⟩⟩
  · rintro σ μ ⟨rfl, s1, s2, rfl⟩
    exact ⟨s1, s2, rfl⟩
end
/-! the law */ -/
theorem law_true : ∀ ns : List Int, ns.length ≤ 63 → fn_law [.s ns] [] = .ok (.t (.bl true)) [] := by
  intro ns hn
  have sz : ns.length + 1 ≤ sizeLine := szL _ (by omega)
  obtain ⟨s1, s2, loop⟩ := law_loop3 6 ns hn
  simp [fn_law, b_law, fnOf, startM, gScr, sz, loop]

end K31
namespace K31
open PySem PySem.Spec PyProof.Rows L2
open PM (MSt Fn fnOf)
structure Tx (K : PySem.W.Frag) (mg : Str → Option Value) : Prop where
  c_MOST_IN_LOT : ∃ t, mg "MOST_IN_LOT" = some (.int 400 t)
  c_MOST_WIDE : ∃ t, mg "MOST_WIDE" = some (.int 12 t)
  z_all : mg "all" = none
  z_bool : mg "bool" = none
  z_dict : mg "dict" = none
  z_enumerate : mg "enumerate" = none
  z_int : mg "int" = none
  z_isinstance : mg "isinstance" = none
  z_len : mg "len" = none
  z_list : mg "list" = none
  z_max : mg "max" = none
  z_min : mg "min" = none
  z_range : mg "range" = none
  z_set : mg "set" = none
  z_sorted : mg "sorted" = none
  z_sum : mg "sum" = none
  z_tuple : mg "tuple" = none
  g_NoFit : mg "NoFit" = some (.ref (He.ga K "NoFit"))
  g_NoLot : mg "NoLot" = some (.ref (He.ga K "NoLot"))
  g_NoRow : mg "NoRow" = some (.ref (He.ga K "NoRow"))
  g_TooMany : mg "TooMany" = some (.ref (He.ga K "TooMany"))
  g_WishError : mg "WishError" = some (.ref (He.ga K "WishError"))
  g__law_said : mg "_law_said" = some (.ref (He.ga K "_law_said"))
  g__law_draw : mg "_law_draw" = some (.ref (He.ga K "_law_draw"))
  g__law_relation : mg "_law_relation" = some (.ref (He.ga K "_law_relation"))
  g_is_whole : mg "is_whole" = some (.ref (He.ga K "is_whole"))
  g_is_thing : mg "is_thing" = some (.ref (He.ga K "is_thing"))
  g_is_row : mg "is_row" = some (.ref (He.ga K "is_row"))
  g_check_relation : mg "check_relation" = some (.ref (He.ga K "check_relation"))
  g_beside : mg "beside" = some (.ref (He.ga K "beside"))
  g__law_plain : mg "_law_plain" = some (.ref (He.ga K "_law_plain"))
  g__law_told_right : mg "_law_told_right" = some (.ref (He.ga K "_law_told_right"))
  g__law_beside_right : mg "_law_beside_right" = some (.ref (He.ga K "_law_beside_right"))
  g_crossed : mg "crossed" = some (.ref (He.ga K "crossed"))
  g__law_crossed_right : mg "_law_crossed_right" = some (.ref (He.ga K "_law_crossed_right"))
  g_chosen : mg "chosen" = some (.ref (He.ga K "chosen"))
  g__law_chosen_right : mg "_law_chosen_right" = some (.ref (He.ga K "_law_chosen_right"))
  g_equal_things : mg "equal_things" = some (.ref (He.ga K "equal_things"))
  g__law_all : mg "_law_all" = some (.ref (He.ga K "_law_all"))
  g__law_worth : mg "_law_worth" = some (.ref (He.ga K "_law_worth"))
  g__law_table : mg "_law_table" = some (.ref (He.ga K "_law_table"))
  g_things_at : mg "things_at" = some (.ref (He.ga K "things_at"))
  g_graph : mg "graph" = some (.ref (He.ga K "graph"))
  g__law_graph_right : mg "_law_graph_right" = some (.ref (He.ga K "_law_graph_right"))
  g__law_right : mg "_law_right" = some (.ref (He.ga K "_law_right"))
  g__law_well : mg "_law_well" = some (.ref (He.ga K "_law_well"))
  g_law : mg "law" = some (.ref (He.ga K "law"))
  ox_NoLot : OexC K (He.ga K "NoLot")
  ix_NoLot : PySem.W.findIn K (.ref (He.ga K "NoLot")) "__init__" = some (some (.ref (He.ma K (He.ga K "NoLot") "__init__"))) ∧ PySem.W.typeIn K (.ref (He.ma K (He.ga K "NoLot") "__init__")) = some (.type "function")
  nx_NoLot : PySem.W.findIn K (.ref (He.ga K "NoLot")) "at" = some none
  ex_NoLot : WD.ExD K (He.ga K "NoLot")
  ox_NoRow : OexC K (He.ga K "NoRow")
  ix_NoRow : PySem.W.findIn K (.ref (He.ga K "NoRow")) "__init__" = some (some (.ref (He.ma K (He.ga K "NoRow") "__init__"))) ∧ PySem.W.typeIn K (.ref (He.ma K (He.ga K "NoRow") "__init__")) = some (.type "function")
  nx_NoRow : PySem.W.findIn K (.ref (He.ga K "NoRow")) "at" = some none
  ex_NoRow : WD.ExD K (He.ga K "NoRow")
  ox_TooMany : OexC K (He.ga K "TooMany")
  ix_TooMany : PySem.W.findIn K (.ref (He.ga K "TooMany")) "__init__" = some (some (.ref (He.ma K (He.ga K "TooMany") "__init__"))) ∧ PySem.W.typeIn K (.ref (He.ma K (He.ga K "TooMany") "__init__")) = some (.type "function")
  nx_TooMany : PySem.W.findIn K (.ref (He.ga K "TooMany")) "many" = some none
  ex_TooMany : WD.ExD K (He.ga K "TooMany")
  px_WishError : WD.Par K (He.ga K "WishError")
  xo_NoFit : PySem.W.excIn K (He.ga K "NoFit") He.veBase "ValueError.__new__" = true ∧ PySem.W.keepIn K (.ref (He.ga K "NoFit")) = true ∧ PySem.W.subIn K (.ref (He.ga K "NoFit")) (.type "BaseException") = some true ∧ PySem.W.typeIn K (.ref (He.ga K "NoFit")) = some (.type "type")
  ex_NoFit : WD.ExD K (He.ga K "NoFit")
  em_NoFit_NoFit : PySem.W.exmOne K (.ref (He.ga K "NoFit")) (.ref (He.ga K "NoFit")) = some true
  ki_NoFit_NoFit : PySem.W.kitOne K (.ref (He.ga K "NoFit")) (.ref (He.ga K "NoFit")) = some true
  em_NoFit_NoLot : PySem.W.exmOne K (.ref (He.ga K "NoFit")) (.ref (He.ga K "NoLot")) = some false
  ki_NoFit_NoLot : PySem.W.kitOne K (.ref (He.ga K "NoFit")) (.ref (He.ga K "NoLot")) = some false
  em_NoFit_NoRow : PySem.W.exmOne K (.ref (He.ga K "NoFit")) (.ref (He.ga K "NoRow")) = some false
  ki_NoFit_NoRow : PySem.W.kitOne K (.ref (He.ga K "NoFit")) (.ref (He.ga K "NoRow")) = some false
  em_NoFit_TooMany : PySem.W.exmOne K (.ref (He.ga K "NoFit")) (.ref (He.ga K "TooMany")) = some false
  ki_NoFit_TooMany : PySem.W.kitOne K (.ref (He.ga K "NoFit")) (.ref (He.ga K "TooMany")) = some false
  em_NoFit_WishError : PySem.W.exmOne K (.ref (He.ga K "NoFit")) (.ref (He.ga K "WishError")) = some true
  ki_NoFit_WishError : PySem.W.kitOne K (.ref (He.ga K "NoFit")) (.ref (He.ga K "WishError")) = some true
  kv_NoFit : PySem.W.kitOne K (.ref (He.ga K "NoFit")) (.type "ValueError") = some true
  em_NoLot_NoFit : PySem.W.exmOne K (.ref (He.ga K "NoLot")) (.ref (He.ga K "NoFit")) = some false
  ki_NoLot_NoFit : PySem.W.kitOne K (.ref (He.ga K "NoLot")) (.ref (He.ga K "NoFit")) = some false
  em_NoLot_NoLot : PySem.W.exmOne K (.ref (He.ga K "NoLot")) (.ref (He.ga K "NoLot")) = some true
  ki_NoLot_NoLot : PySem.W.kitOne K (.ref (He.ga K "NoLot")) (.ref (He.ga K "NoLot")) = some true
  em_NoLot_NoRow : PySem.W.exmOne K (.ref (He.ga K "NoLot")) (.ref (He.ga K "NoRow")) = some false
  ki_NoLot_NoRow : PySem.W.kitOne K (.ref (He.ga K "NoLot")) (.ref (He.ga K "NoRow")) = some false
  em_NoLot_TooMany : PySem.W.exmOne K (.ref (He.ga K "NoLot")) (.ref (He.ga K "TooMany")) = some false
  ki_NoLot_TooMany : PySem.W.kitOne K (.ref (He.ga K "NoLot")) (.ref (He.ga K "TooMany")) = some false
  em_NoLot_WishError : PySem.W.exmOne K (.ref (He.ga K "NoLot")) (.ref (He.ga K "WishError")) = some true
  ki_NoLot_WishError : PySem.W.kitOne K (.ref (He.ga K "NoLot")) (.ref (He.ga K "WishError")) = some true
  kv_NoLot : PySem.W.kitOne K (.ref (He.ga K "NoLot")) (.type "ValueError") = some true
  em_NoRow_NoFit : PySem.W.exmOne K (.ref (He.ga K "NoRow")) (.ref (He.ga K "NoFit")) = some false
  ki_NoRow_NoFit : PySem.W.kitOne K (.ref (He.ga K "NoRow")) (.ref (He.ga K "NoFit")) = some false
  em_NoRow_NoLot : PySem.W.exmOne K (.ref (He.ga K "NoRow")) (.ref (He.ga K "NoLot")) = some false
  ki_NoRow_NoLot : PySem.W.kitOne K (.ref (He.ga K "NoRow")) (.ref (He.ga K "NoLot")) = some false
  em_NoRow_NoRow : PySem.W.exmOne K (.ref (He.ga K "NoRow")) (.ref (He.ga K "NoRow")) = some true
  ki_NoRow_NoRow : PySem.W.kitOne K (.ref (He.ga K "NoRow")) (.ref (He.ga K "NoRow")) = some true
  em_NoRow_TooMany : PySem.W.exmOne K (.ref (He.ga K "NoRow")) (.ref (He.ga K "TooMany")) = some false
  ki_NoRow_TooMany : PySem.W.kitOne K (.ref (He.ga K "NoRow")) (.ref (He.ga K "TooMany")) = some false
  em_NoRow_WishError : PySem.W.exmOne K (.ref (He.ga K "NoRow")) (.ref (He.ga K "WishError")) = some true
  ki_NoRow_WishError : PySem.W.kitOne K (.ref (He.ga K "NoRow")) (.ref (He.ga K "WishError")) = some true
  kv_NoRow : PySem.W.kitOne K (.ref (He.ga K "NoRow")) (.type "ValueError") = some true
  em_TooMany_NoFit : PySem.W.exmOne K (.ref (He.ga K "TooMany")) (.ref (He.ga K "NoFit")) = some false
  ki_TooMany_NoFit : PySem.W.kitOne K (.ref (He.ga K "TooMany")) (.ref (He.ga K "NoFit")) = some false
  em_TooMany_NoLot : PySem.W.exmOne K (.ref (He.ga K "TooMany")) (.ref (He.ga K "NoLot")) = some false
  ki_TooMany_NoLot : PySem.W.kitOne K (.ref (He.ga K "TooMany")) (.ref (He.ga K "NoLot")) = some false
  em_TooMany_NoRow : PySem.W.exmOne K (.ref (He.ga K "TooMany")) (.ref (He.ga K "NoRow")) = some false
  ki_TooMany_NoRow : PySem.W.kitOne K (.ref (He.ga K "TooMany")) (.ref (He.ga K "NoRow")) = some false
  em_TooMany_TooMany : PySem.W.exmOne K (.ref (He.ga K "TooMany")) (.ref (He.ga K "TooMany")) = some true
  ki_TooMany_TooMany : PySem.W.kitOne K (.ref (He.ga K "TooMany")) (.ref (He.ga K "TooMany")) = some true
  em_TooMany_WishError : PySem.W.exmOne K (.ref (He.ga K "TooMany")) (.ref (He.ga K "WishError")) = some true
  ki_TooMany_WishError : PySem.W.kitOne K (.ref (He.ga K "TooMany")) (.ref (He.ga K "WishError")) = some true
  kv_TooMany : PySem.W.kitOne K (.ref (He.ga K "TooMany")) (.type "ValueError") = some true
  F__law_draw : ∃ fd, FunD K "_law_draw" "_law_draw" (defArgs s__law_draw) (defBody s__law_draw) (defScope s__law_draw) [] [] (He.ga K "_law_draw") fd
  F__law_relation : ∃ fd, FunD K "_law_relation" "_law_relation" (defArgs s__law_relation) (defBody s__law_relation) (defScope s__law_relation) [] [] (He.ga K "_law_relation") fd
  F_NoLot_init : ∃ fd, FunD K "__init__" "NoLot.__init__" (defArgs s_NoLot_init) (defBody s_NoLot_init) (defScope s_NoLot_init) [] [] (He.ma K (He.ga K "NoLot") "__init__") fd
  F_NoRow_init : ∃ fd, FunD K "__init__" "NoRow.__init__" (defArgs s_NoRow_init) (defBody s_NoRow_init) (defScope s_NoRow_init) [] [] (He.ma K (He.ga K "NoRow") "__init__") fd
  F_TooMany_init : ∃ fd, FunD K "__init__" "TooMany.__init__" (defArgs s_TooMany_init) (defBody s_TooMany_init) (defScope s_TooMany_init) [] [] (He.ma K (He.ga K "TooMany") "__init__") fd
  F__law_said : ∃ fd, FunD K "_law_said" "_law_said" (defArgs s__law_said) (defBody s__law_said) (defScope s__law_said) [] [] (He.ga K "_law_said") fd
  F_is_whole : ∃ fd, FunD K "is_whole" "is_whole" (defArgs s_is_whole) (defBody s_is_whole) (defScope s_is_whole) [] [] (He.ga K "is_whole") fd
  F_is_thing : ∃ fd, FunD K "is_thing" "is_thing" (defArgs s_is_thing) (defBody s_is_thing) (defScope s_is_thing) [] [] (He.ga K "is_thing") fd
  F_is_row : ∃ fd, FunD K "is_row" "is_row" (defArgs s_is_row) (defBody s_is_row) (defScope s_is_row) [] [] (He.ga K "is_row") fd
  F_check_relation : ∃ fd, FunD K "check_relation" "check_relation" (defArgs s_check_relation) (defBody s_check_relation) (defScope s_check_relation) [] [] (He.ga K "check_relation") fd
  F_beside : ∃ fd, FunD K "beside" "beside" (defArgs s_beside) (defBody s_beside) (defScope s_beside) [] [] (He.ga K "beside") fd
  F__law_plain : ∃ fd, FunD K "_law_plain" "_law_plain" (defArgs s__law_plain) (defBody s__law_plain) (defScope s__law_plain) [] [] (He.ga K "_law_plain") fd
  F__law_told_right : ∃ fd, FunD K "_law_told_right" "_law_told_right" (defArgs s__law_told_right) (defBody s__law_told_right) (defScope s__law_told_right) [] [] (He.ga K "_law_told_right") fd
  F__law_beside_right : ∃ fd, FunD K "_law_beside_right" "_law_beside_right" (defArgs s__law_beside_right) (defBody s__law_beside_right) (defScope s__law_beside_right) [] [] (He.ga K "_law_beside_right") fd
  F_crossed : ∃ fd, FunD K "crossed" "crossed" (defArgs s_crossed) (defBody s_crossed) (defScope s_crossed) [] [] (He.ga K "crossed") fd
  F__law_crossed_right : ∃ fd, FunD K "_law_crossed_right" "_law_crossed_right" (defArgs s__law_crossed_right) (defBody s__law_crossed_right) (defScope s__law_crossed_right) [] [] (He.ga K "_law_crossed_right") fd
  F_chosen : ∃ fd, FunD K "chosen" "chosen" (defArgs s_chosen) (defBody s_chosen) (defScope s_chosen) [] [] (He.ga K "chosen") fd
  F__law_chosen_right : ∃ fd, FunD K "_law_chosen_right" "_law_chosen_right" (defArgs s__law_chosen_right) (defBody s__law_chosen_right) (defScope s__law_chosen_right) [] [] (He.ga K "_law_chosen_right") fd
  F_equal_things : ∃ fd, FunD K "equal_things" "equal_things" (defArgs s_equal_things) (defBody s_equal_things) (defScope s_equal_things) [] [] (He.ga K "equal_things") fd
  F__law_all : ∃ fd, FunD K "_law_all" "_law_all" (defArgs s__law_all) (defBody s__law_all) (defScope s__law_all) [] [] (He.ga K "_law_all") fd
  F__law_worth : ∃ fd, FunD K "_law_worth" "_law_worth" (defArgs s__law_worth) (defBody s__law_worth) (defScope s__law_worth) [] [] (He.ga K "_law_worth") fd
  F__law_table : ∃ fd, FunD K "_law_table" "_law_table" (defArgs s__law_table) (defBody s__law_table) (defScope s__law_table) [] [] (He.ga K "_law_table") fd
  F_things_at : ∃ fd, FunD K "things_at" "things_at" (defArgs s_things_at) (defBody s_things_at) (defScope s_things_at) [] [] (He.ga K "things_at") fd
  F_graph : ∃ fd, FunD K "graph" "graph" (defArgs s_graph) (defBody s_graph) (defScope s_graph) [] [] (He.ga K "graph") fd
  F__law_graph_right : ∃ fd, FunD K "_law_graph_right" "_law_graph_right" (defArgs s__law_graph_right) (defBody s__law_graph_right) (defScope s__law_graph_right) [] [] (He.ga K "_law_graph_right") fd
  F__law_right : ∃ fd, FunD K "_law_right" "_law_right" (defArgs s__law_right) (defBody s__law_right) (defScope s__law_right) [] [] (He.ga K "_law_right") fd
  F__law_well : ∃ fd, FunD K "_law_well" "_law_well" (defArgs s__law_well) (defBody s__law_well) (defScope s__law_well) [] [] (He.ga K "_law_well") fd
  F_law : ∃ fd, FunD K "law" "law" (defArgs s_law) (defBody s_law) (defScope s_law) [] [] (He.ga K "law") fd
theorem mkTx {K : PySem.W.Frag} {h : Heap} {mg : Str → Option Value} (X : K.In h) (G : h.Ns mainGlobals mg) (c : WD.SaysE fa fn fx K) : Tx K mg :=
  { c_MOST_IN_LOT := He.int_ok X G (c.says.fact 0 (f := .int "MOST_IN_LOT" 400) rfl),
    c_MOST_WIDE := He.int_ok X G (c.says.fact 1 (f := .int "MOST_WIDE" 12) rfl),
    z_all := He.free_ok X G (c.says.fact 2 (f := .free "all") rfl),
    z_bool := He.free_ok X G (c.says.fact 3 (f := .free "bool") rfl),
    z_dict := He.free_ok X G (c.says.fact 4 (f := .free "dict") rfl),
    z_enumerate := He.free_ok X G (c.says.fact 5 (f := .free "enumerate") rfl),
    z_int := He.free_ok X G (c.says.fact 6 (f := .free "int") rfl),
    z_isinstance := He.free_ok X G (c.says.fact 7 (f := .free "isinstance") rfl),
    z_len := He.free_ok X G (c.says.fact 8 (f := .free "len") rfl),
    z_list := He.free_ok X G (c.says.fact 9 (f := .free "list") rfl),
    z_max := He.free_ok X G (c.says.fact 10 (f := .free "max") rfl),
    z_min := He.free_ok X G (c.says.fact 11 (f := .free "min") rfl),
    z_range := He.free_ok X G (c.says.fact 12 (f := .free "range") rfl),
    z_set := He.free_ok X G (c.says.fact 13 (f := .free "set") rfl),
    z_sorted := He.free_ok X G (c.says.fact 14 (f := .free "sorted") rfl),
    z_sum := He.free_ok X G (c.says.fact 15 (f := .free "sum") rfl),
    z_tuple := He.free_ok X G (c.says.fact 16 (f := .free "tuple") rfl),
    g_NoFit := He.glo_ok X G (c.says.fact 17 (f := .glo "NoFit") rfl),
    g_NoLot := He.glo_ok X G (c.says.fact 18 (f := .glo "NoLot") rfl),
    g_NoRow := He.glo_ok X G (c.says.fact 19 (f := .glo "NoRow") rfl),
    g_TooMany := He.glo_ok X G (c.says.fact 20 (f := .glo "TooMany") rfl),
    g_WishError := He.glo_ok X G (c.says.fact 21 (f := .glo "WishError") rfl),
    g__law_said := He.glo_ok X G (c.says.fact 22 (f := .glo "_law_said") rfl),
    g__law_draw := He.glo_ok X G (c.says.fact 23 (f := .glo "_law_draw") rfl),
    g__law_relation := He.glo_ok X G (c.says.fact 24 (f := .glo "_law_relation") rfl),
    g_is_whole := He.glo_ok X G (c.says.fact 25 (f := .glo "is_whole") rfl),
    g_is_thing := He.glo_ok X G (c.says.fact 26 (f := .glo "is_thing") rfl),
    g_is_row := He.glo_ok X G (c.says.fact 27 (f := .glo "is_row") rfl),
    g_check_relation := He.glo_ok X G (c.says.fact 28 (f := .glo "check_relation") rfl),
    g_beside := He.glo_ok X G (c.says.fact 29 (f := .glo "beside") rfl),
    g__law_plain := He.glo_ok X G (c.says.fact 30 (f := .glo "_law_plain") rfl),
    g__law_told_right := He.glo_ok X G (c.says.fact 31 (f := .glo "_law_told_right") rfl),
    g__law_beside_right := He.glo_ok X G (c.says.fact 32 (f := .glo "_law_beside_right") rfl),
    g_crossed := He.glo_ok X G (c.says.fact 33 (f := .glo "crossed") rfl),
    g__law_crossed_right := He.glo_ok X G (c.says.fact 34 (f := .glo "_law_crossed_right") rfl),
    g_chosen := He.glo_ok X G (c.says.fact 35 (f := .glo "chosen") rfl),
    g__law_chosen_right := He.glo_ok X G (c.says.fact 36 (f := .glo "_law_chosen_right") rfl),
    g_equal_things := He.glo_ok X G (c.says.fact 37 (f := .glo "equal_things") rfl),
    g__law_all := He.glo_ok X G (c.says.fact 38 (f := .glo "_law_all") rfl),
    g__law_worth := He.glo_ok X G (c.says.fact 39 (f := .glo "_law_worth") rfl),
    g__law_table := He.glo_ok X G (c.says.fact 40 (f := .glo "_law_table") rfl),
    g_things_at := He.glo_ok X G (c.says.fact 41 (f := .glo "things_at") rfl),
    g_graph := He.glo_ok X G (c.says.fact 42 (f := .glo "graph") rfl),
    g__law_graph_right := He.glo_ok X G (c.says.fact 43 (f := .glo "_law_graph_right") rfl),
    g__law_right := He.glo_ok X G (c.says.fact 44 (f := .glo "_law_right") rfl),
    g__law_well := He.glo_ok X G (c.says.fact 45 (f := .glo "_law_well") rfl),
    g_law := He.glo_ok X G (c.says.fact 46 (f := .glo "law") rfl),
    ox_NoLot := WD.oex_ok (c.own 0 (f := .oex "NoLot") rfl),
    ix_NoLot := WD.ini_ok (c.own 1 (f := .ini "NoLot") rfl),
    nx_NoLot := WD.noa_ok (c.own 2 (f := .noa "NoLot" "at") rfl),
    ex_NoLot := WD.exd_ok' (c.own 3 (f := .exd "NoLot") rfl),
    ox_NoRow := WD.oex_ok (c.own 4 (f := .oex "NoRow") rfl),
    ix_NoRow := WD.ini_ok (c.own 5 (f := .ini "NoRow") rfl),
    nx_NoRow := WD.noa_ok (c.own 6 (f := .noa "NoRow" "at") rfl),
    ex_NoRow := WD.exd_ok' (c.own 7 (f := .exd "NoRow") rfl),
    ox_TooMany := WD.oex_ok (c.own 8 (f := .oex "TooMany") rfl),
    ix_TooMany := WD.ini_ok (c.own 9 (f := .ini "TooMany") rfl),
    nx_TooMany := WD.noa_ok (c.own 10 (f := .noa "TooMany" "many") rfl),
    ex_TooMany := WD.exd_ok' (c.own 11 (f := .exd "TooMany") rfl),
    px_WishError := WD.par_ok (c.own 12 (f := .par "WishError") rfl),
    xo_NoFit := He.exc_ok (c.says.fact 47 (f := .exc "NoFit") rfl),
    ex_NoFit := WD.exd_ok' (c.own 13 (f := .exd "NoFit") rfl),
    em_NoFit_NoFit := He.exm_ok (c.says.fact 48 (f := .exm "NoFit" "NoFit" true) rfl),
    ki_NoFit_NoFit := WD.kit_ok (c.own 14 (f := .kit "NoFit" "NoFit" true) rfl),
    em_NoFit_NoLot := He.exm_ok (c.says.fact 49 (f := .exm "NoFit" "NoLot" false) rfl),
    ki_NoFit_NoLot := WD.kit_ok (c.own 15 (f := .kit "NoFit" "NoLot" false) rfl),
    em_NoFit_NoRow := He.exm_ok (c.says.fact 50 (f := .exm "NoFit" "NoRow" false) rfl),
    ki_NoFit_NoRow := WD.kit_ok (c.own 16 (f := .kit "NoFit" "NoRow" false) rfl),
    em_NoFit_TooMany := He.exm_ok (c.says.fact 51 (f := .exm "NoFit" "TooMany" false) rfl),
    ki_NoFit_TooMany := WD.kit_ok (c.own 17 (f := .kit "NoFit" "TooMany" false) rfl),
    em_NoFit_WishError := He.exm_ok (c.says.fact 52 (f := .exm "NoFit" "WishError" true) rfl),
    ki_NoFit_WishError := WD.kit_ok (c.own 18 (f := .kit "NoFit" "WishError" true) rfl),
    kv_NoFit := WD.kiv_ok (c.own 19 (f := .kiv "NoFit" "ValueError" true) rfl),
    em_NoLot_NoFit := He.exm_ok (c.says.fact 53 (f := .exm "NoLot" "NoFit" false) rfl),
    ki_NoLot_NoFit := WD.kit_ok (c.own 20 (f := .kit "NoLot" "NoFit" false) rfl),
    em_NoLot_NoLot := He.exm_ok (c.says.fact 54 (f := .exm "NoLot" "NoLot" true) rfl),
    ki_NoLot_NoLot := WD.kit_ok (c.own 21 (f := .kit "NoLot" "NoLot" true) rfl),
    em_NoLot_NoRow := He.exm_ok (c.says.fact 55 (f := .exm "NoLot" "NoRow" false) rfl),
    ki_NoLot_NoRow := WD.kit_ok (c.own 22 (f := .kit "NoLot" "NoRow" false) rfl),
    em_NoLot_TooMany := He.exm_ok (c.says.fact 56 (f := .exm "NoLot" "TooMany" false) rfl),
    ki_NoLot_TooMany := WD.kit_ok (c.own 23 (f := .kit "NoLot" "TooMany" false) rfl),
    em_NoLot_WishError := He.exm_ok (c.says.fact 57 (f := .exm "NoLot" "WishError" true) rfl),
    ki_NoLot_WishError := WD.kit_ok (c.own 24 (f := .kit "NoLot" "WishError" true) rfl),
    kv_NoLot := WD.kiv_ok (c.own 25 (f := .kiv "NoLot" "ValueError" true) rfl),
    em_NoRow_NoFit := He.exm_ok (c.says.fact 58 (f := .exm "NoRow" "NoFit" false) rfl),
    ki_NoRow_NoFit := WD.kit_ok (c.own 26 (f := .kit "NoRow" "NoFit" false) rfl),
    em_NoRow_NoLot := He.exm_ok (c.says.fact 59 (f := .exm "NoRow" "NoLot" false) rfl),
    ki_NoRow_NoLot := WD.kit_ok (c.own 27 (f := .kit "NoRow" "NoLot" false) rfl),
    em_NoRow_NoRow := He.exm_ok (c.says.fact 60 (f := .exm "NoRow" "NoRow" true) rfl),
    ki_NoRow_NoRow := WD.kit_ok (c.own 28 (f := .kit "NoRow" "NoRow" true) rfl),
    em_NoRow_TooMany := He.exm_ok (c.says.fact 61 (f := .exm "NoRow" "TooMany" false) rfl),
    ki_NoRow_TooMany := WD.kit_ok (c.own 29 (f := .kit "NoRow" "TooMany" false) rfl),
    em_NoRow_WishError := He.exm_ok (c.says.fact 62 (f := .exm "NoRow" "WishError" true) rfl),
    ki_NoRow_WishError := WD.kit_ok (c.own 30 (f := .kit "NoRow" "WishError" true) rfl),
    kv_NoRow := WD.kiv_ok (c.own 31 (f := .kiv "NoRow" "ValueError" true) rfl),
    em_TooMany_NoFit := He.exm_ok (c.says.fact 63 (f := .exm "TooMany" "NoFit" false) rfl),
    ki_TooMany_NoFit := WD.kit_ok (c.own 32 (f := .kit "TooMany" "NoFit" false) rfl),
    em_TooMany_NoLot := He.exm_ok (c.says.fact 64 (f := .exm "TooMany" "NoLot" false) rfl),
    ki_TooMany_NoLot := WD.kit_ok (c.own 33 (f := .kit "TooMany" "NoLot" false) rfl),
    em_TooMany_NoRow := He.exm_ok (c.says.fact 65 (f := .exm "TooMany" "NoRow" false) rfl),
    ki_TooMany_NoRow := WD.kit_ok (c.own 34 (f := .kit "TooMany" "NoRow" false) rfl),
    em_TooMany_TooMany := He.exm_ok (c.says.fact 66 (f := .exm "TooMany" "TooMany" true) rfl),
    ki_TooMany_TooMany := WD.kit_ok (c.own 35 (f := .kit "TooMany" "TooMany" true) rfl),
    em_TooMany_WishError := He.exm_ok (c.says.fact 67 (f := .exm "TooMany" "WishError" true) rfl),
    ki_TooMany_WishError := WD.kit_ok (c.own 36 (f := .kit "TooMany" "WishError" true) rfl),
    kv_TooMany := WD.kiv_ok (c.own 37 (f := .kiv "TooMany" "ValueError" true) rfl),
    F__law_draw := c.says.def_ 0 (d := d__law_draw) rfl,
    F__law_relation := c.says.def_ 1 (d := d__law_relation) rfl,
    F_NoLot_init := c.says.def_ 2 (d := d_NoLot_init) rfl,
    F_NoRow_init := c.says.def_ 3 (d := d_NoRow_init) rfl,
    F_TooMany_init := c.says.def_ 4 (d := d_TooMany_init) rfl,
    F__law_said := c.says.def_ 5 (d := d__law_said) rfl,
    F_is_whole := c.says.def_ 6 (d := d_is_whole) rfl,
    F_is_thing := c.says.def_ 7 (d := d_is_thing) rfl,
    F_is_row := c.says.def_ 8 (d := d_is_row) rfl,
    F_check_relation := c.says.def_ 9 (d := d_check_relation) rfl,
    F_beside := c.says.def_ 10 (d := d_beside) rfl,
    F__law_plain := c.says.def_ 11 (d := d__law_plain) rfl,
    F__law_told_right := c.says.def_ 12 (d := d__law_told_right) rfl,
    F__law_beside_right := c.says.def_ 13 (d := d__law_beside_right) rfl,
    F_crossed := c.says.def_ 14 (d := d_crossed) rfl,
    F__law_crossed_right := c.says.def_ 15 (d := d__law_crossed_right) rfl,
    F_chosen := c.says.def_ 16 (d := d_chosen) rfl,
    F__law_chosen_right := c.says.def_ 17 (d := d__law_chosen_right) rfl,
    F_equal_things := c.says.def_ 18 (d := d_equal_things) rfl,
    F__law_all := c.says.def_ 19 (d := d__law_all) rfl,
    F__law_worth := c.says.def_ 20 (d := d__law_worth) rfl,
    F__law_table := c.says.def_ 21 (d := d__law_table) rfl,
    F_things_at := c.says.def_ 22 (d := d_things_at) rfl,
    F_graph := c.says.def_ 23 (d := d_graph) rfl,
    F__law_graph_right := c.says.def_ 24 (d := d__law_graph_right) rfl,
    F__law_right := c.says.def_ 25 (d := d__law_right) rfl,
    F__law_well := c.says.def_ 26 (d := d__law_well) rfl,
    F_law := c.says.def_ 27 (d := d_law) rfl }
section
variable {P : Program} {w : World} {K : PySem.W.Frag} {tb : List (Addr × Str)} {mg : Str → Option Value} {base : Heap}
theorem ok__law_draw (T : Tx K mg) : WD.Cal P w K mg base (L2.CX P w) 1 "_law_draw" (He.ga K "_law_draw") (PM.SpF ⟨K, tb⟩ 2 fn__law_draw) [] := by
  obtain ⟨fd, F⟩ := T.F__law_draw
  exact ⟨PM.fn_ok (K := ⟨K, tb⟩) (b := b__law_draw) F sc__law_draw (fun _ _ _ _ _ _ us hl => match us, hl with | [_, _], _ => rfl) (fun cdv A outer s H E hr =>
    (PM.ss_cons (PM.s_if (ps_if (PM.t_cmp (PM.op_gtV) (PM.i_ix (WD.huD hr) (PM.i_pv (pv 0)) PM.i_int (fun _ _ => rfl)) PM.i_int (nomark _))
        (PM.ss_cons (PM.s_set (ps_set (i := 2) sc__law_draw.nd rfl (.inl rfl) (PM.i_op PM.op_modV (PM.i_ix (WD.huD hr) (PM.i_pv (pv 0)) PM.i_int (fun _ _ => rfl)) (PM.i_pv (pv 1)))))
      (PM.ss_cons (PM.s_setL (ps_asg (PM.i_op PM.op_fdivV (PM.i_ix (WD.huD hr) (PM.i_pv (pv 0)) PM.i_int (fun _ _ => rfl)) (PM.i_pv (pv 1))) (pg_sub (PM.i_pv (pv 0)) PM.i_int set_list)))
      (PM.ss_one (PM.s_ret (ps_ret (PM.i_pv (pv 2)))))))
        PM.ss_nil))
      (PM.ss_cons (PM.s_setL (ps_asg (PM.i_op PM.op_addV (PM.i_ix (WD.huD hr) (PM.i_pv (pv 0)) PM.i_int (fun _ _ => rfl)) PM.i_int) (pg_sub (PM.i_pv (pv 0)) PM.i_int set_list)))
      (PM.ss_cons (PM.s_set (ps_set (i := 3) sc__law_draw.nd rfl (.inl rfl) (PM.i_op PM.op_modV (PM.i_op PM.op_powV (PM.i_op PM.op_addV (PM.i_ix (WD.huD hr) (PM.i_pv (pv 0)) PM.i_int (fun _ _ => rfl)) (PM.i_op PM.op_mulV PM.i_int (PM.i_ix (WD.huD hr) (PM.i_pv (pv 0)) PM.i_int (fun _ _ => rfl)))) PM.i_int) PM.i_int)))
      (PM.ss_cons (PM.s_set (ps_set (i := 3) sc__law_draw.nd rfl (.inl rfl) (PM.i_op PM.op_modV (PM.i_op PM.op_mulV (PM.i_pv (pv 3)) (PM.i_op PM.op_addV (PM.i_op PM.op_addV (PM.i_op PM.op_fdivV (PM.i_pv (pv 3)) PM.i_int) PM.i_int) (PM.i_ix (WD.huD hr) (PM.i_pv (pv 0)) PM.i_int (fun _ _ => rfl)))) PM.i_int)))
      (PM.ss_one (PM.s_ret (ps_ret (PM.i_op PM.op_modV (PM.i_op PM.op_fdivV (PM.i_pv (pv 3)) PM.i_int) (PM.i_pv (pv 1))))))))))), F.kp, T.g__law_draw⟩
end
section
variable {P : Program} {w : World} {K : PySem.W.Frag} {tb : List (Addr × Str)} {mg : Str → Option Value} {base : Heap}
theorem ok__law_relation (T : Tx K mg) : WD.Cal P w K mg base (L2.CX P w) 2 "_law_relation" (He.ga K "_law_relation") (PM.SpF ⟨K, tb⟩ 4 fn__law_relation) [] := by
  obtain ⟨fd, F⟩ := T.F__law_relation
  exact ⟨PM.fn_ok (K := ⟨K, tb⟩) (b := b__law_relation) F sc__law_relation (fun _ _ _ _ _ _ us hl => match us, hl with | [_, _, _, _], _ => rfl) (fun cdv A outer s H E hr =>
    (PM.ss_cons (PM.s_lcT (ps_setLc (i := 4) (own := [("_law_j", 5)]) rfl sc__law_relation.nd rfl rfl (sw_true rfl rfl rfl (by decide +kernel)) (PM.ii_range1 (by rfl) T.z_range (PM.a_cons (PM.i_pv (pv 3)) PM.a_nil)) (blkOk_by (N := ["_law_well_here", "_law_size", "_law_wide", "_law_many", "_law_rows", "_law_j", "_law_k"]) (sc := defScope s__law_relation) (by decide +kernel)) (fun _ _ _ _ _ => (PM.g_name (pg_name (i := 5) sc__law_relation.nd rfl (.inl rfl)))) (fun _ _ _ _ _ => PM.ts_yes) (fun _ _ _ _ _ => (PM.i_callTy PM.cr_tupleV (by rfl) T.z_tuple WD.bt_tuple (PM.a_cons (PM.i_ofF (PM.f_lc (pe_lc (own := [("_law_k", 6)]) rfl sc__law_relation.nd (PM.ii_range1 (by rfl) T.z_range (PM.a_cons (PM.i_pv (pv 2)) PM.a_nil)) (blkOk_by (by kernel_rfl)) (fun _ _ _ _ _ => (PM.g_name (pg_name (i := 6) sc__law_relation.nd rfl (.inl rfl)))) (fun _ _ _ _ _ => PM.ts_yes) (fun _ _ _ _ _ => (PM.i_call (ok__law_draw T) takes0 (hr.mono (by decide)) (by rfl) (PM.a_cons (PM.i_pv (pv 0)) (PM.a_cons (PM.i_pv (pv 1)) PM.a_nil))))))) PM.a_nil)))))
      (PM.ss_one (PM.s_ret (ps_ret (PM.i_tup (PM.a_cons (PM.i_pv (pv 2)) (PM.a_cons (PM.i_ofF (PM.f_sortSetG rfl hr.units (by rfl) T.z_sorted (by rfl) T.z_set (PM.a_cons (PM.i_pv (pv 4)) PM.a_nil))) PM.a_nil)))))))), F.kp, T.g__law_relation⟩
end
section
variable {P : Program} {w : World} {K : PySem.W.Frag} {mg : Str → Option Value} {base : Heap}
theorem xm_NoLot (T : Tx K mg) : WD.Xmk P w K mg base 1 "NoLot" (He.ga K "NoLot") (He.ma K (He.ga K "NoLot") "__init__") "at" := by
  obtain ⟨fd, F⟩ := T.F_NoLot_init
  refine ⟨WD.fn0_of F sc_NoLot_init (fun vs H Q E h => ?_) (fun _ _ _ _ _ _ us hl => match us, hl with | [_, _], _ => rfl) (fun cdv A outer s H vs Q E hr h => ?_), T.ox_NoLot, T.ix_NoLot, T.g_NoLot⟩
  · obtain ⟨a, v, rfl, ha, k⟩ := h
    rfl
  · obtain ⟨a, v, rfl, ha, k⟩ := h
    refine ⟨_, (pss_cons (ps_expr (WD.pe_oinit (by rfl) T.g_WishError T.px_WishError (pa_cons (pv 0) (pa_cons pe_str pa_nil))))
      (pss_one (ps_ost (pv 0) (pv 1)))), ?_⟩
    refine ⟨_, rfl, a, He.ga K "NoLot", [_], rfl, by show 1 ≤ 1000; decide, T.ox_NoLot, ha, ?_⟩
    exact ⟨_, rfl, _, rfl, a, He.ga K "NoLot", rfl, T.ox_NoLot, T.nx_NoLot, .inl ⟨ha, k⟩⟩
end
section
variable {P : Program} {w : World} {K : PySem.W.Frag} {mg : Str → Option Value} {base : Heap}
theorem xm_NoRow (T : Tx K mg) : WD.Xmk P w K mg base 1 "NoRow" (He.ga K "NoRow") (He.ma K (He.ga K "NoRow") "__init__") "at" := by
  obtain ⟨fd, F⟩ := T.F_NoRow_init
  refine ⟨WD.fn0_of F sc_NoRow_init (fun vs H Q E h => ?_) (fun _ _ _ _ _ _ us hl => match us, hl with | [_, _], _ => rfl) (fun cdv A outer s H vs Q E hr h => ?_), T.ox_NoRow, T.ix_NoRow, T.g_NoRow⟩
  · obtain ⟨a, v, rfl, ha, k⟩ := h
    rfl
  · obtain ⟨a, v, rfl, ha, k⟩ := h
    refine ⟨_, (pss_cons (ps_expr (WD.pe_oinit (by rfl) T.g_WishError T.px_WishError (pa_cons (pv 0) (pa_cons pe_str pa_nil))))
      (pss_one (ps_ost (pv 0) (pv 1)))), ?_⟩
    refine ⟨_, rfl, a, He.ga K "NoRow", [_], rfl, by show 1 ≤ 1000; decide, T.ox_NoRow, ha, ?_⟩
    exact ⟨_, rfl, _, rfl, a, He.ga K "NoRow", rfl, T.ox_NoRow, T.nx_NoRow, .inl ⟨ha, k⟩⟩
end
section
variable {P : Program} {w : World} {K : PySem.W.Frag} {mg : Str → Option Value} {base : Heap}
theorem xm_TooMany (T : Tx K mg) : WD.Xmk P w K mg base 1 "TooMany" (He.ga K "TooMany") (He.ma K (He.ga K "TooMany") "__init__") "many" := by
  obtain ⟨fd, F⟩ := T.F_TooMany_init
  refine ⟨WD.fn0_of F sc_TooMany_init (fun vs H Q E h => ?_) (fun _ _ _ _ _ _ us hl => match us, hl with | [_, _], _ => rfl) (fun cdv A outer s H vs Q E hr h => ?_), T.ox_TooMany, T.ix_TooMany, T.g_TooMany⟩
  · obtain ⟨a, v, rfl, ha, k⟩ := h
    rfl
  · obtain ⟨a, v, rfl, ha, k⟩ := h
    refine ⟨_, (pss_cons (ps_expr (WD.pe_oinit (by rfl) T.g_WishError T.px_WishError (pa_cons (pv 0) (pa_cons pe_str pa_nil))))
      (pss_one (ps_ost (pv 0) (pv 1)))), ?_⟩
    refine ⟨_, rfl, a, He.ga K "TooMany", [_], rfl, by show 1 ≤ 1000; decide, T.ox_TooMany, ha, ?_⟩
    exact ⟨_, rfl, _, rfl, a, He.ga K "TooMany", rfl, T.ox_TooMany, T.nx_TooMany, .inl ⟨ha, k⟩⟩
end
section
variable {P : Program} {w : World} {K : PySem.W.Frag} {tb : List (Addr × Str)} {mg : Str → Option Value} {base : Heap}
theorem bd__law_said (T : Tx K mg) {A : Around} {stk : List Env} {cdg : Value} {th : PM.ME} {L : PM.Lm} {s : Shared} {H : Hp} {k : Nat} (hr : Room k (A.deeper (envOfC "_law_said" (defScope s__law_said) s.heap.objs.size (He.ga K "_law_said") cdg))) (act : ∀ (pn : List (Addr × Obj)) (xe : Value → Shared → Prop), PM.Act ⟨K, tb⟩ ((cxOf C8.CX0 P w K mg base ["_law_ask", "e"] "_law_said" (defScope s__law_said) (He.ga K "_law_said") cdg A stk s H C8.E0).tr pn xe) "_law_ask" L th) :
    PM.ISs ⟨K, tb⟩ none PM.W0 (cxOf C8.CX0 P w K mg base ["_law_ask", "e"] "_law_said" (defScope s__law_said) (He.ga K "_law_said") cdg A stk s H C8.E0).nox (defBody s__law_said) (b__law_said L th) :=
    (PM.ss_one (PM.s_tryN [["TooMany"], ["NoLot", "NoRow"], ["WishError"]] rfl rfl sc__law_said.nd takes0 (fun W pn xe tk => PM.ss_open tk (fun E tk => (PM.ss_one (PM.s_ret (ps_ret (PM.i_tup2 (PM.a_cons PM.i_str (PM.a_cons (PM.i_act (act pn xe) tk) PM.a_nil))))))))
        (WD.ClausesT.cons (i := 1) (.one (c := .ref (He.ga K "TooMany")) ⟨by rfl, by decide, .inl T.g_TooMany⟩) rfl rfl (fun a oe cls d pn hz hf => (PM.ss_one (PM.s_ret (ps_ret (PM.i_tup (PM.a_cons PM.i_str (PM.a_cons (PM.i_xf (cs := ["TooMany"]) hz hf (PM.i_pv (pv 1)) (PM.fa_cons ⟨T.ex_TooMany, T.nx_TooMany⟩ PM.fa_nil)) PM.a_nil))))))) (WD.ClausesT.cons (i := 1) (.two (c1 := .ref (He.ga K "NoLot")) (c2 := .ref (He.ga K "NoRow")) ⟨by rfl, by decide, .inl T.g_NoLot⟩ ⟨by rfl, by decide, .inl T.g_NoRow⟩) rfl rfl (fun a oe cls d pn hz hf => (PM.ss_one (PM.s_ret (ps_ret (PM.i_tup (PM.a_cons (PM.i_ix (have q := WD.huD hr; q) (PM.i_ofF (PM.f_lst (PM.a_cons PM.i_str (PM.a_cons PM.i_str PM.a_nil)))) (PM.i_callTy PM.cr_intV (by rfl) T.z_int WD.bt_int (PM.a_cons (PM.i_isX (tab := [("NoLot", false), ("NoRow", true)]) (cv := (.ref (He.ga K "NoRow"))) hz hf (PM.i_pv (pv 1)) (pe_glob (v := .ref (He.ga K "NoRow")) (by rfl) T.g_NoRow rfl) (fun _ h => h) (PM.fa_cons ⟨T.ex_NoLot, T.ki_NoLot_NoRow⟩ (PM.fa_cons ⟨T.ex_NoRow, T.ki_NoRow_NoRow⟩ PM.fa_nil)) (by rfl) T.z_isinstance) PM.a_nil)) (fun _ _ => rfl)) (PM.a_cons (PM.i_xf (cs := ["NoLot", "NoRow"]) hz hf (PM.i_pv (pv 1)) (PM.fa_cons ⟨T.ex_NoLot, T.nx_NoLot⟩ (PM.fa_cons ⟨T.ex_NoRow, T.nx_NoRow⟩ PM.fa_nil))) PM.a_nil))))))) (WD.ClausesT.cons (i := 1) (.one (c := .ref (He.ga K "WishError")) ⟨by rfl, by decide, .inl T.g_WishError⟩) rfl rfl (fun a oe cls d pn hz hf => (PM.ss_one (PM.s_ret (ps_ret (PM.i_tup (PM.a_cons (PM.i_ix (have q := WD.huD hr; q) (PM.i_ofF (PM.f_lst (PM.a_cons PM.i_str (PM.a_cons PM.i_str PM.a_nil)))) (PM.i_callTy PM.cr_intV (by rfl) T.z_int WD.bt_int (PM.a_cons (PM.i_isX (tab := [("NoFit", true), ("NoLot", false), ("NoRow", false), ("TooMany", false)]) (cv := (.ref (He.ga K "NoFit"))) hz hf (PM.i_pv (pv 1)) (pe_glob (v := .ref (He.ga K "NoFit")) (by rfl) T.g_NoFit rfl) (fun _ h => h) (PM.fa_cons ⟨T.ex_NoFit, T.ki_NoFit_NoFit⟩ (PM.fa_cons ⟨T.ex_NoLot, T.ki_NoLot_NoFit⟩ (PM.fa_cons ⟨T.ex_NoRow, T.ki_NoRow_NoFit⟩ (PM.fa_cons ⟨T.ex_TooMany, T.ki_TooMany_NoFit⟩ PM.fa_nil)))) (by rfl) T.z_isinstance) PM.a_nil)) (fun _ _ => rfl)) (PM.a_cons PM.i_int PM.a_nil))))))) WD.ClausesT.nil))) ⟨(PM.fa_cons (PM.ea1 T.em_TooMany_TooMany) PM.fa_nil), (PM.fa_cons (PM.ea1 T.em_NoFit_TooMany) (PM.fa_cons (PM.ea1 T.em_NoLot_TooMany) (PM.fa_cons (PM.ea1 T.em_NoRow_TooMany) PM.fa_nil))), ⟨(PM.fa_cons (PM.ea2 T.em_NoLot_NoLot T.em_NoLot_NoRow) (PM.fa_cons (PM.ea2 T.em_NoRow_NoLot T.em_NoRow_NoRow) PM.fa_nil)), (PM.fa_cons (PM.ea2 T.em_NoFit_NoLot T.em_NoFit_NoRow) (PM.fa_cons (PM.ea2 T.em_TooMany_NoLot T.em_TooMany_NoRow) PM.fa_nil)), ⟨(PM.fa_cons (PM.ea1 T.em_NoFit_WishError) (PM.fa_cons (PM.ea1 T.em_NoLot_WishError) (PM.fa_cons (PM.ea1 T.em_NoRow_WishError) (PM.fa_cons (PM.ea1 T.em_TooMany_WishError) PM.fa_nil)))), PM.fa_nil, trivial⟩⟩⟩))
end
section
variable {P : Program} {w : World} {K : PySem.W.Frag} {tb : List (Addr × Str)} {mg : Str → Option Value} {base : Heap}
theorem ok_is_whole (T : Tx K mg) : WD.Cal P w K mg base (L2.CX P w) 1 "is_whole" (He.ga K "is_whole") (PM.SpF ⟨K, tb⟩ 1 fn_is_whole) [] := by
  obtain ⟨fd, F⟩ := T.F_is_whole
  exact ⟨PM.fn_ok (K := ⟨K, tb⟩) (b := b_is_whole) F sc_is_whole (fun _ _ _ _ _ _ us hl => match us, hl with | [_], _ => rfl) (fun cdv A outer s H E hr =>
    (PM.ss_one (PM.s_ret (ps_ret (PM.i_and (PM.i_isT (PM.i_pv (pv 0)) (pe_bltn (v := .ty "int") (by rfl) T.z_int WD.bt_int rfl) (by decide) (by rfl) T.z_isinstance) (pe_one (PM.i_not (PM.i_isT (PM.i_pv (pv 0)) (pe_bltn (v := .ty "bool") (by rfl) T.z_bool WD.bt_bool rfl) (by decide) (by rfl) T.z_isinstance)))))))), F.kp, T.g_is_whole⟩
end
section
variable {P : Program} {w : World} {K : PySem.W.Frag} {tb : List (Addr × Str)} {mg : Str → Option Value} {base : Heap}
theorem ok_is_thing (T : Tx K mg) : WD.Cal P w K mg base (L2.CX P w) 2 "is_thing" (He.ga K "is_thing") (PM.SpF ⟨K, tb⟩ 2 fn_is_thing) [] := by
  obtain ⟨fd, F⟩ := T.F_is_thing
  exact ⟨PM.fn_ok (K := ⟨K, tb⟩) (b := b_is_thing) F sc_is_thing (fun _ _ _ _ _ _ us hl => match us, hl with | [_, _], _ => rfl) (fun cdv A outer s H E hr =>
    (PM.ss_one (PM.s_ret (ps_ret (PM.i_and (PM.i_call (ok_is_whole T) (takes_of rfl rfl rfl rfl) (hr.mono (by decide)) (by rfl) (PM.a_cons (PM.i_pv (pv 0)) PM.a_nil)) (pe_one (PM.i_chain (PM.op_leV) (PM.op_ltV hr.units0) PM.i_int (PM.i_pv (pv 0)) (PM.i_pv (pv 1))))))))), F.kp, T.g_is_thing⟩
end
section
variable {P : Program} {w : World} {K : PySem.W.Frag} {tb : List (Addr × Str)} {mg : Str → Option Value} {base : Heap}
theorem ok_is_row (T : Tx K mg) : WD.Cal P w K mg base (L2.CX P w) 3 "is_row" (He.ga K "is_row") (PM.SpF ⟨K, tb⟩ 3 fn_is_row) [] := by
  obtain ⟨fd, F⟩ := T.F_is_row
  exact ⟨PM.fn_ok (K := ⟨K, tb⟩) (b := b_is_row) F sc_is_row (fun _ _ _ _ _ _ us hl => match us, hl with | [_, _, _], _ => rfl) (fun cdv A outer s H E hr =>
    (PM.ss_one (PM.s_ret (ps_ret (PM.i_and (PM.i_isT (PM.i_pv (pv 0)) (pe_bltn (v := .ty "tuple") (by rfl) T.z_tuple WD.bt_tuple rfl) (by decide) (by rfl) T.z_isinstance) (PM.i_and (PM.i_cmp (PM.op_eqV hr.units) (PM.i_callB (PM.cr_lenV) (by rfl) T.z_len WD.bt_len (PM.a_cons (PM.i_pv (pv 0)) PM.a_nil)) (PM.i_pv (pv 1)) (nomark _)) (pe_one (PM.i_callB (PM.cr_allV rfl) (by rfl) T.z_all WD.bt_all (PM.a_cons (PM.i_ofF (PM.f_lc (pe_lc (own := [("one", 3)]) rfl sc_is_row.nd (PM.ii_val (PM.i_pv (pv 0))) (blkOk_by (N := ["row", "wide", "size", "one"]) (sc := defScope s_is_row) (by decide +kernel)) (fun _ _ _ _ _ => (PM.g_name (pg_name (i := 3) sc_is_row.nd rfl (.inl rfl)))) (fun _ _ _ _ _ => PM.ts_yes) (fun _ _ _ _ _ => (PM.i_call (ok_is_thing T) takes0 (hr.mono (by decide)) (by rfl) (PM.a_cons (PM.i_pv (pv 3)) (PM.a_cons (PM.i_pv (pv 2)) PM.a_nil))))))) PM.a_nil))))))))), F.kp, T.g_is_row⟩
end
section
variable {P : Program} {w : World} {K : PySem.W.Frag} {tb : List (Addr × Str)} {mg : Str → Option Value} {base : Heap}
theorem ok_check_relation (T : Tx K mg) : WD.Cal P w K mg base (L2.CX P w) 4 "check_relation" (He.ga K "check_relation") (PM.SpF ⟨K, tb⟩ 2 fn_check_relation) [] := by
  obtain ⟨fd, F⟩ := T.F_check_relation
  exact ⟨PM.fn_ok (K := ⟨K, tb⟩) (b := b_check_relation) F sc_check_relation (fun _ _ _ _ _ _ us hl => match us, hl with | [_, _], _ => rfl) (fun cdv A outer s H E hr =>
    (PM.ss_cons (PM.s_if (ps_if (PW.pt (PM.w_or (PM.t_not (PM.t_val (PM.i_isT (PM.i_pv (pv 1)) (pe_bltn (v := .ty "tuple") (by rfl) T.z_tuple WD.bt_tuple rfl) (by decide) (by rfl) T.z_isinstance))) (pw_or1 (PM.t_cmp (PM.op_neV hr.units) (PM.i_callB (PM.cr_lenV) (by rfl) T.z_len WD.bt_len (PM.a_cons (PM.i_pv (pv 1)) PM.a_nil)) PM.i_int (nomark _)))))
        (PM.ss_one (PM.s_raise (ps_raise rfl (takes_of rfl rfl rfl rfl) (WD.pmk_x (xm_NoLot T) (hr.mono (by decide)) (by rfl) (PM.a_cons (PM.i_un PM.un_negV PM.i_int) PM.a_nil)))))
        PM.ss_nil))
      (PM.ss_cons (PM.s_asg (ps_asg (PM.i_pv (pv 1)) (PM.g_tup (PM.gs_cons (PM.g_name (pg_name (i := 2) sc_check_relation.nd rfl (.inl rfl))) (PM.gs_cons (PM.g_name (pg_name (i := 3) sc_check_relation.nd rfl (.inl rfl))) PM.gs_nil)) rfl)))
      (PM.ss_cons (PM.s_if (ps_if (PW.pt (PM.w_or (PM.t_not (PM.t_val (PM.i_call (ok_is_whole T) (takes_of rfl rfl rfl rfl) (hr.mono (by decide)) (by rfl) (PM.a_cons (PM.i_pv (pv 2)) PM.a_nil)))) (PM.w_or (PM.t_not (PM.t_chain (PM.op_leV) (PM.op_leV) PM.i_int (PM.i_pv (pv 2)) (PM.i_gi (by rfl) T.c_MOST_WIDE))) (pw_or1 (PM.t_not (PM.t_val (PM.i_isT (PM.i_pv (pv 3)) (pe_bltn (v := .ty "list") (by rfl) T.z_list WD.bt_list rfl) (by decide) (by rfl) T.z_isinstance)))))))
        (PM.ss_one (PM.s_raise (ps_raise rfl (takes_of rfl rfl rfl rfl) (WD.pmk_x (xm_NoLot T) (hr.mono (by decide)) (by rfl) (PM.a_cons (PM.i_un PM.un_negV PM.i_int) PM.a_nil)))))
        PM.ss_nil))
      (PM.ss_one (PM.s_for (passes_of rfl) rfl (PM.ii_enum (by rfl) T.z_enumerate (PM.a_cons (PM.i_pv (pv 3)) PM.a_nil)) (PM.g_tup (PM.gs_cons (PM.g_name (pg_name (i := 4) sc_check_relation.nd rfl (.inl rfl))) (PM.gs_cons (PM.g_name (pg_name (i := 5) sc_check_relation.nd rfl (.inl rfl))) PM.gs_nil)) rfl)
        (PM.ss_one (PM.s_if (ps_if (PW.pt (PM.w_or (PM.t_not (PM.t_val (PM.i_call (ok_is_row T) (takes_of rfl rfl rfl rfl) (hr.mono (by decide)) (by rfl) (PM.a_cons (PM.i_pv (pv 5)) (PM.a_cons (PM.i_pv (pv 2)) (PM.a_cons (PM.i_pv (pv 0)) PM.a_nil)))))) (pw_or1 (PW.pt (PM.w_and (PM.t_cmp (PM.op_gtV) (PM.i_pv (pv 4)) PM.i_int (nomark _)) (pw_and1 (PM.t_not (PM.t_cmp (PM.op_ltV hr.units0) (PM.i_ix (WD.huD hr) (PM.i_pv (pv 3)) (PM.i_op PM.op_subV (PM.i_pv (pv 4)) PM.i_int) (fun _ _ => rfl)) (PM.i_pv (pv 5)) (nomark _)))))))))
        (PM.ss_one (PM.s_raise (ps_raise rfl (takes_of rfl rfl rfl rfl) (WD.pmk_x (xm_NoLot T) (hr.mono (by decide)) (by rfl) (PM.a_cons (PM.i_pv (pv 4)) PM.a_nil)))))
        PM.ss_nil))))))))), F.kp, T.g_check_relation⟩
end
section
variable {P : Program} {w : World} {K : PySem.W.Frag} {tb : List (Addr × Str)} {mg : Str → Option Value} {base : Heap}
theorem ok_beside (T : Tx K mg) : WD.Cal P w K mg base (L2.CX P w) 5 "beside" (He.ga K "beside") (PM.SpF ⟨K, tb⟩ 3 fn_beside) [] := by
  obtain ⟨fd, F⟩ := T.F_beside
  exact ⟨PM.fn_ok (K := ⟨K, tb⟩) (b := b_beside) F sc_beside (fun _ _ _ _ _ _ us hl => match us, hl with | [_, _, _], _ => rfl) (fun cdv A outer s H E hr =>
    (PM.ss_cons (PM.s_exp (PM.i_call (ok_check_relation T) (takes_of rfl rfl rfl rfl) (hr.mono (by decide)) (by rfl) (PM.a_cons (PM.i_pv (pv 0)) (PM.a_cons (PM.i_pv (pv 1)) PM.a_nil))))
      (PM.ss_cons (PM.s_exp (PM.i_call (ok_check_relation T) (takes_of rfl rfl rfl rfl) (hr.mono (by decide)) (by rfl) (PM.a_cons (PM.i_pv (pv 0)) (PM.a_cons (PM.i_pv (pv 2)) PM.a_nil))))
      (PM.ss_cons (PM.s_if (ps_if (PM.t_cmp (PM.op_gtV) (PM.i_op PM.op_addV (PM.i_ix (WD.huD hr) (PM.i_pv (pv 1)) PM.i_int (fun _ _ => rfl)) (PM.i_ix (WD.huD hr) (PM.i_pv (pv 2)) PM.i_int (fun _ _ => rfl))) (PM.i_gi (by rfl) T.c_MOST_WIDE) (nomark _))
        (PM.ss_one (PM.s_raise (ps_raise rfl (takes_of rfl rfl rfl rfl) (WD.pmk_x (xm_TooMany T) (hr.mono (by decide)) (by rfl) (PM.a_cons (PM.i_op PM.op_addV (PM.i_ix (WD.huD hr) (PM.i_pv (pv 1)) PM.i_int (fun _ _ => rfl)) (PM.i_ix (WD.huD hr) (PM.i_pv (pv 2)) PM.i_int (fun _ _ => rfl))) PM.a_nil)))))
        PM.ss_nil))
      (PM.ss_cons (PM.s_if (ps_if (PM.t_cmp (PM.op_gtV) (PM.i_op PM.op_mulV (PM.i_callB (PM.cr_lenV) (by rfl) T.z_len WD.bt_len (PM.a_cons (PM.i_ix (WD.huD hr) (PM.i_pv (pv 1)) PM.i_int (fun _ _ => rfl)) PM.a_nil)) (PM.i_callB (PM.cr_lenV) (by rfl) T.z_len WD.bt_len (PM.a_cons (PM.i_ix (WD.huD hr) (PM.i_pv (pv 2)) PM.i_int (fun _ _ => rfl)) PM.a_nil))) (PM.i_gi (by rfl) T.c_MOST_IN_LOT) (nomark _))
        (PM.ss_one (PM.s_raise (ps_raise rfl (takes_of rfl rfl rfl rfl) (WD.pmk_x (xm_TooMany T) (hr.mono (by decide)) (by rfl) (PM.a_cons (PM.i_op PM.op_mulV (PM.i_callB (PM.cr_lenV) (by rfl) T.z_len WD.bt_len (PM.a_cons (PM.i_ix (WD.huD hr) (PM.i_pv (pv 1)) PM.i_int (fun _ _ => rfl)) PM.a_nil)) (PM.i_callB (PM.cr_lenV) (by rfl) T.z_len WD.bt_len (PM.a_cons (PM.i_ix (WD.huD hr) (PM.i_pv (pv 2)) PM.i_int (fun _ _ => rfl)) PM.a_nil))) PM.a_nil)))))
        PM.ss_nil))
      (PM.ss_cons (PM.s_set (ps_set (i := 3) sc_beside.nd rfl (.inl rfl) (PM.i_cellF (PM.f_lst PM.a_nil))))
      (PM.ss_cons (PM.s_for (passes_of rfl) rfl (PM.ii_val (PM.i_ix (WD.huD hr) (PM.i_pv (pv 1)) PM.i_int (fun _ _ => rfl))) (PM.g_name (pg_name (i := 4) sc_beside.nd rfl (.inr rfl)))
        (PM.ss_one (PM.s_exp (PM.i_ext (PM.i_pv (pv 3)) (PM.a_cons (PM.i_ofF (PM.f_lc (pe_lc (own := [("behind", 5)]) rfl sc_beside.nd (PM.ii_val (PM.i_ix (WD.huD hr) (PM.i_pv (pv 2)) PM.i_int (fun _ _ => rfl))) (blkOk_by (N := ["size", "one", "other", "found", "row", "behind"]) (sc := defScope s_beside) (by decide +kernel)) (fun _ _ _ _ _ => (PM.g_name (pg_name (i := 5) sc_beside.nd rfl (.inl rfl)))) (fun _ _ _ _ _ => PM.ts_yes) (fun _ _ _ _ _ => (PM.i_op PM.op_addV (PM.i_pv (pv 4)) (PM.i_pv (pv 5))))))) PM.a_nil) (fun ho ha => WD.k_pe_bm K PySem.F.plainAttrs_list PySem.F.slot_list_extend PySem.F.type_list_extend mt_extend ho ha)))))
      (PM.ss_one (PM.s_ret (ps_ret (PM.i_tupG (PM.a_cons (PM.i_op PM.op_addV (PM.i_ix (WD.huD hr) (PM.i_pv (pv 1)) PM.i_int (fun _ _ => rfl)) (PM.i_ix (WD.huD hr) (PM.i_pv (pv 2)) PM.i_int (fun _ _ => rfl))) (PM.a_cons (PM.i_pv (pv 3)) PM.a_nil))))))))))))), F.kp, T.g_beside⟩
end
section
variable {P : Program} {w : World} {K : PySem.W.Frag} {tb : List (Addr × Str)} {mg : Str → Option Value} {base : Heap}
theorem ok__law_plain (T : Tx K mg) : WD.Cal P w K mg base (L2.CX P w) 1 "_law_plain" (He.ga K "_law_plain") (PM.SpF ⟨K, tb⟩ 1 fn__law_plain) [] := by
  obtain ⟨fd, F⟩ := T.F__law_plain
  exact ⟨PM.fn_ok (K := ⟨K, tb⟩) (b := b__law_plain) F sc__law_plain (fun _ _ _ _ _ _ us hl => match us, hl with | [_], _ => rfl) (fun cdv A outer s H E hr =>
    (PM.ss_cons (PM.s_if (ps_if (PW.pt (PM.w_or (PM.t_not (PM.t_val (PM.i_isT (PM.i_pv (pv 0)) (pe_bltn (v := .ty "tuple") (by rfl) T.z_tuple WD.bt_tuple rfl) (by decide) (by rfl) T.z_isinstance))) (PM.w_or (PM.t_cmp (PM.op_neV hr.units) (PM.i_callB (PM.cr_lenV) (by rfl) T.z_len WD.bt_len (PM.a_cons (PM.i_pv (pv 0)) PM.a_nil)) PM.i_int (nomark _)) (pw_or1 (PM.t_not (PM.t_val (PM.i_isT (PM.i_ix (WD.huD hr) (PM.i_pv (pv 0)) PM.i_int (fun _ _ => rfl)) (pe_bltn (v := .ty "list") (by rfl) T.z_list WD.bt_list rfl) (by decide) (by rfl) T.z_isinstance)))))))
        (PM.ss_one (PM.s_ret (ps_ret PM.i_bl)))
        PM.ss_nil))
      (PM.ss_cons (PM.s_set (ps_set (i := 1) sc__law_plain.nd rfl (.inl rfl) (PM.i_cellF (PM.f_lst (PM.a_cons (PM.i_ix (WD.huD hr) (PM.i_pv (pv 0)) PM.i_int (fun _ _ => rfl)) PM.a_nil)))))
      (PM.ss_cons (PM.s_for (passes_of rfl) rfl (PM.ii_val (PM.i_ix (WD.huD hr) (PM.i_pv (pv 0)) PM.i_int (fun _ _ => rfl))) (PM.g_name (pg_name (i := 2) sc__law_plain.nd rfl (.inl rfl)))
        (PM.ss_cons (PM.s_if (ps_if (PM.t_not (PM.t_val (PM.i_isT (PM.i_pv (pv 2)) (pe_bltn (v := .ty "tuple") (by rfl) T.z_tuple WD.bt_tuple rfl) (by decide) (by rfl) T.z_isinstance)))
        (PM.ss_one (PM.s_ret (ps_ret PM.i_bl)))
        PM.ss_nil))
      (PM.ss_one (PM.s_exp (PM.i_ext (PM.i_pv (pv 1)) (PM.a_cons (PM.i_ofF (PM.f_callTy (PM.cr_listF rfl) (by rfl) T.z_list WD.bt_list (PM.a_cons (PM.i_pv (pv 2)) PM.a_nil))) PM.a_nil) (fun ho ha => WD.k_pe_bm K PySem.F.plainAttrs_list PySem.F.slot_list_extend PySem.F.type_list_extend mt_extend ho ha))))))
      (PM.ss_frz (i := 1) (PM.ss_one (PM.s_ret (ps_ret (PM.i_callB (PM.cr_allV rfl) (by rfl) T.z_all WD.bt_all (PM.a_cons (PM.i_ofF (PM.f_lc (pe_lc (own := [("_law_one", 3)]) rfl sc__law_plain.nd (PM.ii_val (PM.i_pv (pv 1))) (blkOk_by (N := ["_law_found", "_law_numbers", "_law_row", "_law_one"]) (sc := defScope s__law_plain) (by decide +kernel)) (fun _ _ _ _ _ => (PM.g_name (pg_name (i := 3) sc__law_plain.nd rfl (.inl rfl)))) (fun _ _ _ _ _ => PM.ts_yes) (fun _ _ _ _ _ => (PM.i_and (PM.i_isT (PM.i_pv (pv 3)) (pe_bltn (v := .ty "int") (by rfl) T.z_int WD.bt_int rfl) (by decide) (by rfl) T.z_isinstance) (pe_one (PM.i_not (PM.i_isT (PM.i_pv (pv 3)) (pe_bltn (v := .ty "bool") (by rfl) T.z_bool WD.bt_bool rfl) (by decide) (by rfl) T.z_isinstance)))))))) PM.a_nil)))))))))), F.kp, T.g__law_plain⟩
end
section
variable {P : Program} {w : World} {K : PySem.W.Frag} {tb : List (Addr × Str)} {mg : Str → Option Value} {base : Heap}
theorem ok__law_told_right (T : Tx K mg) : WD.Cal P w K mg base (L2.CX P w) 5 "_law_told_right" (He.ga K "_law_told_right") (PM.SpF ⟨K, tb⟩ 4 fn__law_told_right) [] := by
  obtain ⟨fd, F⟩ := T.F__law_told_right
  exact ⟨PM.fn_ok (K := ⟨K, tb⟩) (b := b__law_told_right) F sc__law_told_right (fun _ _ _ _ _ _ us hl => match us, hl with | [_, _, _, _], _ => rfl) (fun cdv A outer s H E hr =>
    (PM.ss_cons (PM.s_if (ps_if (PW.pt (PM.w_or (PM.t_cmp (PM.op_neV hr.units) (PM.i_ix2 (PM.i_pv (pv 1)) PM.i_int (fun _ _ => rfl)) PM.i_str (nomark _)) (PM.w_or (PM.t_not (PM.t_val (PM.i_lend (j := 1) (PM.i_call (ok__law_plain T) (takes_of rfl rfl rfl rfl) (hr.mono (by decide)) (by rfl) (PM.a_cons (PM.i_ix (WD.huD hr) (PM.i_pv (pv 1)) PM.i_int (fun _ _ => rfl)) PM.a_nil))))) (pw_or1 (PM.t_lend (j := 1) (PM.t_cmp (PM.op_neV hr.units) (PM.i_ix (WD.huD hr) (PM.i_pv (pv 1)) PM.i_int (fun _ _ => rfl)) (PM.i_tup (PM.a_cons (PM.i_pv (pv 2)) (PM.a_cons (PM.i_ofF (PM.f_sortSetG rfl hr.units (by rfl) T.z_sorted (by rfl) T.z_set (PM.a_cons (PM.i_pv (pv 3)) PM.a_nil))) PM.a_nil))) (nomark _)))))))
        (PM.ss_one (PM.s_ret (ps_ret PM.i_bl)))
        PM.ss_nil))
      (PM.ss_cons (PM.s_if (ps_if (PM.t_cmp (PM.op_isntV) (PM.i_lend (j := 1) (PM.i_call (ok_check_relation T) (takes_of rfl rfl rfl rfl) (hr.mono (by decide)) (by rfl) (PM.a_cons (PM.i_pv (pv 0)) (PM.a_cons (PM.i_ix (WD.huD hr) (PM.i_pv (pv 1)) PM.i_int (fun _ _ => rfl)) PM.a_nil)))) PM.i_non (nomark _))
        (PM.ss_one (PM.s_ret (ps_ret PM.i_bl)))
        PM.ss_nil))
      (PM.ss_cons (PM.s_exp (PM.i_mut0 PM.mt_clearM (PM.i_ixG (PM.i_ix2 (PM.i_pv (pv 1)) PM.i_int (fun _ _ => rfl)) PM.i_int (fun _ _ => rfl)) (fun hm ho => WD.k_pe_bm0 K PySem.F.plainAttrs_list PySem.F.slot_list_clear PySem.F.type_list_clear hm ho)))
      (PM.ss_one (PM.s_ret (ps_ret PM.i_bl))))))), F.kp, T.g__law_told_right⟩
end
section
variable {P : Program} {w : World} {K : PySem.W.Frag} {mg : Str → Option Value} {base : Heap}
theorem ok__law_beside_right (T : Tx K mg) (B : PM.LamF K mks mg base) : WD.Cal P w K mg base (L2.CX P w) 8 "_law_beside_right" (He.ga K "_law_beside_right") (PM.SpF ⟨K, PM.tabsOf K mks⟩ 3 fn__law_beside_right) [] := by
  obtain ⟨fd, F⟩ := T.F__law_beside_right
  exact ⟨PM.fn_okC (K := ⟨K, PM.tabsOf K mks⟩) (b := b__law_beside_right) F sc__law_beside_right (fun _ _ _ _ _ _ us hl => match us, hl with | [_, _, _], _ => rfl) (fun A outer s H E hr =>
    (PM.ss_cons (PM.s_set (ps_set (i := 3) sc__law_beside_right.nd rfl (.inl rfl) (PM.i_lam (bL := b__law_said) (th := l1__law_beside_right) (Ng := ["_law_ask", "e"]) (k := 5) (c := PM.cdA K "_law_beside_right") (P := PM.tbA K "_law_beside_right") (by rfl) T.g__law_said T.F__law_said sc__law_said (fun _ _ _ _ _ _ us hl => match us, hl with | [_], _ => rfl) rfl (.inl rfl)
        (fun cdg L s H hr act => bd__law_said T hr act) (B.tab "_law_beside_right" (by decide)) (B.code "_law_beside_right" (by decide)) (PM.tabs_mem (by decide)) (PM.tabs_uni B.nd (by decide)) (hr.mono (by decide)) (LamX.lamS_by (by kernel_rfl)) rfl (fun _ _ _ _ _ => rfl)
        (fun A outer s H E f c' hr => (PM.i_call (ok_beside T) (takes_of rfl rfl rfl rfl) (hr.mono (by decide)) (by rfl) (PM.a_cons (PM.i_pv (pv 0)) (PM.a_cons (PM.i_pv (pv 1)) (PM.a_cons (PM.i_pv (pv 2)) PM.a_nil))))))))
      (PM.ss_cons (PM.s_if (ps_if (PM.t_cmp (PM.op_gtV) (PM.i_op PM.op_addV (PM.i_ix (WD.huD hr) (PM.i_pv (pv 1)) PM.i_int (fun _ _ => rfl)) (PM.i_ix (WD.huD hr) (PM.i_pv (pv 2)) PM.i_int (fun _ _ => rfl))) PM.i_int (nomark _))
        (PM.ss_one (PM.s_ret (ps_ret (PM.i_cmp (PM.op_eqV hr.units) (PM.i_pv (pv 3)) (PM.i_tup (PM.a_cons PM.i_str (PM.a_cons (PM.i_op PM.op_addV (PM.i_ix (WD.huD hr) (PM.i_pv (pv 1)) PM.i_int (fun _ _ => rfl)) (PM.i_ix (WD.huD hr) (PM.i_pv (pv 2)) PM.i_int (fun _ _ => rfl))) PM.a_nil))) (nomark _)))))
        PM.ss_nil))
      (PM.ss_cons (PM.s_if (ps_if (PM.t_cmp (PM.op_gtV) (PM.i_op PM.op_mulV (PM.i_callB (PM.cr_lenV) (by rfl) T.z_len WD.bt_len (PM.a_cons (PM.i_ix (WD.huD hr) (PM.i_pv (pv 1)) PM.i_int (fun _ _ => rfl)) PM.a_nil)) (PM.i_callB (PM.cr_lenV) (by rfl) T.z_len WD.bt_len (PM.a_cons (PM.i_ix (WD.huD hr) (PM.i_pv (pv 2)) PM.i_int (fun _ _ => rfl)) PM.a_nil))) PM.i_int (nomark _))
        (PM.ss_one (PM.s_ret (ps_ret (PM.i_cmp (PM.op_eqV hr.units) (PM.i_pv (pv 3)) (PM.i_tup (PM.a_cons PM.i_str (PM.a_cons (PM.i_op PM.op_mulV (PM.i_callB (PM.cr_lenV) (by rfl) T.z_len WD.bt_len (PM.a_cons (PM.i_ix (WD.huD hr) (PM.i_pv (pv 1)) PM.i_int (fun _ _ => rfl)) PM.a_nil)) (PM.i_callB (PM.cr_lenV) (by rfl) T.z_len WD.bt_len (PM.a_cons (PM.i_ix (WD.huD hr) (PM.i_pv (pv 2)) PM.i_int (fun _ _ => rfl)) PM.a_nil))) PM.a_nil))) (nomark _)))))
        PM.ss_nil))
      (PM.ss_cons (PM.s_set (ps_set (i := 4) sc__law_beside_right.nd rfl (.inl rfl) (PM.i_cellF (PM.f_lst PM.a_nil))))
      (PM.ss_cons (PM.s_for (passes_of rfl) rfl (PM.ii_val (PM.i_ix (WD.huD hr) (PM.i_pv (pv 1)) PM.i_int (fun _ _ => rfl))) (PM.g_name (pg_name (i := 5) sc__law_beside_right.nd rfl (.inr rfl)))
        (PM.ss_one (PM.s_exp (PM.i_ext (PM.i_pv (pv 4)) (PM.a_cons (PM.i_ofF (PM.f_lc (pe_lc (own := [("_law_behind", 6)]) rfl sc__law_beside_right.nd (PM.ii_val (PM.i_ix (WD.huD hr) (PM.i_pv (pv 2)) PM.i_int (fun _ _ => rfl))) (blkOk_by (N := ["_law_size", "_law_one", "_law_other", "_law_said_here", "_law_rows", "_law_row", "_law_behind"]) (sc := defScope s__law_beside_right) (by decide +kernel)) (fun _ _ _ _ _ => (PM.g_name (pg_name (i := 6) sc__law_beside_right.nd rfl (.inl rfl)))) (fun _ _ _ _ _ => PM.ts_yes) (fun _ _ _ _ _ => (PM.i_op PM.op_addV (PM.i_pv (pv 5)) (PM.i_pv (pv 6))))))) PM.a_nil) (fun ho ha => WD.k_pe_bm K PySem.F.plainAttrs_list PySem.F.slot_list_extend PySem.F.type_list_extend mt_extend ho ha)))))
      (PM.ss_frz (i := 4) (PM.ss_one (PM.s_ret (ps_ret (PM.i_call (ok__law_told_right T) (takes_of rfl rfl rfl rfl) (hr.mono (by decide)) (by rfl) (PM.a_cons (PM.i_pv (pv 0)) (PM.a_cons (PM.i_pv (pv 3)) (PM.a_cons (PM.i_op PM.op_addV (PM.i_ix (WD.huD hr) (PM.i_pv (pv 1)) PM.i_int (fun _ _ => rfl)) (PM.i_ix (WD.huD hr) (PM.i_pv (pv 2)) PM.i_int (fun _ _ => rfl))) (PM.a_cons (PM.i_pv (pv 4)) PM.a_nil))))))))))))))), F.kp, T.g__law_beside_right⟩
end
section
variable {P : Program} {w : World} {K : PySem.W.Frag} {tb : List (Addr × Str)} {mg : Str → Option Value} {base : Heap}
theorem ok_crossed (T : Tx K mg) : WD.Cal P w K mg base (L2.CX P w) 5 "crossed" (He.ga K "crossed") (PM.SpF ⟨K, tb⟩ 3 fn_crossed) [] := by
  obtain ⟨fd, F⟩ := T.F_crossed
  exact ⟨PM.fn_ok (K := ⟨K, tb⟩) (b := b_crossed) F sc_crossed (fun _ _ _ _ _ _ us hl => match us, hl with | [_, _, _], _ => rfl) (fun cdv A outer s H E hr =>
    (PM.ss_cons (PM.s_exp (PM.i_call (ok_check_relation T) (takes_of rfl rfl rfl rfl) (hr.mono (by decide)) (by rfl) (PM.a_cons (PM.i_pv (pv 0)) (PM.a_cons (PM.i_pv (pv 1)) PM.a_nil))))
      (PM.ss_cons (PM.s_exp (PM.i_call (ok_check_relation T) (takes_of rfl rfl rfl rfl) (hr.mono (by decide)) (by rfl) (PM.a_cons (PM.i_pv (pv 0)) (PM.a_cons (PM.i_pv (pv 2)) PM.a_nil))))
      (PM.ss_cons (PM.s_if (ps_if (PM.t_cmp (PM.op_neV hr.units) (PM.i_ix (WD.huD hr) (PM.i_pv (pv 1)) PM.i_int (fun _ _ => rfl)) (PM.i_ix (WD.huD hr) (PM.i_pv (pv 2)) PM.i_int (fun _ _ => rfl)) (nomark _))
        (PM.ss_one (PM.s_raise0 (ps_raise rfl (takes_of rfl rfl rfl rfl) (pmk_own PySem.F.excBase_ValueError T.xo_NoFit.1 T.g_NoFit T.xo_NoFit.2.1 (raises_own T.xo_NoFit.2.2.1 T.xo_NoFit.2.2.2) (by rfl)))))
        PM.ss_nil))
      (PM.ss_cons (PM.s_set (ps_set (i := 3) sc_crossed.nd rfl (.inr rfl) (PM.i_frz (PM.i_dictT rfl (Room.units hr) (by rfl) T.z_dict (PM.i_ofF (PM.f_lc (pe_lc (own := [("row", 4)]) rfl sc_crossed.nd (PM.ii_val (PM.i_ix (WD.huD hr) (PM.i_pv (pv 2)) PM.i_int (fun _ _ => rfl))) (blkOk_by (N := ["size", "one", "other", "known", "row"]) (sc := defScope s_crossed) (by decide +kernel)) (fun _ _ _ _ _ => (PM.g_name (pg_name (i := 4) sc_crossed.nd rfl (.inl rfl)))) (fun _ _ _ _ _ => PM.ts_yes) (fun _ _ _ _ _ => (PM.i_tup (PM.a_cons (PM.i_pv (pv 4)) (PM.a_cons PM.i_bl PM.a_nil)))))))))))
      (PM.ss_one (PM.s_ret (ps_ret (PM.i_tupG (PM.a_cons (PM.i_ix (WD.huD hr) (PM.i_pv (pv 1)) PM.i_int (fun _ _ => rfl)) (PM.a_cons (PM.i_cellF (PM.f_lc (pe_lc (own := [("row", 4)]) rfl sc_crossed.nd (PM.ii_val (PM.i_ix (WD.huD hr) (PM.i_pv (pv 1)) PM.i_int (fun _ _ => rfl))) (blkOk_by (N := ["size", "one", "other", "known", "row"]) (sc := defScope s_crossed) (by decide +kernel)) (fun _ _ _ _ _ => (PM.g_name (pg_name (i := 4) sc_crossed.nd rfl (.inl rfl)))) (fun _ _ _ _ _ => (pts_one (PM.t_cmp (PM.op_inV (WD.hu65 hr)) (PM.i_pv (pv 4)) (PM.i_pv (pv 3)) (by rfl)))) (fun _ _ _ _ _ => (PM.i_pv (pv 4)))))) PM.a_nil))))))))))), F.kp, T.g_crossed⟩
end
section
variable {P : Program} {w : World} {K : PySem.W.Frag} {mg : Str → Option Value} {base : Heap}
theorem ok__law_crossed_right (T : Tx K mg) (B : PM.LamF K mks mg base) : WD.Cal P w K mg base (L2.CX P w) 8 "_law_crossed_right" (He.ga K "_law_crossed_right") (PM.SpF ⟨K, PM.tabsOf K mks⟩ 3 fn__law_crossed_right) [] := by
  obtain ⟨fd, F⟩ := T.F__law_crossed_right
  exact ⟨PM.fn_okC (K := ⟨K, PM.tabsOf K mks⟩) (b := b__law_crossed_right) F sc__law_crossed_right (fun _ _ _ _ _ _ us hl => match us, hl with | [_, _, _], _ => rfl) (fun A outer s H E hr =>
    (PM.ss_cons (PM.s_set (ps_set (i := 3) sc__law_crossed_right.nd rfl (.inl rfl) (PM.i_lam (bL := b__law_said) (th := l1__law_crossed_right) (Ng := ["_law_ask", "e"]) (k := 5) (c := PM.cdA K "_law_crossed_right") (P := PM.tbA K "_law_crossed_right") (by rfl) T.g__law_said T.F__law_said sc__law_said (fun _ _ _ _ _ _ us hl => match us, hl with | [_], _ => rfl) rfl (.inl rfl)
        (fun cdg L s H hr act => bd__law_said T hr act) (B.tab "_law_crossed_right" (by decide)) (B.code "_law_crossed_right" (by decide)) (PM.tabs_mem (by decide)) (PM.tabs_uni B.nd (by decide)) (hr.mono (by decide)) (LamX.lamS_by (by kernel_rfl)) rfl (fun _ _ _ _ _ => rfl)
        (fun A outer s H E f c' hr => (PM.i_call (ok_crossed T) (takes_of rfl rfl rfl rfl) (hr.mono (by decide)) (by rfl) (PM.a_cons (PM.i_pv (pv 0)) (PM.a_cons (PM.i_pv (pv 1)) (PM.a_cons (PM.i_pv (pv 2)) PM.a_nil))))))))
      (PM.ss_cons (PM.s_if (ps_if (PM.t_cmp (PM.op_neV hr.units) (PM.i_ix (WD.huD hr) (PM.i_pv (pv 1)) PM.i_int (fun _ _ => rfl)) (PM.i_ix (WD.huD hr) (PM.i_pv (pv 2)) PM.i_int (fun _ _ => rfl)) (nomark _))
        (PM.ss_one (PM.s_ret (ps_ret (PM.i_cmp (PM.op_eqV hr.units) (PM.i_pv (pv 3)) (PM.i_tup (PM.a_cons PM.i_str (PM.a_cons PM.i_int PM.a_nil))) (nomark _)))))
        PM.ss_nil))
      (PM.ss_one (PM.s_ret (ps_ret (PM.i_call (ok__law_told_right T) (takes_of rfl rfl rfl rfl) (hr.mono (by decide)) (by rfl) (PM.a_cons (PM.i_pv (pv 0)) (PM.a_cons (PM.i_pv (pv 3)) (PM.a_cons (PM.i_ix (WD.huD hr) (PM.i_pv (pv 1)) PM.i_int (fun _ _ => rfl)) (PM.a_cons (PM.i_ofF (PM.f_lc (pe_lc (own := [("_law_row", 4)]) rfl sc__law_crossed_right.nd (PM.ii_val (PM.i_ix (WD.huD hr) (PM.i_pv (pv 1)) PM.i_int (fun _ _ => rfl))) (blkOk_by (N := ["_law_size", "_law_one", "_law_other", "_law_said_here", "_law_row"]) (sc := defScope s__law_crossed_right) (by decide +kernel)) (fun _ _ _ _ _ => (PM.g_name (pg_name (i := 4) sc__law_crossed_right.nd rfl (.inl rfl)))) (fun _ _ _ _ _ => (pts_one (PM.t_cmp (PM.op_inV (WD.hu65 hr)) (PM.i_pv (pv 4)) (PM.i_ix (WD.huD hr) (PM.i_pv (pv 2)) PM.i_int (fun _ _ => rfl)) (by rfl)))) (fun _ _ _ _ _ => (PM.i_pv (pv 4)))))) PM.a_nil))))))))))), F.kp, T.g__law_crossed_right⟩
end
section
variable {P : Program} {w : World} {K : PySem.W.Frag} {tb : List (Addr × Str)} {mg : Str → Option Value} {base : Heap}
theorem ok_chosen (T : Tx K mg) : WD.Cal P w K mg base (L2.CX P w) 5 "chosen" (He.ga K "chosen") (PM.SpF ⟨K, tb⟩ 3 fn_chosen) [] := by
  obtain ⟨fd, F⟩ := T.F_chosen
  exact ⟨PM.fn_ok (K := ⟨K, tb⟩) (b := b_chosen) F sc_chosen (fun _ _ _ _ _ _ us hl => match us, hl with | [_, _, _], _ => rfl) (fun cdv A outer s H E hr =>
    (PM.ss_cons (PM.s_exp (PM.i_call (ok_check_relation T) (takes_of rfl rfl rfl rfl) (hr.mono (by decide)) (by rfl) (PM.a_cons (PM.i_pv (pv 0)) (PM.a_cons (PM.i_pv (pv 1)) PM.a_nil))))
      (PM.ss_cons (PM.s_if (ps_if (PW.pt (PM.w_or (PM.t_not (PM.t_val (PM.i_isT (PM.i_pv (pv 2)) (pe_bltn (v := .ty "list") (by rfl) T.z_list WD.bt_list rfl) (by decide) (by rfl) T.z_isinstance))) (pw_or1 (PM.t_cmp (PM.op_gtV) (PM.i_callB (PM.cr_lenV) (by rfl) T.z_len WD.bt_len (PM.a_cons (PM.i_pv (pv 2)) PM.a_nil)) (PM.i_gi (by rfl) T.c_MOST_WIDE) (nomark _)))))
        (PM.ss_one (PM.s_raise (ps_raise rfl (takes_of rfl rfl rfl rfl) (WD.pmk_x (xm_NoRow T) (hr.mono (by decide)) (by rfl) (PM.a_cons PM.i_int PM.a_nil)))))
        PM.ss_nil))
      (PM.ss_cons (PM.s_for (passes_of rfl) rfl (PM.ii_enum (by rfl) T.z_enumerate (PM.a_cons (PM.i_pv (pv 2)) PM.a_nil)) (PM.g_tup (PM.gs_cons (PM.g_name (pg_name (i := 3) sc_chosen.nd rfl (.inl rfl))) (PM.gs_cons (PM.g_name (pg_name (i := 4) sc_chosen.nd rfl (.inl rfl))) PM.gs_nil)) rfl)
        (PM.ss_one (PM.s_if (ps_if (PM.t_not (PM.t_val (PM.i_call (ok_is_thing T) (takes_of rfl rfl rfl rfl) (hr.mono (by decide)) (by rfl) (PM.a_cons (PM.i_pv (pv 4)) (PM.a_cons (PM.i_ix (WD.huD hr) (PM.i_pv (pv 1)) PM.i_int (fun _ _ => rfl)) PM.a_nil)))))
        (PM.ss_one (PM.s_raise (ps_raise rfl (takes_of rfl rfl rfl rfl) (WD.pmk_x (xm_NoRow T) (hr.mono (by decide)) (by rfl) (PM.a_cons (PM.i_pv (pv 3)) PM.a_nil)))))
        PM.ss_nil))))
      (PM.ss_one (PM.s_ret (ps_ret (PM.i_tupG (PM.a_cons (PM.i_callB (PM.cr_lenV) (by rfl) T.z_len WD.bt_len (PM.a_cons (PM.i_pv (pv 2)) PM.a_nil)) (PM.a_cons (PM.i_cellF (PM.f_sortSetG rfl hr.units (by rfl) T.z_sorted (by rfl) T.z_set (PM.a_cons (PM.i_ofF (PM.f_lc (pe_lc (own := [("row", 5)]) rfl sc_chosen.nd (PM.ii_val (PM.i_ix (WD.huD hr) (PM.i_pv (pv 1)) PM.i_int (fun _ _ => rfl))) (blkOk_by (N := ["size", "relation", "places", "at", "place", "row"]) (sc := defScope s_chosen) (by decide +kernel)) (fun _ _ _ _ _ => (PM.g_name (pg_name (i := 5) sc_chosen.nd rfl (.inr rfl)))) (fun _ _ _ _ _ => PM.ts_yes) (fun _ _ _ _ _ => (PM.i_callTy PM.cr_tupleV (by rfl) T.z_tuple WD.bt_tuple (PM.a_cons (PM.i_ofF (PM.f_lc (pe_lc (own := [("place", 4)]) rfl sc_chosen.nd (PM.ii_val (PM.i_pv (pv 2))) (blkOk_by (by kernel_rfl)) (fun _ _ _ _ _ => (PM.g_name (pg_name (i := 4) sc_chosen.nd rfl (.inl rfl)))) (fun _ _ _ _ _ => PM.ts_yes) (fun _ _ _ _ _ => (PM.i_ix (WD.huD hr) (PM.i_pv (pv 5)) (PM.i_pv (pv 4)) (fun _ _ => rfl)))))) PM.a_nil)))))) PM.a_nil))) PM.a_nil)))))))))), F.kp, T.g_chosen⟩
end
section
variable {P : Program} {w : World} {K : PySem.W.Frag} {mg : Str → Option Value} {base : Heap}
theorem ok__law_chosen_right (T : Tx K mg) (B : PM.LamF K mks mg base) : WD.Cal P w K mg base (L2.CX P w) 8 "_law_chosen_right" (He.ga K "_law_chosen_right") (PM.SpF ⟨K, PM.tabsOf K mks⟩ 3 fn__law_chosen_right) [] := by
  obtain ⟨fd, F⟩ := T.F__law_chosen_right
  exact ⟨PM.fn_okC (K := ⟨K, PM.tabsOf K mks⟩) (b := b__law_chosen_right) F sc__law_chosen_right (fun _ _ _ _ _ _ us hl => match us, hl with | [_, _, _], _ => rfl) (fun A outer s H E hr =>
    (PM.ss_cons (PM.s_set (ps_set (i := 3) sc__law_chosen_right.nd rfl (.inr rfl) (PM.i_ofF (PM.f_lst PM.a_nil))))
      (PM.ss_cons (PM.s_if (ps_if (PM.t_cmp (PM.op_gtV) (PM.i_ix (WD.huD hr) (PM.i_pv (pv 2)) PM.i_int (fun _ _ => rfl)) PM.i_int (nomark _))
        (PM.ss_one (PM.s_set (ps_set (i := 3) sc__law_chosen_right.nd rfl (.inr rfl) (PM.i_ofF (PM.f_lc (pe_lc (own := [("_law_k", 8)]) rfl sc__law_chosen_right.nd (PM.ii_range1 (by rfl) T.z_range (PM.a_cons (PM.i_call (ok__law_draw T) (takes_of rfl rfl rfl rfl) (hr.mono (by decide)) (by rfl) (PM.a_cons (PM.i_pv (pv 0)) (PM.a_cons (PM.i_ix (WD.huD hr) (PM.i_ofF (PM.f_lst (PM.a_cons PM.i_int (PM.a_cons PM.i_int PM.a_nil)))) (PM.i_call (ok__law_draw T) (takes_of rfl rfl rfl rfl) (hr.mono (by decide)) (by rfl) (PM.a_cons (PM.i_pv (pv 0)) (PM.a_cons PM.i_int PM.a_nil))) (fun _ _ => rfl)) PM.a_nil))) PM.a_nil)) (blkOk_by (N := ["_law_well_here", "_law_size", "_law_one", "_law_places", "_law_handed", "_law_said_here", "_law_rows", "_law_row", "_law_k", "_law_place"]) (sc := defScope s__law_chosen_right) (by decide +kernel)) (fun _ _ _ _ _ => (PM.g_name (pg_name (i := 8) sc__law_chosen_right.nd rfl (.inl rfl)))) (fun _ _ _ _ _ => PM.ts_yes) (fun _ _ _ _ _ => (PM.i_call (ok__law_draw T) takes0 (hr.mono (by decide)) (by rfl) (PM.a_cons (PM.i_pv (pv 0)) (PM.a_cons (PM.i_ix (WD.huD hr) (PM.i_pv (pv 2)) PM.i_int (fun _ _ => rfl)) PM.a_nil))))))))))
        PM.ss_nil))
      (PM.ss_cons (PM.s_set (ps_set (i := 4) sc__law_chosen_right.nd rfl (.inr rfl) (PM.i_ofF (PM.f_callTy (PM.cr_listF rfl) (by rfl) T.z_list WD.bt_list (PM.a_cons (PM.i_pv (pv 3)) PM.a_nil)))))
      (PM.ss_cons (PM.s_set (ps_set (i := 5) sc__law_chosen_right.nd rfl (.inl rfl) (PM.i_lam (bL := b__law_said) (th := l1__law_chosen_right) (Ng := ["_law_ask", "e"]) (k := 5) (c := PM.cdA K "_law_chosen_right") (P := PM.tbA K "_law_chosen_right") (by rfl) T.g__law_said T.F__law_said sc__law_said (fun _ _ _ _ _ _ us hl => match us, hl with | [_], _ => rfl) rfl (.inl rfl)
        (fun cdg L s H hr act => bd__law_said T hr act) (B.tab "_law_chosen_right" (by decide)) (B.code "_law_chosen_right" (by decide)) (PM.tabs_mem (by decide)) (PM.tabs_uni B.nd (by decide)) (hr.mono (by decide)) (LamX.lamS_by (by kernel_rfl)) rfl (fun _ _ _ _ _ => rfl)
        (fun A outer s H E f c' hr => (PM.i_call (ok_chosen T) (takes_of rfl rfl rfl rfl) (hr.mono (by decide)) (by rfl) (PM.a_cons (PM.i_pv (pv 1)) (PM.a_cons (PM.i_pv (pv 2)) (PM.a_cons (PM.i_pv (pv 4)) PM.a_nil))))))))
      (PM.ss_cons (PM.s_if (ps_if (PM.t_cmp (PM.op_neV hr.units) (PM.i_pv (pv 4)) (PM.i_pv (pv 3)) (nomark _))
        (PM.ss_one (PM.s_ret (ps_ret PM.i_bl)))
        PM.ss_nil))
      (PM.ss_cons (PM.s_lcT (ps_setLc (i := 6) (own := [("_law_row", 7)]) rfl sc__law_chosen_right.nd rfl rfl (sw_true rfl rfl rfl (by decide +kernel)) (PM.ii_val (PM.i_ix (WD.huD hr) (PM.i_pv (pv 2)) PM.i_int (fun _ _ => rfl))) (blkOk_by (N := ["_law_well_here", "_law_size", "_law_one", "_law_places", "_law_handed", "_law_said_here", "_law_rows", "_law_row", "_law_k", "_law_place"]) (sc := defScope s__law_chosen_right) (by decide +kernel)) (fun _ _ _ _ _ => (PM.g_name (pg_name (i := 7) sc__law_chosen_right.nd rfl (.inr rfl)))) (fun _ _ _ _ _ => PM.ts_yes) (fun _ _ _ _ _ => (PM.i_callTy PM.cr_tupleV (by rfl) T.z_tuple WD.bt_tuple (PM.a_cons (PM.i_ofF (PM.f_lc (pe_lc (own := [("_law_place", 9)]) rfl sc__law_chosen_right.nd (PM.ii_val (PM.i_pv (pv 3))) (blkOk_by (by kernel_rfl)) (fun _ _ _ _ _ => (PM.g_name (pg_name (i := 9) sc__law_chosen_right.nd rfl (.inl rfl)))) (fun _ _ _ _ _ => PM.ts_yes) (fun _ _ _ _ _ => (PM.i_ix (WD.huD hr) (PM.i_pv (pv 7)) (PM.i_pv (pv 9)) (fun _ _ => rfl)))))) PM.a_nil)))))
      (PM.ss_one (PM.s_ret (ps_ret (PM.i_call (ok__law_told_right T) (takes_of rfl rfl rfl rfl) (hr.mono (by decide)) (by rfl) (PM.a_cons (PM.i_pv (pv 1)) (PM.a_cons (PM.i_pv (pv 5)) (PM.a_cons (PM.i_callB (PM.cr_lenV) (by rfl) T.z_len WD.bt_len (PM.a_cons (PM.i_pv (pv 3)) PM.a_nil)) (PM.a_cons (PM.i_pv (pv 6)) PM.a_nil))))))))))))))), F.kp, T.g__law_chosen_right⟩
end
section
variable {P : Program} {w : World} {K : PySem.W.Frag} {tb : List (Addr × Str)} {mg : Str → Option Value} {base : Heap}
theorem ok_equal_things (T : Tx K mg) : WD.Cal P w K mg base (L2.CX P w) 1 "equal_things" (He.ga K "equal_things") (PM.SpF ⟨K, tb⟩ 1 fn_equal_things) [] := by
  obtain ⟨fd, F⟩ := T.F_equal_things
  exact ⟨PM.fn_ok (K := ⟨K, tb⟩) (b := b_equal_things) F sc_equal_things (fun _ _ _ _ _ _ us hl => match us, hl with | [_], _ => rfl) (fun cdv A outer s H E hr =>
    (PM.ss_one (PM.s_ret (ps_ret (PM.i_tupG (PM.a_cons PM.i_int (PM.a_cons (PM.i_cellF (PM.f_lc (pe_lc (own := [("one", 1)]) rfl sc_equal_things.nd (PM.ii_range1 (by rfl) T.z_range (PM.a_cons (PM.i_pv (pv 0)) PM.a_nil)) (blkOk_by (N := ["size", "one"]) (sc := defScope s_equal_things) (by decide +kernel)) (fun _ _ _ _ _ => (PM.g_name (pg_name (i := 1) sc_equal_things.nd rfl (.inl rfl)))) (fun _ _ _ _ _ => PM.ts_yes) (fun _ _ _ _ _ => (PM.i_tup (PM.a_cons (PM.i_pv (pv 1)) (PM.a_cons (PM.i_pv (pv 1)) PM.a_nil))))))) PM.a_nil))))))), F.kp, T.g_equal_things⟩
end
section
variable {P : Program} {w : World} {K : PySem.W.Frag} {tb : List (Addr × Str)} {mg : Str → Option Value} {base : Heap}
theorem ok__law_all (T : Tx K mg) : WD.Cal P w K mg base (L2.CX P w) 1 "_law_all" (He.ga K "_law_all") (PM.SpF ⟨K, tb⟩ 2 fn__law_all) [] := by
  obtain ⟨fd, F⟩ := T.F__law_all
  exact ⟨PM.fn_ok (K := ⟨K, tb⟩) (b := b__law_all) F sc__law_all (fun _ _ _ _ _ _ us hl => match us, hl with | [_, _], _ => rfl) (fun cdv A outer s H E hr =>
    (PM.ss_cons (PM.s_set (ps_set (i := 2) sc__law_all.nd rfl (.inl rfl) (PM.i_ofF (PM.f_lst (PM.a_cons (PM.i_tup PM.a_nil) PM.a_nil)))))
      (PM.ss_cons (PM.s_for (passes_of rfl) rfl (PM.ii_range1 (by rfl) T.z_range (PM.a_cons (PM.i_pv (pv 1)) PM.a_nil)) (PM.g_name (pg_name (i := 3) sc__law_all.nd rfl (.inl rfl)))
        (PM.ss_cons (PM.s_set (ps_set (i := 4) sc__law_all.nd rfl (.inl rfl) (PM.i_cellF (PM.f_lst PM.a_nil))))
      (PM.ss_cons (PM.s_for (passes_of rfl) rfl (PM.ii_val (PM.i_pv (pv 2))) (PM.g_name (pg_name (i := 5) sc__law_all.nd rfl (.inr rfl)))
        (PM.ss_one (PM.s_exp (PM.i_ext (PM.i_pv (pv 4)) (PM.a_cons (PM.i_ofF (PM.f_lc (pe_lc (own := [("_law_thing", 6)]) rfl sc__law_all.nd (PM.ii_range1 (by rfl) T.z_range (PM.a_cons (PM.i_pv (pv 0)) PM.a_nil)) (blkOk_by (N := ["_law_size", "_law_places", "_law_found", "_law_k", "_law_longer", "_law_row", "_law_thing"]) (sc := defScope s__law_all) (by decide +kernel)) (fun _ _ _ _ _ => (PM.g_name (pg_name (i := 6) sc__law_all.nd rfl (.inl rfl)))) (fun _ _ _ _ _ => PM.ts_yes) (fun _ _ _ _ _ => (PM.i_op PM.op_addV (PM.i_pv (pv 5)) (PM.i_tup (PM.a_cons (PM.i_pv (pv 6)) PM.a_nil))))))) PM.a_nil) (fun ho ha => WD.k_pe_bm K PySem.F.plainAttrs_list PySem.F.slot_list_extend PySem.F.type_list_extend mt_extend ho ha)))))
      (PM.ss_frz (i := 4) (PM.ss_one (PM.s_set (ps_set (i := 2) sc__law_all.nd rfl (.inl rfl) (PM.i_pv (pv 4)))))))))
      (PM.ss_one (PM.s_ret (ps_ret (PM.i_pv (pv 2)))))))), F.kp, T.g__law_all⟩
end
section
variable {P : Program} {w : World} {K : PySem.W.Frag} {tb : List (Addr × Str)} {mg : Str → Option Value} {base : Heap}
theorem ok__law_worth (T : Tx K mg) : WD.Cal P w K mg base (L2.CX P w) 1 "_law_worth" (He.ga K "_law_worth") (PM.SpF ⟨K, tb⟩ 4 fn__law_worth) [] := by
  obtain ⟨fd, F⟩ := T.F__law_worth
  exact ⟨PM.fn_ok (K := ⟨K, tb⟩) (b := b__law_worth) F sc__law_worth (fun _ _ _ _ _ _ us hl => match us, hl with | [_, _, _, _], _ => rfl) (fun cdv A outer s H E hr =>
    (PM.ss_cons (PM.s_if (ps_if (PW.pt (PM.w_or (PM.t_cmp (PM.op_eqV hr.units) (PM.i_pv (pv 2)) (PM.i_tup PM.a_nil) (nomark _)) (pw_or1 (PM.t_cmp (PM.op_eqV hr.units) (PM.i_pv (pv 0)) PM.i_int (nomark _)))))
        (PM.ss_one (PM.s_ret (ps_ret (PM.i_op PM.op_modV (PM.i_pv (pv 1)) (PM.i_pv (pv 3))))))
        PM.ss_nil))
      (PM.ss_cons (PM.s_set (ps_set (i := 4) sc__law_worth.nd rfl (.inl rfl) (PM.i_ofF (PM.f_lst (PM.a_cons (PM.i_callB (PM.cr_minV1 rfl (WD.huD hr)) (by rfl) T.z_min WD.bt_min (PM.a_cons (PM.i_pv (pv 2)) PM.a_nil)) (PM.a_cons (PM.i_callB (PM.cr_maxV1 rfl (WD.huD hr)) (by rfl) T.z_max WD.bt_max (PM.a_cons (PM.i_pv (pv 2)) PM.a_nil)) (PM.a_cons (PM.i_op PM.op_modV (PM.i_callB (PM.cr_sumV rfl) (by rfl) T.z_sum WD.bt_sum (PM.a_cons (PM.i_pv (pv 2)) PM.a_nil)) (PM.i_pv (pv 3))) (PM.a_cons (PM.i_op PM.op_modV (PM.i_op PM.op_addV (PM.i_callB (PM.cr_sumV rfl) (by rfl) T.z_sum WD.bt_sum (PM.a_cons (PM.i_pv (pv 2)) PM.a_nil)) (PM.i_pv (pv 1))) (PM.i_pv (pv 3))) PM.a_nil))))))))
      (PM.ss_cons (PM.s_set (ps_set (i := 4) sc__law_worth.nd rfl (.inl rfl) (PM.i_ofF (PM.f_op PM.op_addF (PM.i_pv (pv 4)) (PM.i_ofF (PM.f_lst (PM.a_cons (PM.i_ix (WD.huD hr) (PM.i_pv (pv 2)) (PM.i_op PM.op_modV (PM.i_pv (pv 1)) (PM.i_callB (PM.cr_lenV) (by rfl) T.z_len WD.bt_len (PM.a_cons (PM.i_pv (pv 2)) PM.a_nil))) (fun _ _ => rfl)) (PM.a_cons (PM.i_op PM.op_modV (PM.i_op PM.op_mulV (PM.i_ix (WD.huD hr) (PM.i_pv (pv 2)) PM.i_int (fun _ _ => rfl)) (PM.i_ix (WD.huD hr) (PM.i_pv (pv 2)) (PM.i_un PM.un_negV PM.i_int) (fun _ _ => rfl))) (PM.i_pv (pv 3))) PM.a_nil))))))))
      (PM.ss_cons (PM.s_set (ps_set (i := 4) sc__law_worth.nd rfl (.inl rfl) (PM.i_ofF (PM.f_op PM.op_addF (PM.i_pv (pv 4)) (PM.i_ofF (PM.f_lst (PM.a_cons (PM.i_op PM.op_modV (PM.i_op PM.op_addV (PM.i_op PM.op_subV (PM.i_ix (WD.huD hr) (PM.i_pv (pv 2)) PM.i_int (fun _ _ => rfl)) (PM.i_ix (WD.huD hr) (PM.i_pv (pv 2)) (PM.i_op PM.op_fdivV (PM.i_callB (PM.cr_lenV) (by rfl) T.z_len WD.bt_len (PM.a_cons (PM.i_pv (pv 2)) PM.a_nil)) PM.i_int) (fun _ _ => rfl))) (PM.i_ix (WD.huD hr) (PM.i_pv (pv 2)) (PM.i_un PM.un_negV PM.i_int) (fun _ _ => rfl))) (PM.i_pv (pv 3))) (PM.a_cons (PM.i_ix (WD.huD hr) (PM.i_ofF (PM.f_callB PM.cr_sortedTF (by rfl) T.z_sorted WD.bt_sorted (PM.a_cons (PM.i_pv (pv 2)) PM.a_nil))) (PM.i_op PM.op_fdivV (PM.i_callB (PM.cr_lenV) (by rfl) T.z_len WD.bt_len (PM.a_cons (PM.i_pv (pv 2)) PM.a_nil)) PM.i_int) (fun _ _ => rfl)) PM.a_nil))))))))
      (PM.ss_one (PM.s_ret (ps_ret (PM.i_ix (WD.huD hr) (PM.i_pv (pv 4)) (PM.i_op PM.op_subV (PM.i_pv (pv 0)) PM.i_int) (fun _ _ => rfl)))))))))), F.kp, T.g__law_worth⟩
end
section
variable {P : Program} {w : World} {K : PySem.W.Frag} {tb : List (Addr × Str)} {mg : Str → Option Value} {base : Heap}
theorem ok__law_table (T : Tx K mg) : WD.Cal P w K mg base (L2.CX P w) 2 "_law_table" (He.ga K "_law_table") (PM.SpF ⟨K, tb⟩ 3 fn__law_table) [] := by
  obtain ⟨fd, F⟩ := T.F__law_table
  exact ⟨PM.fn_ok (K := ⟨K, tb⟩) (b := b__law_table) F sc__law_table (fun _ _ _ _ _ _ us hl => match us, hl with | [_, _, _], _ => rfl) (fun cdv A outer s H E hr =>
    (PM.ss_cons (PM.s_set (ps_set (i := 3) sc__law_table.nd rfl (.inr rfl) (PM.i_call (ok__law_draw T) (takes_of rfl rfl rfl rfl) (hr.mono (by decide)) (by rfl) (PM.a_cons (PM.i_pv (pv 0)) (PM.a_cons PM.i_int PM.a_nil)))))
      (PM.ss_cons (PM.s_set (ps_set (i := 4) sc__law_table.nd rfl (.inr rfl) (PM.i_call (ok__law_draw T) (takes_of rfl rfl rfl rfl) (hr.mono (by decide)) (by rfl) (PM.a_cons (PM.i_pv (pv 0)) (PM.a_cons PM.i_int PM.a_nil)))))
      (PM.ss_cons (PM.s_set (ps_set (i := 5) sc__law_table.nd rfl (.inl rfl) (PM.i_call (ok__law_all T) (takes_of rfl rfl rfl rfl) (hr.mono (by decide)) (by rfl) (PM.a_cons (PM.i_pv (pv 1)) (PM.a_cons (PM.i_pv (pv 2)) PM.a_nil)))))
      (PM.ss_cons (PM.s_if (ps_if (PM.t_cmp (PM.op_eqV hr.units) (PM.i_pv (pv 3)) PM.i_int (nomark _))
        (PM.ss_one (PM.s_ret (ps_ret (PM.i_callTy PM.cr_tupleV (by rfl) T.z_tuple WD.bt_tuple (PM.a_cons (PM.i_ofF (PM.f_lc (pe_lc (own := [("_law_things", 6)]) rfl sc__law_table.nd (PM.ii_val (PM.i_pv (pv 5))) (blkOk_by (N := ["_law_well_here", "_law_size", "_law_places", "_law_way", "_law_number", "_law_rows", "_law_things"]) (sc := defScope s__law_table) (by decide +kernel)) (fun _ _ _ _ _ => (PM.g_name (pg_name (i := 6) sc__law_table.nd rfl (.inl rfl)))) (fun _ _ _ _ _ => PM.ts_yes) (fun _ _ _ _ _ => (PM.i_call (ok__law_draw T) takes0 (hr.mono (by decide)) (by rfl) (PM.a_cons (PM.i_pv (pv 0)) (PM.a_cons (PM.i_pv (pv 1)) PM.a_nil))))))) PM.a_nil)))))
        PM.ss_nil))
      (PM.ss_one (PM.s_ret (ps_ret (PM.i_callTy PM.cr_tupleV (by rfl) T.z_tuple WD.bt_tuple (PM.a_cons (PM.i_ofF (PM.f_lc (pe_lc (own := [("_law_things", 6)]) rfl sc__law_table.nd (PM.ii_val (PM.i_pv (pv 5))) (blkOk_by (N := ["_law_well_here", "_law_size", "_law_places", "_law_way", "_law_number", "_law_rows", "_law_things"]) (sc := defScope s__law_table) (by decide +kernel)) (fun _ _ _ _ _ => (PM.g_name (pg_name (i := 6) sc__law_table.nd rfl (.inl rfl)))) (fun _ _ _ _ _ => PM.ts_yes) (fun _ _ _ _ _ => (PM.i_call (ok__law_worth T) takes0 (hr.mono (by decide)) (by rfl) (PM.a_cons (PM.i_pv (pv 3)) (PM.a_cons (PM.i_pv (pv 4)) (PM.a_cons (PM.i_pv (pv 6)) (PM.a_cons (PM.i_pv (pv 1)) PM.a_nil))))))))) PM.a_nil)))))))))), F.kp, T.g__law_table⟩
end
section
variable {P : Program} {w : World} {K : PySem.W.Frag} {tb : List (Addr × Str)} {mg : Str → Option Value} {base : Heap}
theorem ok_things_at (T : Tx K mg) : WD.Cal P w K mg base (L2.CX P w) 1 "things_at" (He.ga K "things_at") (PM.SpF ⟨K, tb⟩ 3 fn_things_at) [] := by
  obtain ⟨fd, F⟩ := T.F_things_at
  exact ⟨PM.fn_ok (K := ⟨K, tb⟩) (b := b_things_at) F sc_things_at (fun _ _ _ _ _ _ us hl => match us, hl with | [_, _, _], _ => rfl) (fun cdv A outer s H E hr =>
    (PM.ss_cons (PM.s_set (ps_set (i := 3) sc_things_at.nd rfl (.inl rfl) (PM.i_tup PM.a_nil)))
      (PM.ss_cons (PM.s_for (passes_of rfl) rfl (PM.ii_range1 (by rfl) T.z_range (PM.a_cons (PM.i_pv (pv 1)) PM.a_nil)) (PM.g_name (pg_name (i := 4) sc_things_at.nd rfl (.inl rfl)))
        (PM.ss_cons (PM.s_set (ps_set (i := 3) sc_things_at.nd rfl (.inl rfl) (PM.i_op PM.op_addV (PM.i_tup (PM.a_cons (PM.i_op PM.op_modV (PM.i_pv (pv 0)) (PM.i_pv (pv 2))) PM.a_nil)) (PM.i_pv (pv 3)))))
      (PM.ss_one (PM.s_set (ps_set (i := 0) sc_things_at.nd rfl (.inl rfl) (PM.i_op PM.op_fdivV (PM.i_pv (pv 0)) (PM.i_pv (pv 2))))))))
      (PM.ss_one (PM.s_ret (ps_ret (PM.i_pv (pv 3)))))))), F.kp, T.g_things_at⟩
end
section
variable {P : Program} {w : World} {K : PySem.W.Frag} {tb : List (Addr × Str)} {mg : Str → Option Value} {base : Heap}
theorem ok_graph (T : Tx K mg) : WD.Cal P w K mg base (L2.CX P w) 2 "graph" (He.ga K "graph") (PM.SpF ⟨K, tb⟩ 2 fn_graph) [] := by
  obtain ⟨fd, F⟩ := T.F_graph
  exact ⟨PM.fn_ok (K := ⟨K, tb⟩) (b := b_graph) F sc_graph (fun _ _ _ _ _ _ us hl => match us, hl with | [_, _], _ => rfl) (fun cdv A outer s H E hr =>
    (PM.ss_cons (PM.s_asg (ps_asg (PM.i_pv (pv 1)) (PM.g_tup (PM.gs_cons (PM.g_name (pg_name (i := 2) sc_graph.nd rfl (.inl rfl))) (PM.gs_cons (PM.g_name (pg_name (i := 3) sc_graph.nd rfl (.inr rfl))) (PM.gs_cons (PM.g_name (pg_name (i := 4) sc_graph.nd rfl (.inl rfl))) PM.gs_nil))) rfl)))
      (PM.ss_one (PM.s_ret (ps_ret (PM.i_tupG (PM.a_cons (PM.i_op PM.op_addV (PM.i_pv (pv 3)) PM.i_int) (PM.a_cons (PM.i_cellF (PM.f_lc (pe_lc (own := [("spot", 5), ("one", 6)]) rfl sc_graph.nd (PM.ii_enum (by rfl) T.z_enumerate (PM.a_cons (PM.i_pv (pv 4)) PM.a_nil)) (blkOk_by (N := ["size", "deed", "name", "places", "table", "spot", "one"]) (sc := defScope s_graph) (by decide +kernel)) (fun _ _ _ _ _ => (PM.g_tup (PM.gs_cons (PM.g_name (pg_name (i := 5) sc_graph.nd rfl (.inl rfl))) (PM.gs_cons (PM.g_name (pg_name (i := 6) sc_graph.nd rfl (.inl rfl))) PM.gs_nil)) rfl)) (fun _ _ _ _ _ => PM.ts_yes) (fun _ _ _ _ _ => (PM.i_op PM.op_addV (PM.i_call (ok_things_at T) takes0 (hr.mono (by decide)) (by rfl) (PM.a_cons (PM.i_pv (pv 5)) (PM.a_cons (PM.i_pv (pv 3)) (PM.a_cons (PM.i_pv (pv 0)) PM.a_nil)))) (PM.i_tup (PM.a_cons (PM.i_pv (pv 6)) PM.a_nil))))))) PM.a_nil)))))))), F.kp, T.g_graph⟩
end
section
variable {P : Program} {w : World} {K : PySem.W.Frag} {mg : Str → Option Value} {base : Heap}
theorem ok__law_graph_right (T : Tx K mg) (B : PM.LamF K mks mg base) : WD.Cal P w K mg base (L2.CX P w) 6 "_law_graph_right" (He.ga K "_law_graph_right") (PM.SpF ⟨K, PM.tabsOf K mks⟩ 1 fn__law_graph_right) [] := by
  obtain ⟨fd, F⟩ := T.F__law_graph_right
  exact ⟨PM.fn_okC (K := ⟨K, PM.tabsOf K mks⟩) (b := b__law_graph_right) F sc__law_graph_right (fun _ _ _ _ _ _ us hl => match us, hl with | [_], _ => rfl) (fun A outer s H E hr =>
    (PM.ss_cons (PM.s_set (ps_set (i := 1) sc__law_graph_right.nd rfl (.inr rfl) (PM.i_op PM.op_addV PM.i_int (PM.i_call (ok__law_draw T) (takes_of rfl rfl rfl rfl) (hr.mono (by decide)) (by rfl) (PM.a_cons (PM.i_pv (pv 0)) (PM.a_cons PM.i_int PM.a_nil))))))
      (PM.ss_cons (PM.s_set (ps_set (i := 2) sc__law_graph_right.nd rfl (.inr rfl) (PM.i_call (ok__law_draw T) (takes_of rfl rfl rfl rfl) (hr.mono (by decide)) (by rfl) (PM.a_cons (PM.i_pv (pv 0)) (PM.a_cons PM.i_int PM.a_nil)))))
      (PM.ss_cons (PM.s_set (ps_set (i := 3) sc__law_graph_right.nd rfl (.inr rfl) (PM.i_call (ok__law_table T) (takes_of rfl rfl rfl rfl) (hr.mono (by decide)) (by rfl) (PM.a_cons (PM.i_pv (pv 0)) (PM.a_cons (PM.i_pv (pv 1)) (PM.a_cons (PM.i_pv (pv 2)) PM.a_nil))))))
      (PM.ss_cons (PM.s_lcT (ps_setLc (i := 4) (own := [("_law_k", 5), ("_law_things", 6)]) rfl sc__law_graph_right.nd rfl rfl (sw_true rfl rfl rfl (by decide +kernel)) (PM.ii_enum (by rfl) T.z_enumerate (PM.a_cons (PM.i_call (ok__law_all T) (takes_of rfl rfl rfl rfl) (hr.mono (by decide)) (by rfl) (PM.a_cons (PM.i_pv (pv 1)) (PM.a_cons (PM.i_pv (pv 2)) PM.a_nil))) PM.a_nil)) (blkOk_by (N := ["_law_well_here", "_law_size", "_law_places", "_law_table_here", "_law_rows", "_law_k", "_law_things"]) (sc := defScope s__law_graph_right) (by decide +kernel)) (fun _ _ _ _ _ => (PM.g_tup (PM.gs_cons (PM.g_name (pg_name (i := 5) sc__law_graph_right.nd rfl (.inl rfl))) (PM.gs_cons (PM.g_name (pg_name (i := 6) sc__law_graph_right.nd rfl (.inl rfl))) PM.gs_nil)) rfl)) (fun _ _ _ _ _ => PM.ts_yes) (fun _ _ _ _ _ => (PM.i_op PM.op_addV (PM.i_pv (pv 6)) (PM.i_tup (PM.a_cons (PM.i_ix (WD.huD hr) (PM.i_pv (pv 3)) (PM.i_pv (pv 5)) (fun _ _ => rfl)) PM.a_nil))))))
      (PM.ss_one (PM.s_ret (ps_ret (PM.i_call (ok__law_told_right T) (takes_of rfl rfl rfl rfl) (hr.mono (by decide)) (by rfl) (PM.a_cons (PM.i_pv (pv 1)) (PM.a_cons (PM.i_lam (bL := b__law_said) (th := l1__law_graph_right) (Ng := ["_law_ask", "e"]) (k := 2) (c := PM.cdA K "_law_graph_right") (P := PM.tbA K "_law_graph_right") (by rfl) T.g__law_said T.F__law_said sc__law_said (fun _ _ _ _ _ _ us hl => match us, hl with | [_], _ => rfl) rfl (.inl rfl)
        (fun cdg L s H hr act => bd__law_said T hr act) (B.tab "_law_graph_right" (by decide)) (B.code "_law_graph_right" (by decide)) (PM.tabs_mem (by decide)) (PM.tabs_uni B.nd (by decide)) (hr.mono (by decide)) (LamX.lamS_by (by kernel_rfl)) rfl (fun _ _ _ _ _ => rfl)
        (fun A outer s H E f c' hr => (PM.i_call (ok_graph T) (takes_of rfl rfl rfl rfl) (hr.mono (by decide)) (by rfl) (PM.a_cons (PM.i_pv (pv 1)) (PM.a_cons (PM.i_tup (PM.a_cons PM.i_str (PM.a_cons (PM.i_pv (pv 2)) (PM.a_cons (PM.i_pv (pv 3)) PM.a_nil)))) PM.a_nil))))) (PM.a_cons (PM.i_op PM.op_addV (PM.i_pv (pv 2)) PM.i_int) (PM.a_cons (PM.i_pv (pv 4)) PM.a_nil))))))))))))), F.kp, T.g__law_graph_right⟩
end
section
variable {P : Program} {w : World} {K : PySem.W.Frag} {mg : Str → Option Value} {base : Heap}
theorem ok__law_right (T : Tx K mg) (B : PM.LamF K mks mg base) : WD.Cal P w K mg base (L2.CX P w) 9 "_law_right" (He.ga K "_law_right") (PM.SpF ⟨K, PM.tabsOf K mks⟩ 1 fn__law_right) [] := by
  obtain ⟨fd, F⟩ := T.F__law_right
  exact ⟨PM.fn_okC (K := ⟨K, PM.tabsOf K mks⟩) (b := b__law_right) F sc__law_right (fun _ _ _ _ _ _ us hl => match us, hl with | [_], _ => rfl) (fun A outer s H E hr =>
    (PM.ss_cons (PM.s_set (ps_set (i := 1) sc__law_right.nd rfl (.inl rfl) (PM.i_call (ok__law_draw T) (takes_of rfl rfl rfl rfl) (hr.mono (by decide)) (by rfl) (PM.a_cons (PM.i_pv (pv 0)) (PM.a_cons PM.i_int PM.a_nil)))))
      (PM.ss_cons (PM.s_set (ps_set (i := 2) sc__law_right.nd rfl (.inr rfl) (PM.i_op PM.op_addV PM.i_int (PM.i_call (ok__law_draw T) (takes_of rfl rfl rfl rfl) (hr.mono (by decide)) (by rfl) (PM.a_cons (PM.i_pv (pv 0)) (PM.a_cons PM.i_int PM.a_nil))))))
      (PM.ss_cons (PM.s_set (ps_set (i := 3) sc__law_right.nd rfl (.inl rfl) (PM.i_ofF (PM.f_lst (PM.a_cons PM.i_int (PM.a_cons PM.i_int (PM.a_cons (PM.i_call (ok__law_draw T) (takes_of rfl rfl rfl rfl) (hr.mono (by decide)) (by rfl) (PM.a_cons (PM.i_pv (pv 0)) (PM.a_cons PM.i_int PM.a_nil))) (PM.a_cons (PM.i_call (ok__law_draw T) (takes_of rfl rfl rfl rfl) (hr.mono (by decide)) (by rfl) (PM.a_cons (PM.i_pv (pv 0)) (PM.a_cons PM.i_int PM.a_nil))) PM.a_nil))))))))
      (PM.ss_cons (PM.s_set (ps_set (i := 4) sc__law_right.nd rfl (.inl rfl) (PM.i_call (ok__law_relation T) (takes_of rfl rfl rfl rfl) (hr.mono (by decide)) (by rfl) (PM.a_cons (PM.i_pv (pv 0)) (PM.a_cons (PM.i_pv (pv 2)) (PM.a_cons (PM.i_call (ok__law_draw T) (takes_of rfl rfl rfl rfl) (hr.mono (by decide)) (by rfl) (PM.a_cons (PM.i_pv (pv 0)) (PM.a_cons PM.i_int PM.a_nil))) (PM.a_cons (PM.i_ix (WD.huD hr) (PM.i_pv (pv 3)) (PM.i_call (ok__law_draw T) (takes_of rfl rfl rfl rfl) (hr.mono (by decide)) (by rfl) (PM.a_cons (PM.i_pv (pv 0)) (PM.a_cons PM.i_int PM.a_nil))) (fun _ _ => rfl)) PM.a_nil)))))))
      (PM.ss_cons (PM.s_set (ps_set (i := 5) sc__law_right.nd rfl (.inl rfl) (PM.i_call (ok__law_relation T) (takes_of rfl rfl rfl rfl) (hr.mono (by decide)) (by rfl) (PM.a_cons (PM.i_pv (pv 0)) (PM.a_cons (PM.i_pv (pv 2)) (PM.a_cons (PM.i_call (ok__law_draw T) (takes_of rfl rfl rfl rfl) (hr.mono (by decide)) (by rfl) (PM.a_cons (PM.i_pv (pv 0)) (PM.a_cons PM.i_int PM.a_nil))) (PM.a_cons (PM.i_ix (WD.huD hr) (PM.i_pv (pv 3)) (PM.i_call (ok__law_draw T) (takes_of rfl rfl rfl rfl) (hr.mono (by decide)) (by rfl) (PM.a_cons (PM.i_pv (pv 0)) (PM.a_cons PM.i_int PM.a_nil))) (fun _ _ => rfl)) PM.a_nil)))))))
      (PM.ss_cons (PM.s_if (ps_if (PM.t_cmp (PM.op_eqV hr.units) (PM.i_pv (pv 1)) PM.i_int (nomark _))
        (PM.ss_one (PM.s_set (ps_set (i := 5) sc__law_right.nd rfl (.inl rfl) (PM.i_call (ok__law_relation T) (takes_of rfl rfl rfl rfl) (hr.mono (by decide)) (by rfl) (PM.a_cons (PM.i_pv (pv 0)) (PM.a_cons (PM.i_pv (pv 2)) (PM.a_cons (PM.i_ix (WD.huD hr) (PM.i_pv (pv 4)) PM.i_int (fun _ _ => rfl)) (PM.a_cons (PM.i_ix (WD.huD hr) (PM.i_pv (pv 3)) (PM.i_call (ok__law_draw T) (takes_of rfl rfl rfl rfl) (hr.mono (by decide)) (by rfl) (PM.a_cons (PM.i_pv (pv 0)) (PM.a_cons PM.i_int PM.a_nil))) (fun _ _ => rfl)) PM.a_nil))))))))
        PM.ss_nil))
      (PM.ss_cons (PM.s_if (ps_if (PM.t_cmp (PM.op_eqV hr.units) (PM.i_pv (pv 1)) PM.i_int (nomark _))
        (PM.ss_one (PM.s_set (ps_set (i := 5) sc__law_right.nd rfl (.inl rfl) (PM.i_tup (PM.a_cons (PM.i_ix (WD.huD hr) (PM.i_pv (pv 4)) PM.i_int (fun _ _ => rfl)) (PM.a_cons (PM.i_ofF (PM.f_lc (pe_lc (own := [("_law_row", 9)]) rfl sc__law_right.nd (PM.ii_val (PM.i_ix (WD.huD hr) (PM.i_pv (pv 4)) PM.i_int (fun _ _ => rfl))) (blkOk_by (N := ["_law_well_here", "_law_way", "_law_size", "_law_some", "_law_one", "_law_other", "_law_handed", "_law_left", "_law_right_here", "_law_row", "_law_k"]) (sc := defScope s__law_right) (by decide +kernel)) (fun _ _ _ _ _ => (PM.g_name (pg_name (i := 9) sc__law_right.nd rfl (.inl rfl)))) (fun _ _ _ _ _ => (pts_one (PM.t_cmp (PM.op_gtV) (PM.i_call (ok__law_draw T) takes0 (hr.mono (by decide)) (by rfl) (PM.a_cons (PM.i_pv (pv 0)) (PM.a_cons PM.i_int PM.a_nil))) PM.i_int (nomark _)))) (fun _ _ _ _ _ => (PM.i_pv (pv 9)))))) PM.a_nil))))))
        PM.ss_nil))
      (PM.ss_cons (PM.s_set (ps_set (i := 6) sc__law_right.nd rfl (.inl rfl) (PM.i_ofF (PM.f_lst (PM.a_cons (PM.i_tup (PM.a_cons (PM.i_ix (WD.huD hr) (PM.i_pv (pv 4)) PM.i_int (fun _ _ => rfl)) (PM.a_cons (PM.i_ofF (PM.f_callTy (PM.cr_listF rfl) (by rfl) T.z_list WD.bt_list (PM.a_cons (PM.i_ix (WD.huD hr) (PM.i_pv (pv 4)) PM.i_int (fun _ _ => rfl)) PM.a_nil))) PM.a_nil))) (PM.a_cons (PM.i_tup (PM.a_cons (PM.i_ix (WD.huD hr) (PM.i_pv (pv 5)) PM.i_int (fun _ _ => rfl)) (PM.a_cons (PM.i_ofF (PM.f_callTy (PM.cr_listF rfl) (by rfl) T.z_list WD.bt_list (PM.a_cons (PM.i_ix (WD.huD hr) (PM.i_pv (pv 5)) PM.i_int (fun _ _ => rfl)) PM.a_nil))) PM.a_nil))) PM.a_nil))))))
      (PM.ss_cons (PM.s_for (passes_of rfl) rfl (PM.ii_val (PM.i_ofF (PM.f_lst (PM.a_cons (PM.i_tup (PM.a_cons (PM.i_ix (WD.huD hr) (PM.i_pv (pv 6)) PM.i_int (fun _ _ => rfl)) (PM.a_cons (PM.i_ix (WD.huD hr) (PM.i_pv (pv 6)) PM.i_int (fun _ _ => rfl)) PM.a_nil))) (PM.a_cons (PM.i_tup (PM.a_cons (PM.i_ix (WD.huD hr) (PM.i_pv (pv 6)) PM.i_int (fun _ _ => rfl)) (PM.a_cons (PM.i_ix (WD.huD hr) (PM.i_pv (pv 6)) PM.i_int (fun _ _ => rfl)) PM.a_nil))) (PM.a_cons (PM.i_tup (PM.a_cons (PM.i_ix (WD.huD hr) (PM.i_pv (pv 6)) PM.i_int (fun _ _ => rfl)) (PM.a_cons (PM.i_ix (WD.huD hr) (PM.i_pv (pv 6)) PM.i_int (fun _ _ => rfl)) PM.a_nil))) PM.a_nil)))))) (PM.g_tup (PM.gs_cons (PM.g_name (pg_name (i := 7) sc__law_right.nd rfl (.inl rfl))) (PM.gs_cons (PM.g_name (pg_name (i := 8) sc__law_right.nd rfl (.inl rfl))) PM.gs_nil)) rfl)
        (PM.ss_one (PM.s_if (ps_if (PW.pt (PM.w_or (PM.t_not (PM.t_val (PM.i_call (ok__law_crossed_right T B) (takes_of rfl rfl rfl rfl) (hr.mono (by decide)) (by rfl) (PM.a_cons (PM.i_pv (pv 2)) (PM.a_cons (PM.i_pv (pv 7)) (PM.a_cons (PM.i_pv (pv 8)) PM.a_nil)))))) (pw_or1 (PM.t_not (PM.t_val (PM.i_call (ok__law_beside_right T B) (takes_of rfl rfl rfl rfl) (hr.mono (by decide)) (by rfl) (PM.a_cons (PM.i_pv (pv 2)) (PM.a_cons (PM.i_pv (pv 7)) (PM.a_cons (PM.i_pv (pv 8)) PM.a_nil)))))))))
        (PM.ss_one (PM.s_ret (ps_ret PM.i_bl)))
        PM.ss_nil))))
      (PM.ss_cons (PM.s_if (ps_if (PW.pt (PM.w_or (PM.t_not (PM.t_val (PM.i_call (ok__law_chosen_right T B) (takes_of rfl rfl rfl rfl) (hr.mono (by decide)) (by rfl) (PM.a_cons (PM.i_pv (pv 0)) (PM.a_cons (PM.i_pv (pv 2)) (PM.a_cons (PM.i_ix (WD.huD hr) (PM.i_pv (pv 6)) PM.i_int (fun _ _ => rfl)) PM.a_nil)))))) (pw_or1 (PM.t_not (PM.t_val (PM.i_call (ok__law_chosen_right T B) (takes_of rfl rfl rfl rfl) (hr.mono (by decide)) (by rfl) (PM.a_cons (PM.i_pv (pv 0)) (PM.a_cons (PM.i_pv (pv 2)) (PM.a_cons (PM.i_ix (WD.huD hr) (PM.i_pv (pv 6)) PM.i_int (fun _ _ => rfl)) PM.a_nil)))))))))
        (PM.ss_one (PM.s_ret (ps_ret PM.i_bl)))
        PM.ss_nil))
      (PM.ss_cons (PM.s_if (ps_if (PM.t_not (PM.t_val (PM.i_call (ok__law_told_right T) (takes_of rfl rfl rfl rfl) (hr.mono (by decide)) (by rfl) (PM.a_cons (PM.i_pv (pv 2)) (PM.a_cons (PM.i_lam (bL := b__law_said) (th := l1__law_right) (Ng := ["_law_ask", "e"]) (k := 1) (c := PM.cdA K "_law_right") (P := PM.tbA K "_law_right") (by rfl) T.g__law_said T.F__law_said sc__law_said (fun _ _ _ _ _ _ us hl => match us, hl with | [_], _ => rfl) rfl (.inl rfl)
        (fun cdg L s H hr act => bd__law_said T hr act) (B.tab "_law_right" (by decide)) (B.code "_law_right" (by decide)) (PM.tabs_mem (by decide)) (PM.tabs_uni B.nd (by decide)) (hr.mono (by decide)) (LamX.lamS_by (by kernel_rfl)) rfl (fun _ _ _ _ _ => rfl)
        (fun A outer s H E f c' hr => (PM.i_call (ok_equal_things T) (takes_of rfl rfl rfl rfl) (hr.mono (by decide)) (by rfl) (PM.a_cons (PM.i_pv (pv 2)) PM.a_nil)))) (PM.a_cons PM.i_int (PM.a_cons (PM.i_ofF (PM.f_lc (pe_lc (own := [("_law_k", 10)]) rfl sc__law_right.nd (PM.ii_range1 (by rfl) T.z_range (PM.a_cons (PM.i_pv (pv 2)) PM.a_nil)) (blkOk_by (N := ["_law_well_here", "_law_way", "_law_size", "_law_some", "_law_one", "_law_other", "_law_handed", "_law_left", "_law_right_here", "_law_row", "_law_k"]) (sc := defScope s__law_right) (by decide +kernel)) (fun _ _ _ _ _ => (PM.g_name (pg_name (i := 10) sc__law_right.nd rfl (.inl rfl)))) (fun _ _ _ _ _ => PM.ts_yes) (fun _ _ _ _ _ => (PM.i_tup (PM.a_cons (PM.i_pv (pv 10)) (PM.a_cons (PM.i_pv (pv 10)) PM.a_nil))))))) PM.a_nil)))))))
        (PM.ss_one (PM.s_ret (ps_ret PM.i_bl)))
        PM.ss_nil))
      (PM.ss_one (PM.s_ret (ps_ret (PM.i_and (PM.i_cmp (PM.op_eqV hr.units) (PM.i_pv (pv 6)) (PM.i_ofF (PM.f_lst (PM.a_cons (PM.i_pv (pv 4)) (PM.a_cons (PM.i_pv (pv 5)) PM.a_nil)))) (nomark _)) (pe_one (PM.i_call (ok__law_graph_right T B) (takes_of rfl rfl rfl rfl) (hr.mono (by decide)) (by rfl) (PM.a_cons (PM.i_pv (pv 0)) PM.a_nil))))))))))))))))))), F.kp, T.g__law_right⟩
end
section
variable {P : Program} {w : World} {K : PySem.W.Frag} {tb : List (Addr × Str)} {mg : Str → Option Value} {base : Heap}
theorem ok__law_well (T : Tx K mg) : WD.Cal P w K mg base (L2.CX P w) 1 "_law_well" (He.ga K "_law_well") (PM.SpF ⟨K, tb⟩ 2 fn__law_well) [] := by
  obtain ⟨fd, F⟩ := T.F__law_well
  exact ⟨PM.fn_ok (K := ⟨K, tb⟩) (b := b__law_well) F sc__law_well (fun _ _ _ _ _ _ us hl => match us, hl with | [_, _], _ => rfl) (fun cdv A outer s H E hr =>
    (PM.ss_one (PM.s_ret (ps_ret (PM.i_cellF (PM.f_lst (PM.a_cons (PM.i_op PM.op_mulV (PM.i_pv (pv 0)) (PM.i_callTy PM.cr_intV (by rfl) T.z_int WD.bt_int (PM.a_cons (PM.i_cmp (PM.op_geV) (PM.i_pv (pv 0)) (PM.i_op PM.op_powV PM.i_int PM.i_int) (nomark _)) PM.a_nil))) (PM.a_cons (PM.i_op PM.op_addV (PM.i_op PM.op_modV (PM.i_pv (pv 0)) PM.i_int) (PM.i_op PM.op_mulV PM.i_int (PM.i_pv (pv 1)))) (PM.a_cons PM.i_int PM.a_nil))))))))), F.kp, T.g__law_well⟩
end
section
variable {P : Program} {w : World} {K : PySem.W.Frag} {mg : Str → Option Value} {base : Heap}
theorem law_fn {fd : FuncData} (T : Tx K mg) (B : PM.LamF K mks mg base) (hb : ∀ ns : List Int, ns.length ≤ 63 → fn_law [.s ns] [] = .ok (.t (.bl true)) []) (F : FunD K "law" "law" (defArgs s_law) (defBody s_law) (defScope s_law) [] [] (He.ga K "law") fd) : FnOk P w K mg base CX0 10 (He.ga K "law") fd ["_law_script"] (PM.spLaw ⟨K, PM.tabsOf K mks⟩) := by
  refine F.ok sc_law (fun vs H Q E h => ?_) (fun cdv A outer s H vs Q E hr h => ?_)
  · obtain ⟨a, ns, rfl, _⟩ := h
    rfl
  · have D : PM.ISs ⟨K, PM.tabsOf K mks⟩ none PM.W0 (cxOf CX0 P w K mg base ["_law_script", "_law_k", "_law_cell"] "law" (defScope s_law) (He.ga K "law") cdv A outer s H E).nox (defBody s_law) b_law := (PM.ss_cons (PM.s_for PassesOwn.never rfl (PM.ii_enum (by rfl) T.z_enumerate (PM.a_cons (PM.i_ofF (PM.f_sl (PM.i_ofF (PM.f_scr (PM.i_pv (pv 0)) (PM.i_ofF (PM.f_lst (PM.a_cons PM.i_int PM.a_nil))))) PM.o_none (PM.o_some PM.i_int))) PM.a_nil)) (PM.g_tup (PM.gs_cons (PM.g_name (pg_name (i := 1) sc_law.nd rfl (.inl rfl))) (PM.gs_cons (PM.g_name (pg_name (i := 2) sc_law.nd rfl (.inl rfl))) PM.gs_nil)) rfl)
        (PM.s_scope (PM.ss_one (PM.s_if (ps_if (PM.t_not (PM.t_val (PM.i_call (ok__law_right T B) takes0 (hr.mono (by decide)) (by rfl) (PM.a_cons (PM.i_call (ok__law_well T) takes0 (hr.mono (by decide)) (by rfl) (PM.a_cons (PM.i_pv (pv 2)) (PM.a_cons (PM.i_pv (pv 1)) PM.a_nil))) PM.a_nil))))
        (PM.ss_one (PM.s_ret (ps_ret PM.i_bl)))
        PM.ss_nil)))))
      (PM.ss_one (PM.s_ret (ps_ret PM.i_bl))))
    exact ⟨_, PSs.nox D, PM.law_read (b := b_law) (Nm := ["_law_script", "_law_k", "_law_cell"]) hb h⟩
end
end K31
namespace K31
open PySem PySem.Spec PyProof.Rows L2
theorem facts {P : Program} {w : World} {K : PySem.W.Frag} {h : Heap} {mg : Str → Option Value} {f : Addr} (X : K.In h) (G : h.Ns mainGlobals mg) (hfa : mg ("law" : Str) = some (.ref f)) (c : WD.SaysE fa fn fx K) :
    ∃ fd : FuncData, (∀ (s : Shared) (v : Value), BindsTo s fd ⟨[v], []⟩ [("_law_script", v)]) ∧ ∀ base : Heap, K.In base → base.Ns mainGlobals mg → PM.LamF K mks mg base → FnOk P w K mg base CX0 10 f fd ["_law_script"] (PM.spLaw ⟨K, PM.tabsOf K mks⟩) := by
  have T := mkTx X G c
  obtain ⟨fd, F⟩ := T.F_law
  have e := hfa.symm.trans T.g_law
  cases e
  have b := FunD.bindsA (ps := ["_law_script"]) F fun _ _ _ _ _ _ us hl => match us, hl with | [_], _ => rfl
  exact ⟨fd, fun s v => b s [v] rfl, fun base _ _ B => law_fn T B law_true F⟩
end K31
open PySem PySem.W PySem.Calls PyProof.Rows
set_option maxHeartbeats 0 in
theorem PySem.Challenge.cw_wishdeeds_k31_relations_made_holds : PySem.Challenge.rw_wishdeeds_k31_relations_made.Holds := by
  w_on; o_law
  refine HandSHeadRun.head_any (r := OpenLaw.row PySem.Challenge.rw_wishdeeds_k31_relations_made) (q := view (OpenLaw.row PySem.Challenge.rw_wishdeeds_k31_relations_made).prog [35]) (H := K31.hk) (ob := K31.ob) (M := 6000) (loose := K31.loose) (d := HandSHeadRun.topDef (OpenLaw.row PySem.Challenge.rw_wishdeeds_k31_relations_made).prog 35) (kwd := []) K31.ob_eq
    (by kernel_rfl) (fun s => by kernel_rfl) K31.run (by kernel_rfl) (by kernel_rfl) (by kernel_rfl) (by rfl) (by first | assumption | decide +kernel) (by decide +kernel) ⟨rfl, rfl, rfl, rfl, rfl, by decide +kernel⟩ ?hw ?hc
  case hw => w_witness2
  case hc =>
    refine LamX.walk_ofTsE (l := PySem.Challenge.rw_wishdeeds_k31_relations_made) (n := 63) (k := 10) (x := "_law_script") (CX := fun _ => L2.CX0) rfl (by decide) (by kernel_rfl) ⟨rfl, by decide, by decide⟩ ?F (fun _ _ _ _ _ z => z)
    intro w mg fa h Y G hmg0
    obtain ⟨K, KX, c⟩ := Y
    have hmg : mg ("law" : PySem.Str) = some (.ref fa) := by
      have e : (HandSHeadRun.topDef (OpenLaw.row PySem.Challenge.rw_wishdeeds_k31_relations_made).prog 35).name = ("law" : PySem.Str) := by kernel_rfl
      rw [← e]
      exact hmg0
    obtain ⟨fd, hb, hF⟩ := K31.facts (P := (PySem.Challenge.rw_wishdeeds_k31_relations_made).prog) (w := w) KX G hmg c.says
    exact ⟨K, KX, PM.law_at c hb (fun base h1 h2 h3 => hF base h1 h2 h3)⟩
