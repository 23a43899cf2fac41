import PyProof.Rows.All
import Wide.All
import OpenK.AllK
import Wide.FinOn
import HandS.ForMost
import HandS.TupAny
import KE.KDictKeyed
import HandS.Wide
import HandS.Style
import HandS.IsInst
import HandS.Deep
import KE.IntTextLaws
import HandS.StrMore
import HandS.TupSets
import HandS.Strs
import HandS.SetFor
import HandS.Star
import HandS.AnyAll
import PyProof.Rows.StrRev
import HandS.TupMul
import HandS.FStr
import HandS.Zip
import PyProof.Rows.StrCountLaw
import HandS.NoneIn
import KE.GoesEnum
import PySem.Challenge.RW_skiplabels_k23_whole_counters_told_back
set_option Elab.async false
set_option linter.all false
set_option maxRecDepth 100000
set_option maxHeartbeats 4000000
namespace DL
open PySem PySem.Spec L2

/-! ### paired lists -/
section
variable {α β : Type} {F : α → β → Prop}
theorem Pd.get : ∀ {xs : List α} {ys : List β} {i : Nat} {y : β}, Paired F xs ys → ys[i]? = some y → ∃ x, xs[i]? = some x ∧ F x y
  | _, _, _, _, .nil, e => by simp at e
  | _, _, 0, _, .cons r _, e => by simp at e; subst e; exact ⟨_, rfl, r⟩
  | _, _, i + 1, y, .cons _ t, e => by
    obtain ⟨u, h1, h2⟩ := Pd.get (i := i) (y := y) t (by simpa using e)
    exact ⟨u, by simpa using h1, h2⟩
theorem Pd.getL : ∀ {xs : List α} {ys : List β} {i : Nat} {x : α}, Paired F xs ys → xs[i]? = some x → ∃ y, ys[i]? = some y ∧ F x y
  | _, _, _, _, .nil, e => by simp at e
  | _, _, 0, _, .cons r _, e => by simp at e; subst e; exact ⟨_, rfl, r⟩
  | _, _, i + 1, x, .cons _ t, e => by
    obtain ⟨u, h1, h2⟩ := Pd.getL (i := i) (x := x) t (by simpa using e)
    exact ⟨u, by simpa using h1, h2⟩
theorem Pd.append : ∀ {xs xs' : List α} {ys ys' : List β}, Paired F xs ys → Paired F xs' ys' → Paired F (xs ++ xs') (ys ++ ys')
  | _, _, _, _, .nil, s => s
  | _, _, _, _, .cons r t, s => .cons r (Pd.append t s)
theorem Pd.take : ∀ {xs : List α} {ys : List β} (n : Nat), Paired F xs ys → Paired F (xs.take n) (ys.take n)
  | _, _, 0, _ => .nil
  | _, _, _ + 1, .nil => .nil
  | _, _, n + 1, .cons r t => .cons r (Pd.take n t)
theorem Pd.drop : ∀ {xs : List α} {ys : List β} (n : Nat), Paired F xs ys → Paired F (xs.drop n) (ys.drop n)
  | _, _, 0, r => r
  | _, _, _ + 1, .nil => .nil
  | _, _, n + 1, .cons _ t => Pd.drop n t
theorem Pd.set {x : α} {y : β} (r : F x y) : ∀ {xs : List α} {ys : List β} (i : Nat), Paired F xs ys → Paired F (xs.set i x) (ys.set i y)
  | _, _, _, .nil => .nil
  | _, _, 0, .cons _ t => .cons r t
  | _, _, i + 1, .cons q t => .cons q (Pd.set r i t)
theorem Pd.reverse {xs : List α} {ys : List β} (h : Paired F xs ys) : Paired F xs.reverse ys.reverse := by
  induction h with
  | nil => exact .nil
  | cons r t ih => rw [List.reverse_cons, List.reverse_cons]; exact Pd.append ih (.cons r .nil)
theorem Pd.eraseIdx : ∀ {xs : List α} {ys : List β} (i : Nat), Paired F xs ys → Paired F (xs.eraseIdx i) (ys.eraseIdx i)
  | _, _, _, .nil => .nil
  | _, _, 0, .cons _ t => t
  | _, _, i + 1, .cons r t => .cons r (Pd.eraseIdx i t)
theorem Pd.nil_iff {xs : List α} {ys : List β} (h : Paired F xs ys) : xs = [] ↔ ys = [] := by
  cases h <;> simp
theorem Pd.rep {xs : List α} {ys : List β} (h : Paired F xs ys) : ∀ k : Nat, Paired F (List.replicate k xs).flatten (List.replicate k ys).flatten
  | 0 => .nil
  | k + 1 => by
    rw [List.replicate_succ, List.replicate_succ, List.flatten_cons, List.flatten_cons]
    exact Pd.append h (Pd.rep h k)
end

end DL
namespace DL
open PySem PySem.Spec L2 PyProof.Rows

/-! ### dicts whose keys are tuples, nested -/
mutual
/-- a key, over the tracked heap -/
inductive NkV (K : PySem.W.Frag) (H : Hp) : NestedKey → V → Prop
  | none : NkV K H .none .non
  | int (i : Int) : NkV K H (.num i) (.int i)
  | text (x : Str) : NkV K H (.text x) (.str x)
  | tup {a : Addr} {vs : List V} {ks : List NestedKey} : SqT K H a vs → NkA K H ks vs → NkV K H (.tup ks) (.ref a)
inductive NkA (K : PySem.W.Frag) (H : Hp) : List NestedKey → List V → Prop
  | nil : NkA K H [] []
  | cons {k : NestedKey} {v : V} {ks : List NestedKey} {vs : List V} : NkV K H k v → NkA K H ks vs → NkA K H (k :: ks) (v :: vs)
end
section
variable {X : Cx} {pins : List (Addr × Obj)} {σ : L2.St} {H : Hp} {s : Shared}
mutual
theorem NkV.is (I : L2.Inv X pins σ H s) : ∀ (k : NestedKey) {v : V} {u : Value}, NkV X.K H k v → RelV v u → NestedIs s.heap k u
  | .none, _, _, h, r => by
    cases h
    cases (show _ = Value.none from r)
    exact .none
  | .num i, _, _, h, r => by
    cases h
    obtain ⟨t, e⟩ := (show ∃ t, _ = Value.int i t from r)
    subst e
    exact .int i t
  | .text x, _, _, h, r => by
    cases h
    obtain ⟨t, e⟩ := (show ∃ t, _ = Value.str x t from r)
    subst e
    exact .text x t
  | .tup ks, _, _, h, r => by
    cases h with
    | tup h1 h2 =>
      cases (show _ = Value.ref _ from r)
      obtain ⟨its, rv, ⟨o, ho, hc, n, hd⟩, _⟩ := I.tuple h1
      exact .tup ho hc hd (by simpa using NkA.is I ks h2 rv)
theorem NkA.is (I : L2.Inv X pins σ H s) : ∀ (ks : List NestedKey) {vs : List V} {us : List Value}, NkA X.K H ks vs → Vals vs us → NestedAll s.heap ks us
  | [], _, _, h, r => by
    cases h
    cases r
    exact .nil
  | k :: ks, _, _, h, r => by
    cases h with
    | cons h1 h2 =>
      cases r with
      | cons r1 r2 => exact .cons (NkV.is I k h1 r1) (NkA.is I ks h2 r2)
end
end
abbrev EnV := NestedKey × Addr × V
def RelE (p : EnV) (q : NestedKey × Addr × Value) : Prop := p.1 = q.1 ∧ p.2.1 = q.2.1 ∧ RelV p.2.2 q.2.2
def entN (w : World) (x : NestedKey × Addr × Value) : DictEntry := ⟨x.1.hash w, .ref x.2.1, x.2.2⟩
def dnP (w : World) (a : Addr) (xs : List EnV) (h : Heap) : Prop := (a == sysModules) = false ∧ ∃ ys, Paired RelE xs ys ∧ ∃ o es ep, h.get? a = some o ∧ o.ExactDict ∧ o.data = .dict es ep ∧ es.toList = ys.map (entN w) ∧ (ys.map (·.1)).Nodup
def dnO (w : World) (a : Addr) (xs : List EnV) : HO := .ext (dnP w a xs)
def valN (xs : List EnV) (k : NestedKey) : Option V := (xs.find? fun x => decide (x.1 = k)).map (·.2.2)
def hasN (xs : List EnV) (k : NestedKey) : Bool := xs.any fun x => decide (x.1 = k)
def putAtN (k : NestedKey) (v : V) (x : EnV) : EnV := if x.1 = k then (x.1, x.2.1, v) else x
def putN (xs : List EnV) (k : NestedKey) (b : Addr) (v : V) : List EnV := if hasN xs k = true then xs.map (putAtN k v) else xs ++ [(k, b, v)]
theorem RelE.has {k : NestedKey} : ∀ {xs : List EnV} {ys : List (NestedKey × Addr × Value)}, Paired RelE xs ys → (atKey ys k).isSome = hasN xs k
  | _, _, .nil => rfl
  | x :: xs, y :: ys, .cons r t => by
    have ih := RelE.has (k := k) t
    obtain ⟨e1, e2, _⟩ := r
    unfold hasN atKey at *
    rw [List.any_cons, List.find?_cons, ← e1]
    by_cases h : x.1 = k
    · simp [h]
    · simpa [h] using ih
theorem RelE.val {k : NestedKey} {v : V} : ∀ {xs : List EnV} {ys : List (NestedKey × Addr × Value)}, Paired RelE xs ys → valN xs k = some v → ∃ p, atKey ys k = some p ∧ RelV v p.2
  | _, _, .nil, h => by cases h
  | x :: xs, y :: ys, .cons r t, h => by
    obtain ⟨e1, e2, e3⟩ := r
    unfold valN at h
    unfold atKey
    rw [List.find?_cons] at h ⊢
    rw [← e1]
    by_cases hk : x.1 = k
    · simp only [hk, decide_true, Option.map_some, Option.some.injEq] at h ⊢
      exact ⟨y.2, rfl, h ▸ e3⟩
    · simp only [hk, decide_false] at h ⊢
      exact RelE.val t h
theorem RelE.upd {k : NestedKey} {v : V} {u : Value} (r : RelV v u) : ∀ {xs : List EnV} {ys : List (NestedKey × Addr × Value)}, Paired RelE xs ys → Paired RelE (xs.map (putAtN k v)) (ys.map (putAt k u))
  | _, _, .nil => .nil
  | x :: xs, y :: ys, .cons e t => by
    refine .cons ?_ (RelE.upd r t)
    obtain ⟨e1, e2, e3⟩ := e
    show RelE (putAtN k v x) (putAt k u y)
    unfold putAt putAtN
    rw [← e1]
    by_cases hk : x.1 = k
    · rw [if_pos hk, if_pos hk]; exact ⟨rfl, e2, r⟩
    · rw [if_neg hk, if_neg hk]; exact ⟨e1, e2, e3⟩
theorem RelE.put {k : NestedKey} {b : Addr} {v : V} {u : Value} (r : RelV v u) {xs : List EnV} {ys : List (NestedKey × Addr × Value)} (h : Paired RelE xs ys) : Paired RelE (putN xs k b v) (storedH ys k b u) := by
  unfold putN storedH
  rw [RelE.has h]
  split
  · exact RelE.upd r h
  · exact Pd.append h (.cons ⟨rfl, rfl, r⟩ .nil)
theorem putN_len (xs : List EnV) (k : NestedKey) (b : Addr) (v : V) : (putN xs k b v).length ≤ xs.length + 1 := by
  unfold putN
  split <;> simp
theorem putN_mem {xs : List EnV} {k : NestedKey} {b : Addr} {v : V} {e : EnV} (h : e ∈ putN xs k b v) : (e ∈ xs) ∨ (e.1 = k ∧ e.2.2 = v ∧ (e.2.1 = b ∨ ∃ e' ∈ xs, e'.1 = k ∧ e'.2.1 = e.2.1)) := by
  unfold putN at h
  split at h
  · obtain ⟨x, hx, rfl⟩ := List.mem_map.mp h
    unfold putAtN
    by_cases hk : x.1 = k
    · rw [if_pos hk]
      exact .inr ⟨hk, rfl, .inr ⟨x, hx, hk, rfl⟩⟩
    · rw [if_neg hk]
      exact .inl hx
  · rcases List.mem_append.mp h with h | h
    · exact .inl h
    · rw [List.mem_singleton.mp h]
      exact .inr ⟨rfl, rfl, .inl rfl⟩
theorem hasN_put (xs : List EnV) (k : NestedKey) (b : Addr) (v : V) : hasN (putN xs k b v) k = true := by
  unfold putN
  split
  · rename_i h
    unfold hasN at h ⊢
    rw [List.any_eq_true] at h ⊢
    obtain ⟨x, hx, e⟩ := h
    have e := of_decide_eq_true e
    exact ⟨_, List.mem_map.mpr ⟨x, hx, rfl⟩, by unfold putAtN; rw [if_pos e]; exact decide_eq_true e⟩
  · unfold hasN
    simp
theorem hasN_val {xs : List EnV} {k : NestedKey} (h : hasN xs k = true) : ∃ e ∈ xs, e.1 = k ∧ valN xs k = some e.2.2 := by
  induction xs with
  | nil => cases h
  | cons x xs ih =>
    unfold hasN at h ih
    unfold valN at ih ⊢
    rw [List.any_cons] at h
    rw [List.find?_cons]
    by_cases hk : x.1 = k
    · exact ⟨x, List.mem_cons_self, hk, by simp [hk]⟩
    · simp only [hk, decide_false, Bool.false_or] at h ⊢
      obtain ⟨e, h1, h2, h3⟩ := ih h
      exact ⟨e, List.mem_cons_of_mem _ h1, h2, h3⟩
section
variable {X : Cx} {pins : List (Addr × Obj)} {σ : L2.St} {H : Hp} {s : Shared} {a b : Addr} {xs : List EnV} {k : NestedKey} {v : V}
/-- all keys of the dict are keys still -/
def KeysN (K : PySem.W.Frag) (H : Hp) (xs : List EnV) : Prop := ∀ e ∈ xs, NkV K H e.1 (.ref e.2.1) ∧ e.1.depth ≤ 8
theorem dn_of (I : L2.Inv X pins σ H s) (e : H a = some (dnO X.w a xs)) (hk : KeysN X.K H xs) : (a == sysModules) = false ∧ ∃ ys, Paired RelE xs ys ∧ s.heap.DictOfH (nestedKind X.prog X.w) a ys := by
  obtain ⟨hd, ys, r, o, es, ep, h1, h2, h3, h4, h5⟩ := (I.hok a _ e).1
  refine ⟨hd, ys, r, o, es, ep, h1, h2, h3, h4, fun y hy => ?_, h5⟩
  obtain ⟨i, hi⟩ := List.mem_iff_getElem?.mp hy
  obtain ⟨x, hx, e1, e2, _⟩ := Pd.get r hi
  obtain ⟨g1, g2⟩ := hk x (List.mem_of_getElem? hx)
  rw [← e1, ← e2]
  exact ⟨NkV.is I _ g1 rfl, g2⟩
theorem dn_new {P : Program} {w : World} {H : Hp} {h : Heap} (hd : (a == sysModules) = false) {ys : List (NestedKey × Addr × Value)} (r : Paired RelE xs ys) (dd : h.DictOfH (nestedKind P w) a ys) : ObjOk P w H h a (dnO w a xs) := by
  obtain ⟨o, es, ep, h1, h2, h3, h4, h5, h6⟩ := dd
  exact ⟨⟨hd, ys, r, o, es, ep, h1, h2, h3, h4, h6⟩, ⟨o, h1⟩, fun g1 g2 ⟨hd, ys, r, o, es, ep, h1, h2⟩ k => ⟨hd, ys, r, o, es, ep, k o h1, h2⟩⟩
def rNotInN (w : World) (K : PySem.W.Frag) : R2 := fun x y H Q => ∃ b a xs k, x = .ref b ∧ y = .ref a ∧ H a = some (dnO w a xs) ∧ KeysN K H xs ∧ NkV K H k (.ref b) ∧ k.depth ≤ 8 ∧ Q (.bl (!hasN xs k)) H
theorem op_notInN (hu : X.A.units + 9 < cLine) : OpR X (compareOp .NotIn) (rNotInN X.w X.K) := by
  rintro pins s σ H x y v u Q I rx ry ⟨b, a, xs, k, rfl, rfl, ea, hk, hb, hd, q⟩
  cases (show v = Value.ref b from rx)
  cases (show u = Value.ref a from ry)
  obtain ⟨hm, ys, r, dd⟩ := dn_of I ea hk
  refine notIn_keyed (knd := nestedKind X.prog X.w) (k := k) (by show X.A.units + 1 + 8 < cLine; omega) ⟨NkV.is I _ hb rfl, hd⟩ hm ⟨ys, dd, rfl⟩ ?_
  refine ⟨_, H, I.tok _, ?_, q⟩
  show _ = Value.bool _
  rw [valueAt_pairsH, Option.isSome_map, RelE.has r]
def rInN (w : World) (K : PySem.W.Frag) : R2 := fun x y H Q => ∃ b a xs k, x = .ref b ∧ y = .ref a ∧ H a = some (dnO w a xs) ∧ KeysN K H xs ∧ NkV K H k (.ref b) ∧ k.depth ≤ 8 ∧ Q (.bl (hasN xs k)) H
theorem op_inN (hu : X.A.units + 9 < cLine) : OpR X (compareOp .In) (rInN X.w X.K) := by
  rintro pins s σ H x y v u Q I rx ry ⟨b, a, xs, k, rfl, rfl, ea, hk, hb, hd, q⟩
  cases (show v = Value.ref b from rx)
  cases (show u = Value.ref a from ry)
  obtain ⟨hm, ys, r, dd⟩ := dn_of I ea hk
  refine in_keyed (knd := nestedKind X.prog X.w) (k := k) (by show X.A.units + 1 + 8 < cLine; omega) ⟨NkV.is I _ hb rfl, hd⟩ hm ⟨ys, dd, rfl⟩ ?_
  refine ⟨_, H, I.tok _, ?_, q⟩
  show _ = Value.bool _
  rw [valueAt_pairsH, Option.isSome_map, RelE.has r]
def rIxN (w : World) (K : PySem.W.Frag) : R2 := fun x y H Q => ∃ a b xs k v, x = .ref a ∧ y = .ref b ∧ H a = some (dnO w a xs) ∧ KeysN K H xs ∧ NkV K H k (.ref b) ∧ k.depth ≤ 8 ∧ valN xs k = some v ∧ Q v H
theorem ix_dn (hu : X.A.units + 9 < cLine) : IxR X (rIxN X.w X.K) := by
  rintro value slice pins s σ H x y v u Q I rx ry ⟨a, b, xs, k, z, rfl, rfl, ea, hk, hb, hd, hz, q⟩ hs
  cases (show v = Value.ref a from rx)
  cases (show u = Value.ref b from ry)
  obtain ⟨hm, ys, r, dd⟩ := dn_of I ea hk
  obtain ⟨p, hp, rz⟩ := RelE.val r hz
  have hT : s.TypeIs (.ref a) "dict" := dd.typeIs
  unfold subscriptTail
  refine wpAny_bind ?_
  rw [getitemInPython_of_ne hT.not_modules]
  refine wpAny_bind (wpAny_specialOf hT PySem.F.slot_dict_getitem.lookup ?_)
  have fin : wpAny (model X.prog X.w) X.A (subscripted slice false (.ref a) (.ref b)) (fun r s₃ => wpAny (model X.prog X.w) X.A (letTemporaryGo value (.ref a) r >>= fun _ => pure r) (EP X pins σ Q) X.xe s₃) X.xe s := by
    rw [hs]
    exact wpAny_operating (wpAny_getItem_heap (knd := nestedKind X.prog X.w) (k := k) (by show X.A.units + 1 + 8 < cLine; omega) ⟨NkV.is I _ hb rfl, hd⟩ dd hp (wpAny_bind (wpAny_letTemporaryGo (wpAny_pure ⟨z, H, I.tok _, rz, q⟩))))
  first
    | exact wpAny_pure (wpAny_bind fin)
    | exact wpAny_bind (wpAny_pure (wpAny_bind fin))
    | exact wpAny_bind fin
def rSetN (w : World) (K : PySem.W.Frag) : V → V → V → Hp → (Hp → Prop) → Prop := fun o i v H Q => ∃ a b xs k, o = .ref a ∧ i = .ref b ∧ H a = some (dnO w a xs) ∧ KeysN K H xs ∧ NkV K H k (.ref b) ∧ k.depth ≤ 8 ∧ xs.length ≤ sizeLine ∧ Q (upd H a (dnO w a (putN xs k b v)))
theorem set_dn (hu : X.A.units + 9 < cLine) : PSet X (rSetN X.w X.K) := by
  rintro pins s σ H o i v ov iv u Q I ro ri rv ⟨a, b, xs, k, rfl, rfl, ea, hk, hb, hd, hz, q⟩
  cases (show ov = Value.ref a from ro)
  cases (show iv = Value.ref b from ri)
  obtain ⟨hm, ys, r, dd⟩ := dn_of I ea hk
  refine wpAny_setItem_heap (knd := nestedKind X.prog X.w) (k := k) (hsz := by rw [← r.length]; exact hz) (by show X.A.units + 1 + 8 < cLine; omega) ⟨NkV.is I _ hb rfl, hd⟩ dd fun h' dd' hs => ?_
  have he : ∃ q, h'.get? a = some q := let ⟨q, _, _, hq, _⟩ := dd'; ⟨q, hq⟩
  exact ⟨_, d_write I (by rw [ea]; exact True.intro) hs he (dn_new hm (RelE.put rv r) dd'), q⟩
theorem pe_dnew {pos : Pos} : PE X (.Dict [] [] pos) (fun _ H Q => ∀ p, H p = none → Q (.ref p) (upd H p (dnO X.w p []))) := ⟨fun pins s σ H Q I h =>
  wpAny_Dict_empty ⟨.ref s.heap.objs.size, _, I.laid (a := s.heap.objs.size) (o := dnO X.w s.heap.objs.size []) (t' := s.toks) (fun _ _ q => Heap.get?_push_of_some _ q) (Nat.le_refl _)
    (dn_new (beq_eq_false_iff_ne.mpr (Ne.symm (Nat.ne_of_lt I.big))) .nil (Heap.DictOfH.new (knd := nestedKind X.prog X.w) s.heap)), rfl, h _ (I.hok.fresh (Nat.le_refl _))⟩⟩
end
end DL

/-! The data layer: readings of HandS at the level of plain data, the heap behind a Kripke world. -/
namespace DL
open PySem PySem.Spec L2

/-! ### data, the wish monad -/
inductive D where
  | non | bl (b : Bool) | int (i : Int) | str (l : List Nat) | lst (xs : List D) | tup (xs : List D) | obj (t : Nat) (xs : List D)
  deriving Inhabited

abbrev M (α : Type) := (α → Prop) → Prop
def ret {α : Type} (a : α) : M α := fun Q => Q a
def bnd {α β : Type} (m : M α) (f : α → M β) : M β := fun Q => m fun a => f a Q
def bad {α : Type} : M α := fun _ => False
def asrt {α : Type} (p : Prop) (m : M α) : M α := fun Q => p ∧ m Q
@[simp] theorem ret_bnd {α β : Type} (a : α) (f : α → M β) : bnd (ret a) f = f a := Eq.trans rfl rfl
@[simp] theorem bnd_bnd {α β γ : Type} (m : M α) (f : α → M β) (g : β → M γ) : bnd (bnd m f) g = bnd m fun a => bnd (f a) g := Eq.trans rfl rfl
@[simp] theorem bnd_ret {α : Type} (m : M α) : bnd m ret = m := Eq.trans rfl rfl
@[simp] theorem bad_bnd {α β : Type} (f : α → M β) : bnd (bad : M α) f = bad := Eq.trans rfl rfl
@[simp] theorem asrt_bnd {α β : Type} (p : Prop) (m : M α) (f : α → M β) : bnd (asrt p m) f = asrt p (bnd m f) := Eq.trans rfl rfl
theorem asrt_pos {α : Type} {p : Prop} (h : p) (m : M α) : asrt p m = m := by
  funext Q; show (p ∧ m Q) = m Q; exact propext ⟨fun q => q.2, fun q => ⟨h, q⟩⟩
@[simp] theorem asrt_true {α : Type} (m : M α) : asrt True m = m := asrt_pos trivial m

/-! ### worlds -/
abbrev Wo := Addr → Option D
def Wo.le (Γ Γ' : Wo) : Prop := ∀ a d, Γ a = some d → Γ' a = some d
theorem Wo.le.refl (Γ : Wo) : Γ.le Γ := fun _ _ h => h
theorem Wo.le.trans {a b c : Wo} (h : a.le b) (g : b.le c) : a.le c := fun x d e => g x d (h x d e)
def put (Γ : Wo) (p : Addr) (d : D) : Wo := fun a => if a = p then some d else Γ a
theorem put_same {Γ : Wo} {p : Addr} {d : D} : put Γ p d p = some d := by unfold put; rw [if_pos rfl]
theorem put_ne {Γ : Wo} {p q : Addr} {d : D} (h : q ≠ p) : put Γ p d q = Γ q := by unfold put; rw [if_neg h]
theorem put_le {Γ : Wo} {p : Addr} {d : D} (h : Γ p = none) : Γ.le (put Γ p d) := fun a e k => by
  by_cases q : a = p
  · subst q; rw [h] at k; cases k
  · rw [put_ne q]; exact k

/-- a text as a value -/
abbrev vS (l : List Nat) : V := .str ⟨l.toArray⟩
/-- a text that the model can hold -/
def okS (l : List Nat) : Prop := l.length ≤ sizeLine ∧ ∀ c ∈ l, c < 1114112
/-- a scalar as a value -/
def scV : D → Option V
  | .non => some .non
  | .bl b => some (.bl b)
  | .int i => some (.int i)
  | .str l => some (vS l)
  | _ => none
/-- the theory: constants of the written part; the objects that change -/
structure Th (K : PySem.W.Frag) where
  w : World
  ct : Addr → Option D
  ctok : ∀ a d, ct a = some d → ∃ ds vs, d = .tup ds ∧ ds.length ≤ sizeLine ∧ (∀ H : Hp, SqT K H a vs) ∧ Paired (fun v d => scV d = some v ∧ ∀ l, d = .str l → okS l) vs ds
  ob : Nat → List D → Wo → Addr → HO → Prop
  mono : ∀ t xs Γ Γ' a o, Wo.le Γ Γ' → ob t xs Γ a o → ob t xs Γ' a o

section
variable {K : PySem.W.Frag} (T : Th K)
/-- a value is a datum, in a world -/
def Holds (Γ : Wo) : V → D → Prop
  | v, .non => v = .non
  | v, .bl b => v = .bl b
  | v, .int i => v = .int i
  | v, .str l => v = vS l ∧ okS l
  | v, .lst xs => ∃ a, v = .ref a ∧ Γ a = some (.lst xs)
  | v, .tup xs => ∃ a, v = .ref a ∧ (Γ a = some (.tup xs) ∨ T.ct a = some (.tup xs))
  | v, .obj t xs => ∃ a, v = .ref a ∧ Γ a = some (.obj t xs)
def satO (Γ : Wo) (a : Addr) : D → HO → Prop
  | .lst ds, o => ∃ vs, o = .lst vs ∧ Paired (Holds T Γ) vs ds ∧ ds.length ≤ sizeLine
  | .tup ds, o => ∃ vs, o = .tup vs ∧ Paired (Holds T Γ) vs ds ∧ ds.length ≤ sizeLine
  | .obj t xs, o => T.ob t xs Γ a o
  | _, _ => False
def Good (Γ : Wo) (H : Hp) : Prop := ∀ a d, Γ a = some d → ∃ o, H a = some o ∧ satO T Γ a d o
structure Ext (Γ : Wo) (H : Hp) (Γ' : Wo) (H' : Hp) : Prop where
  le : Γ.le Γ'
  good : Good T Γ' H'
  fr : ∀ a o, H a = some o → Γ a = none → H' a = some o ∧ Γ' a = none
end
section
variable {K : PySem.W.Frag} {T : Th K} {Γ Γ' Γ1 Γ2 : Wo} {H H' H1 H2 : Hp} {v : V} {d : D} {a p : Addr} {o : HO}
theorem Holds.mono (h : Holds T Γ v d) (k : Γ.le Γ') : Holds T Γ' v d := by
  cases d with
  | lst xs => obtain ⟨a, e, q⟩ := h; exact ⟨a, e, k _ _ q⟩
  | tup xs =>
    obtain ⟨a, e, q⟩ := h
    rcases q with q | q
    · exact ⟨a, e, .inl (k _ _ q)⟩
    · exact ⟨a, e, .inr q⟩
  | obj t xs => obtain ⟨a, e, q⟩ := h; exact ⟨a, e, k _ _ q⟩
  | _ => exact h
theorem Paired.monoH {vs : List V} {ds : List D} (h : Paired (Holds T Γ) vs ds) (k : Γ.le Γ') : Paired (Holds T Γ') vs ds := h.mono fun _ _ q => q.mono k
theorem satO.mono (h : satO T Γ a d o) (k : Γ.le Γ') : satO T Γ' a d o := by
  cases d with
  | lst xs => obtain ⟨vs, e, r, z⟩ := h; exact ⟨vs, e, Paired.monoH r k, z⟩
  | tup xs => obtain ⟨vs, e, r, z⟩ := h; exact ⟨vs, e, Paired.monoH r k, z⟩
  | obj t xs => exact T.mono _ _ _ _ _ _ k h
  | _ => exact h
theorem Ext.refl (g : Good T Γ H) : Ext T Γ H Γ H := ⟨Wo.le.refl _, g, fun _ _ h n => ⟨h, n⟩⟩
theorem Ext.trans (x : Ext T Γ H Γ1 H1) (y : Ext T Γ1 H1 Γ2 H2) : Ext T Γ H Γ2 H2 :=
  ⟨x.le.trans y.le, y.good, fun a o h n => by
    obtain ⟨h1, n1⟩ := x.fr a o h n
    exact y.fr a o h1 n1⟩
theorem Good.free (g : Good T Γ H) (hp : H p = none) : Γ p = none := by
  cases q : Γ p with
  | none => rfl
  | some d =>
    obtain ⟨o, e, _⟩ := g p d q
    rw [hp] at e; cases e
/-- a new object, told in the world -/
theorem Ext.new (g : Good T Γ H) (hp : H p = none) (hs : satO T (put Γ p d) p d o) : Ext T Γ H (put Γ p d) (upd H p o) := by
  have hn := g.free hp
  have le : Γ.le (put Γ p d) := put_le hn
  refine ⟨le, fun b e q => ?_, fun b u q n => ?_⟩
  · by_cases hb : b = p
    · subst hb; rw [put_same] at q; cases q; exact ⟨o, upd_same, hs⟩
    · rw [put_ne hb] at q
      obtain ⟨u, h1, h2⟩ := g b e q
      exact ⟨u, by rw [upd_ne hb]; exact h1, h2.mono le⟩
  · have hb : b ≠ p := ne_of_none q hp
    exact ⟨by rw [upd_ne hb]; exact q, by rw [put_ne hb]; exact n⟩
/-- a new object of one's own, told nowhere -/
theorem Ext.newOwn (g : Good T Γ H) (hp : H p = none) : Ext T Γ H Γ (upd H p o) := by
  refine ⟨Wo.le.refl _, fun b e q => ?_, fun b u q n => ?_⟩
  · obtain ⟨u, h1, h2⟩ := g b e q
    exact ⟨u, by rw [upd_ne (ne_of_none h1 hp)]; exact h1, h2⟩
  · exact ⟨by rw [upd_ne (ne_of_none q hp)]; exact q, n⟩
/-- an object that the world does not tell is written: not an Ext (its own frame turns), but the world stays good -/
theorem Good.write (g : Good T Γ H) (hn : Γ p = none) : Good T Γ (upd H p o) := fun b e q => by
  obtain ⟨u, h1, h2⟩ := g b e q
  have hb : b ≠ p := fun z => by subst z; rw [hn] at q; cases q
  exact ⟨u, by rw [upd_ne hb]; exact h1, h2⟩
/-- an object of one's own is told -/
theorem Good.tell (g : Good T Γ H) (hn : Γ p = none) (hp : H p = some o) (hs : satO T (put Γ p d) p d o) : Good T (put Γ p d) H := fun b e q => by
  by_cases hb : b = p
  · subst hb; rw [put_same] at q; cases q; exact ⟨o, hp, hs⟩
  · rw [put_ne hb] at q
    obtain ⟨u, h1, h2⟩ := g b e q
    exact ⟨u, h1, h2.mono (put_le hn)⟩
end

/-! ### environments -/
inductive Sl where
  | no | va (d : D) | ow (ds : List D) | di (kvs : List (D × D))
  deriving Inhabited
def Sl.owns : Sl → Bool
  | .ow _ => true
  | .di _ => true
  | _ => false
abbrev Rho := List Sl
/-- a key of a dict, as a datum -/
def keyD : D → Option Key
  | .int i => some (.inl i)
  | .str l => some (.inr ⟨l.toArray⟩)
  | _ => none
mutual
def keyN : D → Option NestedKey
  | .non => some .none
  | .int i => some (.num i)
  | .str l => some (.text ⟨l.toArray⟩)
  | .tup ds => (keyNs ds).map .tup
  | _ => none
def keyNs : List D → Option (List NestedKey)
  | [] => some []
  | d :: ds => (keyN d).bind fun k => (keyNs ds).map fun ks => k :: ks
end
section
variable {K : PySem.W.Frag} (T : Th K)
/-- an entry of a dict with nested keys -/
def EnR (T : Th K) (Γ : Wo) (p : EnV) (q : D × D) : Prop := keyN q.1 = some p.1 ∧ p.1.depth ≤ 8 ∧ Holds T Γ (.ref p.2.1) q.1 ∧ Holds T Γ p.2.2 q.2
/-- a dict's content -/
def dicO (Γ : Wo) (a : Addr) (kvs : List (D × D)) (o : HO) : Prop :=
  (∃ vs : List (Key × V), o = .dK vs ∧ Paired (fun (p : Key × V) (q : D × D) => keyD q.1 = some p.1 ∧ Holds T Γ p.2 q.2) vs kvs) ∨
  (∃ xs : List EnV, o = dnO T.w a xs ∧ Paired (EnR T Γ) xs kvs)
structure EnvR (Γ : Wo) (H : Hp) (σ : St) (ρ : Rho) : Prop where
  len : σ.length = ρ.length
  va : ∀ (i : Nat) (d : D), ρ[i]? = some (Sl.va d) → ∃ v, σ[i]? = some (some v) ∧ Holds T Γ v d
  ow : ∀ (i : Nat) (ds : List D), ρ[i]? = some (Sl.ow ds) → ∃ a vs, σ[i]? = some (some (V.ref a)) ∧ Γ a = none ∧ H a = some (.lst vs) ∧ Paired (Holds T Γ) vs ds ∧ ds.length ≤ sizeLine
  di : ∀ (i : Nat) (kvs : List (D × D)), ρ[i]? = some (Sl.di kvs) → ∃ a o, σ[i]? = some (some (V.ref a)) ∧ Γ a = none ∧ H a = some o ∧ dicO T Γ a kvs o
  sep : ∀ (i j : Nat) (x y : Sl) (v : V), ρ[i]? = some x → ρ[j]? = some y → x.owns = true → y.owns = true → σ[i]? = some (some v) → σ[j]? = some (some v) → i = j
end
section
variable {K : PySem.W.Frag} {T : Th K} {Γ Γ' : Wo} {H H' : Hp} {σ : St} {ρ : Rho}
theorem EnR.mono {p : EnV} {q : D × D} (h : EnR T Γ p q) (k : Γ.le Γ') : EnR T Γ' p q := ⟨h.1, h.2.1, h.2.2.1.mono k, h.2.2.2.mono k⟩
theorem dicO.mono {a : Addr} {kvs : List (D × D)} {o : HO} (h : dicO T Γ a kvs o) (k : Γ.le Γ') : dicO T Γ' a kvs o := by
  rcases h with ⟨vs, e, r⟩ | ⟨vs, e, r⟩
  · exact .inl ⟨vs, e, r.mono fun _ _ q => ⟨q.1, q.2.mono k⟩⟩
  · exact .inr ⟨vs, e, r.mono fun _ _ q => EnR.mono q k⟩
theorem EnvR.mono (e : EnvR T Γ H σ ρ) (x : Ext T Γ H Γ' H') : EnvR T Γ' H' σ ρ := by
  refine ⟨e.len, fun i d h => ?_, fun i ds h => ?_, fun i kvs h => ?_, e.sep⟩
  · obtain ⟨v, h1, h2⟩ := e.va i d h
    exact ⟨v, h1, h2.mono x.le⟩
  · obtain ⟨a, vs, h1, h2, h3, h4, h5⟩ := e.ow i ds h
    obtain ⟨g1, g2⟩ := x.fr a _ h3 h2
    exact ⟨a, vs, h1, g2, g1, Paired.monoH h4 x.le, h5⟩
  · obtain ⟨a, o, h1, h2, h3, h4⟩ := e.di i kvs h
    obtain ⟨g1, g2⟩ := x.fr a _ h3 h2
    exact ⟨a, o, h1, g2, g1, h4.mono x.le⟩
theorem get_set {α : Type} {l : List α} {i j : Nat} {x y : α} (h : (l.set i x)[j]? = some y) : (j = i ∧ y = x) ∨ (j ≠ i ∧ l[j]? = some y) := by
  by_cases e : j = i
  · subst e
    by_cases hl : j < l.length
    · rw [List.getElem?_set_self hl] at h; exact .inl ⟨rfl, (Option.some.inj h).symm⟩
    · rw [List.getElem?_eq_none (by simpa using hl)] at h; cases h
  · rw [List.getElem?_set_ne (Ne.symm e)] at h; exact .inr ⟨e, h⟩
/-- a slot gets a value -/
theorem EnvR.set {v : V} {d : D} (e : EnvR T Γ H σ ρ) (h : Holds T Γ v d) (i : Nat) : EnvR T Γ H (σ.set i (some v)) (ρ.set i (.va d)) := by
  have keep : ∀ {j : Nat} {x : Option V}, j ≠ i → σ[j]? = some x → (σ.set i (some v))[j]? = some x := fun n q => by rw [List.getElem?_set_ne (Ne.symm n)]; exact q
  refine ⟨by simp [e.len], fun j d' q => ?_, fun j ds q => ?_, fun j kvs q => ?_, fun j k x y u q1 q2 o1 o2 s1 s2 => ?_⟩
  · rcases get_set q with ⟨rfl, z⟩ | ⟨n, z⟩
    · cases z
      have hl : j < σ.length := by
        rw [e.len]
        by_cases hl : j < ρ.length
        · exact hl
        · rw [List.getElem?_eq_none (by simpa using hl)] at q; cases q
      exact ⟨v, by rw [List.getElem?_set_self hl], h⟩
    · obtain ⟨u, h1, h2⟩ := e.va j d' z
      exact ⟨u, keep n h1, h2⟩
  · rcases get_set q with ⟨rfl, z⟩ | ⟨n, z⟩
    · cases z
    · obtain ⟨a, vs, h1, h2⟩ := e.ow j ds z
      exact ⟨a, vs, keep n h1, h2⟩
  · rcases get_set q with ⟨rfl, z⟩ | ⟨n, z⟩
    · cases z
    · obtain ⟨a, o, h1, h2⟩ := e.di j kvs z
      exact ⟨a, o, keep n h1, h2⟩
  · rcases get_set q1 with ⟨rfl, z1⟩ | ⟨n1, z1⟩
    · subst z1; cases o1
    · rcases get_set q2 with ⟨rfl, z2⟩ | ⟨n2, z2⟩
      · subst z2; cases o2
      · rw [List.getElem?_set_ne (Ne.symm n1)] at s1
        rw [List.getElem?_set_ne (Ne.symm n2)] at s2
        exact e.sep j k x y u z1 z2 o1 o2 s1 s2
/-- slots forgotten: what the environment says of slots may be weakened -/
theorem EnvR.weak {σ' : St} {ρ' : Rho} (e : EnvR T Γ H σ ρ) (hl : σ'.length = ρ'.length) (w : ∀ (i : Nat) (x : Sl), ρ'[i]? = some x → x = .no ∨ (ρ[i]? = some x ∧ σ'[i]? = σ[i]?)) : EnvR T Γ H σ' ρ' := by
  refine ⟨hl, fun i d q => ?_, fun i ds q => ?_, fun i kvs q => ?_, fun i j x y v q1 q2 o1 o2 s1 s2 => ?_⟩
  · rcases w i _ q with z | ⟨z, s⟩
    · cases z
    · rw [s]; exact e.va i d z
  · rcases w i _ q with z | ⟨z, s⟩
    · cases z
    · rw [s]; exact e.ow i ds z
  · rcases w i _ q with z | ⟨z, s⟩
    · cases z
    · rw [s]; exact e.di i kvs z
  · rcases w i _ q1 with z | ⟨z1, t1⟩
    · subst z; cases o1
    · rcases w j _ q2 with z | ⟨z2, t2⟩
      · subst z; cases o2
      · rw [t1] at s1; rw [t2] at s2
        exact e.sep i j x y v z1 z2 o1 o2 s1 s2
/-- a slot gets a new list of one's own -/
theorem EnvR.setOwn {a : Addr} {x : Sl} (e : EnvR T Γ H σ ρ) (hn : H a = none) (hs : match x with
    | .ow ds => Γ a = none ∧ ∃ vs, H' a = some (.lst vs) ∧ Paired (Holds T Γ) vs ds ∧ ds.length ≤ sizeLine
    | .di kvs => Γ a = none ∧ ∃ o, H' a = some o ∧ dicO T Γ a kvs o
    | _ => False) (hk : ∀ b o, H b = some o → H' b = some o) (i : Nat) : EnvR T Γ H' (σ.set i (some (.ref a))) (ρ.set i x) := by
  have keep : ∀ {j : Nat} {x : Option V}, j ≠ i → σ[j]? = some x → (σ.set i (some (.ref a)))[j]? = some x := fun n q => by rw [List.getElem?_set_ne (Ne.symm n)]; exact q
  have here : ∀ {j : Nat} {y : Sl}, (ρ.set j x)[j]? = some y → (σ.set j (some (V.ref a)))[j]? = some (some (V.ref a)) := fun {j y} q => by
    have hl : j < σ.length := by
      rw [e.len]
      by_cases hl : j < ρ.length
      · exact hl
      · rw [List.getElem?_eq_none (by simpa using hl)] at q; cases q
    rw [List.getElem?_set_self hl]
  have far : ∀ {j : Nat} {y : Sl}, ρ[j]? = some y → y.owns = true → σ[j]? = some (some (V.ref a)) → False := fun {j y} q oy s => by
    cases y with
    | no => cases oy
    | va d => cases oy
    | ow ds =>
      obtain ⟨b, vs, h1, h2, h3, _⟩ := e.ow j ds q
      rw [s] at h1; cases h1; rw [hn] at h3; cases h3
    | di kvs =>
      obtain ⟨b, o, h1, h2, h3, _⟩ := e.di j kvs q
      rw [s] at h1; cases h1; rw [hn] at h3; cases h3
  refine ⟨by simp [e.len], fun j d' q => ?_, fun j ds q => ?_, fun j kvs q => ?_, fun j k x' y' u q1 q2 o1 o2 s1 s2 => ?_⟩
  · rcases get_set q with ⟨rfl, z⟩ | ⟨n, q'⟩
    · subst z; exact hs.elim
    · obtain ⟨u, h1, h2⟩ := e.va j d' q'
      exact ⟨u, keep n h1, h2⟩
  · rcases get_set q with ⟨rfl, z⟩ | ⟨n, q'⟩
    · have sg := here q
      subst z
      obtain ⟨h1, vs, h2, h3, h4⟩ := hs
      exact ⟨a, vs, sg, h1, h2, h3, h4⟩
    · obtain ⟨b, vs, h1, h2, h3, h4⟩ := e.ow j ds q'
      exact ⟨b, vs, keep n h1, h2, hk _ _ h3, h4⟩
  · rcases get_set q with ⟨rfl, z⟩ | ⟨n, q'⟩
    · have sg := here q
      subst z
      obtain ⟨h1, o, h2, h3⟩ := hs
      exact ⟨a, o, sg, h1, h2, h3⟩
    · obtain ⟨b, o, h1, h2, h3, h4⟩ := e.di j kvs q'
      exact ⟨b, o, keep n h1, h2, hk _ _ h3, h4⟩
  · rcases get_set q1 with ⟨rfl, z1⟩ | ⟨n1, z1⟩
    · rcases get_set q2 with ⟨rfl, z2⟩ | ⟨n2, z2⟩
      · rfl
      · have sg := here q1
        rw [sg] at s1; cases s1
        rw [List.getElem?_set_ne (Ne.symm n2)] at s2
        exact (far z2 o2 s2).elim
    · rcases get_set q2 with ⟨rfl, z2⟩ | ⟨n2, z2⟩
      · have sg := here q2
        rw [sg] at s2; cases s2
        rw [List.getElem?_set_ne (Ne.symm n1)] at s1
        exact (far z1 o1 s1).elim
      · rw [List.getElem?_set_ne (Ne.symm n1)] at s1
        rw [List.getElem?_set_ne (Ne.symm n2)] at s2
        exact e.sep j k x' y' u z1 z2 o1 o2 s1 s2
/-- an own object is written -/
theorem EnvR.rewrite {i : Nat} {a : Addr} {x y : Sl} {o' : HO} (e : EnvR T Γ H σ ρ) (hx : ρ[i]? = some x) (ox : x.owns = true) (hs : σ[i]? = some (some (.ref a))) (hn : Γ a = none)
    (hy : match y with
    | .ow ds => ∃ vs, o' = .lst vs ∧ Paired (Holds T Γ) vs ds ∧ ds.length ≤ sizeLine
    | .di kvs => dicO T Γ a kvs o'
    | _ => False) : EnvR T Γ (upd H a o') σ (ρ.set i y) := by
  have oy : y.owns = true := by cases y <;> first | rfl | exact hy.elim
  have far : ∀ {j : Nat} {z : Sl} {b : Addr}, j ≠ i → ρ[j]? = some z → z.owns = true → σ[j]? = some (some (V.ref b)) → b ≠ a := fun {j z b} n q oz s w => by
    subst w; exact n (e.sep j i z x _ q hx oz ox s hs)
  refine ⟨by simp [e.len], fun j d' q => ?_, fun j ds q => ?_, fun j kvs q => ?_, fun j k x' y' u q1 q2 o1 o2 s1 s2 => ?_⟩
  · rcases get_set q with ⟨rfl, z⟩ | ⟨n, q'⟩
    · subst z; exact hy.elim
    · exact e.va j d' q'
  · rcases get_set q with ⟨rfl, z⟩ | ⟨n, q'⟩
    · subst z
      obtain ⟨vs, h2, h3, h4⟩ := hy
      exact ⟨a, vs, hs, hn, by rw [upd_same, h2], h3, h4⟩
    · obtain ⟨b, vs, h1, h2, h3, h4⟩ := e.ow j ds q'
      exact ⟨b, vs, h1, h2, by rw [upd_ne (far n q' rfl h1)]; exact h3, h4⟩
  · rcases get_set q with ⟨rfl, z⟩ | ⟨n, q'⟩
    · subst z
      exact ⟨a, o', hs, hn, upd_same, hy⟩
    · obtain ⟨b, o, h1, h2, h3, h4⟩ := e.di j kvs q'
      exact ⟨b, o, h1, h2, by rw [upd_ne (far n q' rfl h1)]; exact h3, h4⟩
  · rcases get_set q1 with ⟨rfl, z1⟩ | ⟨n1, z1⟩
    · rcases get_set q2 with ⟨rfl, z2⟩ | ⟨n2, z2⟩
      · rfl
      · exact e.sep j k x y' u hx z2 ox o2 s1 s2
    · rcases get_set q2 with ⟨rfl, z2⟩ | ⟨n2, z2⟩
      · exact e.sep j k x' x u z1 hx o1 ox s1 s2
      · exact e.sep j k x' y' u z1 z2 o1 o2 s1 s2
/-- an own list is told in the world -/
theorem EnvR.publish {i : Nat} {a : Addr} {ds : List D} {vs : List V} (e : EnvR T Γ H σ ρ) (hx : ρ[i]? = some (.ow ds)) (hs : σ[i]? = some (some (.ref a))) (hn : Γ a = none) : EnvR T (put Γ a (.lst ds)) H σ (ρ.set i (.va (.lst ds))) := by
  have le : Γ.le (put Γ a (.lst ds)) := put_le hn
  have far : ∀ {j : Nat} {z : Sl} {b : Addr}, j ≠ i → ρ[j]? = some z → z.owns = true → σ[j]? = some (some (V.ref b)) → b ≠ a := fun {j z b} n q oz s w => by
    subst w; exact n (e.sep j i z _ _ q hx oz rfl s hs)
  refine ⟨by simp [e.len], fun j d' q => ?_, fun j ds q => ?_, fun j kvs q => ?_, fun j k x' y' u q1 q2 o1 o2 s1 s2 => ?_⟩
  · rcases get_set q with ⟨rfl, z⟩ | ⟨n, q'⟩
    · cases z; exact ⟨_, hs, a, rfl, put_same⟩
    · obtain ⟨v, h1, h2⟩ := e.va j d' q'
      exact ⟨v, h1, h2.mono le⟩
  · rcases get_set q with ⟨rfl, z⟩ | ⟨n, q'⟩
    · cases z
    · obtain ⟨b, vs, h1, h2, h3, h4, h5⟩ := e.ow j ds q'
      exact ⟨b, vs, h1, by rw [put_ne (far n q' rfl h1)]; exact h2, h3, Paired.monoH h4 le, h5⟩
  · rcases get_set q with ⟨rfl, z⟩ | ⟨n, q'⟩
    · cases z
    · obtain ⟨b, o, h1, h2, h3, h4⟩ := e.di j kvs q'
      exact ⟨b, o, h1, by rw [put_ne (far n q' rfl h1)]; exact h2, h3, h4.mono le⟩
  · rcases get_set q1 with ⟨rfl, z1⟩ | ⟨n1, z1⟩
    · subst z1; cases o1
    · rcases get_set q2 with ⟨rfl, z2⟩ | ⟨n2, z2⟩
      · subst z2; cases o2
      · exact e.sep j k x' y' u z1 z2 o1 o2 s1 s2
end
end DL

namespace DL
open PySem PySem.Spec L2

/-! ### judgements -/
inductive Fl where
  | nx (ρ : Rho) | rt (d : D) | bk (ρ : Rho) | ct (ρ : Rho)
section
variable {K : PySem.W.Frag} (T : Th K)
def teOf (f : Rho → M D) : TE := fun σ H post => ∃ Γ ρ Q, Good T Γ H ∧ EnvR T Γ H σ ρ ∧ f ρ Q ∧ ∀ v d Γ' H', Ext T Γ H Γ' H' → Holds T Γ' v d → Q d → post v H'
def ttOf (f : Rho → M Bool) : TT := fun σ H post => ∃ Γ ρ Q, Good T Γ H ∧ EnvR T Γ H σ ρ ∧ f ρ Q ∧ ∀ b Γ' H', Ext T Γ H Γ' H' → Q b → post b H'
def taOf (f : Rho → M (List D)) : TA := fun σ H post => ∃ Γ ρ Q, Good T Γ H ∧ EnvR T Γ H σ ρ ∧ f ρ Q ∧ ∀ vs ds Γ' H', Ext T Γ H Γ' H' → Paired (Holds T Γ') vs ds → Q ds → post vs H'
def Fresh (H0 : Hp) (σ : St) (ρ : Rho) : Prop := ∀ (i : Nat) (x : Sl) (a : Addr), ρ[i]? = some x → x.owns = true → σ[i]? = some (some (V.ref a)) → H0 a = none
structure SS (Γ0 : Wo) (H0 : Hp) (Γ : Wo) (H : Hp) (σ : St) (ρ : Rho) : Prop where
  x : Ext T Γ0 H0 Γ H
  e : EnvR T Γ H σ ρ
  f : Fresh H0 σ ρ
def tsOf (f : Rho → M Fl) : TS := fun D σ H => ∃ Γ0 H0 Γ ρ Q, SS T Γ0 H0 Γ H σ ρ ∧ f ρ Q ∧
  (∀ σ' ρ' Γ' H', Γ.le Γ' → SS T Γ0 H0 Γ' H' σ' ρ' → Q (.nx ρ') → D.nx σ' H') ∧ (∀ v d Γ' H', Γ.le Γ' → Ext T Γ0 H0 Γ' H' → Holds T Γ' v d → Q (.rt d) → D.rt v H') ∧
  (∀ σ' ρ' Γ' H', Γ.le Γ' → SS T Γ0 H0 Γ' H' σ' ρ' → Q (.bk ρ') → D.bk σ' H') ∧ (∀ σ' ρ' Γ' H', Γ.le Γ' → SS T Γ0 H0 Γ' H' σ' ρ' → Q (.ct ρ') → D.ct σ' H')
/-- own slots stay -/
def Kp (σ : St) (ρ : Rho) (σ' : St) (ρ' : Rho) : Prop := ∀ (i : Nat) (x : Sl), ρ'[i]? = some x → x.owns = true → ρ[i]? = some x ∧ σ'[i]? = σ[i]?
def Wip (ts : List Nat) (σ σ' : St) : Prop := ∀ vs : List Nat, (∀ t ∈ ts, t ∈ vs) → wipe σ' vs = wipe σ vs
def tgOf (g : D → Rho → M Rho) (ts : List Nat) : TG := fun v σ H R => ∃ Γ ρ d Q, Good T Γ H ∧ EnvR T Γ H σ ρ ∧ Holds T Γ v d ∧ g d ρ Q ∧
  ∀ σ' ρ' Γ' H', Ext T Γ H Γ' H' → EnvR T Γ' H' σ' ρ' → Kp σ ρ σ' ρ' → Wip ts σ σ' → Q ρ' → R σ' H'
def tgsOf (g : List D → Rho → M Rho) (ts : List Nat) : TGs := fun vs σ H R => ∃ Γ ρ ds Q, Good T Γ H ∧ EnvR T Γ H σ ρ ∧ Paired (Holds T Γ) vs ds ∧ g ds ρ Q ∧
  ∀ σ' ρ' Γ' H', Ext T Γ H Γ' H' → EnvR T Γ' H' σ' ρ' → Kp σ ρ σ' ρ' → Wip ts σ σ' → Q ρ' → R σ' H'
/-- an iterator of fixed items -/
def ItOk (Γ : Wo) (J : It) (items : List D) : Prop := items.length ≤ sizeLine ∧ ∀ (i : Nat) Γ1 H1, Γ.le Γ1 → Good T Γ1 H1 →
  (i < items.length → J.go i H1 ∧ ∀ x H2, J.yld i H1 x H2 → ∃ Γ2 d, Ext T Γ1 H1 Γ2 H2 ∧ items[i]? = some d ∧ Holds T Γ2 x d) ∧ (items.length ≤ i → J.stop i H1)
def tiOf (f : Rho → M (List D)) : TI := fun σ H R => ∃ Γ ρ Q, Good T Γ H ∧ EnvR T Γ H σ ρ ∧ f ρ Q ∧ ∀ J items Γ' H', Ext T Γ H Γ' H' → ItOk T Γ' J items → Q items → R J H'
end

section
variable {X : Cx} (T : Th X.K)
abbrev DE (X : Cx) (T : Th X.K) (e : Expr) (f : Rho → M D) : Prop := PE X e (teOf T f)
abbrev DT (X : Cx) (T : Th X.K) (e : Expr) (f : Rho → M Bool) : Prop := PT X e (ttOf T f)
abbrev DW (X : Cx) (T : Th X.K) (e : Expr) (f : Rho → M Bool) : Prop := PW X e (ttOf T f)
abbrev DA (X : Cx) (T : Th X.K) (es : List Expr) (f : Rho → M (List D)) : Prop := PA X es (taOf T f)
abbrev DS (X : Cx) (T : Th X.K) (st : Stmt) (f : Rho → M Fl) : Prop := PS X st (tsOf T f)
abbrev DSs (X : Cx) (T : Th X.K) (st : List Stmt) (f : Rho → M Fl) : Prop := PSs X st (tsOf T f)
abbrev DG (X : Cx) (T : Th X.K) (tg : Expr) (g : D → Rho → M Rho) (ts : List Nat) : Prop := PG X tg (tgOf T g ts)
abbrev DGs (X : Cx) (T : Th X.K) (tg : List Expr) (g : List D → Rho → M Rho) (ts : List Nat) : Prop := PGs X tg (tgsOf T g ts)
abbrev DI (X : Cx) (T : Th X.K) (tg it : Expr) (f : Rho → M (List D)) : Prop := PI X tg it (tiOf T f)
end

section
variable {X : Cx}
theorem PE.imp {e : Expr} {t t' : TE} (h : PE X e t) (k : ∀ σ H Q, t' σ H Q → t σ H Q) : PE X e t' := ⟨fun pins s σ H Q I q => h.run pins s σ H Q I (k _ _ _ q)⟩
theorem PT.imp {e : Expr} {t t' : TT} (h : PT X e t) (k : ∀ σ H Q, t' σ H Q → t σ H Q) : PT X e t' := ⟨fun pins s σ H Q I q => h.run pins s σ H Q I (k _ _ _ q)⟩
theorem PW.imp {e : Expr} {t t' : TT} (h : PW X e t) (k : ∀ σ H Q, t' σ H Q → t σ H Q) : PW X e t' := ⟨fun wh pins s σ H Q I q => h.run wh pins s σ H Q I (k _ _ _ q)⟩
theorem PA.imp {es : List Expr} {t t' : TA} (h : PA X es t) (k : ∀ σ H Q, t' σ H Q → t σ H Q) : PA X es t' := ⟨fun pos pins s σ H Q I q => h.run pos pins s σ H Q I (k _ _ _ q)⟩
theorem PS.imp {st : Stmt} {t t' : TS} (h : PS X st t) (k : ∀ D σ H, t' D σ H → t D σ H) : PS X st t' := ⟨fun pins s σ H D I q => h.run pins s σ H D I (k _ _ _ q)⟩
theorem PSs.imp {st : List Stmt} {t t' : TS} (h : PSs X st t) (k : ∀ D σ H, t' D σ H → t D σ H) : PSs X st t' := ⟨fun pins s σ H D I q => h.run pins s σ H D I (k _ _ _ q)⟩
theorem PG.imp {e : Expr} {t t' : TG} (h : PG X e t) (k : ∀ v σ H Q, t' v σ H Q → t v σ H Q) : PG X e t' := ⟨fun pins s σ H v u Q I r q => h.run pins s σ H v u Q I r (k _ _ _ _ q)⟩
theorem PGs.imp {es : List Expr} {t t' : TGs} (h : PGs X es t) (k : ∀ v σ H Q, t' v σ H Q → t v σ H Q) : PGs X es t' := ⟨fun pins s σ H v u Q I r q => h.run pins s σ H v u Q I r (k _ _ _ _ q)⟩
theorem PI.imp {tg it : Expr} {t t' : TI} (h : PI X tg it t) (k : ∀ σ H Q, t' σ H Q → t σ H Q) : PI X tg it t' := ⟨fun pins s σ H Q I q => h.run pins s σ H Q I (k _ _ _ q)⟩
end

/-! ### reading back: what a judgement's reading gives inside a rule -/
section
variable {K : PySem.W.Frag} {T : Th K} {Γ Γ' : Wo} {H H' : Hp} {σ : St} {ρ : Rho}
theorem teOf.mk {f : Rho → M D} {Q : D → Prop} {post : VK} (g : Good T Γ H) (e : EnvR T Γ H σ ρ) (h : f ρ Q) (k : ∀ v d Γ' H', Ext T Γ H Γ' H' → Holds T Γ' v d → Q d → post v H') : teOf T f σ H post := ⟨Γ, ρ, Q, g, e, h, k⟩
theorem SS.good {Γ0 : Wo} {H0 : Hp} (s : SS T Γ0 H0 Γ H σ ρ) : Good T Γ H := s.x.good
theorem SS.step {Γ0 : Wo} {H0 : Hp} (s : SS T Γ0 H0 Γ H σ ρ) (x : Ext T Γ H Γ' H') : SS T Γ0 H0 Γ' H' σ ρ := ⟨s.x.trans x, s.e.mono x, s.f⟩
theorem SS.kp {Γ0 : Wo} {H0 : Hp} {σ' : St} {ρ' : Rho} (s : SS T Γ0 H0 Γ H σ ρ) (x : Ext T Γ H Γ' H') (e : EnvR T Γ' H' σ' ρ') (k : Kp σ ρ σ' ρ') : SS T Γ0 H0 Γ' H' σ' ρ' :=
  ⟨s.x.trans x, e, fun i y a h1 h2 h3 => by
    obtain ⟨g1, g2⟩ := k i y h1 h2
    rw [g2] at h3
    exact s.f i y a g1 h2 h3⟩
theorem Kp.refl : Kp σ ρ σ ρ := fun _ _ h _ => ⟨h, rfl⟩
theorem Kp.trans {σ1 σ2 : St} {ρ1 ρ2 : Rho} (a : Kp σ ρ σ1 ρ1) (b : Kp σ1 ρ1 σ2 ρ2) : Kp σ ρ σ2 ρ2 := fun i x h o => by
  obtain ⟨h1, e1⟩ := b i x h o
  obtain ⟨h2, e2⟩ := a i x h1 o
  exact ⟨h2, e1.trans e2⟩
theorem Kp.set {v : Option V} {d : D} (i : Nat) : Kp σ ρ (σ.set i v) (ρ.set i (.va d)) := fun j x h o => by
  rcases get_set h with ⟨_, z⟩ | ⟨n, z⟩
  · subst z; cases o
  · exact ⟨z, by rw [List.getElem?_set_ne (Ne.symm n)]⟩
theorem wipe_set {i : Nat} {x : Option V} : ∀ {vs : List Nat}, i ∈ vs → wipe (σ.set i x) vs = wipe σ vs
  | v :: vs, h => by
    show (wipe (σ.set i x) vs).set v none = (wipe σ vs).set v none
    by_cases hi : i ∈ vs
    · rw [wipe_set hi]
    · rcases List.mem_cons.mp h with rfl | h
      · have e : ∀ (ws : List Nat) (τ : St), i ∉ ws → wipe (τ.set i x) ws = (wipe τ ws).set i x := by
          intro ws
          induction ws with
          | nil => intro τ _; rfl
          | cons w ws ih =>
            intro τ hn
            show (wipe (τ.set i x) ws).set w none = ((wipe τ ws).set w none).set i x
            rw [ih τ fun z => hn (List.mem_cons_of_mem _ z), List.set_comm _ _ (fun z => hn (by rw [z]; exact List.mem_cons_self))]
        rw [e vs σ hi, List.set_set]
      · exact absurd h hi
theorem Wip.set {i : Nat} {x : Option V} : Wip [i] σ (σ.set i x) := fun vs h => wipe_set (h i (by simp))
theorem Wip.refl {ts : List Nat} : Wip ts σ σ := fun _ _ => rfl
theorem Wip.trans {ts us : List Nat} {σ1 σ2 : St} (a : Wip ts σ σ1) (b : Wip us σ1 σ2) : Wip (ts ++ us) σ σ2 := fun vs h =>
  (b vs fun t ht => h t (List.mem_append_right _ ht)).trans (a vs fun t ht => h t (List.mem_append_left _ ht))
end

section
variable {K : PySem.W.Frag} {T : Th K} {Γ : Wo} {H : Hp}
theorem Holds.tup {v : V} {ds : List D} (g : Good T Γ H) (h : Holds T Γ v (.tup ds)) : ∃ a vs, v = .ref a ∧ SqT K H a vs ∧ Paired (Holds T Γ) vs ds := by
  obtain ⟨a, e, q | q⟩ := h
  · obtain ⟨o, ho, vs, eo, r, z⟩ := g a _ q
    subst eo
    exact ⟨a, vs, e, SqT.of ho, r⟩
  · obtain ⟨ds', vs, e1, _, hs, r⟩ := T.ctok a _ q
    cases e1
    refine ⟨a, vs, e, hs H, r.mono fun v d ⟨h1, h2⟩ => ?_⟩
    cases d with
    | non => cases h1; exact rfl
    | bl b => cases h1; exact rfl
    | int i => cases h1; exact rfl
    | str l => cases h1; exact ⟨rfl, h2 l rfl⟩
    | _ => cases h1
theorem Holds.tupLe {v : V} {ds : List D} (g : Good T Γ H) (h : Holds T Γ v (.tup ds)) : ds.length ≤ sizeLine := by
  obtain ⟨a, e, q | q⟩ := h
  · obtain ⟨o, ho, vs, eo, r, z⟩ := g a _ q
    exact z
  · obtain ⟨ds', vs, e1, z, hs, r⟩ := T.ctok a _ q
    cases e1
    exact z
theorem Holds.lst {v : V} {ds : List D} (g : Good T Γ H) (h : Holds T Γ v (.lst ds)) : ∃ a vs, v = .ref a ∧ H a = some (.lst vs) ∧ Paired (Holds T Γ) vs ds ∧ ds.length ≤ sizeLine := by
  obtain ⟨a, e, q⟩ := h
  obtain ⟨o, ho, vs, eo, r, z⟩ := g a _ q
  subst eo
  exact ⟨a, vs, e, ho, r, z⟩
end

/-! ### names, constants -/
def rd (i : Nat) : Rho → M D := fun ρ => match ρ[i]? with
  | some (.va d) => ret d
  | _ => bad
theorem rd_get {i : Nat} {ρ : Rho} {Q : D → Prop} (h : rd i ρ Q) : ∃ d, ρ[i]? = some (.va d) ∧ Q d := by
  unfold rd at h
  revert h
  cases q : ρ[i]? with
  | none => intro h; exact h.elim
  | some s =>
    cases s with
    | va d => intro h; exact ⟨d, rfl, h⟩
    | _ => intro h; exact h.elim
def cst (d : D) : Rho → M D := fun _ => ret d
def c1 (o : D → M D) (f : Rho → M D) : Rho → M D := fun ρ => bnd (f ρ) o
def c2 (o : D → D → M D) (f g : Rho → M D) : Rho → M D := fun ρ => bnd (f ρ) fun x => bnd (g ρ) (o x)
section
variable {X : Cx} {T : Th X.K} {pos : Pos}
theorem de_var (i : Nat) {x : Str} {pos : Pos} (hN : X.N[i]? = some x := by rfl) (hv : Vis X.env.scope x := by first | exact Or.inl rfl | exact Or.inr (Or.inl rfl) | exact Or.inr (Or.inr rfl)) (hd : (x == ("__debug__" : Str)) = false := by decide)
    (hcd : (x == ("__classdict__" : Str)) = false := by decide) : DE X T (.Name x pos) (rd i) :=
  PE.imp (pv i hN hv hd hcd) fun σ H post ⟨Γ, ρ, Q, g, e, h, k⟩ => by
    obtain ⟨d, hd, h⟩ := rd_get h
    obtain ⟨v, h1, h2⟩ := e.va i d hd
    exact ⟨v, h1, k v d Γ H (.refl g) h2 h⟩
theorem de_int {i : Int} {j pos} : DE X T (.Constant (.int i) j pos) (cst (.int i)) := PE.imp pe_int fun σ H post ⟨Γ, ρ, Q, g, e, h, k⟩ => k _ _ Γ H (.refl g) (show Holds T Γ (.int i) (.int i) from rfl) h
theorem de_bl {i : Bool} {j pos} : DE X T (.Constant (.bool i) j pos) (cst (.bl i)) := PE.imp pe_bl fun σ H post ⟨Γ, ρ, Q, g, e, h, k⟩ => k _ _ Γ H (.refl g) (show Holds T Γ (.bl i) (.bl i) from rfl) h
theorem de_non {j pos} : DE X T (.Constant .none j pos) (cst .non) := PE.imp pe_non fun σ H post ⟨Γ, ρ, Q, g, e, h, k⟩ => k _ _ Γ H (.refl g) (show Holds T Γ .non .non from rfl) h
theorem str_lit {x : Str} {l : List Nat} (h : x.cps.toList = l) : x = ⟨l.toArray⟩ := by
  subst h
  rfl
theorem de_str {x : Str} {l : List Nat} {j pos} (hl : x.cps.toList = l := by decide +kernel) (hz : l.length ≤ 1000 ∧ (l.all fun c => decide (c < 1114112)) = true := by decide) : DE X T (.Constant (.str x) j pos) (cst (.str l)) :=
  PE.imp pe_str fun σ H post ⟨Γ, ρ, Q, g, e, h, k⟩ => k _ _ Γ H (.refl g) (show Holds T Γ (.str x) (.str l) from ⟨by rw [str_lit hl], Nat.le_trans hz.1 (by decide), fun c hc => of_decide_eq_true (List.all_eq_true.mp hz.2 c hc)⟩) h

/-! ### operators, by a rule on data -/
def OpD (T : Th X.K) (r : R2) (o : D → D → M D) : Prop := ∀ Γ H x y d e (Q : D → Prop) (post : VK), Good T Γ H → Holds T Γ x d → Holds T Γ y e → o d e Q → (∀ v z Γ' H', Ext T Γ H Γ' H' → Holds T Γ' v z → Q z → post v H') → r x y H post
def UnD (T : Th X.K) (r : V → Hp → VK → Prop) (o : D → M D) : Prop := ∀ Γ H x d (Q : D → Prop) (post : VK), Good T Γ H → Holds T Γ x d → o d Q → (∀ v z Γ' H', Ext T Γ H Γ' H' → Holds T Γ' v z → Q z → post v H') → r x H post
def CallD (T : Th X.K) (r : List V → Hp → VK → Prop) (o : List D → M D) : Prop := ∀ Γ H xs ds (Q : D → Prop) (post : VK), Good T Γ H → Paired (Holds T Γ) xs ds → o ds Q → (∀ v z Γ' H', Ext T Γ H Γ' H' → Holds T Γ' v z → Q z → post v H') → r xs H post
variable {a b c : Expr} {fa fb fc : Rho → M D} {r : R2} {o : D → D → M D}
theorem opd_run (hd : OpD T r o) : ∀ σ H post, teOf T (c2 o fa fb) σ H post → tOp r (teOf T fa) (teOf T fb) σ H post := fun σ H post ⟨Γ, ρ, Q, g, e, h, k⟩ =>
  .mk g e h fun v d Γ1 H1 x1 hv h1 => .mk x1.good (e.mono x1) h1 fun u d2 Γ2 H2 x2 hu h2 => hd Γ2 H2 v u d d2 Q post x2.good (hv.mono x2.le) hu h2 fun w z Γ3 H3 x3 hw hz => k w z Γ3 H3 ((x1.trans x2).trans x3) hw hz
theorem de_op {op : Operator} (ho : OpR X (binaryOp op) r) (hd : OpD T r o) (ha : DE X T a fa) (hb : DE X T b fb) : DE X T (.BinOp a op b pos) (c2 o fa fb) := PE.imp (pe_op ho ha hb) (opd_run hd)
theorem de_cmp {op : CmpOp} (ho : OpR X (compareOp op) r) (hd : OpD T r o) (ha : DE X T a fa) (hb : DE X T b fb) (hm : behindInMarks op b = false) : DE X T (.Compare a [op] [b] pos) (c2 o fa fb) := PE.imp (pe_cmpR ho ha hb hm) (opd_run hd)
theorem de_un {op : UnaryOp} {ru : V → Hp → VK → Prop} {o : D → M D} (ho : UnR X (unaryOp op) ru) (hd : UnD T ru o) (ha : DE X T a fa) : DE X T (.UnaryOp op a pos) (c1 o fa) :=
  PE.imp (pe_un ho ha) fun σ H post ⟨Γ, ρ, Q, g, e, h, k⟩ => .mk g e h fun v d Γ1 H1 x1 hv h1 => hd Γ1 H1 v d Q post x1.good hv h1 fun w z Γ3 H3 x3 hw hz => k w z Γ3 H3 (x1.trans x3) hw hz
theorem de_ix (ho : IxR X r) (hd : OpD T r o) (ha : DE X T a fa) (hb : DE X T b fb) (hs : PlainIx b := by exact fun _ _ => rfl) : DE X T (.Subscript a b pos) (c2 o fa fb) := PE.imp (pe_ix ho ha hb hs) (opd_run hd)
/-- a < b < c -/
def c3 (o o' : D → D → M D) (f g h : Rho → M D) : Rho → M D := fun ρ => bnd (f ρ) fun x => bnd (g ρ) fun y => bnd (o x y) fun z => match z with
  | .bl true => bnd (h ρ) (o' y)
  | .bl false => ret (.bl false)
  | _ => bad
theorem de_chain {op op' : CmpOp} {r' : R2} {o' : D → D → M D} (ho : OpR X (compareOp op) r) (hd : OpD T r o) (ho' : OpR X (compareOp op') r') (hd' : OpD T r' o') (ha : DE X T a fa) (hb : DE X T b fb) (hc : DE X T c fc)
    (hm : lastMarks [op, op'] [b, c] = false := by with_unfolding_all rfl) : DE X T (.Compare a [op, op'] [b, c] pos) (c3 o o' fa fb fc) :=
  PE.imp (pe_chain ho ho' ha hb hc hm) fun σ H post ⟨Γ, ρ, Q, g, e, h, k⟩ => .mk g e h fun v d Γ1 H1 x1 hv h1 => .mk x1.good (e.mono x1) h1 fun u d2 Γ2 H2 x2 hu h2 =>
    hd Γ2 H2 v u d d2 _ _ x2.good (hv.mono x2.le) hu h2 fun w z Γ3 H3 x3 hw hz => by
      cases z with
      | bl q =>
        cases q with
        | false => exact ⟨false, hw, iteF (k _ _ Γ3 H3 ((x1.trans x2).trans x3) (show Holds T Γ3 (.bl false) (.bl false) from rfl) hz)⟩
        | true => exact ⟨true, hw, iteT (.mk x3.good (((e.mono x1).mono x2).mono x3) hz fun w2 d4 Γ4 H4 x4 hw4 h4 => hd' Γ4 H4 u w2 d2 d4 Q post x4.good ((hu.mono x3.le).mono x4.le) hw4 h4 fun y1 y2 Γ5 H5 x5 hy q5 => k y1 y2 Γ5 H5 ((((x1.trans x2).trans x3).trans x4).trans x5) hy q5)⟩
      | _ => exact hz.elim

/-! ### tests -/
def tst (f : Rho → M D) : Rho → M Bool := fun ρ => bnd (f ρ) fun d => match d with
  | .bl b => ret b
  | _ => bad
/-- an expression that gives a bool, as a test -/
theorem tst_run {f : Rho → M D} {t : TE} (h0 : ∀ σ H post, teOf T f σ H post → t σ H post) : ∀ σ H post, ttOf T (tst f) σ H post → t σ H fun x H' => ∃ k, x = .bl k ∧ post k H' := fun σ H post ⟨Γ, ρ, Q, g, e, h, k⟩ => h0 σ H _ (.mk g e h fun v d Γ1 H1 x1 hv h1 => by
    cases d with
    | bl b => exact ⟨b, hv, k b Γ1 H1 x1 h1⟩
    | _ => exact h1.elim)
theorem dt_val (ha : DE X T a fa) (he : ∀ whole, isTrue a X.env whole = (do let v ← whole; standAt a.pos; holding [v] (truthy v)) := by intro _; rfl) : DT X T a (tst fa) := PT.imp (pt_val ha he) (tst_run fun _ _ _ h => h)
theorem dt_cmp {op : CmpOp} (ho : OpR X (compareOp op) r) (hd : OpD T r o) (ha : DE X T a fa) (hb : DE X T b fb) (hm : behindInMarks op b = false) : DT X T (.Compare a [op] [b] pos) (tst (c2 o fa fb)) := PT.imp (pt_cmpR ho ha hb hm) (tst_run (opd_run hd))
theorem dt_chain {op op' : CmpOp} {r' : R2} {o' : D → D → M D} (ho : OpR X (compareOp op) r) (hd : OpD T r o) (ho' : OpR X (compareOp op') r') (hd' : OpD T r' o') (ha : DE X T a fa) (hb : DE X T b fb) (hc : DE X T c fc)
    (hm : lastMarks [op, op'] [b, c] = false := by with_unfolding_all rfl) : DT X T (.Compare a [op, op'] [b, c] pos) (tst (c3 o o' fa fb fc)) :=
  PT.imp (pt_chain ho ho' ha hb hc hm) (tst_run fun σ H post ⟨Γ, ρ, Q, g, e, h, k⟩ => .mk g e h fun v d Γ1 H1 x1 hv h1 => .mk x1.good (e.mono x1) h1 fun u d2 Γ2 H2 x2 hu h2 =>
    hd Γ2 H2 v u d d2 _ _ x2.good (hv.mono x2.le) hu h2 fun w z Γ3 H3 x3 hw hz => by
      cases z with
      | bl q =>
        cases q with
        | false => exact ⟨false, hw, iteF (k _ _ Γ3 H3 ((x1.trans x2).trans x3) (show Holds T Γ3 (.bl false) (.bl false) from rfl) hz)⟩
        | true => exact ⟨true, hw, iteT (.mk x3.good (((e.mono x1).mono x2).mono x3) hz fun w2 d4 Γ4 H4 x4 hw4 h4 => hd' Γ4 H4 u w2 d2 d4 Q _ x4.good ((hu.mono x3.le).mono x4.le) hw4 h4 fun y1 y2 Γ5 H5 x5 hy q5 => k y1 y2 Γ5 H5 ((((x1.trans x2).trans x3).trans x4).trans x5) hy q5)⟩
      | _ => exact hz.elim)
variable {ta tb : Rho → M Bool} {rest : List Expr}
def cAnd (f g : Rho → M Bool) : Rho → M Bool := fun ρ => bnd (f ρ) fun b => if b = true then g ρ else ret false
def cOr (f g : Rho → M Bool) : Rho → M Bool := fun ρ => bnd (f ρ) fun b => if b = true then ret true else g ρ
def cNot (f : Rho → M Bool) : Rho → M Bool := fun ρ => bnd (f ρ) fun b => ret (!b)
theorem dw_and1 (ha : DT X T a ta) : DW X T (.BoolOp .And [a] pos) ta := pw_and1 ha
theorem dw_or1 (ha : DT X T a ta) : DW X T (.BoolOp .Or [a] pos) ta := pw_or1 ha
theorem dw_and (ha : DT X T a ta) (hb : DW X T (.BoolOp .And (b :: rest) pos) tb) : DW X T (.BoolOp .And (a :: b :: rest) pos) (cAnd ta tb) :=
  PW.imp (pw_and ha hb) fun σ H post ⟨Γ, ρ, Q, g, e, h, k⟩ => ⟨Γ, ρ, _, g, e, h, fun b Γ1 H1 x1 h1 => by
    cases b with
    | true => exact iteT ⟨Γ1, ρ, Q, x1.good, e.mono x1, h1, fun b Γ2 H2 x2 h2 => k b Γ2 H2 (x1.trans x2) h2⟩
    | false => exact iteF (k false Γ1 H1 x1 h1)⟩
theorem dw_or (ha : DT X T a ta) (hb : DW X T (.BoolOp .Or (b :: rest) pos) tb) : DW X T (.BoolOp .Or (a :: b :: rest) pos) (cOr ta tb) :=
  PW.imp (pw_or ha hb) fun σ H post ⟨Γ, ρ, Q, g, e, h, k⟩ => ⟨Γ, ρ, _, g, e, h, fun b Γ1 H1 x1 h1 => by
    cases b with
    | false => exact iteF ⟨Γ1, ρ, Q, x1.good, e.mono x1, h1, fun b Γ2 H2 x2 h2 => k b Γ2 H2 (x1.trans x2) h2⟩
    | true => exact iteT (k true Γ1 H1 x1 h1)⟩
theorem dw_pt {f : Rho → M Bool} (h : DW X T a f) : DT X T a f := PW.pt h
theorem dt_not (ha : DT X T a ta) : DT X T (.UnaryOp .Not a pos) (cNot ta) :=
  PT.imp (pt_not ha) fun σ H post ⟨Γ, ρ, Q, g, e, h, k⟩ => ⟨Γ, ρ, _, g, e, h, fun b Γ1 H1 x1 h1 => k _ Γ1 H1 x1 h1⟩
/-- .. as values: all but the last a bool -/
def vAnd (f g : Rho → M D) : Rho → M D := fun ρ => bnd (f ρ) fun x => match x with
  | .bl true => g ρ
  | .bl false => ret (.bl false)
  | _ => bad
def vOr (f g : Rho → M D) : Rho → M D := fun ρ => bnd (f ρ) fun x => match x with
  | .bl true => ret (.bl true)
  | .bl false => g ρ
  | _ => bad
def oNot : D → M D
  | .bl b => ret (.bl (!b))
  | _ => bad
theorem de_one {op} (h : DE X T a fa) : DE X T (.BoolOp op [a] pos) fa := pe_one h
theorem de_and (ha : DE X T a fa) (hb : DE X T (.BoolOp .And (b :: rest) pos) fb) : DE X T (.BoolOp .And (a :: b :: rest) pos) (vAnd fa fb) :=
  PE.imp (pe_and ha hb) fun σ H post ⟨Γ, ρ, Q, g, e, h, k⟩ => .mk g e h fun v d Γ1 H1 x1 hv h1 => by
    cases d with
    | bl q =>
      cases q with
      | true => exact ⟨true, hv, iteT (.mk x1.good (e.mono x1) h1 fun u d2 Γ2 H2 x2 hu h2 => k u d2 Γ2 H2 (x1.trans x2) hu h2)⟩
      | false => exact ⟨false, hv, iteF (k _ _ Γ1 H1 x1 (show Holds T Γ1 (.bl false) (.bl false) from rfl) h1)⟩
    | _ => exact h1.elim
theorem de_or (ha : DE X T a fa) (hb : DE X T (.BoolOp .Or (b :: rest) pos) fb) : DE X T (.BoolOp .Or (a :: b :: rest) pos) (vOr fa fb) :=
  PE.imp (pe_or ha hb) fun σ H post ⟨Γ, ρ, Q, g, e, h, k⟩ => .mk g e h fun v d Γ1 H1 x1 hv h1 => by
    cases d with
    | bl q =>
      cases q with
      | false => exact ⟨false, hv, iteF (.mk x1.good (e.mono x1) h1 fun u d2 Γ2 H2 x2 hu h2 => k u d2 Γ2 H2 (x1.trans x2) hu h2)⟩
      | true => exact ⟨true, hv, iteT (k _ _ Γ1 H1 x1 (show Holds T Γ1 (.bl true) (.bl true) from rfl) h1)⟩
    | _ => exact h1.elim
theorem de_not (ha : DE X T a fa) : DE X T (.UnaryOp .Not a pos) (c1 oNot fa) :=
  PE.imp (pe_not ha) fun σ H post ⟨Γ, ρ, Q, g, e, h, k⟩ => .mk g e h fun v d Γ1 H1 x1 hv h1 => by
    cases d with
    | bl q => exact ⟨q, hv, k _ _ Γ1 H1 x1 (show Holds T Γ1 (.bl (!q)) (.bl (!q)) from rfl) h1⟩
    | _ => exact h1.elim
def cIf (t : Rho → M Bool) (f g : Rho → M D) : Rho → M D := fun ρ => bnd (t ρ) fun b => if b = true then f ρ else g ρ
theorem de_if {c : Expr} {t : Rho → M Bool} (hc : DT X T c t) (ha : DE X T a fa) (hb : DE X T b fb) : DE X T (.IfExp c a b pos) (cIf t fa fb) :=
  PE.imp (pe_ifExp hc ha hb) fun σ H post ⟨Γ, ρ, Q, g, e, h, k⟩ => ⟨Γ, ρ, _, g, e, h, fun q Γ1 H1 x1 h1 => by
    cases q with
    | true => exact iteT (.mk x1.good (e.mono x1) h1 fun u d2 Γ2 H2 x2 hu h2 => k u d2 Γ2 H2 (x1.trans x2) hu h2)
    | false => exact iteF (.mk x1.good (e.mono x1) h1 fun u d2 Γ2 H2 x2 hu h2 => k u d2 Γ2 H2 (x1.trans x2) hu h2)⟩

/-! ### argument lists, displays -/
variable {es : List Expr} {fs : Rho → M (List D)}
def aNil : Rho → M (List D) := fun _ => ret []
def aCons (f : Rho → M D) (g : Rho → M (List D)) : Rho → M (List D) := fun ρ => bnd (f ρ) fun x => bnd (g ρ) fun xs => ret (x :: xs)
theorem da_nil : DA X T [] aNil := PA.imp pa_nil fun σ H post ⟨Γ, ρ, Q, g, e, h, k⟩ => k [] [] Γ H (.refl g) .nil h
theorem da_cons (ha : DE X T a fa) (hr : DA X T es fs) (hs : starEach (a :: es) X.env = (false, eval a X.env) :: starEach es X.env := by rfl) : DA X T (a :: es) (aCons fa fs) :=
  PA.imp (pa_cons ha hr hs) fun σ H post ⟨Γ, ρ, Q, g, e, h, k⟩ => .mk g e h fun v d Γ1 H1 x1 hv h1 => ⟨Γ1, ρ, _, x1.good, e.mono x1, h1, fun vs ds Γ2 H2 x2 hvs h2 => k _ _ Γ2 H2 (x1.trans x2) (.cons (hv.mono x2.le) hvs) h2⟩
def oTup (xs : List D) : M D := asrt (xs.length ≤ sizeLine) (ret (.tup xs))
def oLst (xs : List D) : M D := asrt (xs.length ≤ sizeLine) (ret (.lst xs))
def cA (o : List D → M D) (f : Rho → M (List D)) : Rho → M D := fun ρ => bnd (f ρ) o
theorem newTup {Γ : Wo} {H : Hp} {vs : List V} {ds : List D} {p : Addr} (g : Good T Γ H) (hv : Paired (Holds T Γ) vs ds) (hz : ds.length ≤ sizeLine) (hp : H p = none) : Ext T Γ H (put Γ p (.tup ds)) (upd H p (.tup vs)) ∧ Holds T (put Γ p (.tup ds)) (.ref p) (.tup ds) :=
  ⟨.new g hp ⟨vs, rfl, Paired.monoH hv (put_le (g.free hp)), hz⟩, p, rfl, .inl put_same⟩
theorem newLst {Γ : Wo} {H : Hp} {vs : List V} {ds : List D} {p : Addr} (g : Good T Γ H) (hv : Paired (Holds T Γ) vs ds) (hz : ds.length ≤ sizeLine) (hp : H p = none) : Ext T Γ H (put Γ p (.lst ds)) (upd H p (.lst vs)) ∧ Holds T (put Γ p (.lst ds)) (.ref p) (.lst ds) :=
  ⟨.new g hp ⟨vs, rfl, Paired.monoH hv (put_le (g.free hp)), hz⟩, p, rfl, put_same⟩
theorem de_tup {x1} (h : DA X T es fs) : DE X T (.Tuple es x1 pos) (cA oTup fs) :=
  PE.imp (pe_tup h) fun σ H post ⟨Γ, ρ, Q, g, e, h, k⟩ => ⟨Γ, ρ, _, g, e, h, fun vs ds Γ1 H1 x1 hv ⟨hz, h1⟩ => ⟨by rw [hv.length]; exact hz, fun p hp => by
    obtain ⟨x2, h2⟩ := newTup x1.good hv hz hp
    exact k _ _ _ _ (x1.trans x2) h2 h1⟩⟩
theorem de_lst (h : DA X T es fs) : DE X T (.List es pos) (cA oLst fs) :=
  PE.imp (pe_lst h) fun σ H post ⟨Γ, ρ, Q, g, e, h, k⟩ => ⟨Γ, ρ, _, g, e, h, fun vs ds Γ1 H1 x1 hv ⟨hz, h1⟩ => ⟨by rw [hv.length]; exact hz, fun p hp => by
    obtain ⟨x2, h2⟩ := newLst x1.good hv hz hp
    exact k _ _ _ _ (x1.trans x2) h2 h1⟩⟩

/-! ### calls of built-ins by name -/
variable {x : Str} {p : Pos} {o1 : List D → M D} {rc : List V → Hp → VK → Prop} {e : Expr}
theorem call_run (hd : CallD T rc o1) : ∀ σ H post, teOf T (cA o1 fs) σ H post → tCB rc (taOf T fs) σ H post := fun σ H post ⟨Γ, ρ, Q, g, e, h, k⟩ =>
  ⟨Γ, ρ, _, g, e, h, fun vs ds Γ1 H1 x1 hv h1 => hd Γ1 H1 vs ds Q post x1.good hv h1 fun w z Γ3 H3 x3 hw hz => k w z Γ3 H3 (x1.trans x3) hw hz⟩
theorem de_callB {id : String} (hc : CallR X (.builtin id) rc) (hd : CallD T rc o1) (hm : X.mg x = none) (ha : DA X T (e :: es) fs) (hv : bootBuiltins x = some (.builtin id) := by decide +kernel) (hg : Gl X x := by rfl) (hn : x ≠ "__name__" := by decide) (hdb : (x == ("__debug__" : Str)) = false := by decide)
    (he : starEach (e :: es) X.env = (false, eval e X.env) :: starEach es X.env := by rfl) (hpl : (backTo pos (starEach es X.env)).any (·.1) = false := by rfl) : DE X T (.Call (.Name x p) (e :: es) [] pos) (cA o1 fs) :=
  PE.imp (pe_callB hc hg hm hv ha hn hdb he hpl) (call_run hd)
theorem de_callTy {id : String} (hc : CallR X (.type id) rc) (hd : CallD T rc o1) (hm : X.mg x = none) (ha : DA X T (e :: es) fs) (hv : bootBuiltins x = some (.type id) := by decide +kernel) (hg : Gl X x := by rfl) (hn : x ≠ "__name__" := by decide) (hdb : (x == ("__debug__" : Str)) = false := by decide)
    (he : starEach (e :: es) X.env = (false, eval e X.env) :: starEach es X.env := by rfl) (hpl : (backTo pos (starEach es X.env)).any (·.1) = false := by rfl) : DE X T (.Call (.Name x p) (e :: es) [] pos) (cA o1 fs) :=
  PE.imp (pe_callTy hc hg hm hv ha hn hdb he hpl) (call_run hd)

/-! ### methods of built-in types -/
def MtD (T : Th X.K) (Ty : String) (r : V → List V → Hp → VK → Prop) (o : D → List D → M D) : Prop := ∀ Γ H x xs d ds (Q : D → Prop) (post : VK), Good T Γ H → Holds T Γ x d → Paired (Holds T Γ) xs ds → o d ds Q → (∀ v z Γ' H', Ext T Γ H Γ' H' → Holds T Γ' v z → Q z → post v H') → r x xs H post
def cM (o : D → List D → M D) (f : Rho → M D) (g : Rho → M (List D)) : Rho → M D := fun ρ => bnd (f ρ) fun x => bnd (g ρ) fun xs => o x xs
/-- only texts have it -/
def onS (o : List Nat → List D → M D) : D → List D → M D := fun x xs => match x with
  | .str l => o l xs
  | _ => bad
/-- the text's kind is asked ahead of the arguments -/
def cMS (o : List Nat → List D → M D) (f : Rho → M D) (g : Rho → M (List D)) : Rho → M D := fun ρ => bnd (f ρ) fun x => match x with
  | .str l => bnd (g ρ) fun xs => o l xs
  | _ => bad
theorem de_bmS {name : Str} {apos cpos : Pos} {id : String} {rm : V → List V → Hp → VK → Prop} {om : List Nat → List D → M D} {ex : Expr} {f : Rho → M D} (slot : Slot "str" name id) (hty : typeOf (.builtin id) = pure (.type "method_descriptor")) (hm : MtR X id rm) (hd : MtD T "str" rm (onS om)) (ho : DE X T ex f) (ha : DA X T (e :: es) fs)
    (hbase : attributeBase ex name X.env (eval ex X.env) = eval ex X.env := by rfl)
    (hfew : ((backTo cpos (starEach (e :: es) X.env)).all (fun x => !x.1) && (backToKw cpos (keywordEach [] X.env)).all (fun x => x.1.isSome)
      && decide ((e :: es).length + ([] : List Keyword).length + (if ([] : List Keyword).isEmpty then 0 else 1) < 30)) = true := by rfl)
    (hline : (apos.endLine == cpos.line) = true := by rfl) (hs : starEach (e :: es) X.env = (false, eval e X.env) :: starEach es X.env := by rfl) (hplain : (backTo cpos (starEach es X.env)).any (·.1) = false := by rfl) :
    DE X T (.Call (.Attribute ex name apos) (e :: es) [] cpos) (cMS om f fs) :=
  PE.imp (pe_bm PySem.F.plainAttrs_str slot hty hm ho ha hbase hfew hline hs hplain) fun σ H post ⟨Γ, ρ, Q, g, e, h, k⟩ => .mk g e h fun v d Γ1 H1 x1 hv h1 => by
    cases d with
    | str l =>
      obtain ⟨e1, hl⟩ := (show Holds T Γ1 v (.str l) from hv)
      refine ⟨?_, Γ1, ρ, _, x1.good, e.mono x1, h1, fun vs ds Γ2 H2 x2 hvs h2 => hd Γ2 H2 v vs (.str l) ds Q post x2.good (hv.mono x2.le) hvs h2 fun w z Γ3 H3 x3 hw hz => k w z Γ3 H3 ((x1.trans x2).trans x3) hw hz⟩
      rw [e1]; exact rfl
    | _ => exact h1.elim
end
end DL

namespace DL
open PySem PySem.Spec L2

/-! ### statements -/
abbrev Nx := Rho → M Fl
def sNext : Rho → M Fl := fun ρ => ret (.nx ρ)
def fthen (k : Rho → M Fl) : Fl → M Fl
  | .nx ρ => k ρ
  | .rt d => ret (.rt d)
  | .bk ρ => ret (.bk ρ)
  | .ct ρ => ret (.ct ρ)
def sSeq (f g : Rho → M Fl) : Rho → M Fl := fun ρ => bnd (f ρ) (fthen g)
def sRet (f : Rho → M D) : Rho → M Fl := fun ρ => bnd (f ρ) fun d => ret (.rt d)
def sRetN : Rho → M Fl := fun _ => ret (.rt .non)
def sDrop (f : Rho → M D) : Rho → M Fl := fun ρ => bnd (f ρ) fun _ => ret (.nx ρ)
def sIf (t : Rho → M Bool) (f g : Rho → M Fl) : Rho → M Fl := fun ρ => bnd (t ρ) fun b => if b = true then f ρ else g ρ
def sBrk : Rho → M Fl := fun ρ => ret (.bk ρ)
def sCont : Rho → M Fl := fun ρ => ret (.ct ρ)
def sAsg (f : Rho → M D) (g : D → Rho → M Rho) : Rho → M Fl := fun ρ => bnd (f ρ) fun d => bnd (g d ρ) sNext
def sSet (i : Nat) (f : Rho → M D) : Rho → M Fl := fun ρ => bnd (f ρ) fun d => ret (.nx (ρ.set i (.va d)))
section
variable {X : Cx} {T : Th X.K} {st : Stmt} {rest : List Stmt} {f g : Rho → M Fl} {e : Expr} {fe : Rho → M D} {pos : Pos}
theorem dss_nil : DSs X T [] sNext := PSs.imp pss_nil fun D σ H ⟨Γ0, H0, Γ, ρ, Q, s, h, k1, _⟩ => k1 σ ρ Γ H (Wo.le.refl _) s h
theorem dss_cons (h1 : DS X T st f) (h2 : DSs X T rest g) : DSs X T (st :: rest) (sSeq f g) :=
  PSs.imp (pss_cons h1 h2) fun D σ H ⟨Γ0, H0, Γ, ρ, Q, s, h, k1, k2, k3, k4⟩ => ⟨Γ0, H0, Γ, ρ, _, s, h, fun σ' ρ' Γ' H' le s' q => ⟨Γ0, H0, Γ', ρ', Q, s', q, fun a b c d l => k1 a b c d (le.trans l), fun a b c d l => k2 a b c d (le.trans l), fun a b c d l => k3 a b c d (le.trans l), fun a b c d l => k4 a b c d (le.trans l)⟩, k2, k3, k4⟩
theorem dss_one (h1 : DS X T st f) : DSs X T [st] f := pss_one h1
theorem ds_pass : DS X T (.Pass pos) sNext := PS.imp ps_pass fun D σ H ⟨Γ0, H0, Γ, ρ, Q, s, h, k1, _⟩ => k1 σ ρ Γ H (Wo.le.refl _) s h
theorem ds_break : DS X T (.Break pos) sBrk := PS.imp ps_break fun D σ H ⟨Γ0, H0, Γ, ρ, Q, s, h, k1, k2, k3, k4⟩ => k3 σ ρ Γ H (Wo.le.refl _) s h
theorem ds_continue : DS X T (.Continue pos) sCont := PS.imp ps_continue fun D σ H ⟨Γ0, H0, Γ, ρ, Q, s, h, k1, k2, k3, k4⟩ => k4 σ ρ Γ H (Wo.le.refl _) s h
/-- a statement that is never reached -/
theorem dss_never {sts : List Stmt} : DSs X T sts (fun _ => bad) := PSs.imp pss_never fun D σ H ⟨Γ0, H0, Γ, ρ, Q, s, h, k⟩ => h
theorem ds_never : DS X T st (fun _ => bad) := PS.imp ps_never fun D σ H ⟨Γ0, H0, Γ, ρ, Q, s, h, k⟩ => h
theorem ds_expr (he : DE X T e fe) (hs : swapsWith e none pos.line X.env = pure false := by rfl) : DS X T (.Expr e pos) (sDrop fe) :=
  PS.imp (ps_expr he hs) fun D σ H ⟨Γ0, H0, Γ, ρ, Q, s, h, k1, k2, k3, k4⟩ => .mk s.good s.e h fun v d Γ' H' x hv q => k1 σ ρ Γ' H' x.le (s.step x) q
theorem ds_ret (he : DE X T e fe) : DS X T (.Return (some e) pos) (sRet fe) :=
  PS.imp (ps_ret he) fun D σ H ⟨Γ0, H0, Γ, ρ, Q, s, h, k1, k2, k3, k4⟩ => .mk s.good s.e h fun v d Γ' H' x hv q => k2 v d Γ' H' x.le (s.x.trans x) hv q
theorem ds_retN : DS X T (.Return none pos) sRetN :=
  PS.imp ps_retN fun D σ H ⟨Γ0, H0, Γ, ρ, Q, s, h, k1, k2, k3, k4⟩ => k2 .non .non Γ H (Wo.le.refl _) s.x rfl h
theorem ds_if {c : Expr} {a b : List Stmt} {t : Rho → M Bool} (hc : DT X T c t) (ha : DSs X T a f) (hb : DSs X T b g) : DS X T (.If c a b pos) (sIf t f g) :=
  PS.imp (ps_if hc ha hb) fun D σ H ⟨Γ0, H0, Γ, ρ, Q, s, h, k1, k2, k3, k4⟩ => ⟨Γ, ρ, _, s.good, s.e, h, fun q Γ1 H1 x1 h1 => by
    cases q with
    | true => exact iteT ⟨Γ0, H0, Γ1, ρ, Q, s.step x1, h1, fun a b c d l => k1 a b c d (x1.le.trans l), fun a b c d l => k2 a b c d (x1.le.trans l), fun a b c d l => k3 a b c d (x1.le.trans l), fun a b c d l => k4 a b c d (x1.le.trans l)⟩
    | false => exact iteF ⟨Γ0, H0, Γ1, ρ, Q, s.step x1, h1, fun a b c d l => k1 a b c d (x1.le.trans l), fun a b c d l => k2 a b c d (x1.le.trans l), fun a b c d l => k3 a b c d (x1.le.trans l), fun a b c d l => k4 a b c d (x1.le.trans l)⟩⟩

/-! ### targets -/
def gN (i : Nat) : D → Rho → M Rho := fun d ρ => ret (ρ.set i (.va d))
def gsNil : List D → Rho → M Rho := fun ds ρ => match ds with
  | [] => ret ρ
  | _ => bad
def gsCons (g : D → Rho → M Rho) (h : List D → Rho → M Rho) : List D → Rho → M Rho := fun ds ρ => match ds with
  | [] => bad
  | d :: r => bnd (g d ρ) (h r)
/-- (a, b, ..) = a tuple -/
def gT (h : List D → Rho → M Rho) : D → Rho → M Rho := fun d ρ => match d with
  | .tup ds => h ds ρ
  | _ => bad
theorem dg_name (i : Nat) {x : Str} {pos : Pos} (hN : X.N.Nodup) (hi : X.N[i]? = some x := by rfl) (hx : Loc X.env.scope x := by first | exact .inl rfl | exact .inr rfl) (hf : X.fn x = true ∨ X.env.scope.names.lookup x = some .local := by first | exact .inl rfl | exact .inr rfl | assumption) : DG X T (.Name x pos) (gN i) [i] :=
  PG.imp (pg_name hN hi hx hf) fun v σ H R ⟨Γ, ρ, d, Q, g, en, hv, h, k⟩ => k _ _ Γ H (.refl g) (en.set hv i) (Kp.set i) Wip.set h
theorem dgs_nil : DGs X T [] gsNil [] := PGs.imp pgs_nil fun vs σ H R ⟨Γ, ρ, ds, Q, g, en, hv, h, k⟩ => by
  cases hv with
  | nil => exact ⟨rfl, k σ ρ Γ H (.refl g) en Kp.refl Wip.refl h⟩
  | cons _ _ => exact h.elim
theorem dgs_cons {es : List Expr} {g1 : D → Rho → M Rho} {g2 : List D → Rho → M Rho} {ts us : List Nat} (h1 : DG X T e g1 ts) (h2 : DGs X T es g2 us)
    (hs : (assignEach (e :: es) X.env).map (·.2) = assign e X.env :: (assignEach es X.env).map (·.2) := by rfl) : DGs X T (e :: es) (gsCons g1 g2) (ts ++ us) :=
  PGs.imp (pgs_cons h1 h2 hs) fun vs σ H R ⟨Γ, ρ, ds, Q, g, en, hv, h, k⟩ => by
    cases hv with
    | nil => exact h.elim
    | cons r rr => exact ⟨_, _, rfl, Γ, ρ, _, _, g, en, r, h, fun σ1 ρ1 Γ1 H1 x1 e1 k1 w1 q1 => ⟨Γ1, ρ1, _, Q, x1.good, e1, Paired.monoH rr x1.le, q1, fun σ2 ρ2 Γ2 H2 x2 e2 k2 w2 q2 => k σ2 ρ2 Γ2 H2 (x1.trans x2) e2 (k1.trans k2) (w1.trans w2) q2⟩⟩
theorem dg_tup {es : List Expr} {k : Nat} {g : List D → Rho → M Rho} {ts : List Nat} {n : Nat} (hc : X.calm = true) (h : DGs X T es g ts)
    (hn : (assignEach es X.env).length = n := by rfl) (hst : (assignEach es X.env).findIdx? (·.1) = none := by rfl) : DG X T (.Tuple es k pos) (gT fun ds ρ => asrt (ds.length = n) (g ds ρ)) ts :=
  PG.imp (pg_tup hc h hn hst) fun v σ H R ⟨Γ, ρ, d, Q, gd, en, hv, h, k⟩ => by
    cases d with
    | tup ds =>
      obtain ⟨a, vs, e1, hs, r⟩ := Holds.tup gd hv
      obtain ⟨hl, h⟩ := h
      exact ⟨a, vs, e1, hs, by rw [r.length]; exact hl, Γ, ρ, ds, Q, gd, en, r, h, k⟩
    | _ => exact h.elim
theorem ds_asg {tg e : Expr} {gg : D → Rho → M Rho} {ts : List Nat} (he : DE X T e fe) (hg : DG X T tg gg ts) (hs : swapsWithSole [tg] e pos.line X.env = pure false := by rfl) (hw : swappedStores [tg] e X.env = pure none := by rfl)
    (h1 : (assignEach [tg] X.env).map (·.2) = [assign tg X.env] := by rfl) : DS X T (.Assign [tg] e pos) (sAsg fe gg) :=
  PS.imp (ps_asg he hg hs hw h1) fun D σ H ⟨Γ0, H0, Γ, ρ, Q, s, h, k1, k2, k3, k4⟩ => .mk s.good s.e h fun v d Γ' H' x hv q => ⟨Γ', ρ, d, _, x.good, s.e.mono x, hv, q, fun σ2 ρ2 Γ2 H2 x2 e2 p2 w2 q2 => k1 σ2 ρ2 Γ2 H2 (x.le.trans x2.le) ((s.step x).kp x2 e2 p2) q2⟩
theorem ds_set (i : Nat) {x : Str} {e : Expr} {pos' pos : Pos} {fe : Rho → M D} (hN : X.N.Nodup) (he : DE X T e fe) (hi : X.N[i]? = some x := by rfl) (hx : Loc X.env.scope x := by first | exact .inl rfl | exact .inr rfl) (hs : swapsWith e (some (.Name x pos')) pos.line X.env = pure false := by rfl)
    (hf : X.fn x = true ∨ X.env.scope.names.lookup x = some .local := by first | exact .inl rfl | exact .inr rfl | assumption) : DS X T (.Assign [.Name x pos'] e pos) (sSet i fe) :=
  PS.imp (ps_set hN hi hx he hs hf) fun D σ H ⟨Γ0, H0, Γ, ρ, Q, s, h, k1, k2, k3, k4⟩ => .mk s.good s.e h fun v d Γ' H' x hv q => k1 _ _ Γ' H' x.le ((s.step x).kp (.refl x.good) ((s.e.mono x).set hv i) (Kp.set i)) q
/-- a, b = x, y : plain local names -/
def sPar (i j : Nat) (f : Rho → M (List D)) : Rho → M Fl := fun ρ => bnd (f ρ) fun ds => match ds with
  | [a, b] => ret (.nx ((ρ.set i (.va a)).set j (.va b)))
  | _ => bad
theorem ds_par (i j : Nat) {x y : Str} {a b : Expr} {fs : Rho → M (List D)} {px py pt pos : Pos} {kt k2 pt2} (hc : X.calm = true) (hN : X.N.Nodup) (ha : DA X T [a, b] fs) (hi : X.N[i]? = some x := by rfl) (hj : X.N[j]? = some y := by rfl) (hij : i ≠ j := by decide)
    (hx : X.env.scope.names.lookup x = some .local := by rfl) (hy : X.env.scope.names.lookup y = some .local := by rfl)
    (hw : swappedStores [.Tuple [.Name x px, .Name y py] kt pt] (.Tuple [a, b] k2 pt2) X.env = pure (some [x, y]) := by rfl)
    (hs : swapsWithSole [.Tuple [.Name x px, .Name y py] kt pt] (.Tuple [a, b] k2 pt2) pos.line X.env = pure false := by rfl) :
    DS X T (.Assign [.Tuple [.Name x px, .Name y py] kt pt] (.Tuple [a, b] k2 pt2) pos) (sPar i j fs) :=
  PS.imp (ps_par hc hN hi hj hij hx hy ha hw hs) fun D σ H ⟨Γ0, H0, Γ, ρ, Q, s, h, k1, k2, k3, k4⟩ => ⟨Γ, ρ, _, s.good, s.e, h, fun vs ds Γ' H' x hv q => by
    cases hv with
    | nil => exact q.elim
    | cons r1 rr =>
      cases rr with
      | nil => exact q.elim
      | cons r2 rr =>
        cases rr with
        | nil => exact ⟨_, _, rfl, k1 _ _ Γ' H' x.le ((s.step x).kp (.refl x.good) (((s.e.mono x).set r1 i).set r2 j) ((Kp.set i).trans (Kp.set j))) q⟩
        | cons _ _ => exact q.elim⟩
/-- x += e -/
def sAug (i : Nat) (o : D → D → M D) (f : Rho → M D) : Rho → M Fl := fun ρ => bnd (rd i ρ) fun x => bnd (f ρ) fun y => bnd (o x y) fun z => ret (.nx (ρ.set i (.va z)))
def oAugI (p : Int → Int → Int) : D → D → M D
  | .int i, .int j => ret (.int (p i j))
  | _, _ => bad
theorem ds_augI (i : Nat) {x : Str} {e : Expr} {op : Operator} {p : Int → Int → Int} {pos' pos : Pos} {fe : Rho → M D} (hN : X.N.Nodup) (ho : PIp X op (ipI p)) (he : DE X T e fe) (hi : X.N[i]? = some x := by rfl) (hx : Loc X.env.scope x := by first | exact .inl rfl | exact .inr rfl)
    (hf : X.fn x = true ∨ X.env.scope.names.lookup x = some .local := by first | exact .inl rfl | exact .inr rfl | assumption) : DS X T (.AugAssign (.Name x pos') op e pos) (sAug i (oAugI p) fe) :=
  PS.imp (ps_aug hN hi hx he ho hf) fun D σ H ⟨Γ0, H0, Γ, ρ, Q, s, h, k1, k2, k3, k4⟩ => by
    obtain ⟨d, hd, h⟩ := rd_get h
    obtain ⟨v, h1, h2⟩ := s.e.va i d hd
    refine ⟨v, h1, .mk s.good s.e h fun u d2 Γ' H' x hu q => ?_⟩
    cases d with
    | int i1 =>
      cases d2 with
      | int i2 => exact ⟨i1, i2, h2, hu, k1 _ _ Γ' H' x.le ((s.step x).kp (.refl x.good) ((s.e.mono x).set (show Holds T Γ' (.int (p i1 i2)) (.int (p i1 i2)) from rfl) i) (Kp.set i)) q⟩
      | _ => exact q.elim
    | _ => cases d2 <;> exact q.elim

/-! ### loops -/
def lp (k : Rho → M Fl) : Fl → M Fl
  | .nx ρ => k ρ
  | .ct ρ => k ρ
  | .bk ρ => ret (.nx ρ)
  | .rt d => ret (.rt d)
def forD (g : D → Rho → M Rho) (b : Rho → M Fl) : List D → Rho → M Fl
  | [], ρ => ret (.nx ρ)
  | x :: xs, ρ => bnd (g x ρ) fun ρ1 => bnd (b ρ1) (lp (forD g b xs))
def sFor (it : Rho → M (List D)) (g : D → Rho → M Rho) (b : Rho → M Fl) : Rho → M Fl := fun ρ => bnd (it ρ) fun xs => forD g b xs ρ
def whileN (t : Rho → M Bool) (b : Rho → M Fl) : Nat → Rho → M Fl
  | 0, _ => bad
  | n + 1, ρ => bnd (t ρ) fun c => if c = true then bnd (b ρ) (lp (whileN t b n)) else ret (.nx ρ)
def sWhile (t : Rho → M Bool) (b : Rho → M Fl) : Rho → M Fl := fun ρ Q => ∃ n, whileN t b n ρ Q
theorem ds_for {tg it : Expr} {body : List Stmt} {fi : Rho → M (List D)} {gg : D → Rho → M Rho} {ts : List Nat} {fb : Rho → M Fl} (hc : X.calm = true) (hi : DI X T tg it fi) (hg : DG X T tg gg ts) (hb : DSs X T body fb) (hp : PassesOwn (model X.prog X.w) X.A X.env X.xe := by exact PassesOwn.never)
    (hs : ∀ x, foldedSetIterable it X.env x = pure x := by intro _; rfl) : DS X T (.For tg it body [] pos) (sFor fi gg fb) :=
  PS.imp (ps_for hp hc hi hg hb hs) fun D σ H ⟨Γ0, H0, Γ, ρ, Q, s, h, k1, k2, k3, k4⟩ => ⟨Γ, ρ, _, s.good, s.e, h, fun J items Γ1 H1 x1 ok h1 => by
    obtain ⟨hz, ok⟩ := ok
    refine ⟨fun i m σ H => m = items.length - i ∧ i ≤ items.length ∧ ∃ Γ' ρ', Γ1.le Γ' ∧ SS T Γ0 H0 Γ' H σ ρ' ∧ forD gg fb (items.drop i) ρ' Q, ⟨_, rfl, Nat.zero_le _, Γ1, ρ, Wo.le.refl _, s.step x1, h1⟩, ?_⟩
    rintro i m σ2 H2 ⟨rfl, hi, Γ2, ρ2, le2, s2, h2⟩
    obtain ⟨ok1, ok2⟩ := ok i Γ2 H2 le2 s2.good
    by_cases hlt : i < items.length
    · obtain ⟨go, yl⟩ := ok1 hlt
      refine .inr ⟨go, fun σ H => ∃ Γ' ρ', Γ1.le Γ' ∧ SS T Γ0 H0 Γ' H σ ρ' ∧ forD gg fb (items.drop (i + 1)) ρ' Q, fun σ' H' p => ⟨items.length - (i + 1), by omega, rfl, hlt, p⟩, fun v H3 y => ?_⟩
      obtain ⟨Γ3, d, x3, hd, hv⟩ := yl v H3 y
      have e1 : items.drop i = d :: items.drop (i + 1) := by
        obtain ⟨hl, e⟩ := List.getElem?_eq_some_iff.mp hd
        rw [← e]
        exact List.drop_eq_getElem_cons hl
      rw [e1] at h2
      refine ⟨Γ3, ρ2, d, _, x3.good, s2.e.mono x3, hv, h2, fun σ4 ρ4 Γ4 H4 x4 e4 p4 w4 q4 => ?_⟩
      have s4 := (s2.step x3).kp x4 e4 p4
      have le4 : Γ1.le Γ4 := (le2.trans x3.le).trans x4.le
      exact ⟨Γ0, H0, Γ4, ρ4, _, s4, q4, fun σ5 ρ5 Γ5 H5 l5 s5 q5 => ⟨Γ5, ρ5, le4.trans l5, s5, q5⟩, fun v d Γ5 H5 l5 x5 hv q5 => k2 v d Γ5 H5 ((x1.le.trans le4).trans l5) x5 hv q5,
        fun σ5 ρ5 Γ5 H5 l5 s5 q5 => k1 σ5 ρ5 Γ5 H5 ((x1.le.trans le4).trans l5) s5 q5, fun σ5 ρ5 Γ5 H5 l5 s5 q5 => ⟨Γ5, ρ5, le4.trans l5, s5, q5⟩⟩
    · have e1 : items.drop i = [] := List.drop_eq_nil_of_le (by omega)
      rw [e1] at h2
      exact .inl ⟨ok2 (by omega), k1 σ2 ρ2 Γ2 H2 (x1.le.trans le2) s2 h2⟩⟩
theorem ds_while {c : Expr} {body : List Stmt} {t : Rho → M Bool} {fb : Rho → M Fl} (hc : DT X T c t) (hb : DSs X T body fb) (hp : PassesOwn (model X.prog X.w) X.A X.env X.xe := by exact PassesOwn.never) : DS X T (.While c body [] pos) (sWhile t fb) :=
  PS.imp (ps_while hp hc hb) fun D σ H ⟨Γ0, H0, Γ, ρ, Q, s, ⟨n, h⟩, k1, k2, k3, k4⟩ => by
    refine ⟨fun m σ H => ∃ Γ' ρ', Γ.le Γ' ∧ SS T Γ0 H0 Γ' H σ ρ' ∧ whileN t fb m ρ' Q, ⟨n, Γ, ρ, Wo.le.refl _, s, h⟩, ?_⟩
    rintro m σ1 H1 ⟨Γ1, ρ1, le1, s1, h1⟩
    cases m with
    | zero => exact h1.elim
    | succ m =>
      refine ⟨Γ1, ρ1, _, s1.good, s1.e, h1, fun q Γ2 H2 x2 h2 => ?_⟩
      cases q with
      | false => exact iteF (k1 σ1 ρ1 Γ2 H2 (le1.trans x2.le) (s1.step x2) h2)
      | true =>
        have le2 := le1.trans x2.le
        refine iteT ⟨fun σ H => ∃ Γ' ρ', Γ.le Γ' ∧ SS T Γ0 H0 Γ' H σ ρ' ∧ whileN t fb m ρ' Q, fun σ' H' p => ⟨m, Nat.lt_succ_self _, p⟩, ?_⟩
        exact ⟨Γ0, H0, Γ2, ρ1, _, s1.step x2, h2, fun σ5 ρ5 Γ5 H5 l5 s5 q5 => ⟨Γ5, ρ5, le2.trans l5, s5, q5⟩, fun v d Γ5 H5 l5 x5 hv q5 => k2 v d Γ5 H5 (le2.trans l5) x5 hv q5,
          fun σ5 ρ5 Γ5 H5 l5 s5 q5 => k1 σ5 ρ5 Γ5 H5 (le2.trans l5) s5 q5, fun σ5 ρ5 Γ5 H5 l5 s5 q5 => ⟨Γ5, ρ5, le2.trans l5, s5, q5⟩⟩

/-! ### own lists -/
theorem Ext.freeBack {K : PySem.W.Frag} {T : Th K} {Γ0 Γ : Wo} {H0 H : Hp} {p : Addr} (x : Ext T Γ0 H0 Γ H) (hp : H p = none) : H0 p = none := by
  cases r : H0 p with
  | none => rfl
  | some o =>
    cases r2 : Γ0 p with
    | none =>
      have := (x.fr p o r r2).1
      rw [hp] at this; cases this
    | some d =>
      have := x.le p d r2
      rw [x.good.free hp] at this; cases this

/-- x = [] -/
def sOwn (i : Nat) (f : Rho → M (List D)) : Rho → M Fl := fun ρ => bnd (f ρ) fun ds => asrt (ds.length ≤ sizeLine) (ret (.nx (ρ.set i (.ow ds))))
theorem ds_own (i : Nat) {x : Str} {es : List Expr} {fs : Rho → M (List D)} {lpos pos' pos : Pos} (hN : X.N.Nodup) (ha : DA X T es fs) (hi : X.N[i]? = some x := by rfl) (hx : Loc X.env.scope x := by first | exact .inl rfl | exact .inr rfl) (hs : swapsWith (.List es lpos) (some (.Name x pos')) pos.line X.env = pure false := by rfl)
    (hf : X.fn x = true ∨ X.env.scope.names.lookup x = some .local := by first | exact .inl rfl | exact .inr rfl | assumption) : DS X T (.Assign [.Name x pos'] (.List es lpos) pos) (sOwn i fs) :=
  PS.imp (ps_set hN hi hx (pe_lst ha) hs hf) fun D σ H ⟨Γ0, H0, Γ, ρ, Q, s, h, k1, k2, k3, k4⟩ => ⟨Γ, ρ, _, s.good, s.e, h, fun vs ds Γ1 H1 x1 hv ⟨hz, q⟩ => ⟨by rw [hv.length]; exact hz, fun p hp => by
    have s1 := s.step x1
    have gp := x1.good.free hp
    have e2 : EnvR T Γ1 (upd H1 p (.lst vs)) (σ.set i (some (.ref p))) (ρ.set i (.ow ds)) := s1.e.setOwn (x := .ow ds) (H' := upd H1 p (.lst vs)) hp ⟨gp, vs, upd_same, hv, hz⟩ (fun b o hb => by rw [upd_ne (ne_of_none hb hp)]; exact hb) i
    refine k1 _ _ Γ1 (upd H1 p (.lst vs)) x1.le ⟨s1.x.trans (.newOwn x1.good hp), e2, fun j y a h1 h2 h3 => ?_⟩ q
    rcases get_set h3 with ⟨rfl, z⟩ | ⟨n, z⟩
    · have ea : a = p := by cases z; rfl
      rw [ea]
      exact s1.x.freeBack hp
    · rcases get_set h1 with ⟨z1, _⟩ | ⟨_, z1⟩
      · exact absurd z1 n
      · exact s1.f j y a z1 h2 z⟩⟩
/-- x is told from now on -/
def sPub (i : Nat) (k : Rho → M Fl) : Rho → M Fl := fun ρ => match ρ[i]? with
  | some (.ow ds) => k (ρ.set i (.va (.lst ds)))
  | _ => bad
theorem dss_pub (i : Nat) {sts : List Stmt} {f : Rho → M Fl} (h : DSs X T sts f) : DSs X T sts (sPub i f) :=
  PSs.imp h fun D σ H ⟨Γ0, H0, Γ, ρ, Q, s, h, k1, k2, k3, k4⟩ => by
    have h2 : ∃ ds, ρ[i]? = some (.ow ds) ∧ f (ρ.set i (.va (.lst ds))) Q := by
      unfold sPub at h
      revert h
      cases q : ρ[i]? with
      | none => intro h; exact h.elim
      | some x =>
        cases x with
        | ow ds => intro h; exact ⟨ds, rfl, h⟩
        | _ => intro h; exact h.elim
    obtain ⟨ds, hd, h2⟩ := h2
    obtain ⟨a, vs, h3, h4, h5, h6, h7⟩ := s.e.ow i ds hd
    have le : Γ.le (put Γ a (.lst ds)) := put_le h4
    have g2 : Good T (put Γ a (.lst ds)) H := s.good.tell h4 h5 ⟨vs, rfl, Paired.monoH h6 le, h7⟩
    have fa := s.f i _ a hd rfl h3
    have s2 : SS T Γ0 H0 (put Γ a (.lst ds)) H σ (ρ.set i (.va (.lst ds))) := ⟨⟨s.x.le.trans le, g2, fun b o hb hn => by
        obtain ⟨r1, r2⟩ := s.x.fr b o hb hn
        exact ⟨r1, by rw [put_ne (ne_of_none hb fa)]; exact r2⟩⟩, s.e.publish (vs := vs) hd h3 h4, fun j y b q1 q2 q3 => by
        rcases get_set q1 with ⟨_, z⟩ | ⟨n, z⟩
        · subst z; cases q2
        · exact s.f j y b z q2 q3⟩
    exact ⟨Γ0, H0, _, _, Q, s2, h2, fun a b c d l => k1 a b c d (le.trans l), fun a b c d l => k2 a b c d (le.trans l), fun a b c d l => k3 a b c d (le.trans l), fun a b c d l => k4 a b c d (le.trans l)⟩
/-- an own list is written -/
theorem SS.rewrite {Γ0 Γ : Wo} {H0 H : Hp} {σ : St} {ρ : Rho} {i : Nat} {a : Addr} {x y : Sl} {o' : HO} (s : SS T Γ0 H0 Γ H σ ρ) (hx : ρ[i]? = some x) (ox : x.owns = true) (hs : σ[i]? = some (some (.ref a))) (hn : Γ a = none)
    (hy : match y with
    | .ow ds => ∃ vs, o' = .lst vs ∧ Paired (Holds T Γ) vs ds ∧ ds.length ≤ sizeLine
    | .di kvs => dicO T Γ a kvs o'
    | _ => False) : SS T Γ0 H0 Γ (upd H a o') σ (ρ.set i y) := by
  have fa := s.f i x a hx ox hs
  refine ⟨⟨s.x.le, s.good.write hn, fun b o hb hn => ?_⟩, s.e.rewrite hx ox hs hn hy, fun j z b q1 q2 q3 => ?_⟩
  · obtain ⟨r1, r2⟩ := s.x.fr b o hb hn
    exact ⟨by rw [upd_ne (ne_of_none hb fa)]; exact r1, r2⟩
  · rcases get_set q1 with ⟨rfl, z1⟩ | ⟨n, z1⟩
    · rw [hs] at q3; cases q3; exact fa
    · exact s.f j z b z1 q2 q3
/-- x.append(e) -/
def sApp (i : Nat) (f : Rho → M D) : Rho → M Fl := fun ρ => match ρ[i]? with
  | some (.ow ds) => bnd (f ρ) fun d => asrt (ds.length < sizeLine) (ret (.nx (ρ.set i (.ow (ds ++ [d])))))
  | _ => bad
theorem ow_get {i : Nat} {ρ : Rho} {α : Type} {k : List D → M α} {Q : α → Prop} (h : (match ρ[i]? with
    | some (.ow ds) => k ds
    | _ => bad) Q) : ∃ ds, ρ[i]? = some (.ow ds) ∧ k ds Q := by
  revert h
  cases q : ρ[i]? with
  | none => intro h; exact h.elim
  | some x =>
    cases x with
    | ow ds => intro h; exact ⟨ds, rfl, h⟩
    | _ => intro h; exact h.elim
theorem ds_app (i : Nat) {x : Str} {e : Expr} {p apos cpos pos : Pos} {fe : Rho → M D} (he : DE X T e fe) (hN : X.N[i]? = some x := by rfl) (hv : Vis X.env.scope x := by first | exact Or.inl rfl | exact Or.inr (Or.inl rfl) | exact Or.inr (Or.inr rfl))
    (hd : (x == ("__debug__" : Str)) = false := by decide) (hcd : (x == ("__classdict__" : Str)) = false := by decide)
    (hbase : attributeBase (.Name x p) "append" X.env (eval (.Name x p) X.env) = eval (.Name x p) X.env := by rfl)
    (hfew : ((backTo cpos (starEach [e] X.env)).all (fun x => !x.1) && (backToKw cpos (keywordEach [] X.env)).all (fun x => x.1.isSome)
      && decide (([e] : List Expr).length + ([] : List Keyword).length + (if ([] : List Keyword).isEmpty then 0 else 1) < 30)) = true := by rfl)
    (hline : (apos.endLine == cpos.line) = true := by rfl) (hst : starEach [e] X.env = (false, eval e X.env) :: starEach [] X.env := by rfl) (hplain : (backTo cpos (starEach [] X.env)).any (·.1) = false := by rfl)
    (hs : swapsWith (.Call (.Attribute (.Name x p) "append" apos) [e] [] cpos) none pos.line X.env = pure false := by rfl) :
    DS X T (.Expr (.Call (.Attribute (.Name x p) "append" apos) [e] [] cpos) pos) (sApp i fe) :=
  PS.imp (ps_expr (pe_bm PySem.F.plainAttrs_list PySem.F.slot_list_append PySem.F.type_list_append mt_append (pv i hN hv hd hcd) (pa_cons he pa_nil hst) hbase hfew hline hst hplain) hs) fun D σ H ⟨Γ0, H0, Γ, ρ, Q, s, h, k1, k2, k3, k4⟩ => by
    obtain ⟨ds, hd, h⟩ := ow_get h
    obtain ⟨a, vs, h3, h4, h5, h6, h7⟩ := s.e.ow i ds hd
    refine ⟨.ref a, h3, .inl ⟨rfl, vs, SqL.of h5⟩, .mk s.good s.e h fun v d Γ1 H1 x1 hv ⟨hz, q⟩ => ?_⟩
    obtain ⟨g1, g2⟩ := x1.fr a _ h5 h4
    have hl := h6.length
    refine ⟨a, vs, v, rfl, rfl, g1, by omega, k1 _ _ Γ1 _ x1.le ((s.step x1).rewrite (y := .ow (ds ++ [d])) hd rfl h3 g2 ⟨vs ++ [v], rfl, Pd.append (Paired.monoH h6 x1.le) (.cons hv .nil), by rw [List.length_append]; exact hz⟩) q⟩
/-- a list of one's own read: its length -/
def oLen (i : Nat) : Rho → M D := fun ρ => match ρ[i]? with
  | some (.ow ds) => ret (.int ds.length)
  | _ => bad

/-! ### list comprehensions -/
def wipeS (ρ : Rho) : List Nat → Rho
  | [] => ρ
  | v :: vs => (wipeS ρ vs).set v .no
def lcStep (g : D → Rho → M Rho) (t : Rho → M Bool) (e : Rho → M D) (ρ : Rho) (x : D) : M (Option D) := bnd (g x ρ) fun ρ1 => bnd (t ρ1) fun b => if b = true then bnd (e ρ1) fun d => ret (some d) else ret none
def lcD (s : D → M (Option D)) : List D → M (List D)
  | [] => ret []
  | x :: xs => bnd (s x) fun o => bnd (lcD s xs) fun r => ret (o.toList ++ r)
def tYesD : Rho → M Bool := fun _ => ret true
def cLc (it : Rho → M (List D)) (g : D → Rho → M Rho) (t : Rho → M Bool) (e : Rho → M D) (vs : List Nat) : Rho → M (List D) := fun ρ => bnd (it ρ) fun xs => lcD (lcStep g t e (wipeS ρ vs)) xs
abbrev DTs (X : Cx) (T : Th X.K) (ifs : List Expr) (f : Rho → M Bool) : Prop := PTs X ifs (ttOf T f)
theorem dts_nil : DTs X T [] tYesD := ⟨fun pins s σ H Q I ⟨Γ, ρ, R, g, e, h, k⟩ => pts_nil.run pins s σ H Q I (k true Γ H (.refl g) h)⟩
theorem dts_one {c : Expr} {t : Rho → M Bool} (h : DT X T c t) : DTs X T [c] t := pts_one h
theorem wipeS_len {ρ : Rho} : ∀ vs : List Nat, (wipeS ρ vs).length = ρ.length
  | [] => rfl
  | v :: vs => by unfold wipeS; rw [List.length_set, wipeS_len vs]
theorem wipeS_get {ρ : Rho} {i : Nat} {x : Sl} : ∀ {vs : List Nat}, (wipeS ρ vs)[i]? = some x → x = .no ∨ (ρ[i]? = some x ∧ i ∉ vs)
  | [], h => .inr ⟨h, by simp⟩
  | v :: vs, h => by
    unfold wipeS at h
    rcases get_set h with ⟨_, z⟩ | ⟨n, z⟩
    · exact .inl z
    · rcases wipeS_get z with z | ⟨z1, z2⟩
      · exact .inl z
      · exact .inr ⟨z1, by simp only [List.mem_cons, not_or]; exact ⟨n, z2⟩⟩
theorem wipe_keep {σ : St} {i : Nat} : ∀ {vs : List Nat}, i ∉ vs → (wipe σ vs)[i]? = σ[i]?
  | [], _ => rfl
  | v :: vs, h => by
    simp only [List.mem_cons, not_or] at h
    unfold wipe
    rw [List.getElem?_set_ne (Ne.symm h.1)]
    exact wipe_keep h.2
theorem EnvR.wiped {K : PySem.W.Frag} {T : Th K} {Γ : Wo} {H : Hp} {σ : St} {ρ : Rho} (e : EnvR T Γ H σ ρ) (vs : List Nat) : EnvR T Γ H (wipe σ vs) (wipeS ρ vs) :=
  e.weak (by rw [wipe_length, wipeS_len]; exact e.len) fun i x h => by
    rcases wipeS_get h with z | ⟨z1, z2⟩
    · exact .inl z
    · exact .inr ⟨z1, wipe_keep z2⟩
/-- the loop of a comprehension -/
theorem lc_run {K : PySem.W.Frag} {T : Th K} {fi : Rho → M (List D)} {gg : D → Rho → M Rho} {ts : List Nat} {t : Rho → M Bool} {fe : Rho → M D} {vs : List Nat} (hts : ∀ i ∈ ts, i ∈ vs) {σ : St} {H : Hp} {post : VK}
    {Γ : Wo} {ρ : Rho} {Q : List D → Prop} (g : Good T Γ H) (en : EnvR T Γ H σ ρ) (h : cLc fi gg t fe vs ρ Q) (k : ∀ p zs ds Γ' H', Ext T Γ H Γ' H' → Γ' p = none → H' p = some (.lst zs) → Paired (Holds T Γ') zs ds → ds.length ≤ sizeLine → H p = none → Q ds → post (.ref p) H') :
    tLc (tiOf T fi) (tgOf T gg ts) (ttOf T t) (teOf T fe) vs σ H post := ⟨Γ, ρ, _, g, en, h, fun J items Γ1 H1 x1 ok h1 => by
  obtain ⟨hz, ok⟩ := ok
  intro p hp
  have x1' : Ext T Γ H Γ1 (upd H1 p (.lst [])) := x1.trans (.newOwn x1.good hp)
  have gp := x1.good.free hp
  refine ⟨fun i m H2 => m = items.length - i ∧ i ≤ items.length ∧ ∃ Γ' zs ds, Ext T Γ1 (upd H1 p (.lst [])) Γ' (upd H2 p (.lst [])) ∧ Good T Γ' H2 ∧ Γ' p = none ∧ H2 p = some (.lst zs) ∧ Paired (Holds T Γ') zs ds ∧ ds.length ≤ i ∧
      lcD (lcStep gg t fe (wipeS ρ vs)) (items.drop i) (fun r => Q (ds ++ r)),
    ⟨_, rfl, Nat.zero_le _, Γ1, [], [], by rw [upd_upd]; exact .refl x1'.good, x1'.good, gp, upd_same, .nil, Nat.le_refl _, h1⟩, ?_⟩
  rintro i m H2 ⟨rfl, hi, Γ2, zs, ds, x2, g2, np2, hp2, hv2, hl2, h2⟩
  have xw : Ext T Γ H Γ2 H2 := by
    refine ⟨x1.le.trans x2.le, g2, fun b o hb hn => ?_⟩
    obtain ⟨r1, r2⟩ := x1.fr b o hb hn
    have nb : b ≠ p := ne_of_none r1 hp
    have r3 : (upd H1 p (.lst [])) b = some o := by rw [upd_ne nb]; exact r1
    obtain ⟨r4, r5⟩ := x2.fr b o r3 r2
    rw [upd_ne nb] at r4
    exact ⟨r4, r5⟩
  obtain ⟨ok1, ok2⟩ := ok i Γ2 H2 x2.le g2
  by_cases hlt : i < items.length
  · obtain ⟨go, yl⟩ := ok1 hlt
    refine .inr ⟨go, fun H3 => ∃ Γ' zs ds, Ext T Γ1 (upd H1 p (.lst [])) Γ' (upd H3 p (.lst [])) ∧ Good T Γ' H3 ∧ Γ' p = none ∧ H3 p = some (.lst zs) ∧ Paired (Holds T Γ') zs ds ∧ ds.length ≤ i + 1 ∧
      lcD (lcStep gg t fe (wipeS ρ vs)) (items.drop (i + 1)) (fun r => Q (ds ++ r)), fun H' q => ⟨items.length - (i + 1), by omega, rfl, hlt, q⟩, fun v H3 y => ?_⟩
    obtain ⟨Γ3, d, x3, hd, hv⟩ := yl v H3 y
    have e1 : items.drop i = d :: items.drop (i + 1) := by
      obtain ⟨hl, e⟩ := List.getElem?_eq_some_iff.mp hd
      rw [← e]
      exact List.drop_eq_getElem_cons hl
    rw [e1] at h2
    -- what stands behind an Ext from H2
    have carry : ∀ {Γ' H'}, Ext T Γ2 H2 Γ' H' → Ext T Γ1 (upd H1 p (.lst [])) Γ' (upd H' p (.lst [])) ∧ Γ' p = none ∧ H' p = some (.lst zs) := fun {Γ' H'} x => by
      obtain ⟨r1, r2⟩ := x.fr p _ hp2 np2
      refine ⟨⟨x2.le.trans x.le, x.good.write r2, fun b o hb hn => ?_⟩, r2, r1⟩
      obtain ⟨q1, q2⟩ := x2.fr b o hb hn
      by_cases nb : b = p
      · subst nb
        rw [upd_same] at q1 ⊢
        exact ⟨q1, r2⟩
      · rw [upd_ne nb] at q1 ⊢
        exact x.fr b o q1 q2
    refine ⟨Γ3, wipeS ρ vs, d, _, x3.good, ((en.mono xw).mono x3).wiped vs, hv, h2, fun σ4 ρ4 Γ4 H4 x4 e4 p4 w4 q4 => ⟨?_, Γ4, ρ4, _, x4.good, e4, q4, fun b Γ5 H5 x5 q5 => ?_⟩⟩
    · rw [w4 vs hts]
      have idem : ∀ (us : List Nat), (∀ u ∈ us, u ∈ vs) → wipe (wipe σ vs) us = wipe σ vs := by
        intro us
        induction us with
        | nil => intro _; rfl
        | cons u us ih =>
          intro hu
          show (wipe (wipe σ vs) us).set u none = wipe σ vs
          rw [ih fun w hw => hu w (List.mem_cons_of_mem _ hw)]
          have hz : ∀ (ws : List Nat), u ∈ ws → (wipe σ ws).set u none = wipe σ ws := by
            intro ws
            induction ws with
            | nil => intro h; cases h
            | cons w ws ih2 =>
              intro h
              show ((wipe σ ws).set w none).set u none = (wipe σ ws).set w none
              by_cases e : w = u
              · subst e; rw [List.set_set]
              · rcases List.mem_cons.mp h with h | h
                · exact absurd h.symm e
                · rw [List.set_comm _ _ e, ih2 h]
          exact hz vs (hu u List.mem_cons_self)
      exact idem vs fun u hu => hu
    · have x35 : Ext T Γ2 H2 Γ5 H5 := (x3.trans x4).trans x5
      cases b with
      | false =>
        refine iteF ?_
        obtain ⟨c1, c2, c3⟩ := carry x35
        exact ⟨Γ5, zs, ds, c1, x35.good, c2, c3, Paired.monoH hv2 x35.le, by omega, q5⟩
      | true =>
        refine iteT (.mk x5.good (e4.mono x5) q5 fun u d6 Γ6 H6 x6 hu h6 => ?_)
        have x36 := x35.trans x6
        obtain ⟨c1, c2, c3⟩ := carry x36
        have hl := hv2.length
        refine ⟨zs, c3, by omega, Γ6, zs ++ [u], ds ++ [d6], by rw [upd_upd]; exact c1, x36.good.write c2, c2, upd_same, Pd.append (Paired.monoH hv2 x36.le) (.cons hu .nil), by rw [List.length_append, List.length_singleton]; omega, ?_⟩
        have e6 : (fun r => Q (ds ++ [d6] ++ r)) = fun r => Q (ds ++ ([d6] ++ r)) := by funext r; rw [List.append_assoc]
        rw [e6]
        exact h6
  · have e1 : items.drop i = [] := List.drop_eq_nil_of_le (by omega)
    rw [e1] at h2
    have h2' : Q (ds ++ []) := h2
    rw [List.append_nil] at h2'
    exact .inl ⟨ok2 (by omega), k p zs ds Γ2 H2 xw np2 hp2 hv2 (by omega) (x1.freeBack hp) h2'⟩⟩

end
section
variable {X : Cx} {T : Th X.K} {pos : Pos}
theorem cLc_ret {fi : Rho → M (List D)} {gg : D → Rho → M Rho} {t : Rho → M Bool} {fe : Rho → M D} {vs : List Nat} {ρ : Rho} {Q : D → Prop} (h : bnd (cLc fi gg t fe vs ρ) (fun ds => ret (.lst ds)) Q) : cLc fi gg t fe vs ρ (fun ds => Q (.lst ds)) := h
/-- [elt for tg in iter if ..] -/
def cLcL (it : Rho → M (List D)) (g : D → Rho → M Rho) (t : Rho → M Bool) (e : Rho → M D) (vs : List Nat) : Rho → M D := fun ρ => bnd (cLc it g t e vs ρ) fun ds => ret (.lst ds)
theorem de_lc (own : List (Str × Nat)) {elt tg iter : Expr} {ifs : List Expr} {scope : Scope} {pos : Pos} {fi : Rho → M (List D)} {gg : D → Rho → M Rho} {ts : List Nat} {t : Rho → M Bool} {fe : Rho → M D} (hc : X.calm = true) (hN : X.N.Nodup) (hi : DI X T tg iter fi) (ok : BlkOk X.N X.env.scope scope own)
    (hg : ∀ (s : Shared) (H : Hp) (C : Addr) (cl : List (Str × Addr)) (fp : List Addr), DG (X.blk s H scope (compEnvC scope cl C X.env) fp) T tg gg ts) (ht : ∀ (s : Shared) (H : Hp) (C : Addr) (cl : List (Str × Addr)) (fp : List Addr), DTs (X.blk s H scope (compEnvC scope cl C X.env) fp) T ifs t)
    (he : ∀ (s : Shared) (H : Hp) (C : Addr) (cl : List (Str × Addr)) (fp : List Addr), DE (X.blk s H scope (compEnvC scope cl C X.env) fp) T elt fe) (hts : ∀ i ∈ ts, i ∈ own.map (·.2) := by decide) (hs : ∀ x, foldedSetIterable iter X.env x = pure x := by intro _; rfl) :
    DE X T (.ListComp elt [⟨tg, iter, ifs, 0⟩] scope pos) (cLcL fi gg t fe (own.map (·.2))) :=
  PE.imp (pe_lc hc hN hi ok hg ht he hs) fun σ H post ⟨Γ, ρ, Q, g, en, h, k⟩ => lc_run hts g en (cLc_ret h) fun p zs ds Γ' H' x np hp hv hl hf q => by
    have le : Γ'.le (put Γ' p (.lst ds)) := put_le np
    refine k (.ref p) (.lst ds) (put Γ' p (.lst ds)) H' ⟨x.le.trans le, x.good.tell np hp ⟨zs, rfl, Paired.monoH hv le, hl⟩, fun b o hb hn => ?_⟩ ⟨p, rfl, put_same⟩ q
    obtain ⟨r1, r2⟩ := x.fr b o hb hn
    exact ⟨r1, by rw [put_ne (ne_of_none hb hf)]; exact r2⟩
/-- x = [elt for ..] on one line, x a local -/
theorem ds_setLc (i : Nat) (own : List (Str × Nat)) {y : Str} {py : Pos} {elt tg iter : Expr} {ifs : List Expr} {scope : Scope} {pos spos : Pos} {fi : Rho → M (List D)} {gg : D → Rho → M Rho} {ts : List Nat} {t : Rho → M Bool} {fe : Rho → M D} (hc : X.calm = true) (hN : X.N.Nodup) (hi : DI X T tg iter fi) (ok : BlkOk X.N X.env.scope scope own)
    (hg : ∀ (s : Shared) (H : Hp) (C : Addr) (cl : List (Str × Addr)) (fp : List Addr), DG (X.blk s H scope (compEnvC scope cl C X.env) fp) T tg gg ts) (ht : ∀ (s : Shared) (H : Hp) (C : Addr) (cl : List (Str × Addr)) (fp : List Addr), DTs (X.blk s H scope (compEnvC scope cl C X.env) fp) T ifs t)
    (he : ∀ (s : Shared) (H : Hp) (C : Addr) (cl : List (Str × Addr)) (fp : List Addr), DE (X.blk s H scope (compEnvC scope cl C X.env) fp) T elt fe) (hts : ∀ i ∈ ts, i ∈ own.map (·.2) := by decide) (hs : ∀ x, foldedSetIterable iter X.env x = pure x := by intro _; rfl)
    (hy : X.N[i]? = some y := by rfl) (hyl : X.env.scope.names.lookup y = some .local := by rfl)
    (hsw : swapsWith (.ListComp elt [⟨tg, iter, ifs, 0⟩] scope pos) (some (.Name y py)) spos.line X.env = pure true := by exact sw_true rfl rfl rfl (by decide +kernel)) :
    DS X T (.Assign [.Name y py] (.ListComp elt [⟨tg, iter, ifs, 0⟩] scope pos) spos) (sSet i (cLcL fi gg t fe (own.map (·.2)))) :=
  PS.imp (ps_setLc hc hN hy hyl hsw hi ok hg ht he hs) fun D σ H ⟨Γ0, H0, Γ, ρ, Q, s, h, k1, k2, k3, k4⟩ => lc_run hts s.good s.e (Q := fun ds => Q (.nx (ρ.set i (.va (.lst ds))))) h fun p zs ds Γ' H' x np hp hv hl hf q => by
    have le : Γ'.le (put Γ' p (.lst ds)) := put_le np
    have x2 : Ext T Γ H (put Γ' p (.lst ds)) H' := ⟨x.le.trans le, x.good.tell np hp ⟨zs, rfl, Paired.monoH hv le, hl⟩, fun b o hb hn => by
      obtain ⟨r1, r2⟩ := x.fr b o hb hn
      exact ⟨r1, by rw [put_ne (ne_of_none hb hf)]; exact r2⟩⟩
    have hh : Holds T (put Γ' p (.lst ds)) (.ref p) (.lst ds) := ⟨p, rfl, put_same⟩
    exact k1 _ _ (put Γ' p (.lst ds)) H' x2.le ((s.step x2).kp (.refl x2.good) ((s.e.mono x2).set hh i) (Kp.set i)) q

end

/-! ### defs and their calls -/
def flRet : Fl → M D
  | .rt d => ret d
  | .nx _ => ret .non
  | _ => bad
/-- a def of n parameters, m further names -/
def fnD (n m : Nat) (b : Rho → M Fl) : List D → M D := fun ds => asrt (ds.length = n) (bnd (b (ds.map Sl.va ++ List.replicate m .no)) flRet)
/-- what a def is worth, on data: its promise -/
def spD {K : PySem.W.Frag} (T : Th K) (n : Nat) (F : List D → M D) : Sp := fun vs H Q _ => ∃ Γ ds R, vs.length = n ∧ Good T Γ H ∧ Paired (Holds T Γ) vs ds ∧ F ds R ∧ ∀ d v Γ' H', Ext T Γ H Γ' H' → Holds T Γ' v d → R d → Q v H'
/-- the def of this name is worth F -/
structure DFn (P : Program) (w : World) (K : PySem.W.Frag) (mg : Str → Option Value) (base : Heap) (T : Th K) (k : Nat) (x : Str) (n : Nat) (F : List D → M D) : Prop where
  ex : ∃ f fd ps, FnOk P w K mg base CX0 k f fd ps (spD T n F) ∧ mg x = some (.ref f) ∧ PySem.W.keepIn K (.ref f) = true ∧ Binds K fd ps []
  len : ∀ ds Q, F ds Q → ds.length = n
section
variable {P : Program} {w : World} {K : PySem.W.Frag} {mg : Str → Option Value} {base : Heap} {T : Th K} {x : Str}
theorem DFn.imp {k n : Nat} {F F' : List D → M D} (h : DFn P w K mg base T k x n F) (hF : ∀ ds Q, F' ds Q → F ds Q) : DFn P w K mg base T k x n F' := by
  obtain ⟨f, fd, ps, a, b, c, d⟩ := h.ex
  exact ⟨⟨f, fd, ps, a.imp fun vs H Q E ⟨Γ, ds, R, hl, g, hv, q, r⟩ => ⟨Γ, ds, R, hl, g, hv, hF ds R q, r⟩, b, c, d⟩, fun ds Q q => h.len ds Q (hF ds Q q)⟩
theorem DFn.mono {j k n : Nat} {F : List D → M D} (h : DFn P w K mg base T j x n F) (hk : j ≤ k) : DFn P w K mg base T k x n F := by
  obtain ⟨f, fd, ps, a, b, c, d⟩ := h.ex
  exact ⟨⟨f, fd, ps, a.mono hk, b, c, d⟩, h.len⟩
theorem start_no {ds : List D} {m i : Nat} {y : Sl} (q : (ds.map Sl.va ++ List.replicate m Sl.no)[i]? = some y) : y = .no ∨ ∃ d, ds[i]? = some d ∧ y = .va d := by
  by_cases hi : i < ds.length
  · rw [List.getElem?_append_left (by simpa using hi), List.getElem?_map] at q
    cases e : ds[i]? with
    | none => rw [e] at q; cases q
    | some d => rw [e] at q; exact .inr ⟨d, rfl, (Option.some.inj q).symm⟩
  · rw [List.getElem?_append_right (by simpa using hi)] at q
    exact .inl (List.eq_of_mem_replicate (List.mem_of_getElem? q))
theorem start_env {Γ : Wo} {H : Hp} {N : List Str} {vs : List V} {ds : List D} {m : Nat} (hv : Paired (Holds T Γ) vs ds) (hN : N.length = ds.length + m) : EnvR T Γ H (L2.start N vs) (ds.map Sl.va ++ List.replicate m .no) := by
  have hlen := hv.length
  refine ⟨?_, fun i d q => ?_, fun i ds' q => ?_, fun i kvs q => ?_, fun i j x y v q1 q2 o1 o2 _ _ => ?_⟩
  · unfold L2.start
    simp
    omega
  · rcases start_no q with z | ⟨d', e1, e2⟩
    · cases z
    · cases e2
      obtain ⟨v, h1, h2⟩ := Pd.get hv e1
      refine ⟨v, ?_, h2⟩
      have hi : i < vs.length := (List.getElem?_eq_some_iff.mp h1).1
      unfold L2.start
      rw [List.getElem?_append_left (by simpa using hi), List.getElem?_map, h1] <;> rfl
  · rcases start_no q with z | ⟨d', e1, e2⟩
    · cases z
    · cases e2
  · rcases start_no q with z | ⟨d', e1, e2⟩
    · cases z
    · cases e2
  · rcases start_no q1 with z | ⟨d', e1, e2⟩
    · subst z; cases o1
    · subst e2; cases o1
/-- a def by its body -/
theorem dfn_of {qual : Str} {st : Stmt} {f : Addr} {fd : FuncData} {N ps : List Str} {k n m : Nat} {b : Rho → M Fl} (F : Fun K x qual st f fd) (S : FnScope N ps (defScope st)) (hn : ps.length = n) (hN : N.length = n + m)
    (hm : mg x = some (.ref f)) (hb : Binds K fd ps [])
    (hbody : ∀ (cdv : Value) (A : Around) (outer : List Env) (s : Shared) (H : Hp) (E : XK), Room k (A.deeper (PyProof.Rows.envOfC qual (defScope st) s.heap.objs.size f cdv)) →
      DSs (cxOf CX0 P w K mg base N qual (defScope st) f cdv A outer s H E).nox T (defBody st) b) : DFn P w K mg base T (k + 1) x n (fnD n m b) := by
  refine ⟨⟨f, fd, ps, F.ok S (fun vs H Q E ⟨Γ, ds, R, hl, _⟩ => hl.trans hn.symm) (fun cdv A outer s H vs Q E hr ⟨Γ, ds, R, hl, g, hv, ⟨hd, h⟩, r⟩ => ⟨_, hbody cdv A outer s H E hr, ?_⟩), hm, F.kp, hb⟩, fun ds Q q => q.1⟩
  have hlen := hv.length
  have e0 : EnvR T Γ H (L2.start N vs) (ds.map Sl.va ++ List.replicate m .no) := start_env hv (by omega)
  refine ⟨Γ, H, Γ, _, _, ⟨.refl g, e0, fun i y a h1 h2 _ => ?_⟩, h, fun σ' ρ' Γ' H' le s q => r .non .non Γ' H' s.x rfl q, fun v d Γ' H' le x hv q => r d v Γ' H' x hv q, fun σ' ρ' Γ' H' le s q => q.elim, fun σ' ρ' Γ' H' le s q => q.elim⟩
  rcases start_no h1 with z | ⟨d', e1, e2⟩
  · subst z; cases h2
  · subst e2; cases h2
end
/-- f(e, ..) -/
theorem de_call {X : Cx} {T : Th X.K} {pos : Pos} {k n : Nat} {x : Str} {F : List D → M D} {e : Expr} {es : List Expr} {fs : Rho → M (List D)} {p : Pos} (G : DFn X.prog X.w X.K X.mg X.base T k x n F) (hr : Room k X.A) (ha : DA X T (e :: es) fs) (hg : Gl X x := by rfl)
    (hdb : (x == ("__debug__" : Str)) = false := by decide) (he : starEach (e :: es) X.env = (false, eval e X.env) :: starEach es X.env := by rfl) (hpl : (backTo pos (starEach es X.env)).any (·.1) = false := by rfl) :
    DE X T (.Call (.Name x p) (e :: es) [] pos) (cA F fs) := by
  obtain ⟨f, fd, ps, a, b, c, d⟩ := G.ex
  refine PE.imp (pe_call a hr hg b c d .nil pass0 ha hdb he hpl) fun σ H post ⟨Γ, ρ, Q, g, en, h, k⟩ => ⟨Γ, ρ, _, g, en, h, fun vs ds Γ1 H1 x1 hv h1 => ?_⟩
  exact ⟨Γ1, ds, Q, by rw [List.append_nil, hv.length]; exact G.len _ _ h1, x1.good, by rw [List.append_nil]; exact hv, h1, fun z v Γ' H' x2 hz q => k v z Γ' H' (x1.trans x2) hz q⟩
end DL

namespace DL
open PySem PySem.Spec L2

/-! ### data as the model's own data; == -/
mutual
def toPy : D → PyData
  | .non => .none
  | .bl b => .bool b
  | .int i => .int i
  | .str l => .str ⟨l.toArray⟩
  | .lst xs => .list (toPys xs)
  | .tup xs => .tuple (toPys xs)
  | .obj _ _ => .none
def toPys : List D → List PyData
  | [] => []
  | d :: ds => toPy d :: toPys ds
end
mutual
/-- data of at most this depth, no object in it -/
def okD : D → Nat → Bool
  | .lst xs, n => match n with
    | 0 => false
    | n + 1 => okDs xs n
  | .tup xs, n => match n with
    | 0 => false
    | n + 1 => okDs xs n
  | .obj _ _, _ => false
  | _, _ => true
def okDs : List D → Nat → Bool
  | [], _ => true
  | d :: ds, n => okD d n && okDs ds n
end
mutual
def eqD : D → D → Bool
  | .non, e => match e with
    | .non => true
    | _ => false
  | .bl a, e => match e with
    | .bl b => a == b
    | .int j => (if a then 1 else 0) == j
    | _ => false
  | .int i, e => match e with
    | .bl b => i == (if b then 1 else 0)
    | .int j => i == j
    | _ => false
  | .str a, e => match e with
    | .str b => a == b
    | _ => false
  | .lst a, e => match e with
    | .lst b => eqDs a b
    | _ => false
  | .tup a, e => match e with
    | .tup b => eqDs a b
    | _ => false
  | .obj _ _, _ => false
def eqDs : List D → List D → Bool
  | [], e => match e with
    | [] => true
    | _ :: _ => false
  | x :: xs, e => match e with
    | [] => false
    | y :: ys => eqD x y && eqDs xs ys
end
theorem mkS_inj {a b : List Nat} : (({ cps := a.toArray } : Str) == { cps := b.toArray }) = (a == b) := by
  rw [Bool.eq_iff_iff]
  simp
mutual
theorem eqv_toPy : ∀ (d e : D) (n : Nat), okD d n = true → okD e n = true → PyData.eqv (toPy d) (toPy e) = eqD d e
  | .non, e, n, _, he => by cases e <;> first | rfl | (cases he)
  | .bl a, e, n, _, he => by cases e <;> first | rfl | (cases he)
  | .int a, e, n, _, he => by cases e <;> first | rfl | (cases he)
  | .str a, e, n, _, he => by
    cases e with
    | str b => simp only [toPy, PyData.eqv, eqD]; exact mkS_inj
    | obj _ _ => cases he
    | _ => rfl
  | .lst a, e, n, hd, he => by
    cases e with
    | lst b =>
      cases n with
      | zero => cases hd
      | succ n => simp only [toPy, PyData.eqv, eqD]; exact eqv_toPys a b n hd he
    | obj _ _ => cases he
    | _ => rfl
  | .tup a, e, n, hd, he => by
    cases e with
    | tup b =>
      cases n with
      | zero => cases hd
      | succ n => simp only [toPy, PyData.eqv, eqD]; exact eqv_toPys a b n hd he
    | obj _ _ => cases he
    | _ => rfl
  | .obj _ _, _, _, hd, _ => by cases hd
theorem eqv_toPys : ∀ (ds es : List D) (n : Nat), okDs ds n = true → okDs es n = true → PyData.eqvAll (toPys ds) (toPys es) = eqDs ds es
  | [], es, _, _, _ => by cases es <;> rfl
  | d :: ds, es, n, hd, he => by
    cases es with
    | nil => rfl
    | cons e es =>
      simp only [okDs, Bool.and_eq_true] at hd he
      simp only [toPys, PyData.eqvAll, eqDs]
      rw [eqv_toPy d e n hd.1 he.1, eqv_toPys ds es n hd.2 he.2]
end
mutual
theorem depth_toPy : ∀ (d : D) (n : Nat), okD d n = true → (toPy d).depth ≤ n
  | .lst xs, n, h => by
    cases n with
    | zero => cases h
    | succ n => simp only [toPy, PyData.depth]; exact Nat.succ_le_succ (depth_toPys xs n h)
  | .tup xs, n, h => by
    cases n with
    | zero => cases h
    | succ n => simp only [toPy, PyData.depth]; exact Nat.succ_le_succ (depth_toPys xs n h)
  | .non, _, _ => Nat.zero_le _
  | .bl _, _, _ => Nat.zero_le _
  | .int _, _, _ => Nat.zero_le _
  | .str _, _, _ => Nat.zero_le _
  | .obj _ _, _, h => by cases h
theorem depth_toPys : ∀ (ds : List D) (n : Nat), okDs ds n = true → PyData.depthAll (toPys ds) ≤ n
  | [], _, _ => Nat.zero_le _
  | d :: ds, n, h => by
    simp only [okDs, Bool.and_eq_true] at h
    simp only [toPys, PyData.depthAll]
    exact Nat.max_le.mpr ⟨depth_toPy d n h.1, depth_toPys ds n h.2⟩
end
section
variable {K : PySem.W.Frag} {T : Th K} {Γ : Wo} {H : Hp}
mutual
theorem Holds.dp (g : Good T Γ H) : ∀ (d : D) (n : Nat) (v : V), okD d n = true → Holds T Γ v d → Dp K H v (toPy d) ∧ (toPy d).canLay0 = true
  | .non, _, _, _, h => by cases h; exact ⟨.non, rfl⟩
  | .bl b, _, _, _, h => by cases h; exact ⟨.bl b, rfl⟩
  | .int i, _, _, _, h => by cases h; exact ⟨.int i, rfl⟩
  | .str l, _, _, _, h => by
    obtain ⟨e, _, hl⟩ := h
    subst e
    refine ⟨.str _, ?_⟩
    simp only [toPy, PyData.canLay0, PyData.strOk]
    simp only [List.all_toArray, List.all_eq_true, decide_eq_true_eq]
    exact fun c hc => hl c hc
  | .lst xs, n, v, ok, h => by
    cases n with
    | zero => cases ok
    | succ n =>
      obtain ⟨a, vs, e, ho, r, z⟩ := Holds.lst g h
      subst e
      obtain ⟨h1, h2⟩ := Holds.dps g xs n vs ok r
      exact ⟨.lst (SqL.of ho) h1, by simp only [toPy, PyData.canLay0]; exact h2⟩
  | .tup xs, n, v, ok, h => by
    cases n with
    | zero => cases ok
    | succ n =>
      obtain ⟨a, vs, e, ho, r⟩ := Holds.tup g h
      subst e
      obtain ⟨h1, h2⟩ := Holds.dps g xs n vs ok r
      exact ⟨.tup ho h1, by simp only [toPy, PyData.canLay0]; exact h2⟩
  | .obj _ _, _, _, ok, _ => by cases ok
theorem Holds.dps (g : Good T Γ H) : ∀ (ds : List D) (n : Nat) (vs : List V), okDs ds n = true → Paired (Holds T Γ) vs ds → DpAll K H vs (toPys ds) ∧ PyData.canLayAll0 (toPys ds) = true
  | [], _, vs, _, r => by cases r; exact ⟨.nil, rfl⟩
  | d :: ds, n, vs, ok, r => by
    simp only [okDs, Bool.and_eq_true] at ok
    cases r with
    | cons r1 r2 =>
      obtain ⟨h1, h2⟩ := Holds.dp g d n _ ok.1 r1
      obtain ⟨h3, h4⟩ := Holds.dps g ds n _ ok.2 r2
      exact ⟨.cons h1 h3, by simp only [toPys, PyData.canLayAll0, h2, h4, Bool.and_self]⟩
end
theorem Holds.shaped (g : Good T Γ H) {d : D} {v : V} (ok : okD d 60 = true) (h : Holds T Γ v d) : Dp K H v (toPy d) ∧ SeqAt.shaped (toPy d) = true := by
  obtain ⟨h1, h2⟩ := Holds.dp g d 60 v ok h
  refine ⟨h1, ?_⟩
  unfold SeqAt.shaped
  rw [h2, Bool.true_and]
  exact decide_eq_true (Nat.le_trans (depth_toPy d 60 ok) (by decide))
end
/-- scalars of kinds that == tells apart as data does -/
def scEq : D → D → Bool
  | .int _, .int _ => true
  | .str _, .str _ => true
  | .bl _, .bl _ => true
  | .non, .non => true
  | .non, .int _ => true
  | .int _, .non => true
  | .non, .str _ => true
  | .str _, .non => true
  | .int _, .str _ => true
  | .str _, .int _ => true
  | _, _ => false
def oEq (d e : D) : M D := asrt (scEq d e = true ∨ (okD d 60 = true ∧ okD e 60 = true)) (ret (.bl (eqD d e)))
def oNe (d e : D) : M D := asrt (scEq d e = true ∨ (okD d 60 = true ∧ okD e 60 = true)) (ret (.bl (!eqD d e)))
section
variable {X : Cx} {T : Th X.K}
theorem vS_inj {a b : List Nat} : (decide (vS a = vS b)) = (a == b) := by
  rw [Bool.eq_iff_iff]
  simp [vS]
theorem scEq_run {Γ : Wo} {x y : V} {d e : D} (h : scEq d e = true) (hx : Holds T Γ x d) (hy : Holds T Γ y e) : scal x y = true ∧ decide (x = y) = eqD d e := by
  cases d with
  | non =>
    cases (show x = .non from hx)
    cases e with
    | non => cases (show y = .non from hy); exact ⟨rfl, rfl⟩
    | int j => cases (show y = .int j from hy); exact ⟨rfl, rfl⟩
    | str j => obtain ⟨e2, _⟩ := (show y = vS j ∧ _ from hy); subst e2; exact ⟨rfl, by simp [eqD]⟩
    | _ => cases h
  | bl i =>
    cases (show x = .bl i from hx)
    cases e with
    | bl j => cases (show y = .bl j from hy); exact ⟨rfl, by rw [dec_bl]; rfl⟩
    | _ => cases h
  | int i =>
    cases (show x = .int i from hx)
    cases e with
    | non => cases (show y = .non from hy); exact ⟨rfl, rfl⟩
    | int j => cases (show y = .int j from hy); exact ⟨rfl, by rw [dec_int]; rfl⟩
    | str j => obtain ⟨e2, _⟩ := (show y = vS j ∧ _ from hy); subst e2; exact ⟨rfl, by simp [eqD]⟩
    | _ => cases h
  | str i =>
    obtain ⟨e1, _⟩ := (show x = vS i ∧ _ from hx); subst e1
    cases e with
    | non => cases (show y = .non from hy); exact ⟨rfl, by simp [eqD]⟩
    | int j => cases (show y = .int j from hy); exact ⟨rfl, by simp [eqD]⟩
    | str j => obtain ⟨e2, _⟩ := (show y = vS j ∧ _ from hy); subst e2; exact ⟨rfl, vS_inj⟩
    | _ => cases h
  | _ => cases e <;> cases h
def rEqA (K : PySem.W.Frag) : R2 := fun x y H Q => rEq x y H Q ∨ rEqD K x y H Q
def rNeA (K : PySem.W.Frag) : R2 := fun x y H Q => rNe x y H Q ∨ rNeD K x y H Q
theorem op_eqA (hu : X.A.units + 64 < cLine) : OpR X (compareOp .Eq) (rEqA X.K) := op_eq.or (op_eqD hu)
theorem op_neA (hu : X.A.units + 64 < cLine) : OpR X (compareOp .NotEq) (rNeA X.K) := op_ne.or (op_neD hu)
theorem hbl {Γ : Wo} (b : Bool) : Holds T Γ (.bl b) (.bl b) := rfl
theorem hint {Γ : Wo} (b : Int) : Holds T Γ (.int b) (.int b) := rfl
theorem hnon {Γ : Wo} : Holds T Γ .non .non := rfl
theorem od_eq : OpD T (rEqA X.K) oEq := fun Γ H x y d e Q post g hx hy ⟨ok, h⟩ k => by
  rcases ok with ok | ⟨o1, o2⟩
  · obtain ⟨h1, h2⟩ := scEq_run ok hx hy
    exact .inl ⟨h1, by rw [h2]; exact k _ _ Γ H (.refl g) (hbl _) h⟩
  · obtain ⟨p1, s1⟩ := Holds.shaped g o1 hx
    obtain ⟨p2, s2⟩ := Holds.shaped g o2 hy
    exact .inr ⟨_, _, p1, p2, s1, s2, by rw [eqv_toPy d e 60 o1 o2]; exact k _ _ Γ H (.refl g) (hbl _) h⟩
theorem od_ne : OpD T (rNeA X.K) oNe := fun Γ H x y d e Q post g hx hy ⟨ok, h⟩ k => by
  rcases ok with ok | ⟨o1, o2⟩
  · obtain ⟨h1, h2⟩ := scEq_run ok hx hy
    exact .inl ⟨h1, by rw [h2]; exact k _ _ Γ H (.refl g) (hbl _) h⟩
  · obtain ⟨p1, s1⟩ := Holds.shaped g o1 hx
    obtain ⟨p2, s2⟩ := Holds.shaped g o2 hy
    exact .inr ⟨_, _, p1, p2, s1, s2, by rw [eqv_toPy d e 60 o1 o2]; exact k _ _ Γ H (.refl g) (hbl _) h⟩

/-! ### + - * // % ** -/
def oAdd : D → D → M D
  | .int i, .int j => ret (.int (i + j))
  | .str a, .str b => asrt (a.length + b.length ≤ sizeLine) (ret (.str (a ++ b)))
  | .lst a, .lst b => asrt (a.length + b.length ≤ sizeLine) (ret (.lst (a ++ b)))
  | .tup a, .tup b => asrt (a.length + b.length ≤ sizeLine) (ret (.tup (a ++ b)))
  | _, _ => bad
def rAddA (K : PySem.W.Frag) : R2 := fun x y H Q => rI0 (fun i j => .int (i + j)) x y H Q ∨ (∃ i j, x = .str i ∧ y = .str j ∧ i.length + j.length ≤ sizeLine ∧ Q (.str (i ++ j)) H) ∨ rCat x y H Q ∨ rCatA K x y H Q
theorem op_addA : OpR X (binaryOp .Add) (rAddA X.K) := op_add.or (op_add_str.or (op_cat.or op_catA))
theorem okS_append {a b : List Nat} (ha : okS a) (hb : okS b) (h : a.length + b.length ≤ sizeLine) : okS (a ++ b) :=
  ⟨by rw [List.length_append]; exact h, fun c hc => (List.mem_append.mp hc).elim (ha.2 c) (hb.2 c)⟩
theorem str_app (a b : List Nat) : (⟨a.toArray⟩ : Str) ++ ⟨b.toArray⟩ = ⟨(a ++ b).toArray⟩ := by
  apply TL.ext_tl
  rw [TL.tl_append]
theorem len_mk (a : List Nat) : (⟨a.toArray⟩ : Str).length = a.length := by simp [Str.length]
theorem od_add : OpD T (rAddA X.K) oAdd := fun Γ H x y d e Q post g hx hy h k => by
  cases d with
  | int i =>
    cases e with
    | int j => exact .inl ⟨i, j, hx, hy, k _ _ Γ H (.refl g) (hint _) h⟩
    | _ => exact h.elim
  | str a =>
    cases e with
    | str b =>
      obtain ⟨e1, o1⟩ := (show x = vS a ∧ okS a from hx)
      obtain ⟨e2, o2⟩ := (show y = vS b ∧ okS b from hy)
      obtain ⟨hz, h⟩ := h
      refine .inr (.inl ⟨_, _, e1, e2, by rw [len_mk, len_mk]; exact hz, ?_⟩)
      rw [str_app]
      exact k _ (.str (a ++ b)) Γ H (.refl g) ⟨rfl, okS_append o1 o2 hz⟩ h
    | _ => exact h.elim
  | lst a =>
    cases e with
    | lst b =>
      obtain ⟨p1, v1, e1, h1, r1, z1⟩ := Holds.lst g hx
      obtain ⟨p2, v2, e2, h2, r2, z2⟩ := Holds.lst g hy
      obtain ⟨hz, h⟩ := h
      refine .inr (.inr (.inl ⟨p1, p2, v1, v2, e1, e2, h1, h2, by rw [r1.length, r2.length]; exact hz, fun p hp => ?_⟩))
      obtain ⟨x1, hh⟩ := newLst g (Pd.append r1 r2) (by rw [List.length_append]; exact hz) hp
      exact k _ _ _ _ x1 hh h
    | _ => exact h.elim
  | tup a =>
    cases e with
    | tup b =>
      obtain ⟨p1, v1, e1, h1, r1⟩ := Holds.tup g hx
      obtain ⟨p2, v2, e2, h2, r2⟩ := Holds.tup g hy
      obtain ⟨hz, h⟩ := h
      refine .inr (.inr (.inr ⟨p1, p2, v1, v2, e1, e2, h1, h2, by rw [r1.length, r2.length]; exact hz, fun n1 => ?_, fun n1 n2 => ?_, fun n1 n2 p hp => ?_⟩))
      · have n1' := (Pd.nil_iff r1).mp n1
        subst n1' e2
        exact k _ _ Γ H (.refl g) hy h
      · have n2' := (Pd.nil_iff r2).mp n2
        subst n2' e1
        rw [List.append_nil] at h
        exact k _ _ Γ H (.refl g) hx h
      · obtain ⟨x1, hh⟩ := newTup g (Pd.append r1 r2) (by rw [List.length_append]; exact hz) hp
        exact k _ _ _ _ x1 hh h
    | _ => exact h.elim
  | _ => cases e <;> exact h.elim
def oI2 (C : Int → Int → Prop) (p : Int → Int → Int) : D → D → M D
  | .int i, .int j => asrt (C i j) (ret (.int (p i j)))
  | _, _ => bad
theorem od_I2 {C C' : Int → Int → Prop} {p : Int → Int → Int} (hC : ∀ i j, C i j → C' i j) : OpD T (rI C' fun i j => .int (p i j)) (oI2 C p) := fun Γ H x y d e Q post g hx hy h k => by
  cases d with
  | int i =>
    cases e with
    | int j => exact ⟨i, j, hx, hy, hC _ _ h.1, k _ _ Γ H (.refl g) (hint _) h.2⟩
    | _ => exact h.elim
  | _ => cases e <;> exact h.elim
def oI0 (p : Int → Int → Int) : D → D → M D
  | .int i, .int j => ret (.int (p i j))
  | _, _ => bad
theorem od_I0 {p : Int → Int → Int} : OpD T (rI0 fun i j => .int (p i j)) (oI0 p) := fun Γ H x y d e Q post g hx hy h k => by
  cases d with
  | int i =>
    cases e with
    | int j => exact ⟨i, j, hx, hy, k _ _ Γ H (.refl g) (hint _) h⟩
    | _ => exact h.elim
  | _ => cases e <;> exact h.elim
abbrev oSub : D → D → M D := oI0 fun i j => i - j
theorem od_sub : OpD T (rI0 fun i j => .int (i - j)) oSub := od_I0
/-- products -/
def okMul (i j : Int) : Prop := CMul i j ∨ (i.natAbs < 2 ^ 4000 ∧ j.natAbs < 2 ^ 4000)
/-- divisors -/
def okDiv (_ j : Int) : Prop := 0 < j ∧ j.natAbs < 2 ^ 4000
abbrev oDiv : D → D → M D := oI2 okDiv fun i j => i / j
theorem od_div : OpD T (rI CDivW fun i j => .int (i / j)) oDiv := od_I2 fun i j h => wide_div h.1 h.2 (by decide) (by decide)
abbrev oMod : D → D → M D := oI2 (fun _ j => 0 < j) fun i j => i % j
theorem od_mod : OpD T (rI (fun _ j => 0 < j) fun i j => .int (i % j)) oMod := od_I2 fun _ _ h => h
def okPow (i j : Int) : Prop := 0 ≤ j ∧ j ≤ 1000 ∧ -1000 ≤ i ∧ i ≤ 1000
abbrev oPow : D → D → M D := oI2 okPow fun i j => i ^ j.toNat
theorem od_pow : OpD T (rI CPow fun i j => .int (i ^ j.toNat)) oPow := od_I2 fun i j h => ⟨h.1, by have := h.2.1; omega, by have := h.2.2; omega⟩
/-- int * int, text * int, tuple * int, list * int -/
def oMul : D → D → M D
  | .int i, .int j => asrt (okMul i j) (ret (.int (i * j)))
  | _, _ => bad
def rMulA : R2 := fun x y H Q => rI CMul (fun i j => .int (i * j)) x y H Q ∨ rI CMulW (fun i j => .int (i * j)) x y H Q
theorem op_mulA : OpR X (binaryOp .Mult) rMulA := op_mul.or op_mulW
theorem od_mul : OpD T rMulA oMul := fun Γ H x y d e Q post g hx hy h k => by
  cases d with
  | int i =>
    cases e with
    | int j =>
      obtain ⟨ok, h⟩ := h
      rcases ok with ok | ⟨o1, o2⟩
      · exact .inl ⟨i, j, hx, hy, ok, k _ _ Γ H (.refl g) (hint _) h⟩
      · exact .inr ⟨i, j, hx, hy, wide_mul o1 o2 (by decide) (by decide) (by decide), k _ _ Γ H (.refl g) (hint _) h⟩
    | _ => exact h.elim
  | _ => cases e <;> exact h.elim

/-! ### order -/
def oCmp (p : Int → Int → Bool) (q : List Nat → List Nat → Bool) : D → D → M D
  | .int i, .int j => ret (.bl (p i j))
  | .str a, .str b => ret (.bl (q a b))
  | _, _ => bad
def rCmpA (p : Int → Int → Bool) (q : List Nat → List Nat → Bool) : R2 := fun x y H Q => rI0 (fun i j => .bl (p i j)) x y H Q ∨ (∃ i j, x = .str i ∧ y = .str j ∧ Q (.bl (q i.cps.toList j.cps.toList)) H)
theorem od_cmp {p : Int → Int → Bool} {q : List Nat → List Nat → Bool} : OpD T (rCmpA p q) (oCmp p q) := fun Γ H x y d e Q post g hx hy h k => by
  cases d with
  | int i =>
    cases e with
    | int j => exact .inl ⟨i, j, hx, hy, k _ _ Γ H (.refl g) (hbl _) h⟩
    | _ => exact h.elim
  | str a =>
    cases e with
    | str b => exact .inr ⟨_, _, hx.1, hy.1, k _ _ Γ H (.refl g) (hbl _) h⟩
    | _ => exact h.elim
  | _ => cases e <;> exact h.elim
abbrev oLt : D → D → M D := oCmp (fun i j => decide (i < j)) fun a b => decide (a < b)
abbrev oLe : D → D → M D := oCmp (fun i j => decide (i ≤ j)) fun a b => !decide (b < a)
abbrev oGt : D → D → M D := oCmp (fun i j => decide (j < i)) fun a b => decide (b < a)
abbrev oGe : D → D → M D := oCmp (fun i j => decide (j ≤ i)) fun a b => !decide (a < b)
theorem op_ltA : OpR X (compareOp .Lt) (rCmpA (fun i j => decide (i < j)) fun a b => decide (a < b)) := op_lt.or op_lt_str
theorem op_leA : OpR X (compareOp .LtE) (rCmpA (fun i j => decide (i ≤ j)) fun a b => !decide (b < a)) := op_le.or op_le_str
theorem op_gtA : OpR X (compareOp .Gt) (rCmpA (fun i j => decide (j < i)) fun a b => decide (b < a)) := op_gt.or op_gt_str
theorem op_geA : OpR X (compareOp .GtE) (rCmpA (fun i j => decide (j ≤ i)) fun a b => !decide (a < b)) := op_ge.or op_ge_str

/-! ### is -/
def isNon : D → Bool
  | .non => true
  | _ => false
def oIsN : D → D → M D
  | d, .non => ret (.bl (isNon d))
  | _, _ => bad
def oNotN : D → D → M D
  | d, .non => ret (.bl (!isNon d))
  | _, _ => bad
def oIsB : D → D → M D
  | .bl a, .bl b => ret (.bl (decide (a = b)))
  | _, _ => bad
def rIsA : R2 := fun x y H Q => (y = .non ∧ Q (.bl (decide (x = .non))) H) ∨ rIsB x y H Q
theorem op_isA : OpR X (compareOp .Is) rIsA := op_isN.or op_isBl
theorem Holds.non {Γ : Wo} {v : V} {d : D} (h : Holds T Γ v d) : decide (v = .non) = isNon d := by
  cases d with
  | non => cases (show v = .non from h); rfl
  | bl b => cases (show v = .bl b from h); rfl
  | int b => cases (show v = .int b from h); rfl
  | str b => obtain ⟨e, _⟩ := h; subst e; rfl
  | lst _ => obtain ⟨a, e, _⟩ := h; subst e; rfl
  | tup _ => obtain ⟨a, e, _⟩ := h; subst e; rfl
  | obj _ _ => obtain ⟨a, e, _⟩ := h; subst e; rfl
def oIs : D → D → M D := fun d e => match e with
  | .non => oIsN d .non
  | .bl b => oIsB d (.bl b)
  | _ => bad
theorem oIsN_eq (d : D) : oIsN d .non = ret (.bl (isNon d)) := by cases d <;> rfl
theorem oNotN_eq (d : D) : oNotN d .non = ret (.bl (!isNon d)) := by cases d <;> rfl
theorem od_is : OpD T rIsA oIs := fun Γ H x y d e Q post g hx hy h k => by
  cases e with
  | non =>
    have h' : oIsN d .non Q := h
    rw [oIsN_eq] at h'
    exact .inl ⟨hy, by rw [Holds.non hx]; exact k _ _ Γ H (.refl g) (hbl _) h'⟩
  | bl b =>
    cases d with
    | bl a => exact .inr ⟨a, b, hx, hy, k _ _ Γ H (.refl g) (hbl _) h⟩
    | _ => exact h.elim
  | _ => exact h.elim
theorem od_notN : OpD T (fun x y H Q => y = .non ∧ Q (.bl (!decide (x = .non))) H) oNotN := fun Γ H x y d e Q post g hx hy h k => by
  cases e with
  | non =>
    rw [oNotN_eq] at h
    exact ⟨hy, by rw [Holds.non hx]; exact k _ _ Γ H (.refl g) (hbl _) h⟩
  | _ => cases d <;> exact h.elim
end
end DL

namespace DL
open PySem PySem.Spec L2 PyProof.Rows

/-! ### subscripts -/
theorem Pd.ix {α β : Type} {F : α → β → Prop} {xs : List α} {ys : List β} {i : Int} {y : β} (h : Paired F xs ys) (e : atI ys i = some y) : ∃ x, atI xs i = some x ∧ F x y := by
  unfold atI at e ⊢
  rw [h.length]
  cases q : ixN ys.length i with
  | none => rw [q] at e; cases e
  | some j => rw [q] at e; exact Pd.get h e
def ofO {α β : Type} (o : Option α) (k : α → M β) : M β := match o with
  | some a => k a
  | none => bad
@[simp] theorem ofO_some {α β : Type} (a : α) (k : α → M β) : ofO (some a) k = k a := rfl
theorem ofO_get {α β : Type} {o : Option α} {k : α → M β} {Q : β → Prop} (h : ofO o k Q) : ∃ a, o = some a ∧ k a Q := by
  cases o with
  | none => exact h.elim
  | some a => exact ⟨a, rfl, h⟩
def oIx : D → D → M D
  | .lst xs, .int i => ofO (atI xs i) ret
  | .tup xs, .int i => ofO (atI xs i) ret
  | .str l, .int i => ofO (atI l i) fun c => ret (.str [c])
  | _, _ => bad
theorem atI_mem {α : Type} {xs : List α} {i : Int} {v : α} (h : atI xs i = some v) : v ∈ xs := by
  obtain ⟨j, _, h2, _⟩ := atI_get h
  exact List.mem_of_getElem? h2
section
variable {X : Cx} {T : Th X.K}
theorem od_ix : OpD T (rIx X.K) oIx := fun Γ H x y d e Q post g hx hy h k => by
  cases d with
  | lst xs =>
    cases e with
    | int i =>
      obtain ⟨a, vs, e1, h1, r1, z1⟩ := Holds.lst g hx
      obtain ⟨z, hz, q⟩ := ofO_get h
      obtain ⟨v, hv, rv⟩ := Pd.ix r1 hz
      exact .inl ⟨a, vs, i, v, e1, hy, SqL.of h1, hv, k v z Γ H (.refl g) rv q⟩
    | _ => exact h.elim
  | tup xs =>
    cases e with
    | int i =>
      obtain ⟨a, vs, e1, h1, r1⟩ := Holds.tup g hx
      obtain ⟨z, hz, q⟩ := ofO_get h
      obtain ⟨v, hv, rv⟩ := Pd.ix r1 hz
      exact .inr (.inl ⟨a, vs, i, v, e1, hy, h1, hv, k v z Γ H (.refl g) rv q⟩)
    | _ => exact h.elim
  | str l =>
    cases e with
    | int i =>
      obtain ⟨e1, o1⟩ := (show x = vS l ∧ okS l from hx)
      obtain ⟨z, hz, q⟩ := ofO_get h
      exact .inr (.inr ⟨_, i, z, e1, hy, by rw [len_mk]; exact o1.1, hz, k _ (.str [z]) Γ H (.refl g) ⟨rfl, (by show 1 ≤ sizeLine; decide), fun c hc => by
        have : c = z := by simpa using hc
        subst this
        exact o1.2 c (atI_mem hz)⟩ q⟩)
    | _ => exact h.elim
  | _ => cases e <;> exact h.elim

/-! ### slices -/
def toOf {K : PySem.W.Frag} (T : Th K) (f : Rho → M (Option Int)) : TO := fun σ H post => ∃ Γ ρ Q, Good T Γ H ∧ EnvR T Γ H σ ρ ∧ f ρ Q ∧ ∀ o Γ' H', Ext T Γ H Γ' H' → Q o → post o H'
abbrev DO (X : Cx) (T : Th X.K) (e : Option Expr) (f : Rho → M (Option Int)) : Prop := PO X e (toOf T f)
def pNone : Rho → M (Option Int) := fun _ => ret none
def pSome (f : Rho → M D) : Rho → M (Option Int) := fun ρ => bnd (f ρ) fun d => match d with
  | .int i => ret (some i)
  | _ => bad
theorem PO.imp {e : Option Expr} {t t' : TO} (h : PO X e t) (k : ∀ σ H Q, t' σ H Q → t σ H Q) : PO X e t' := ⟨fun pins s σ H Q I q => h.run pins s σ H Q I (k _ _ _ q)⟩
theorem do_none : DO X T none pNone := PO.imp po_none fun σ H post ⟨Γ, ρ, Q, g, e, h, k⟩ => k none Γ H (.refl g) h
theorem do_some {e : Expr} {f : Rho → M D} (he : DE X T e f) : DO X T (some e) (pSome f) := PO.imp (po_some he) fun σ H post ⟨Γ, ρ, Q, g, e, h, k⟩ => .mk g e h fun v d Γ1 H1 x1 hv h1 => by
  cases d with
  | int i => exact ⟨i, hv, k _ Γ1 H1 x1 h1⟩
  | _ => exact h1.elim
/-- xs[lo:hi] -/
def cut {α : Type} (xs : List α) (lo hi : Option Int) : List α := (xs.drop (HT.sIx xs.length 0 lo)).take (HT.sIx xs.length xs.length hi - HT.sIx xs.length 0 lo)
theorem cut_length {α : Type} (xs : List α) (lo hi : Option Int) : (cut xs lo hi).length ≤ xs.length := by
  unfold cut
  rw [List.length_take, List.length_drop]
  omega
theorem Pd.cut {α β : Type} {F : α → β → Prop} {xs : List α} {ys : List β} (h : Paired F xs ys) (lo hi : Option Int) : Paired F (cut xs lo hi) (cut ys lo hi) := by
  unfold DL.cut
  rw [h.length]
  exact Pd.take _ (Pd.drop _ h)
theorem cut_mem {α : Type} {xs : List α} {lo hi : Option Int} {x : α} (h : x ∈ cut xs lo hi) : x ∈ xs := List.mem_of_mem_drop (List.mem_of_mem_take h)
theorem okS_cut {l : List Nat} (h : okS l) (lo hi : Option Int) : okS (cut l lo hi) := ⟨Nat.le_trans (cut_length _ _ _) h.1, fun c hc => h.2 c (cut_mem hc)⟩
def oSl : D → Option Int → Option Int → M D
  | .lst xs, lo, hi => ret (.lst (cut xs lo hi))
  | .tup xs, lo, hi => ret (.tup (cut xs lo hi))
  | .str l, lo, hi => ret (.str (cut l lo hi))
  | _, _, _ => bad
def cSl (f : Rho → M D) (lo hi : Rho → M (Option Int)) : Rho → M D := fun ρ => bnd (f ρ) fun x => bnd (lo ρ) fun l => bnd (hi ρ) fun u => oSl x l u
def rSlAll (K : PySem.W.Frag) : V → Option Int → Option Int → Hp → VK → Prop := fun x lo hi H Q => rSlL K x lo hi H Q ∨ rSlA K x lo hi H Q ∨ rSlS x lo hi H Q
theorem sl_all : SlR X (rSlAll X.K) := sl_list.or (sl_tupA.or sl_str)
theorem cut_whole {α : Type} {xs : List α} {lo hi : Option Int} (h : HT.sIx xs.length 0 lo = 0 ∧ HT.sIx xs.length xs.length hi = xs.length) : cut xs lo hi = xs := by
  unfold DL.cut
  rw [h.1, h.2, List.drop_zero, Nat.sub_zero, List.take_length]
theorem de_sl {e : Expr} {f : Rho → M D} {lo hi : Option Expr} {fl fh : Rho → M (Option Int)} {p2 pos : Pos} (he : DE X T e f) (hl : DO X T lo fl) (hh : DO X T hi fh) : DE X T (.Subscript e (.Slice lo hi none p2) pos) (cSl f fl fh) :=
  PE.imp (pe_slice sl_all he hl hh) fun σ H post ⟨Γ, ρ, Q, g, e, h, k⟩ => .mk g e h fun v d Γ1 H1 x1 hv h1 => ⟨Γ1, ρ, _, x1.good, e.mono x1, h1, fun l Γ2 H2 x2 h2 => ⟨Γ2, ρ, _, x2.good, (e.mono x1).mono x2, h2, fun u Γ3 H3 x3 h3 => by
    have hv3 : Holds T Γ3 v d := (hv.mono x2.le).mono x3.le
    have x13 := (x1.trans x2).trans x3
    have g3 := x3.good
    cases d with
    | lst xs =>
      obtain ⟨a, vs, e1, o1, r1, z1⟩ := Holds.lst g3 hv3
      refine .inl ⟨a, vs, e1, SqL.of o1, fun p hp => ?_⟩
      obtain ⟨x4, hh⟩ := newLst g3 (Pd.cut r1 l u) (Nat.le_trans (cut_length _ _ _) z1) hp
      exact k _ _ _ _ (x13.trans x4) hh h3
    | tup xs =>
      obtain ⟨a, vs, e1, o1, r1⟩ := Holds.tup g3 hv3
      refine .inr (.inl ⟨a, vs, e1, o1, fun w => ?_, fun w p hp => ?_⟩)
      · have e2 : DL.cut xs l u = xs := cut_whole (by rw [← r1.length]; exact w)
        have h3' : Q (.tup (DL.cut xs l u)) := h3
        rw [e2] at h3'
        exact k _ _ Γ3 H3 x13 (by rw [← e1]; exact hv3) h3'
      · obtain ⟨x4, hh⟩ := newTup g3 (Pd.cut r1 l u) (Nat.le_trans (cut_length _ _ _) (Holds.tupLe g3 hv3)) hp
        exact k _ _ _ _ (x13.trans x4) hh h3
    | str s =>
      obtain ⟨e1, o1⟩ := (show v = vS s ∧ okS s from hv3)
      refine .inr (.inr ⟨_, e1, by rw [len_mk]; exact o1.1, ?_⟩)
      have e2 : cutS ⟨s.toArray⟩ l u = ⟨(DL.cut s l u).toArray⟩ := by unfold cutS DL.cut; rw [len_mk] 
      rw [e2]
      exact k _ (.str (DL.cut s l u)) Γ3 H3 x13 ⟨rfl, okS_cut o1 l u⟩ h3
    | _ => exact h3.elim⟩⟩

/-! ### in -/
/-- the one text within the other -/
def hasSub (w l : List Nat) : Bool := (List.range (l.length + 1)).any fun i => w.isPrefixOf (l.drop i)
theorem pre_take (w l : List Nat) : w.isPrefixOf l = (l.take w.length == w) := by
  rw [Bool.eq_iff_iff, List.isPrefixOf_iff_prefix, beq_iff_eq]
  exact ⟨fun ⟨r, e⟩ => by rw [← e, List.take_left], fun e => ⟨l.drop w.length, by
    have h := List.take_append_drop w.length l
    rw [e] at h
    exact h⟩⟩
theorem occ_hasSub (w l : List Nat) : (!(Builtin.Str.occurrences ⟨l.toArray⟩ ⟨w.toArray⟩ 0 (⟨l.toArray⟩ : Str).length 1).isEmpty) = hasSub w l := by
  rw [Bool.eq_iff_iff, StrLaws.found_iff]
  unfold hasSub
  rw [List.any_eq_true]
  simp only [len_mk]
  constructor
  · rintro ⟨i, h1, h2⟩
    refine ⟨i, List.mem_range.mpr (by omega), ?_⟩
    rw [StrLaws.subAt_eq] at h2
    rw [pre_take]
    simpa [len_mk] using h2
  · rintro ⟨i, h1, h2⟩
    have hp := List.isPrefixOf_iff_prefix.mp h2
    have hl := hp.length_le
    rw [List.length_drop] at hl
    have h1 := List.mem_range.mp h1
    refine ⟨i, by omega, ?_⟩
    rw [StrLaws.subAt_eq]
    rw [pre_take] at h2
    simpa [len_mk] using h2
def oIn : D → D → M D
  | .str w, .str l => ret (.bl (hasSub w l))
  | d, .lst xs => asrt (okD d 50 = true ∧ okDs xs 50 = true) (ret (.bl (xs.any fun z => eqD z d)))
  | d, .tup xs => asrt (okD d 50 = true ∧ okDs xs 50 = true) (ret (.bl (xs.any fun z => eqD z d)))
  | _, _ => bad
def oNotIn : D → D → M D
  | .str w, .str l => ret (.bl (!hasSub w l))
  | d, .lst xs => asrt (okD d 50 = true ∧ okDs xs 50 = true) (ret (.bl (!xs.any fun z => eqD z d)))
  | d, .tup xs => asrt (okD d 50 = true ∧ okDs xs 50 = true) (ret (.bl (!xs.any fun z => eqD z d)))
  | _, _ => bad
def rInT (K : PySem.W.Frag) : R2 := fun x y H Q => ∃ d ds, Dp K H x d ∧ Dp K H y (.tuple ds) ∧ SeqAt.shaped d = true ∧ SeqAt.shaped (.tuple ds) = true ∧ Q (.bl (ds.any fun z => PyData.eqv z d)) H
def rNotInT (K : PySem.W.Frag) : R2 := fun x y H Q => ∃ d ds, Dp K H x d ∧ Dp K H y (.tuple ds) ∧ SeqAt.shaped d = true ∧ SeqAt.shaped (.tuple ds) = true ∧ Q (.bl (!ds.any fun z => PyData.eqv z d)) H
theorem op_inT (hu : X.A.units + 65 < cLine) : OpR X (compareOp .In) (rInT X.K) := by
  intro pins s σ H x y v u Q I rx ry h
  obtain ⟨d, ds, hd, he, sd, se, q⟩ := h
  obtain ⟨as, r1⟩ := Dp.reads I d x v hd rx
  obtain ⟨bs, r2⟩ := Dp.reads I (.tuple ds) y u he ry
  exact SeqAt.in_tuple_reads r2 r1 (SeqAt.canLay_of_shaped se) (SeqAt.canLay_of_shaped sd) (room_in_shaped sd hu) ⟨.bl _, H, I, rfl, q⟩
theorem op_notInT (hu : X.A.units + 65 < cLine) : OpR X (compareOp .NotIn) (rNotInT X.K) := by
  intro pins s σ H x y v u Q I rx ry h
  obtain ⟨d, ds, hd, he, sd, se, q⟩ := h
  obtain ⟨as, r1⟩ := Dp.reads I d x v hd rx
  obtain ⟨bs, r2⟩ := Dp.reads I (.tuple ds) y u he ry
  exact SeqAt.notIn_tuple_reads r2 r1 (SeqAt.canLay_of_shaped se) (SeqAt.canLay_of_shaped sd) (room_in_shaped sd hu) ⟨.bl _, H, I, rfl, q⟩
def rInAll (K : PySem.W.Frag) : R2 := fun x y H Q => (∃ i j, x = .str i ∧ y = .str j ∧ Q (.bl (!(Builtin.Str.occurrences j i 0 j.length 1).isEmpty)) H) ∨ rInD K x y H Q ∨ rInT K x y H Q
def rNotInAll (K : PySem.W.Frag) : R2 := fun x y H Q => (∃ i j, x = .str i ∧ y = .str j ∧ Q (.bl (!(!(Builtin.Str.occurrences j i 0 j.length 1).isEmpty))) H) ∨ rNotInD K x y H Q ∨ rNotInT K x y H Q
theorem op_inA (hu : X.A.units + 65 < cLine) : OpR X (compareOp .In) (rInAll X.K) := op_in_str.or ((op_inD hu).or (op_inT hu))
theorem op_notInA (hu : X.A.units + 65 < cLine) : OpR X (compareOp .NotIn) (rNotInAll X.K) := L2.op_notin_str.or ((op_notInD hu).or (op_notInT hu))
theorem okD_up : ∀ {d : D} {n m : Nat}, n ≤ m → okD d n = true → okD d m = true := by
  have h1 : ∀ n m : Nat, n ≤ m → ∀ d : D, (okD d n = true → okD d m = true) := by
    intro n
    induction n with
    | zero =>
      intro m _ d h
      cases d with
      | lst xs => cases h
      | tup xs => cases h
      | obj _ _ => cases h
      | _ => rfl
    | succ n ih =>
      intro m hm d h
      cases m with
      | zero => omega
      | succ m =>
        have all : ∀ ds : List D, okDs ds n = true → okDs ds m = true := by
          intro ds
          induction ds with
          | nil => intro _; rfl
          | cons d ds ih2 =>
            intro h
            simp only [okDs, Bool.and_eq_true] at h ⊢
            exact ⟨ih m (by omega) d h.1, ih2 h.2⟩
        cases d with
        | lst xs => exact all xs h
        | tup xs => exact all xs h
        | obj _ _ => cases h
        | _ => rfl
  exact fun {d n m} h => h1 n m h d
theorem okDs_up {ds : List D} {n m : Nat} (h : n ≤ m) (k : okDs ds n = true) : okDs ds m = true := by
  induction ds with
  | nil => rfl
  | cons d ds ih =>
    simp only [okDs, Bool.and_eq_true] at k ⊢
    exact ⟨okD_up h k.1, ih k.2⟩
theorem any_eqv (xs : List D) (d : D) (hd : okD d 50 = true) (hx : okDs xs 50 = true) : ((toPys xs).any fun z => PyData.eqv z (toPy d)) = xs.any fun z => eqD z d := by
  induction xs with
  | nil => rfl
  | cons x xs ih =>
    simp only [okDs, Bool.and_eq_true] at hx
    simp only [toPys, List.any_cons]
    rw [eqv_toPy x d 50 hx.1 hd, ih hx.2]
theorem od_in : OpD T (rInAll X.K) oIn := fun Γ H x y d e Q post g hx hy h k => by
  cases e with
  | lst xs =>
    have h' : asrt (okD d 50 = true ∧ okDs xs 50 = true) (ret (.bl (xs.any fun z => eqD z d))) Q := by cases d <;> exact h
    obtain ⟨⟨o1, o2⟩, h'⟩ := h'
    obtain ⟨p1, s1⟩ := Holds.shaped g (okD_up (by decide) o1) hx
    obtain ⟨p2, s2⟩ := Holds.shaped (d := .lst xs) g (show okDs xs 59 = true from okDs_up (by decide) o2) hy
    exact .inr (.inl ⟨_, toPys xs, p1, p2, s1, s2, by rw [any_eqv xs d o1 o2]; exact k _ _ Γ H (.refl g) (hbl _) h'⟩)
  | tup xs =>
    have h' : asrt (okD d 50 = true ∧ okDs xs 50 = true) (ret (.bl (xs.any fun z => eqD z d))) Q := by cases d <;> exact h
    obtain ⟨⟨o1, o2⟩, h'⟩ := h'
    obtain ⟨p1, s1⟩ := Holds.shaped g (okD_up (by decide) o1) hx
    obtain ⟨p2, s2⟩ := Holds.shaped (d := .tup xs) g (show okDs xs 59 = true from okDs_up (by decide) o2) hy
    exact .inr (.inr ⟨_, toPys xs, p1, p2, s1, s2, by rw [any_eqv xs d o1 o2]; exact k _ _ Γ H (.refl g) (hbl _) h'⟩)
  | str l =>
    cases d with
    | str w => exact .inl ⟨_, _, hx.1, hy.1, by rw [occ_hasSub]; exact k _ _ Γ H (.refl g) (hbl _) h⟩
    | _ => exact h.elim
  | _ => cases d <;> exact h.elim
theorem od_notIn : OpD T (rNotInAll X.K) oNotIn := fun Γ H x y d e Q post g hx hy h k => by
  cases e with
  | lst xs =>
    have h' : asrt (okD d 50 = true ∧ okDs xs 50 = true) (ret (.bl (!xs.any fun z => eqD z d))) Q := by cases d <;> exact h
    obtain ⟨⟨o1, o2⟩, h'⟩ := h'
    obtain ⟨p1, s1⟩ := Holds.shaped g (okD_up (by decide) o1) hx
    obtain ⟨p2, s2⟩ := Holds.shaped (d := .lst xs) g (show okDs xs 59 = true from okDs_up (by decide) o2) hy
    exact .inr (.inl ⟨_, toPys xs, p1, p2, s1, s2, by rw [any_eqv xs d o1 o2]; exact k _ _ Γ H (.refl g) (hbl _) h'⟩)
  | tup xs =>
    have h' : asrt (okD d 50 = true ∧ okDs xs 50 = true) (ret (.bl (!xs.any fun z => eqD z d))) Q := by cases d <;> exact h
    obtain ⟨⟨o1, o2⟩, h'⟩ := h'
    obtain ⟨p1, s1⟩ := Holds.shaped g (okD_up (by decide) o1) hx
    obtain ⟨p2, s2⟩ := Holds.shaped (d := .tup xs) g (show okDs xs 59 = true from okDs_up (by decide) o2) hy
    exact .inr (.inr ⟨_, toPys xs, p1, p2, s1, s2, by rw [any_eqv xs d o1 o2]; exact k _ _ Γ H (.refl g) (hbl _) h'⟩)
  | str l =>
    cases d with
    | str w => exact .inl ⟨_, _, hx.1, hy.1, by rw [occ_hasSub]; exact k _ _ Γ H (.refl g) (hbl _) h⟩
    | _ => exact h.elim
  | _ => cases d <;> exact h.elim

/-! ### calls of one argument, of two -/
theorem Pd.one {α β : Type} {F : α → β → Prop} {xs : List α} {y : β} (h : Paired F xs [y]) : ∃ x, xs = [x] ∧ F x y := by
  cases h with
  | cons r rr => cases rr; exact ⟨_, rfl, r⟩
theorem Pd.two {α β : Type} {F : α → β → Prop} {xs : List α} {y z : β} (h : Paired F xs [y, z]) : ∃ x x', xs = [x, x'] ∧ F x y ∧ F x' z := by
  cases h with
  | cons r rr =>
    obtain ⟨x', e, q⟩ := Pd.one rr
    subst e
    exact ⟨_, _, rfl, r, q⟩
def on1 (o : D → M D) : List D → M D
  | [d] => o d
  | _ => bad
def on2 (o : D → D → M D) : List D → M D
  | [d, e] => o d e
  | _ => bad
theorem on1_get {o : D → M D} {ds : List D} {Q : D → Prop} (h : on1 o ds Q) : ∃ d, ds = [d] ∧ o d Q := by
  cases ds with
  | nil => exact False.elim h
  | cons d r =>
    cases r with
    | nil => exact ⟨d, rfl, h⟩
    | cons _ _ => exact False.elim h
theorem on2_get {o : D → D → M D} {ds : List D} {Q : D → Prop} (h : on2 o ds Q) : ∃ d e, ds = [d, e] ∧ o d e Q := by
  cases ds with
  | nil => exact False.elim h
  | cons d r =>
    cases r with
    | nil => exact False.elim h
    | cons e r =>
      cases r with
      | nil => exact ⟨d, e, rfl, h⟩
      | cons _ _ => exact False.elim h
theorem cd_1 {rc : List V → Hp → VK → Prop} {o : D → M D} (hd : ∀ Γ H v d (Q : D → Prop) (post : VK), Good T Γ H → Holds T Γ v d → o d Q → (∀ v z Γ' H', Ext T Γ H Γ' H' → Holds T Γ' v z → Q z → post v H') → rc [v] H post) : CallD T rc (on1 o) := fun Γ H xs ds Q post g hv h k => by
  obtain ⟨d, e, h⟩ := on1_get h
  subst e
  obtain ⟨x, e, r⟩ := Pd.one hv
  subst e
  exact hd Γ H x d Q post g r h k
theorem cd_2 {rc : List V → Hp → VK → Prop} {o : D → D → M D} (hd : ∀ Γ H v u d e (Q : D → Prop) (post : VK), Good T Γ H → Holds T Γ v d → Holds T Γ u e → o d e Q → (∀ v z Γ' H', Ext T Γ H Γ' H' → Holds T Γ' v z → Q z → post v H') → rc [v, u] H post) : CallD T rc (on2 o) := fun Γ H xs ds Q post g hv h k => by
  obtain ⟨d, e, e0, h⟩ := on2_get h
  subst e0
  obtain ⟨x, y, e, r1, r2⟩ := Pd.two hv
  subst e
  exact hd Γ H x y d e Q post g r1 r2 h k

/-! ### len, str, int, list, tuple -/
def oLen1 : D → M D
  | .str l => ret (.int l.length)
  | .lst xs => ret (.int xs.length)
  | .tup xs => ret (.int xs.length)
  | _ => bad
theorem cd_len : CallD T (fun xs H Q => ∃ x n, xs = [x] ∧ LenV X.K x H n ∧ Q (.int n) H) (on1 oLen1) := cd_1 fun Γ H x d Q post g r h k => by
  cases d with
  | str l =>
    obtain ⟨e1, o1⟩ := (show x = vS l ∧ okS l from r)
    subst e1
    exact ⟨_, l.length, rfl, ⟨by rw [len_mk]; exact o1.1, by rw [len_mk]⟩, k _ _ Γ H (.refl g) (hint _) h⟩
  | lst ys =>
    obtain ⟨a, vs, e1, o1, r1, z1⟩ := Holds.lst g r
    subst e1
    exact ⟨_, ys.length, rfl, .inl ⟨vs, SqL.of o1, r1.length.symm⟩, k _ _ Γ H (.refl g) (hint _) h⟩
  | tup ys =>
    obtain ⟨a, vs, e1, o1, r1⟩ := Holds.tup g r
    subst e1
    exact ⟨_, ys.length, rfl, .inr ⟨vs, o1, r1.length.symm⟩, k _ _ Γ H (.refl g) (hint _) h⟩
  | _ => exact False.elim h
/-- str(n), n not negative -/
def strMost : Nat := 10 ^ 250
def oStr1 : D → M D
  | .int i => asrt (0 ≤ i ∧ i < strMost) (ret (.str (TL.numL i.toNat)))
  | _ => bad
theorem numL_okS {n : Nat} (h : n < strMost) : okS (TL.numL n) := by
  refine ⟨Nat.le_trans (TL.numL_len (k := 250) (by decide) h) (by decide), fun c hc => ?_⟩
  have := TL.numL_digits n c hc
  omega
theorem log2_small {n : Nat} (h : n < strMost) : n.log2 < 1920 := by
  by_cases h0 : n = 0
  · subst h0; decide
  · exact (Nat.log2_lt h0).mpr (Nat.lt_trans h (by decide +kernel))
theorem str_num (n : Nat) : ((toString ((n : Nat) : Int) : String) : Str) = ⟨(TL.numL n).toArray⟩ := by
  apply TL.ext_tl
  exact TL.tl_num n
theorem cd_str : CallD T (fun xs H Q => ∃ i, xs = [.int i] ∧ i.natAbs.log2 < 1920 ∧ Q (.str (toString i)) H) (on1 oStr1) := cd_1 fun Γ H x d Q post g r h k => by
  cases d with
  | int i =>
    cases (show x = .int i from r)
    obtain ⟨⟨h0, h1⟩, h⟩ := h
    obtain ⟨n, rfl⟩ := Int.eq_ofNat_of_zero_le h0
    have h2 : n < strMost := Int.ofNat_lt.mp h1
    rw [Int.toNat_natCast] at h
    refine ⟨_, rfl, log2_small h2, ?_⟩
    rw [str_num]
    exact k _ (.str (TL.numL n)) Γ H (.refl g) ⟨rfl, numL_okS h2⟩ h
  | _ => exact False.elim h
/-- int(n), int(flag), int(text of digits) -/
def oInt1 : D → M D
  | .int i => ret (.int i)
  | .bl b => ret (.int (if b then 1 else 0))
  | .str l => asrt (PySem.NumText.AllDigits l ∧ l ≠ [] ∧ l.length ≤ 640) (ret (.int (PySem.NumText.digitsVal l : Nat)))
  | _ => bad
def rIntA : List V → Hp → VK → Prop := fun xs H Q => ((∃ i, xs = [.int i] ∧ Q (.int i) H) ∨ ∃ k, xs = [.bl k] ∧ Q (.int (if k then 1 else 0)) H) ∨ ∃ a n, xs = [.str a] ∧ PySem.intText? a = some n ∧ a.length ≤ 640 ∧ Q (.int n) H
theorem cr_intA : CallR X (.type "int") rIntA := call_int1.or call_int_str
theorem cd_int : CallD T rIntA (on1 oInt1) := cd_1 fun Γ H x d Q post g r h k => by
  cases d with
  | int i =>
    cases (show x = .int i from r)
    exact .inl (.inl ⟨i, rfl, k _ _ Γ H (.refl g) (hint _) h⟩)
  | bl i =>
    cases (show x = .bl i from r)
    exact .inl (.inr ⟨i, rfl, k _ _ Γ H (.refl g) (hint _) h⟩)
  | str l =>
    obtain ⟨e1, o1⟩ := (show x = vS l ∧ okS l from r)
    subst e1
    obtain ⟨⟨h1, h2, h3⟩, h⟩ := h
    exact .inr ⟨_, _, rfl, PySem.intText_digits (x := ⟨l.toArray⟩) h1 h2 (by rw [len_mk]; omega), by rw [len_mk]; exact h3, k _ _ Γ H (.refl g) (hint _) h⟩
  | _ => exact False.elim h
/-- tuple(list | tuple) -/
def oTuple1 : D → M D
  | .lst xs => ret (.tup xs)
  | .tup xs => ret (.tup xs)
  | _ => bad
theorem cd_tuple : CallD T (fun xs H Q => ∃ p ys, xs = [.ref p] ∧ ((SqL X.K H p ys ∧ ∀ l, H l = none → Q (.ref l) (upd H l (.tup ys))) ∨ (SqT X.K H p ys ∧ Q (.ref p) H))) (on1 oTuple1) := cd_1 fun Γ H x d Q post g r h k => by
  cases d with
  | lst ys =>
    obtain ⟨a, vs, e1, o1, r1, z1⟩ := Holds.lst g r
    subst e1
    refine ⟨a, vs, rfl, .inl ⟨SqL.of o1, fun p hp => ?_⟩⟩
    obtain ⟨x4, hh⟩ := newTup g r1 z1 hp
    exact k _ _ _ _ x4 hh h
  | tup ys =>
    obtain ⟨a, vs, e1, o1, r1⟩ := Holds.tup g r
    subst e1
    exact ⟨a, vs, rfl, .inr ⟨o1, k _ _ Γ H (.refl g) r h⟩⟩
  | _ => exact False.elim h
/-- list(list | tuple) -/
def oList1 : D → M D
  | .lst xs => ret (.lst xs)
  | .tup xs => ret (.lst xs)
  | _ => bad
theorem cd_list : CallD T (fun xs H Q => ∃ p ys, xs = [.ref p] ∧ (SqL X.K H p ys ∨ SqT X.K H p ys) ∧ ∀ l, H l = none → Q (.ref l) (upd H l (.lst ys))) (on1 oList1) := cd_1 fun Γ H x d Q post g r h k => by
  cases d with
  | lst ys =>
    obtain ⟨a, vs, e1, o1, r1, z1⟩ := Holds.lst g r
    subst e1
    refine ⟨a, vs, rfl, .inl (SqL.of o1), fun p hp => ?_⟩
    obtain ⟨x4, hh⟩ := newLst g r1 z1 hp
    exact k _ _ _ _ x4 hh h
  | tup ys =>
    have z1 := Holds.tupLe g r
    obtain ⟨a, vs, e1, o1, r1⟩ := Holds.tup g r
    subst e1
    refine ⟨a, vs, rfl, .inr o1, fun p hp => ?_⟩
    obtain ⟨x4, hh⟩ := newLst g r1 z1 hp
    exact k _ _ _ _ x4 hh h
  | _ => exact False.elim h

/-! ### sum, any, all of lists -/
def intsOf : List D → Option (List Int)
  | [] => some []
  | .int i :: r => (intsOf r).map (i :: ·)
  | _ :: _ => none
def boolsOf : List D → Option (List Bool)
  | [] => some []
  | .bl b :: r => (boolsOf r).map (b :: ·)
  | _ :: _ => none
@[simp] theorem intsOf_map (ns : List Int) : intsOf (ns.map .int) = some ns := by
  induction ns with
  | nil => rfl
  | cons n ns ih => rw [List.map_cons, intsOf, ih]; rfl
@[simp] theorem boolsOf_map (ns : List Bool) : boolsOf (ns.map .bl) = some ns := by
  induction ns with
  | nil => rfl
  | cons n ns ih => rw [List.map_cons, boolsOf, ih]; rfl
theorem intsOf_inv : ∀ {ds : List D} {ns : List Int}, intsOf ds = some ns → ds = ns.map .int
  | [], ns, h => by cases h; rfl
  | d :: ds, ns, h => by
    cases d with
    | int i =>
      unfold intsOf at h
      cases e : intsOf ds with
      | none => rw [e] at h; cases h
      | some ms => rw [e] at h; cases h; rw [List.map_cons, intsOf_inv e]
    | _ => cases h
theorem boolsOf_inv : ∀ {ds : List D} {ns : List Bool}, boolsOf ds = some ns → ds = ns.map .bl
  | [], ns, h => by cases h; rfl
  | d :: ds, ns, h => by
    cases d with
    | bl i =>
      unfold boolsOf at h
      cases e : boolsOf ds with
      | none => rw [e] at h; cases h
      | some ms => rw [e] at h; cases h; rw [List.map_cons, boolsOf_inv e]
    | _ => cases h
theorem pd_ints {Γ : Wo} : ∀ {ns : List Int} {vs : List V}, Paired (Holds T Γ) vs (ns.map .int) → vs = ns.map V.int
  | [], _, h => by cases h; rfl
  | n :: ns, _, h => by
    rw [List.map_cons] at h
    cases h with
    | cons r rr => rw [List.map_cons, pd_ints rr]; congr 1
theorem pd_bools {Γ : Wo} : ∀ {ns : List Bool} {vs : List V}, Paired (Holds T Γ) vs (ns.map .bl) → vs = ns.map V.bl
  | [], _, h => by cases h; rfl
  | n :: ns, _, h => by
    rw [List.map_cons] at h
    cases h with
    | cons r rr => rw [List.map_cons, pd_bools rr]; congr 1
theorem ints_pd {Γ : Wo} : ∀ ns : List Int, Paired (Holds T Γ) (ns.map V.int) (ns.map .int)
  | [] => .nil
  | n :: ns => .cons rfl (ints_pd ns)
def oSum1 : D → M D
  | .lst xs => ofO (intsOf xs) fun ns => ret (.int ns.sum)
  | _ => bad
def oAny1 : D → M D
  | .lst xs => ofO (boolsOf xs) fun ns => ret (.bl (ns.any id))
  | _ => bad
def oAll1 : D → M D
  | .lst xs => ofO (boolsOf xs) fun ns => ret (.bl (ns.all id))
  | _ => bad
theorem cd_sum : CallD T (rSum X.K) (on1 oSum1) := cd_1 fun Γ H x d Q post g r h k => by
  cases d with
  | lst xs =>
    obtain ⟨a, vs, e1, ha, hv, z1⟩ := Holds.lst g r
    subst e1
    obtain ⟨ns, e, h2⟩ := ofO_get (show ofO (intsOf xs) (fun ns => ret (.int ns.sum)) Q from h)
    have e2 := intsOf_inv e
    subst e2
    have e3 := pd_ints hv
    subst e3
    exact ⟨a, ns, rfl, SqL.of ha, k _ _ Γ H (.refl g) (hint _) h2⟩
  | _ => exact False.elim h
theorem cd_any : CallD T (rAny X.K) (on1 oAny1) := cd_1 fun Γ H x d Q post g r h k => by
  cases d with
  | lst xs =>
    obtain ⟨a, vs, e1, ha, hv, z1⟩ := Holds.lst g r
    subst e1
    obtain ⟨ns, e, h2⟩ := ofO_get (show ofO (boolsOf xs) (fun ns => ret (.bl (ns.any id))) Q from h)
    have e2 := boolsOf_inv e
    subst e2
    have e3 := pd_bools hv
    subst e3
    exact ⟨a, ns, rfl, SqL.of ha, k _ _ Γ H (.refl g) (hbl _) h2⟩
  | _ => exact False.elim h
theorem cd_all : CallD T (rAll X.K) (on1 oAll1) := cd_1 fun Γ H x d Q post g r h k => by
  cases d with
  | lst xs =>
    obtain ⟨a, vs, e1, ha, hv, z1⟩ := Holds.lst g r
    subst e1
    obtain ⟨ns, e, h2⟩ := ofO_get (show ofO (boolsOf xs) (fun ns => ret (.bl (ns.all id))) Q from h)
    have e2 := boolsOf_inv e
    subst e2
    have e3 := pd_bools hv
    subst e3
    exact ⟨a, ns, rfl, SqL.of ha, k _ _ Γ H (.refl g) (hbl _) h2⟩
  | _ => exact False.elim h
/-- max, min of two ints -/
def oMax2 : D → D → M D
  | .int i, .int j => ret (.int (if j > i then j else i))
  | _, _ => bad
def oMin2 : D → D → M D
  | .int i, .int j => ret (.int (if j < i then j else i))
  | _, _ => bad
theorem cd_max2 : CallD T (fun xs H Q => ∃ i j, xs = [.int i, .int j] ∧ Q (.int (if j > i then j else i)) H) (on2 oMax2) := cd_2 fun Γ H x y d e Q post g hx hy h k => by
  cases d with
  | int i =>
    cases e with
    | int j =>
      cases (show x = .int i from hx)
      cases (show y = .int j from hy)
      exact ⟨i, j, rfl, k _ _ Γ H (.refl g) (hint _) h⟩
    | _ => exact False.elim h
  | _ => cases e <;> exact False.elim h
theorem cd_min2 : CallD T (fun xs H Q => ∃ i j, xs = [.int i, .int j] ∧ Q (.int (if j < i then j else i)) H) (on2 oMin2) := cd_2 fun Γ H x y d e Q post g hx hy h k => by
  cases d with
  | int i =>
    cases e with
    | int j =>
      cases (show x = .int i from hx)
      cases (show y = .int j from hy)
      exact ⟨i, j, rfl, k _ _ Γ H (.refl g) (hint _) h⟩
    | _ => exact False.elim h
  | _ => cases e <;> exact False.elim h
end
end DL

namespace DL
open PySem PySem.Spec L2 PyProof.Rows

section
variable {X : Cx} {T : Th X.K}
/-! ### isinstance of data -/
def tyD : D → String
  | .non => "NoneType"
  | .bl _ => "bool"
  | .int _ => "int"
  | .str _ => "str"
  | .lst _ => "list"
  | .tup _ => "tuple"
  | .obj _ _ => ""
theorem tyx_of {Γ : Wo} {H : Hp} {v : V} {d : D} (g : Good T Γ H) (h : Holds T Γ v d) (hd : ∀ t xs, d ≠ .obj t xs) : TyX X.K H v (.type (tyD d)) := by
  cases d with
  | non => cases (show v = .non from h); exact .base .non
  | bl b => cases (show v = .bl b from h); exact .base (.bl b)
  | int b => cases (show v = .int b from h); exact .base (.int b)
  | str b => obtain ⟨e, _⟩ := (show v = vS b ∧ okS b from h); subst e; exact .base (.str _)
  | lst xs =>
    obtain ⟨a, vs, e, ha, _⟩ := Holds.lst g h
    subst e
    exact .base (.lst ha)
  | tup xs =>
    obtain ⟨a, e, q | q⟩ := h
    · obtain ⟨o, ho, vs, eo, _⟩ := g a _ q
      subst e eo
      exact .base (.tup ho)
    · obtain ⟨ds', vs, e1, _, hs, r⟩ := T.ctok a _ q
      subst e
      have := hs (fun _ => none)
      rcases this with (z | ⟨o, z⟩) | ⟨o, its, n, k, c, _⟩
      · cases z
      · cases z
      · exact .kTuple k c
  | obj t xs => exact absurd rfl (hd t xs)
/-- isinstance(x, T): b the answer for each kind of datum -/
def oIsi (f : D → Option Bool) : D → M D := fun d => ofO (f d) fun b => ret (.bl b)
def isInt : D → Option Bool
  | .int _ => some true
  | .bl _ => some true
  | .obj _ _ => none
  | _ => some false
def isBool : D → Option Bool
  | .bl _ => some true
  | .obj _ _ => none
  | _ => some false
def isStr : D → Option Bool
  | .str _ => some true
  | .obj _ _ => none
  | _ => some false
def isTup : D → Option Bool
  | .tup _ => some true
  | .obj _ _ => none
  | _ => some false
def isLst : D → Option Bool
  | .lst _ => some true
  | .obj _ _ => none
  | _ => some false
def isLT : D → Option Bool
  | .lst _ => some true
  | .tup _ => some true
  | .obj _ _ => none
  | _ => some false
def IsiOk (f : D → Option Bool) (ty : String) : Prop := ∀ d b, f d = some b → (∀ t xs, d ≠ .obj t xs) ∧ kitB (tyD d) ty = some b
theorem isi_int : IsiOk isInt "int" := fun d b h => by cases d <;> first | (cases h; exact ⟨fun _ _ z => (by cases z), (by dsimp only [tyD]; decide +kernel)⟩) | (cases h)
theorem isi_bool : IsiOk isBool "bool" := fun d b h => by cases d <;> first | (cases h; exact ⟨fun _ _ z => (by cases z), (by dsimp only [tyD]; decide +kernel)⟩) | (cases h)
theorem isi_str : IsiOk isStr "str" := fun d b h => by cases d <;> first | (cases h; exact ⟨fun _ _ z => (by cases z), (by dsimp only [tyD]; decide +kernel)⟩) | (cases h)
theorem isi_tup : IsiOk isTup "tuple" := fun d b h => by cases d <;> first | (cases h; exact ⟨fun _ _ z => (by cases z), (by dsimp only [tyD]; decide +kernel)⟩) | (cases h)
theorem isi_lst : IsiOk isLst "list" := fun d b h => by cases d <;> first | (cases h; exact ⟨fun _ _ z => (by cases z), (by dsimp only [tyD]; decide +kernel)⟩) | (cases h)
theorem de_isi {f : D → Option Bool} {ty : String} {tn : Str} {a : Expr} {fa : Rho → M D} {p p2 pos : Pos} (hf : IsiOk f ty) (hm : X.mg "isinstance" = none) (hmt : X.mg tn = none) (ha : DE X T a fa) (hvt : bootBuiltins tn = some (.type ty) := by decide +kernel) (hg : Gl X "isinstance" := by rfl) (hgt : Gl X tn := by rfl)
    (hn : tn ≠ "__name__" := by decide) (hdt : (tn == ("__debug__" : Str)) = false := by decide)
    (he : starEach [a, .Name tn p2] X.env = (false, eval a X.env) :: starEach [.Name tn p2] X.env := by rfl) (he2 : starEach [.Name tn p2] X.env = (false, eval (.Name tn p2) X.env) :: starEach [] X.env := by rfl) (hpl : (backTo pos (starEach [.Name tn p2] X.env)).any (·.1) = false := by rfl) :
    DE X T (.Call (.Name "isinstance" p) [a, .Name tn p2] [] pos) (c1 (oIsi f) fa) :=
  PE.imp (pe_callB call_isi hg hm PyProof.Rows.boot_isinstance (pa_cons ha (pa_cons (pe_bltn (v := .ty ty) hgt hmt hvt rfl hn hdt) pa_nil he2) he) (he := he) (hpl := hpl)) fun σ H post ⟨Γ, ρ, Q, g, e, h, k⟩ => .mk g e h fun v d Γ1 H1 x1 hv h1 => by
    obtain ⟨b, hb, q⟩ := ofO_get h1
    obtain ⟨h2, h3⟩ := hf d b hb
    exact ⟨v, .ty ty, .type (tyD d), .type ty, b, rfl, .ty ty, tyx_of x1.good hv h2, kit_ty h3, k _ _ Γ1 H1 x1 (hbl b) q⟩
/-- isinstance(x, (list, tuple)) -/
theorem de_isiLT {a : Expr} {fa : Rho → M D} {p p2 p3 p4 pos : Pos} {kk : Nat} (hm : X.mg "isinstance" = none) (hm1 : X.mg "list" = none) (hm2 : X.mg "tuple" = none) (ha : DE X T a fa) (hg : Gl X "isinstance" := by rfl) (hg1 : Gl X "list" := by rfl) (hg2 : Gl X "tuple" := by rfl)
    (he : starEach [a, .Tuple [.Name "list" p2, .Name "tuple" p3] kk p4] X.env = (false, eval a X.env) :: starEach [.Tuple [.Name "list" p2, .Name "tuple" p3] kk p4] X.env := by rfl) (hpl : (backTo pos (starEach [.Tuple [.Name "list" p2, .Name "tuple" p3] kk p4] X.env)).any (·.1) = false := by rfl)
    (he2 : starEach [.Tuple [.Name "list" p2, .Name "tuple" p3] kk p4] X.env = (false, eval (.Tuple [.Name "list" p2, .Name "tuple" p3] kk p4) X.env) :: starEach [] X.env := by rfl) :
    DE X T (.Call (.Name "isinstance" p) [a, .Tuple [.Name "list" p2, .Name "tuple" p3] kk p4] [] pos) (c1 (oIsi isLT) fa) :=
  PE.imp (pe_callB call_isiT hg hm PyProof.Rows.boot_isinstance (pa_cons ha (pa_cons (pe_tup (pa_cons (pe_bltn (v := .ty "list") hg1 hm1 (by decide +kernel) rfl) (pa_cons (pe_bltn (v := .ty "tuple") hg2 hm2 (by decide +kernel) rfl) pa_nil))) pa_nil he2) he) (he := he) (hpl := hpl)) fun σ H post ⟨Γ, ρ, Q, g, e, h, k⟩ => .mk g e h fun v d Γ1 H1 x1 hv h1 => by
    obtain ⟨b, hb, q⟩ := ofO_get h1
    refine ⟨(by show 2 ≤ sizeLine; decide), fun p hp => ?_⟩
    have x2 : Ext T Γ1 H1 Γ1 (upd H1 p (.tup [.ty "list", .ty "tuple"])) := .newOwn x1.good hp
    have hd : ∀ t xs, d ≠ .obj t xs := fun t xs z => by subst z; cases hb
    have k1 : ∃ b1, isLst d = some b1 := by cases d <;> first | exact ⟨_, rfl⟩ | exact absurd rfl (hd _ _)
    have k2 : ∃ b2, isTup d = some b2 := by cases d <;> first | exact ⟨_, rfl⟩ | exact absurd rfl (hd _ _)
    obtain ⟨b1, k1⟩ := k1
    obtain ⟨b2, k2⟩ := k2
    refine ⟨v, p, [.ty "list", .ty "tuple"], .type (tyD d), [.type "list", .type "tuple"], b, rfl, upd_same, .cons (.ty _) (.cons (.ty _) .nil), tyx_of x2.good hv hd, ?_, k _ _ Γ1 _ (x1.trans x2) (hbl b) q⟩
    refine kitAny_cons (kit_ty (isi_lst d b1 k1).2) (fun z => kitAny_cons (kit_ty (isi_tup d b2 k2).2) (fun z2 => ?_) fun z2 => ?_) fun z => ?_
    · subst z z2
      have : b = false := by cases d <;> simp_all [isLT, isLst, isTup]
      rw [this]; exact kitAny_nil
    · subst z z2
      cases d <;> simp_all [isLT, isLst, isTup]
    · subst z
      cases d <;> simp_all [isLT, isLst, isTup]

/-! ### methods of texts -/
def oSt1 (f : List Nat → List Nat → D) : List Nat → List D → M D := fun l xs => match xs with
  | [.str w] => ret (f l w)
  | _ => bad
theorem st1_get {f : List Nat → List Nat → D} {l : List Nat} {xs : List D} {Q : D → Prop} (h : oSt1 f l xs Q) : ∃ w, xs = [.str w] ∧ Q (f l w) := by
  unfold oSt1 at h
  split at h
  · exact ⟨_, rfl, h⟩
  · exact False.elim h
theorem md_st1 {f : List Nat → List Nat → D} {g : Str → Str → V} (hf : ∀ Γ l w, okS l → okS w → Holds T Γ (g ⟨l.toArray⟩ ⟨w.toArray⟩) (f l w)) : MtD T "str" (fun x xs H Q => ∃ a b, x = .str a ∧ xs = [.str b] ∧ Q (g a b) H) (onS (oSt1 f)) := fun Γ H x xs d ds Q post gd hx hv h k => by
  cases d with
  | str l =>
    obtain ⟨w, e, q⟩ := st1_get h
    subst e
    obtain ⟨e1, o1⟩ := (show x = vS l ∧ okS l from hx)
    obtain ⟨y, e2, r⟩ := Pd.one hv
    obtain ⟨e3, o3⟩ := (show y = vS w ∧ okS w from r)
    subst e1 e2 e3
    exact ⟨_, _, rfl, rfl, k _ _ Γ H (.refl gd) (hf Γ l w o1 o3) q⟩
  | _ => exact False.elim h
theorem starts_eq (l w : List Nat) : Txt.startswith ⟨l.toArray⟩ ⟨w.toArray⟩ = w.isPrefixOf l := by
  unfold Txt.startswith
  rw [StrLaws.subAt_eq, pre_take, len_mk, len_mk]
  rw [Bool.eq_iff_iff]
  simp only [Nat.zero_add, Bool.and_eq_true, decide_eq_true_eq, List.drop_zero, beq_iff_eq]
  constructor
  · exact fun h => h.2
  · intro h
    refine ⟨?_, h⟩
    have := congrArg List.length h
    rw [List.length_take] at this
    omega
theorem ends_eq (l w : List Nat) : Txt.endswith ⟨l.toArray⟩ ⟨w.toArray⟩ = w.isSuffixOf l := by
  unfold Txt.endswith
  rw [StrLaws.subAt_eq, len_mk, len_mk]
  rw [Bool.eq_iff_iff, List.isSuffixOf_iff_suffix]
  simp only [Nat.zero_add, Bool.and_eq_true, decide_eq_true_eq, beq_iff_eq]
  constructor
  · rintro ⟨h1, h2⟩
    refine ⟨l.take (l.length - w.length), ?_⟩
    have e : (l.drop (l.length - w.length)).take w.length = l.drop (l.length - w.length) := List.take_of_length_le (by rw [List.length_drop]; omega)
    rw [e] at h2
    have h3 := List.take_append_drop (l.length - w.length) l
    rw [h2] at h3
    exact h3
  · rintro ⟨r, e⟩
    subst e
    refine ⟨by rw [List.length_append]; omega, ?_⟩
    have e1 : (r ++ w).length - w.length = r.length := by rw [List.length_append]; omega
    show ((r ++ w).drop ((r ++ w).length - w.length)).take w.length = w
    rw [e1, List.drop_left, List.take_length]
abbrev oStarts := oSt1 fun l w => .bl (w.isPrefixOf l)
abbrev oEnds := oSt1 fun l w => .bl (w.isSuffixOf l)
theorem md_starts : MtD T "str" (fun x xs H Q => ∃ a b, x = .str a ∧ xs = [.str b] ∧ Q (.bl (Txt.startswith a b)) H) (onS oStarts) := md_st1 fun Γ l w _ _ => by rw [starts_eq]; exact rfl
theorem md_ends : MtD T "str" (fun x xs H Q => ∃ a b, x = .str a ∧ xs = [.str b] ∧ Q (.bl (Txt.endswith a b)) H) (onS oEnds) := md_st1 fun Γ l w _ _ => by rw [ends_eq]; exact rfl

/-! ### what a loop walks -/
def itemsOf : D → M (List D)
  | .lst xs => ret xs
  | .tup xs => ret xs
  | .str l => ret (l.map fun c => .str [c])
  | _ => bad
def cIt (f : Rho → M D) : Rho → M (List D) := fun ρ => bnd (f ρ) itemsOf
def iSeqA (K : PySem.W.Frag) (te : TE) : TI := fun σ H R => te σ H fun v H1 => (∃ a, v = .ref a ∧ (∃ xs, SqL K H1 a xs) ∧ R (Itl K a) H1) ∨ (∃ a, v = .ref a ∧ (∃ xs, SqT K H1 a xs) ∧ R (Itt K a) H1) ∨ ∃ x, v = .str x ∧ R (Its x) H1
theorem pi_seqA {tg e : Expr} {te : TE} (he : PE X e te) : PI X tg e (iSeqA X.K te) := by
  refine ⟨fun pins s σ H R I h => ?_⟩
  refine thn (he.run pins s σ H _ I h) fun v s1 ⟨x, H1, I1, r1, q1⟩ => ?_
  rcases q1 with ⟨a, e, ⟨xs, hq⟩, q⟩ | ⟨a, e, ⟨xs, hq⟩, q⟩ | ⟨z, e, q⟩
  · subst e
    cases r1
    obtain ⟨its, rv, p, hz⟩ := I1.list hq
    refine wpAny_pyIter_list p.isList ?_
    refine ⟨s1.heap.objs.size, [s1.heap.objs.size], _, _, H1, rfl, I1.kept (t' := s1.toks) fun b o e => Heap.get?_push_of_some _ e, turn_list a _, ⟨_, Heap.get?_push_size _ rfl, rfl, rfl⟩, fun b hb => ?_, q⟩
    have e : b = s1.heap.objs.size := by simpa using hb
    subst e
    exact I1.fpOk (Nat.le_refl _) (I1.hok.fresh (Nat.le_refl _))
  · subst e
    cases r1
    obtain ⟨its, rv, p, hz⟩ := I1.tuple hq
    refine wpAny_pyIter_tuple (show s1.heap.IsTuple a its.toArray from p) ?_
    refine ⟨s1.heap.objs.size, [s1.heap.objs.size], _, _, H1, rfl, I1.kept (t' := s1.toks) fun b o e => Heap.get?_push_of_some _ e, turn_tuple a _, ⟨_, Heap.get?_push_size _ rfl, rfl, rfl⟩, fun b hb => ?_, q⟩
    have e : b = s1.heap.objs.size := by simpa using hb
    subst e
    exact I1.fpOk (Nat.le_refl _) (I1.hok.fresh (Nat.le_refl _))
  · subst e
    obtain ⟨t, rfl⟩ := r1
    cases ha : z.cps.all (· < 128)
    · exact wpAny_pyIter_wide ha (pi_one (tk := s1.toks) I1 _ (turn_str _ z t "str_iterator" (.inr rfl)) ⟨_, Heap.get?_push_size _ rfl, rfl, rfl⟩ q)
    · exact wpAny_pyIter_ascii ha (pi_one (tk := s1.toks) I1 _ (turn_str _ z t "str_ascii_iterator" (.inl rfl)) ⟨_, Heap.get?_push_size _ rfl, rfl, rfl⟩ q)
theorem it_lst {Γ : Wo} {H : Hp} {a : Addr} {xs : List D} (g : Good T Γ H) (h : Γ a = some (.lst xs)) (hz : xs.length ≤ sizeLine) : ItOk T Γ (Itl X.K a) xs := ⟨hz, fun i Γ1 H1 le g1 => by
  obtain ⟨o, ho, vs, eo, r, _⟩ := g1 a _ (le a _ h)
  subst eo
  have hl := r.length
  refine ⟨fun hi => ?_, fun hi => ⟨vs, SqL.of ho, by omega⟩⟩
  obtain ⟨d, hd⟩ : ∃ d, xs[i]? = some d := ⟨xs[i], by simp [hi]⟩
  obtain ⟨v, hv, rv⟩ := Pd.get r hd
  refine ⟨⟨vs, v, SqL.of ho, hv⟩, fun x H2 ⟨e1, y⟩ => ?_⟩
  subst e1
  have := y vs (SqL.of ho)
  rw [hv] at this
  cases this
  exact ⟨Γ1, d, .refl g1, hd, rv⟩⟩
theorem it_tup {Γ : Wo} {H : Hp} {v : V} {a : Addr} {xs : List D} (g : Good T Γ H) (h : Holds T Γ (.ref a) (.tup xs)) : ItOk T Γ (Itt X.K a) xs := ⟨Holds.tupLe g h, fun i Γ1 H1 le g1 => by
  obtain ⟨a', vs, e, ho, r⟩ := Holds.tup g1 (h.mono le)
  cases e
  have hl := r.length
  refine ⟨fun hi => ?_, fun hi => ⟨vs, ho, by omega⟩⟩
  obtain ⟨d, hd⟩ : ∃ d, xs[i]? = some d := ⟨xs[i], by simp [hi]⟩
  obtain ⟨v, hv, rv⟩ := Pd.get r hd
  refine ⟨⟨vs, v, ho, hv⟩, fun x H2 ⟨e1, y⟩ => ?_⟩
  subst e1
  have := y vs ho
  rw [hv] at this
  cases this
  exact ⟨Γ1, d, .refl g1, hd, rv⟩⟩
theorem it_str {Γ : Wo} {l : List Nat} (h : okS l) : ItOk T Γ (Its ⟨l.toArray⟩) (l.map fun c => .str [c]) := ⟨by rw [List.length_map]; exact h.1, fun i Γ1 H1 le g1 => by
  rw [List.length_map]
  refine ⟨fun hi => ⟨by show i < l.toArray.size; rw [List.size_toArray]; exact hi, fun x H2 ⟨e1, c, hc, e2⟩ => ?_⟩, fun hi => by show l.toArray.size ≤ i; rw [List.size_toArray]; exact hi⟩
  subst e1 e2
  have hc' : l[i]? = some c := by simpa using hc
  refine ⟨Γ1, .str [c], .refl g1, by rw [List.getElem?_map, hc']; rfl, rfl, (by show 1 ≤ sizeLine; decide), fun z hz => ?_⟩
  have : z = c := by simpa using hz
  subst this
  exact h.2 z (List.mem_of_getElem? hc')⟩
/-- for x in e: e a list, a tuple, a text -/
theorem di_seq {tg e : Expr} {f : Rho → M D} (he : DE X T e f) : DI X T tg e (cIt f) :=
  PI.imp (pi_seqA he) fun σ H R ⟨Γ, ρ, Q, g, en, h, k⟩ => .mk g en h fun v d Γ1 H1 x1 hv h1 => by
    cases d with
    | lst xs =>
      obtain ⟨a, e1, q⟩ := hv
      obtain ⟨o, ho, vs, eo, r, hz⟩ := x1.good a _ q
      subst eo
      exact .inl ⟨a, e1, ⟨vs, SqL.of ho⟩, k _ _ Γ1 H1 x1 (it_lst x1.good q hz) h1⟩
    | tup xs =>
      obtain ⟨a, vs, e1, ho, r⟩ := Holds.tup x1.good hv
      subst e1
      exact .inr (.inl ⟨a, rfl, ⟨vs, ho⟩, k _ _ Γ1 H1 x1 (it_tup (v := .ref a) x1.good hv) h1⟩)
    | str l =>
      obtain ⟨e1, o1⟩ := (show v = vS l ∧ okS l from hv)
      exact .inr (.inr ⟨_, e1, k _ _ Γ1 H1 x1 (it_str o1) h1⟩)
    | _ => exact False.elim h1
def rngD (lo hi : Int) : List D := (List.range (hi - lo).toNat).map fun (i : Nat) => .int (lo + i)
def okRng (lo hi : Int) : Prop := -(2 ^ 62) ≤ lo ∧ lo < 2 ^ 62 ∧ -(2 ^ 62) ≤ hi ∧ hi < 2 ^ 62 ∧ (hi - lo).toNat ≤ sizeLine
def oRng : List D → M (List D)
  | [.int n] => asrt (okRng 0 n) (ret (rngD 0 n))
  | [.int a, .int b] => asrt (okRng a b) (ret (rngD a b))
  | _ => bad
def cRng (f : Rho → M (List D)) : Rho → M (List D) := fun ρ => bnd (f ρ) oRng
theorem it_rng {Γ : Wo} {lo hi : Int} (hz : (hi - lo).toNat ≤ sizeLine) : ItOk T Γ (Itr lo (hi - lo).toNat) (rngD lo hi) := by
  have hl : (rngD lo hi).length = (hi - lo).toNat := by unfold rngD; rw [List.length_map, List.length_range]
  refine ⟨by rw [hl]; exact hz, fun i Γ1 H1 le g1 => ?_⟩
  rw [hl]
  refine ⟨fun hi' => ⟨hi', fun x H2 ⟨e1, e2⟩ => ?_⟩, fun hi' => hi'⟩
  subst e1 e2
  refine ⟨Γ1, .int (lo + i), .refl g1, ?_, rfl⟩
  unfold rngD
  rw [List.getElem?_map, List.getElem?_range hi']
  rfl
theorem oRng1_get {ds : List D} {Q : List D → Prop} (h : oRng ds Q) : (∃ n, ds = [.int n] ∧ okRng 0 n ∧ Q (rngD 0 n)) ∨ (∃ a b, ds = [.int a, .int b] ∧ okRng a b ∧ Q (rngD a b)) := by
  unfold oRng at h
  split at h
  · exact .inl ⟨_, rfl, h.1, h.2⟩
  · exact .inr ⟨_, _, rfl, h.1, h.2⟩
  · exact False.elim h
/-- range of one argument: the list of arguments is of one -/
def oRng1 : D → M (List D)
  | .int n => asrt (okRng 0 n) (ret (rngD 0 n))
  | _ => bad
def oRng2 : D → D → M (List D)
  | .int a, .int b => asrt (okRng a b) (ret (rngD a b))
  | _, _ => bad
def cRng1 (f : Rho → M D) : Rho → M (List D) := fun ρ => bnd (f ρ) oRng1
def cRng2 (f g : Rho → M D) : Rho → M (List D) := fun ρ => bnd (f ρ) fun x => bnd (g ρ) (oRng2 x)
theorem di_rng1 {tg a : Expr} {f : Rho → M D} {p pos : Pos} (hm : X.mg "range" = none) (ha : DE X T a f) (hg : Gl X "range" := by rfl) (hs : starEach [a] X.env = [(false, eval a X.env)] := by rfl) : DI X T tg (.Call (.Name "range" p) [a] [] pos) (cRng1 f) :=
  PI.imp (pi_range1 hg hm (pa_cons ha pa_nil hs) hs) fun σ H R ⟨Γ, ρ, Q, g, en, h, k⟩ => .mk g en h fun v d Γ1 H1 x1 hv h1 => by
    cases d with
    | int n =>
      cases (show v = .int n from hv)
      obtain ⟨ok, h1⟩ := h1
      refine ⟨n, rfl, ok.2.2.1, ok.2.2.2.1, ?_⟩
      have e : n.toNat = (n - 0).toNat := by rw [Int.sub_zero]
      rw [e]
      exact k _ _ Γ1 H1 x1 (it_rng ok.2.2.2.2) h1
    | _ => exact False.elim h1
theorem di_rng2 {tg a b : Expr} {f g : Rho → M D} {p pos : Pos} (hm : X.mg "range" = none) (ha : DE X T a f) (hb : DE X T b g) (hg : Gl X "range" := by rfl) (hs : starEach [a, b] X.env = [(false, eval a X.env), (false, eval b X.env)] := by rfl) (hs2 : starEach [b] X.env = [(false, eval b X.env)] := by rfl) :
    DI X T tg (.Call (.Name "range" p) [a, b] [] pos) (cRng2 f g) :=
  PI.imp (pi_range2 hg hm (pa_cons ha (pa_cons hb pa_nil hs2) (by rw [hs, hs2])) hs hs2) fun σ H R ⟨Γ, ρ, Q, gd, en, h, k⟩ => .mk gd en h fun v d Γ1 H1 x1 hv h1 => .mk x1.good (en.mono x1) h1 fun u e Γ2 H2 x2 hu h2 => by
    cases d with
    | int i =>
      cases e with
      | int j =>
        cases (show v = .int i from hv)
        cases (show u = .int j from hu)
        obtain ⟨ok, h2⟩ := h2
        exact ⟨i, j, rfl, ⟨ok.1, ok.2.1, ok.2.2.1, ok.2.2.2.1⟩, k _ _ Γ2 H2 (x1.trans x2) (it_rng ok.2.2.2.2) h2⟩
      | _ => exact False.elim h2
    | _ => cases e <;> exact False.elim h2
/-- pairs -/
def pairs (xs ys : List D) : List D := (xs.zip ys).map fun p => .tup [p.1, p.2]
/-- enumerate(list) -/
def oEnum : D → M (List D)
  | .lst xs => ret (pairs ((List.range xs.length).map fun (i : Nat) => .int i) xs)
  | _ => bad
def cEnum (f : Rho → M D) : Rho → M (List D) := fun ρ => bnd (f ρ) oEnum
theorem new_pair {Γ : Wo} {H : Hp} {x y : V} {d e : D} {p : Addr} (g : Good T Γ H) (hx : Holds T Γ x d) (hy : Holds T Γ y e) (hp : H p = none) :
    Ext T Γ H (put Γ p (.tup [d, e])) (upd H p (.tup [x, y])) ∧ Holds T (put Γ p (.tup [d, e])) (.ref p) (.tup [d, e]) := newTup (vs := [x, y]) g (.cons hx (.cons hy .nil)) (by show 2 ≤ sizeLine; decide) hp
theorem di_enumL {elts : List Expr} {kk : Nat} {tpos : Pos} {a : Expr} {f : Rho → M D} {p pos : Pos} (hm : X.mg "enumerate" = none) (ha : DE X T a f) (hg : Gl X "enumerate" := by rfl) (hs : starEach [a] X.env = [(false, eval a X.env)] := by rfl) :
    DI X T (.Tuple elts kk tpos) (.Call (.Name "enumerate" p) [a] [] pos) (cEnum f) :=
  PI.imp (pi_enum hg hm (pa_cons ha pa_nil hs) hs) fun σ H R ⟨Γ, ρ, Q, g, en, h, k⟩ => .mk g en h fun v d Γ1 H1 x1 hv h1 => by
    cases d with
    | lst xs =>
      obtain ⟨a, e1, q⟩ := hv
      obtain ⟨o, ho, vs, eo, r, hz⟩ := x1.good a _ q
      subst e1 eo
      have hlen : (pairs ((List.range xs.length).map fun (i : Nat) => D.int i) xs).length = xs.length := by unfold pairs; simp
      refine ⟨a, vs, rfl, SqL.of ho, k _ _ Γ1 H1 x1 ⟨by rw [hlen]; exact hz, fun i Γ2 H2 le g2 => ?_⟩ h1⟩
      obtain ⟨o2, ho2, vs2, eo2, r2, _⟩ := g2 a _ (le a _ q)
      subst eo2
      have hl := r2.length
      rw [hlen]
      refine ⟨fun hi => ?_, fun hi => ⟨vs2, SqL.of ho2, by omega⟩⟩
      obtain ⟨d, hd⟩ : ∃ d, xs[i]? = some d := ⟨xs[i], by simp [hi]⟩
      obtain ⟨w, hw, rw'⟩ := Pd.get r2 hd
      refine ⟨⟨vs2, w, SqL.of ho2, hw⟩, fun y H3 ⟨t, x, e1, hn, e2, hx⟩ => ?_⟩
      have := hx vs2 (SqL.of ho2)
      rw [hw] at this
      cases this
      subst e1 e2
      obtain ⟨x3, h3⟩ := new_pair (T := T) g2 (hint (i : Int)) rw' hn
      refine ⟨_, _, x3, ?_, h3⟩
      unfold pairs
      rw [List.getElem?_map, (List.getElem?_zip_eq_some (z := (D.int (i : Int), d))).mpr ⟨by rw [List.getElem?_map, List.getElem?_range hi]; rfl, hd⟩] <;> rfl
    | _ => exact False.elim h1
end
end DL

namespace DL
open PySem PySem.Spec L2 PyProof.Rows

/-! ### set(a list) -/
abbrev seed (w : World) : Obj := { cls := .type "set", dict := none, data := .set #[] 0 (.fresh 0 0 (!w.params.followText "set-order")) }
abbrev walker (l : Addr) : Obj := { cls := .type "list_iterator", data := .fields #[.ref l, .int 0 0] }
section
variable {P : Program} {w : World} {A : Around} {E : Value → Shared → Prop} {s : Shared}
theorem set_of_list {l : Addr} {items : Array Value} {Q : Value → Shared → Prop} {Z : Shared → Prop} (hh : A.handled = none) (hl : s.heap.IsList l items)
    (fill : ∀ (A' : Around) (R : Result → Shared → Prop), A'.in1.handled = none → A'.in1.units ≤ A.units + 3 → (∀ s', Moved [s.heap.objs.size, s.heap.objs.size + 1] (fun g g' => g' = g) { s with heap := (s.heap.push (seed w)).push (walker l) } s' → Z s' → R (.ok (.ret .none)) s') →
      codeAny (model P w) A' (.builtin "set.update.loop" ⟨[.ref s.heap.objs.size, .ref (s.heap.objs.size + 1)], []⟩) R { s with heap := (s.heap.push (seed w)).push (walker l) })
    (done : ∀ (h' : Heap) (tk : Nat), Z { s with heap := h', toks := tk } → (∀ b o, s.heap.get? b = some o → h'.get? b = some o) → Q (.ref s.heap.objs.size) { s with heap := h', toks := tk }) :
    wpAny (model P w) A (call (.type "set") [.ref l]) Q E s := by
  obtain ⟨c, tl, hmro⟩ := F.called_set.mro
  have made := F.called_set.made
  have subs := F.called_set.sub
  refine wpAny_call (codeAny_of_tree ?_)
  show wpAny _ _ (callAny (.type "set") _) _ _ _
  refine wpAny_pure ⟨Code.quiet_builtin _ (by decide +kernel), codeAny_builtin F.entry_type_call ?_⟩
  rw [Around.under_plain (weight_type_call_type "set" [.ref l] []) rfl]
  have g1 := F.called_set.notType
  have g2 := F.called_set.canCreate
  have g3 := F.typeCall_set_1 (.ref l)
  repeat (any_goals (first | assumption | wp_step))
  refine codeAny_mono (code_set_led1 (.ref l) (E := E) (Q₁ := fun obj s₁ => obj = .ref s.heap.objs.size ∧ s₁ = { s with heap := s.heap.push (seed w) }) ⟨rfl, rfl⟩) fun r s₁ hr => ?_
  cases r with
  | error e => exact hr
  | ok fl =>
    cases fl with
    | ret obj =>
      obtain ⟨rfl, rfl⟩ := hr
      have here : (s.heap.push (seed w)).get? s.heap.objs.size = some (seed w) := Heap.get?_push_size _ rfl
      have ty : Shared.TypeIs { s with heap := s.heap.push (seed w) } (.ref s.heap.objs.size) "set" := ⟨_, here, rfl⟩
      have g4 := F.called_set.init.lookup
      have g5 := F.called_set.init.bind (.ref s.heap.objs.size)
      repeat (any_goals (first | assumption | wp_step))
      refine codeAny_mono (codeAny_call_builtin (R := wants (fun r s₂ => r = .none ∧ ∃ h' tk, s₂ = { s with heap := h', toks := tk } ∧ Z s₂ ∧ (∀ b o, s.heap.get? b = some o → h'.get? b = some o)) E) F.called_set.init.plain F.entry_set_init (check_set_init_1 ty ?_)) fun r₂ s₂ hr₂ => ?_
      · obtain ⟨ol, hol, hcl, nl, hdl⟩ := hl
        obtain ⟨ocls, odict, odata, oslots⟩ := ol
        simp only at hcl hdl
        subst hcl; subst hdl
        have there : (s.heap.push (seed w)).get? l = some { cls := .type "list", dict := odict, data := .seq items nl, slots := oslots } := Heap.get?_push_of_some _ hol
        have g6 := F.sub_list_set
        have g7 := F.sub_list_frozenset
        have g8 : (Value.type "list" == Value.type "dict") = false := by decide
        have isl : (s.heap.push (seed w)).IsList l items := ⟨_, there, rfl, nl, rfl⟩
        have sz1 : (s.heap.push (seed w)).objs.size = s.heap.objs.size + 1 := Heap.size_push ..
        unfold Builtin.«set.__init__» noKeywords Builtin.Frozenset.updateFrom
        generalize hPI : pyIter = PI
        wp_walk
        subst hPI
        refine wpAny_pyIter_list isl ?_
        refine wpAny_bind (wpAny_runValue ?_)
        show codeAny _ _ (.builtin "set.update.loop" ⟨[_, .ref (s.heap.push (seed w)).objs.size], []⟩) _ _
        rw [sz1]
        refine fill _ _ (by simp [hh]) (by first | exact Nat.le_refl _ | (simp [Around.in1]) ) fun s' hm hz => ?_
        obtain ⟨h', g2, d', tk', os'⟩ := s'
        have eg : g2 = s.gens := hm.gens
        have ed : d' = s.drawn := hm.drawn
        have eo : os' = s.os := hm.os
        subst eg; subst ed; subst eo
        show wpAny _ _ _ _ _ _
        refine wpAny_pure ?_
        show wpAny _ _ (PySem.ret Value.none) _ _ _
        refine wpAny_pure ⟨rfl, h', tk', rfl, hz, fun b o e => ?_⟩
        have b0 : b < s.heap.objs.size := Heap.lt_size e
        have b1 : b ≠ s.heap.objs.size := Nat.ne_of_lt b0
        have b2 : b ≠ s.heap.objs.size + 1 := Nat.ne_of_lt (Nat.lt_succ_of_lt b0)
        exact hm.heap b o (by simp only [List.mem_cons, List.mem_singleton, List.not_mem_nil, or_false, not_or]; exact ⟨b1, b2⟩) (Heap.get?_push_of_some _ (Heap.get?_push_of_some _ e))
      · cases r₂ with
        | error e => exact hr₂
        | ok fl₂ =>
          cases fl₂ with
          | ret r =>
            obtain ⟨rfl, h', tk, rfl, hz, keep⟩ := hr₂
            repeat (any_goals (first | assumption | wp_step))
            exact done _ _ hz keep
          | _ => exact hr₂.elim
    | _ => exact hr.elim
end
section
variable {P : Program} {w : World} {A : Around} {E : Value → Shared → Prop} {s : Shared}
/-- set(a list of ints) -/
theorem set_of_ints {l : Addr} {items : Array Value} (ns : List Int) {Q : Value → Shared → Prop} (hh : A.handled = none) (hl : s.heap.IsList l items) (hit : IntsAre items.toList ns) (hb : ns.length + 1 < scanBound)
    (h : ∀ (h' : Heap) (tk c : Nat), SetR w h' s.heap.objs.size (fun j => decide (j ∈ ns)) c → c ≤ ns.length → (∀ b o, s.heap.get? b = some o → h'.get? b = some o) → Q (.ref s.heap.objs.size) { s with heap := h', toks := tk }) :
    wpAny (model P w) A (call (.type "set") [.ref l]) Q E s := by
  have isz : items.size = ns.length := by
    have q := IntsAre.length hit
    rw [Array.length_toList] at q
    exact q
  have hl0 := hl
  obtain ⟨ol, hol, _⟩ := hl0
  have lt : l < s.heap.objs.size := Heap.lt_size hol
  have sz1 : (s.heap.push (seed w)).objs.size = s.heap.objs.size + 1 := Heap.size_push ..
  refine set_of_list (Z := fun s' => ∃ c, c ≤ ns.length ∧ SetR w s'.heap s.heap.objs.size (fun j => decide (j ∈ ns)) c) hh hl (fun A' R hh' _ hR => ?_) fun h' tk ⟨c, hc, hS⟩ keep => h h' tk c hS hc keep
  have ne1 : l ≠ s.heap.objs.size + 1 := Nat.ne_of_lt (Nat.lt_succ_of_lt lt)
  have val : ∀ (i : Nat) (v : Value), items[i]? = some v → ∃ k t, ns[i]? = some k ∧ v = .int k t := fun i v hv => by
    have hi : i < ns.length := by rw [← isz]; exact (Array.getElem?_eq_some_iff.mp hv).1
    obtain ⟨t, e⟩ := PyProof.Rows.IntsAre.int_at hit i v (by rw [Array.getElem?_toList]; exact hv)
    have e2 : ns.getD i 0 = ns[i] := by rw [List.getD_eq_getElem?_getD, List.getElem?_eq_getElem hi] <;> rfl
    exact ⟨ns[i], t, List.getElem?_eq_getElem hi, by rw [e, e2]⟩
  have outS : s.heap.objs.size ∉ [s.heap.objs.size + 1, l] := by
    simp only [List.mem_cons, List.mem_singleton, List.not_mem_nil, or_false, not_or]
    exact ⟨Nat.ne_of_lt (Nat.lt_succ_self _), Nat.ne_of_gt lt⟩
  have is2 : ((s.heap.push (seed w)).push (walker l)).IsList l items := (hl.push _).push _
  have getS : ((s.heap.push (seed w)).push (walker l)).get? s.heap.objs.size = some (seed w) := Heap.get?_push_of_some _ (Heap.get?_push_size _ rfl)
  have getI : ((s.heap.push (seed w)).push (walker l)).get? (s.heap.objs.size + 1) = some (walker l) := by rw [← sz1]; exact Heap.get?_push_size _ rfl
  exact set_update_ints ((Walks.list hh' (s.heap.objs.size + 1) l ne1 items).toS) s.heap.objs.size outS ns isz hb val (items.size - 0) 0 _ (by omega) (Nat.zero_le _)
    ⟨⟨_, getI, rfl, rfl⟩, is2⟩ ⟨0, Nat.le_refl 0, setR_new_at getS⟩ fun s' c hm hc hS => hR s' hm ⟨c, by rw [← isz]; exact hc, hS⟩
end
section
variable {X : Cx} {T : Th X.K} {pos : Pos}
def rSetI (K : PySem.W.Frag) (w : World) : List V → Hp → VK → Prop := fun xs H Q => ∃ (l : Addr) (ns : List Int), xs = [V.ref l] ∧ SqL K H l (ns.map V.int) ∧ ns.length + 1 < scanBound ∧
  ∀ a c, H a = none → c ≤ ns.length → Q (.ref a) (upd H a (SetO w a (fun j => decide (j ∈ ns)) c))
theorem cr_setI (hc : X.calm = true) : CallR X (.type "set") (rSetI X.K X.w) := by
  intro pins s σ H xs us Q I r h
  obtain ⟨l, ns, rfl, hl, hb, q⟩ := h
  rw [Vals.ref1 r]
  obtain ⟨its, rv, pl, hz⟩ := I.list hl
  have hn : H s.heap.objs.size = none := I.hok.fresh (Nat.le_refl _)
  refine set_of_ints (P := X.prog) (w := X.w) ns (I.ok.hd hc) pl.isList (by simpa using ints_of_vals rv) hb fun h' tk c R hc' k => ?_
  exact ⟨.ref s.heap.objs.size, upd H s.heap.objs.size (SetO X.w s.heap.objs.size (fun j => decide (j ∈ ns)) c), I.laid (t' := tk) k (Nat.le_refl _) (setO_new R), rfl, q _ c hn hc'⟩
end
end DL

namespace DL
open PySem PySem.Spec L2 PyProof.Rows

/-! ### sorted without doubles -/
section
variable {α : Type} (lt : α → α → Prop) [∀ a b, Decidable (lt a b)]
structure Lin : Prop where
  irr : ∀ a, ¬ lt a a
  tr : ∀ a b c, lt a b → lt b c → lt a c
  tri : ∀ a b, lt a b ∨ a = b ∨ lt b a
def uins (x : α) : List α → List α
  | [] => [x]
  | y :: r => if lt x y then x :: y :: r else if lt y x then y :: uins x r else y :: r
def usort : List α → List α
  | [] => []
  | x :: r => uins lt x (usort r)
end
section
variable {α : Type} {lt : α → α → Prop} [∀ a b, Decidable (lt a b)]
theorem mem_uins (L : Lin lt) {x z : α} : ∀ {l : List α}, z ∈ uins lt x l ↔ z = x ∨ z ∈ l
  | [] => by simp [uins]
  | y :: r => by
    unfold uins
    split
    · simp
    · split
      · rw [List.mem_cons, mem_uins L (l := r), List.mem_cons]
        constructor
        · rintro (h | h | h)
          · exact .inr (.inl h)
          · exact .inl h
          · exact .inr (.inr h)
        · rintro (h | h | h)
          · exact .inr (.inl h)
          · exact .inl h
          · exact .inr (.inr h)
      · rename_i h1 h2
        have e : x = y := by
          rcases L.tri x y with h | h | h
          · exact absurd h h1
          · exact h
          · exact absurd h h2
        subst e
        simp
theorem mem_usort (L : Lin lt) {z : α} : ∀ {l : List α}, z ∈ usort lt l ↔ z ∈ l
  | [] => by simp [usort]
  | x :: r => by
    unfold usort
    rw [mem_uins L, mem_usort L (l := r), List.mem_cons]
theorem uins_up (L : Lin lt) {x : α} : ∀ {l : List α}, l.Pairwise lt → (uins lt x l).Pairwise lt
  | [], _ => by simp [uins]
  | y :: r, h => by
    obtain ⟨h1, h2⟩ := List.pairwise_cons.mp h
    unfold uins
    split
    · rename_i hx
      refine List.pairwise_cons.mpr ⟨fun z hz => ?_, h⟩
      rcases List.mem_cons.mp hz with e | e
      · subst e; exact hx
      · exact L.tr _ _ _ hx (h1 z e)
    · split
      · rename_i h3 h4
        refine List.pairwise_cons.mpr ⟨fun z hz => ?_, uins_up L h2⟩
        rcases (mem_uins L).mp hz with e | e
        · subst e; exact h4
        · exact h1 z e
      · exact h
theorem usort_up (L : Lin lt) : ∀ l : List α, (usort lt l).Pairwise lt
  | [] => by simp [usort]
  | x :: r => uins_up L (usort_up L r)
theorem up_same (L : Lin lt) : ∀ {l m : List α}, l.Pairwise lt → m.Pairwise lt → (∀ z, z ∈ l ↔ z ∈ m) → l = m
  | [], [], _, _, _ => rfl
  | [], y :: m, _, _, h => by have := (h y).mpr List.mem_cons_self; cases this
  | x :: l, [], _, _, h => by have := (h x).mp List.mem_cons_self; cases this
  | x :: l, y :: m, h1, h2, h => by
    obtain ⟨a1, a2⟩ := List.pairwise_cons.mp h1
    obtain ⟨b1, b2⟩ := List.pairwise_cons.mp h2
    have exy : x = y := by
      rcases List.mem_cons.mp ((h x).mp List.mem_cons_self) with e | e
      · exact e
      · rcases List.mem_cons.mp ((h y).mpr List.mem_cons_self) with e2 | e2
        · exact e2.symm
        · exact absurd (L.tr _ _ _ (b1 x e) (a1 y e2)) (L.irr _)
    subst exy
    rw [up_same L a2 b2 fun z => ?_]
    constructor
    · intro hz
      rcases List.mem_cons.mp ((h z).mp (List.mem_cons_of_mem _ hz)) with e | e
      · subst e; exact absurd (a1 _ hz) (L.irr _)
      · exact e
    · intro hz
      rcases List.mem_cons.mp ((h z).mpr (List.mem_cons_of_mem _ hz)) with e | e
      · subst e; exact absurd (b1 _ hz) (L.irr _)
      · exact e
theorem usort_eq (L : Lin lt) {l m : List α} (h : m.Pairwise lt) (k : ∀ z, z ∈ m ↔ z ∈ l) : m = usort lt l := up_same L h (usort_up L l) fun z => by rw [k, mem_usort L]
theorem uins_len (x : α) : ∀ l : List α, (uins lt x l).length ≤ l.length + 1
  | [] => by simp [uins]
  | y :: r => by
    unfold uins
    split
    · simp
    · split
      · have := uins_len x r; simp; omega
      · simp
theorem usort_len : ∀ l : List α, (usort lt l).length ≤ l.length
  | [] => by simp [usort]
  | x :: r => by
    have h1 := uins_len (lt := lt) x (usort lt r)
    have h2 := usort_len r
    unfold usort
    simp only [List.length_cons]
    omega
end
theorem linI : Lin (fun a b : Int => a < b) := ⟨fun a => by omega, fun a b c => by omega, fun a b => by omega⟩
abbrev usortI : List Int → List Int := usort fun a b : Int => a < b
section
variable {X : Cx} {T : Th X.K} {pos : Pos}
def oSortedSet : D → M D
  | .lst xs => ofO (intsOf xs) fun ns => asrt (ns.length < 64) (ret (.lst ((usortI ns).map .int)))
  | _ => bad
theorem de_sortedSet {a : Expr} {fa : Rho → M D} {p p2 q : Pos} (hc : X.calm = true) (hm : X.mg "sorted" = none) (hm2 : X.mg "set" = none) (ha : DE X T a fa) (hg : Gl X "sorted" := by rfl) (hg2 : Gl X "set" := by rfl)
    (he : starEach [.Call (.Name "set" p2) [a] [] q] X.env = (false, eval (.Call (.Name "set" p2) [a] [] q) X.env) :: starEach [] X.env := by rfl) (hpl : (backTo pos (starEach [] X.env)).any (·.1) = false := by rfl)
    (he2 : starEach [a] X.env = (false, eval a X.env) :: starEach [] X.env := by rfl) (hpl2 : (backTo q (starEach [] X.env)).any (·.1) = false := by rfl) :
    DE X T (.Call (.Name "sorted" p) [.Call (.Name "set" p2) [a] [] q] [] pos) (c1 oSortedSet fa) :=
  PE.imp (pe_callB (cr_sortedSet hc) hg hm (by decide +kernel) (pa_cons (pe_callTy (cr_setI hc) hg2 hm2 (by decide +kernel) (pa_cons ha pa_nil he2) (he := he2) (hpl := hpl2)) pa_nil he) (he := he) (hpl := hpl)) fun σ H post ⟨Γ, ρ, Q, g, e, h, k⟩ => .mk g e h fun v d Γ1 H1 x1 hv h1 => by
    cases d with
    | lst xs =>
      obtain ⟨ad, vs, e1, ho, r, z⟩ := Holds.lst x1.good hv
      obtain ⟨ns, en, hl, h2⟩ := ofO_get (show ofO (intsOf xs) (fun ns => asrt (ns.length < 64) (ret (.lst ((usortI ns).map .int)))) Q from h1)
      have ex := intsOf_inv en
      subst ex
      have ev := pd_ints r
      subst ev e1
      refine ⟨ad, ns, rfl, SqL.of ho, Nat.lt_of_le_of_lt (show ns.length + 1 ≤ 64 by omega) (by decide), fun a2 c ha2 hc2 => ?_⟩
      refine ⟨a2, fun j => decide (j ∈ ns), c, rfl, upd_same, by omega, fun ms p h3 h4 h5 h6 => ?_⟩
      have em : ms = usortI ns := usort_eq linI h3 fun z => by rw [h4]; simp
      subst em
      have x2 : Ext T Γ1 H1 Γ1 (upd H1 a2 (SetO X.w a2 (fun j => decide (j ∈ ns)) c)) := .newOwn x1.good ha2
      have zl : ((usortI ns).map D.int).length ≤ sizeLine := by
        have := usort_len (lt := fun a b : Int => a < b) ns
        rw [List.length_map]
        exact Nat.le_trans (show (usortI ns).length ≤ 64 by show (usort _ ns).length ≤ 64; omega) (by decide)
      obtain ⟨x3, hh⟩ := newLst x2.good (ints_pd (T := T) (Γ := Γ1) (usortI ns)) zl h6
      exact k _ _ _ _ ((x1.trans x2).trans x3) hh h2
    | _ => exact False.elim h1

/-! ### join -/
def strsOf : List D → Option (List (List Nat))
  | [] => some []
  | .str l :: r => (strsOf r).map (l :: ·)
  | _ :: _ => none
@[simp] theorem strsOf_map (ns : List (List Nat)) : strsOf (ns.map .str) = some ns := by
  induction ns with
  | nil => rfl
  | cons n ns ih => rw [List.map_cons, strsOf, ih]; rfl
theorem strsOf_inv : ∀ {ds : List D} {ns : List (List Nat)}, strsOf ds = some ns → ds = ns.map .str
  | [], ns, h => by cases h; rfl
  | d :: ds, ns, h => by
    cases d with
    | str i =>
      unfold strsOf at h
      cases e : strsOf ds with
      | none => rw [e] at h; cases h
      | some ms => rw [e] at h; cases h; rw [List.map_cons, strsOf_inv e]
    | _ => cases h
theorem pd_strs {Γ : Wo} : ∀ {ns : List (List Nat)} {vs : List V}, Paired (Holds T Γ) vs (ns.map .str) → vs = (ns.map fun l => (⟨l.toArray⟩ : Str)).map V.str ∧ ∀ l ∈ ns, okS l
  | [], _, h => by cases h; exact ⟨rfl, fun l h => by cases h⟩
  | n :: ns, _, h => by
    rw [List.map_cons] at h
    cases h with
    | cons r rr =>
      obtain ⟨h1, h2⟩ := pd_strs rr
      obtain ⟨h3, h4⟩ := r
      refine ⟨by rw [h1, h3]; rfl, fun l hl => ?_⟩
      rcases List.mem_cons.mp hl with e | e
      · subst e; exact h4
      · exact h2 l e
theorem joinL_mem {S : List Nat} {c : Nat} : ∀ {ps : List (List Nat)}, c ∈ TL.joinL S ps → c ∈ S ∨ ∃ p ∈ ps, c ∈ p
  | [], h => by cases h
  | [p], h => .inr ⟨p, by simp, h⟩
  | p :: q :: r, h => by
    rcases List.mem_append.mp (show c ∈ p ++ (S ++ TL.joinL S (q :: r)) from h) with h | h
    · exact .inr ⟨p, by simp, h⟩
    · rcases List.mem_append.mp h with h | h
      · exact .inl h
      · rcases joinL_mem h with h | ⟨t, h1, h2⟩
        · exact .inl h
        · exact .inr ⟨t, List.mem_cons_of_mem _ h1, h2⟩
theorem joinL_len {S : List Nat} : ∀ ps : List (List Nat), (TL.joinL S ps).length ≤ (ps.map List.length).sum + ps.length * S.length
  | [] => Nat.zero_le _
  | [p] => by simp [TL.joinL]
  | p :: q :: r => by
    have ih := joinL_len (S := S) (q :: r)
    show (p ++ (S ++ TL.joinL S (q :: r))).length ≤ _
    simp only [List.length_append, List.map_cons, List.sum_cons, List.length_cons, Nat.succ_mul] at ih ⊢
    omega
def okJoin (s : List Nat) (ps : List (List Nat)) : Prop := (ps.map List.length).sum + ps.length * s.length ≤ 16777216
def oJoin (s : List Nat) : List D → M D := fun xs => match xs with
  | [.lst ys] => ofO (strsOf ys) fun ps => asrt (okJoin s ps) (ret (.str (TL.joinL s ps)))
  | [.tup ys] => ofO (strsOf ys) fun ps => asrt (okJoin s ps) (ret (.str (TL.joinL s ps)))
  | _ => bad
theorem join_mk (s : List Nat) (ps : List (List Nat)) : Txt.join ⟨s.toArray⟩ (ps.map fun l => (⟨l.toArray⟩ : Str)) = ⟨(TL.joinL s ps).toArray⟩ := by
  apply TL.ext_tl
  rw [TL.join_eq, TL.tl_join, TL.tl_mk, TL.tl_mk, List.map_map]
  congr 1
  induction ps with
  | nil => rfl
  | cons p ps ih => rw [List.map_cons, ih]; rfl
theorem okS_join {s : List Nat} {ps : List (List Nat)} (hs : okS s) (hp : ∀ l ∈ ps, okS l) (h : okJoin s ps) : okS (TL.joinL s ps) :=
  ⟨Nat.le_trans (joinL_len ps) h, fun c hc => by
    rcases joinL_mem hc with h | ⟨p, h1, h2⟩
    · exact hs.2 c h
    · exact (hp p h1).2 c h2⟩
theorem sum_mk (ps : List (List Nat)) : ((ps.map fun l => (⟨l.toArray⟩ : Str)).map (·.length)).sum = (ps.map List.length).sum := by
  rw [List.map_map]
  refine congrArg List.sum (List.map_congr_left fun l _ => len_mk l)
theorem md_join : MtD T "str" (fun x xs H Q => ∃ a p, ∃ ys : List Str, x = .str a ∧ xs = [.ref p] ∧ (SqL X.K H p (ys.map V.str) ∨ SqT X.K H p (ys.map V.str)) ∧
    (ys.map (·.length)).sum + ys.length * a.length ≤ 16777216 ∧ Q (.str (Txt.join a ys)) H) (onS oJoin) := fun Γ H x xs d ds Q post gd hx hv h k => by
  cases d with
  | str l =>
    obtain ⟨e1, o1⟩ := (show x = vS l ∧ okS l from hx)
    have h' : oJoin l ds Q := h
    have key : ∃ (z : D) (ys : List D) (ps : List (List Nat)), ds = [z] ∧ (z = .lst ys ∨ z = .tup ys) ∧ strsOf ys = some ps ∧ okJoin l ps ∧ Q (.str (TL.joinL l ps)) := by
      unfold oJoin at h'
      split at h'
      · rename_i ys
        obtain ⟨ps, e, q1, q2⟩ := ofO_get h'
        exact ⟨_, ys, ps, rfl, .inl rfl, e, q1, q2⟩
      · rename_i ys
        obtain ⟨ps, e, q1, q2⟩ := ofO_get h'
        exact ⟨_, ys, ps, rfl, .inr rfl, e, q1, q2⟩
      · exact False.elim h'
    obtain ⟨z, ys, ps, ed, hz, es, ok, q⟩ := key
    subst ed
    obtain ⟨y, e2, r⟩ := Pd.one hv
    subst e1 e2
    have ey := strsOf_inv es
    subst ey
    have fin : ∀ (a : Addr) (vs : List V), y = .ref a → (SqL X.K H a vs ∨ SqT X.K H a vs) → Paired (Holds T Γ) vs (ps.map .str) → ∃ a' p, ∃ ys : List Str, V.str ⟨l.toArray⟩ = .str a' ∧ [y] = [.ref p] ∧ (SqL X.K H p (ys.map V.str) ∨ SqT X.K H p (ys.map V.str)) ∧
        (ys.map (·.length)).sum + ys.length * a'.length ≤ 16777216 ∧ post (.str (Txt.join a' ys)) H := fun a vs e3 ho r2 => by
      obtain ⟨e4, o4⟩ := pd_strs r2
      subst e3 e4
      refine ⟨_, a, _, rfl, rfl, ho, ?_, ?_⟩
      · rw [sum_mk, List.length_map, len_mk]; exact ok
      · rw [join_mk]
        exact k _ (.str (TL.joinL l ps)) Γ H (.refl gd) ⟨rfl, okS_join o1 o4 ok⟩ q
    rcases hz with e | e
    · subst e
      obtain ⟨a, vs, e3, ho, r2, _⟩ := Holds.lst gd r
      exact fin a vs e3 (.inl (SqL.of ho)) r2
    · subst e
      obtain ⟨a, vs, e3, ho, r2⟩ := Holds.tup gd r
      exact fin a vs e3 (.inr ho) r2
  | _ => exact False.elim h

/-! ### -x; a constant of the module; room -/
def oNeg : D → M D
  | .int i => ret (.int (-i))
  | _ => bad
theorem ud_neg : UnD T (rU fun i => .int (-i)) oNeg := fun Γ H x d Q post g hx h k => by
  cases d with
  | int i =>
    cases (show x = .int i from hx)
    exact ⟨i, rfl, k _ _ Γ H (.refl g) (hint _) h⟩
  | _ => exact False.elim h
theorem _root_.L2.Room.u65 {k : Nat} {A : Around} (r : Room k A) : A.units + 65 < cLine := by have := r.un; omega
theorem de_globS {x : Str} {l : List Nat} {pos : Pos} (hm : ∃ t, X.mg x = some (.str ⟨l.toArray⟩ t)) (hz : l.length ≤ 1000 ∧ (l.all fun c => decide (c < 1114112)) = true := by decide) (hg : Gl X x := by rfl) (hd : (x == ("__debug__" : Str)) = false := by decide) : DE X T (.Name x pos) (cst (.str l)) := by
  obtain ⟨t, hm⟩ := hm
  exact PE.imp (pe_glob (v := vS l) hg hm ⟨t, rfl⟩ hd) fun σ H post ⟨Γ, ρ, Q, g, e, h, k⟩ => k _ _ Γ H (.refl g) (show Holds T Γ (vS l) (.str l) from ⟨rfl, Nat.le_trans hz.1 (by decide), fun c hc => of_decide_eq_true (List.all_eq_true.mp hz.2 c hc)⟩) h
theorem de_globT {x : Str} {ds : List D} {a : Addr} {pos : Pos} (hm : X.mg x = some (.ref a)) (hc : T.ct a = some (.tup ds)) (hg : Gl X x := by rfl) (hd : (x == ("__debug__" : Str)) = false := by decide) : DE X T (.Name x pos) (cst (.tup ds)) :=
  PE.imp (pe_glob (v := .ref a) hg hm rfl hd) fun σ H post ⟨Γ, ρ, Q, g, e, h, k⟩ => k _ _ Γ H (.refl g) (show Holds T Γ (.ref a) (.tup ds) from ⟨a, rfl, .inr hc⟩) h
abbrev gTn (n : Nat) (g : List D → Rho → M Rho) : D → Rho → M Rho := gT fun ds ρ => asrt (ds.length = n) (g ds ρ)
/-- *e in a display -/
def itemsLT : D → M (List D)
  | .lst xs => ret xs
  | .tup xs => ret xs
  | _ => bad
def aStar (f : Rho → M D) (g : Rho → M (List D)) : Rho → M (List D) := fun ρ => bnd (f ρ) fun x => bnd (itemsLT x) fun xs => bnd (g ρ) fun ys => ret (xs ++ ys)
theorem da_star {e : Expr} {es : List Expr} {p : Pos} {fe : Rho → M D} {fs : Rho → M (List D)} (he : DE X T e fe) (hr : DA X T es fs) (hs : starEach (.Starred e p :: es) X.env = (true, eval e X.env) :: starEach es X.env := by rfl) : DA X T (.Starred e p :: es) (aStar fe fs) :=
  PA.imp (StX.pa_star he hr hs) fun σ H post ⟨Γ, ρ, Q, g, e, h, k⟩ => .mk g e h fun v d Γ1 H1 x1 hv h1 => by
    cases d with
    | lst xs =>
      obtain ⟨a, vs, e1, ho, r, z⟩ := Holds.lst x1.good hv
      exact ⟨a, vs, e1, .inr (SqL.of ho), Γ1, ρ, _, x1.good, e.mono x1, h1, fun us ds Γ2 H2 x2 hu h2 => k _ _ Γ2 H2 (x1.trans x2) (Pd.append (Paired.monoH r x2.le) hu) h2⟩
    | tup xs =>
      obtain ⟨a, vs, e1, ho, r⟩ := Holds.tup x1.good hv
      exact ⟨a, vs, e1, .inl ho, Γ1, ρ, _, x1.good, e.mono x1, h1, fun us ds Γ2 H2 x2 hu h2 => k _ _ Γ2 H2 (x1.trans x2) (Pd.append (Paired.monoH r x2.le) hu) h2⟩
    | _ => exact False.elim h1
end
end DL

namespace DL
open PySem PySem.Spec L2 PyProof.Rows

/-! ### the tape of a law: [list(script), a count, what is left of a cell] -/
def tapeO {K : PySem.W.Frag} (t : Nat) (xs : List D) (Γ : Wo) (a : Addr) (o : HO) : Prop := ∃ (l : Addr) (ns : List Int) (c0 c1 : Int), t = 0 ∧ xs = ns.map .int ∧ o = .lst [.ref l, .int c0, .int c1] ∧ Γ l = some (.lst xs)
theorem tapeO_mono {K : PySem.W.Frag} : ∀ t xs Γ Γ' a o, Wo.le Γ Γ' → tapeO (K := K) t xs Γ a o → tapeO (K := K) t xs Γ' a o := fun t xs Γ Γ' a o le ⟨l, ns, c0, c1, h1, h2, h3, h4⟩ => ⟨l, ns, c0, c1, h1, h2, h3, le _ _ h4⟩
/-- the theory's objects of kind 0 are tapes -/
def Tp {K : PySem.W.Frag} (T : Th K) : Prop := ∀ xs Γ a o, T.ob 0 xs Γ a o ↔ tapeO (K := K) 0 xs Γ a o
/-- tape[0], tape[1], tape[2] -/
def tp0 (i : Nat) : Rho → M D := fun ρ => bnd (rd i ρ) fun d => match d with
  | .obj 0 xs => fun Q => ∀ ns : List Int, xs = ns.map .int → Q (.lst xs)
  | _ => bad
def tp1 (i : Nat) : Rho → M D := fun ρ => bnd (rd i ρ) fun d => match d with
  | .obj 0 _ => fun Q => ∀ c, Q (.int c)
  | _ => bad
def sTp (i : Nat) (f : Rho → M D) : Rho → M Fl := fun ρ => bnd (f ρ) fun x => match x with
  | .int _ => bnd (rd i ρ) fun d => match d with
    | .obj 0 _ => ret (.nx ρ)
    | _ => bad
  | _ => bad
section
variable {X : Cx} {T : Th X.K} {pos : Pos}
theorem tape_at {Γ : Wo} {H : Hp} {v : V} {xs : List D} (hT : Tp T) (g : Good T Γ H) (h : Holds T Γ v (.obj 0 xs)) : ∃ (a l : Addr) (ns : List Int) (c0 c1 : Int), v = .ref a ∧ Γ a = some (.obj 0 xs) ∧ xs = ns.map .int ∧ H a = some (.lst [.ref l, .int c0, .int c1]) ∧ Γ l = some (.lst xs) := by
  obtain ⟨a, e, q⟩ := h
  obtain ⟨o, ho, s⟩ := g a _ q
  obtain ⟨l, ns, c0, c1, _, h2, h3, h4⟩ := (hT xs Γ a o).mp s
  subst h3
  exact ⟨a, l, ns, c0, c1, e, q, h2, ho, h4⟩
theorem obj0 {α : Type} {d : D} {k : List D → M α} {Q : α → Prop} (h : (match d with
    | .obj 0 xs => k xs
    | _ => bad) Q) : ∃ xs, d = .obj 0 xs ∧ k xs Q := by
  split at h
  · exact ⟨_, rfl, h⟩
  · exact False.elim h
theorem de_tp0 (hT : Tp T) (i : Nat) {x : Str} {p p2 : Pos} {j : Nat} (hN : X.N[i]? = some x := by rfl) (hv : Vis X.env.scope x := by first | exact Or.inl rfl | exact Or.inr (Or.inl rfl) | exact Or.inr (Or.inr rfl)) (hd : (x == ("__debug__" : Str)) = false := by decide)
    (hcd : (x == ("__classdict__" : Str)) = false := by decide) : DE X T (.Subscript (.Name x p) (.Constant (.int 0) j p2) pos) (tp0 i) :=
  PE.imp (pe_ix ix_seq (pv i hN hv hd hcd) pe_int (fun _ _ => rfl)) fun σ H post ⟨Γ, ρ, Q, g, e, h, k⟩ => by
    obtain ⟨d, hd, h⟩ := rd_get h
    obtain ⟨v, h1, h2⟩ := e.va i d hd
    obtain ⟨xs, ed, h⟩ := obj0 h
    subst ed
    obtain ⟨a, l, ns, c0, c1, e1, e2, e3, e4, e5⟩ := tape_at hT g h2
    subst e1
    exact ⟨_, h1, .inl ⟨a, _, 0, .ref l, rfl, rfl, SqL.of e4, rfl, k _ (.lst xs) Γ H (.refl g) ⟨l, rfl, e5⟩ (h ns e3)⟩⟩
theorem de_tp1 (hT : Tp T) (i : Nat) {x : Str} {p p2 : Pos} {j : Nat} (hN : X.N[i]? = some x := by rfl) (hv : Vis X.env.scope x := by first | exact Or.inl rfl | exact Or.inr (Or.inl rfl) | exact Or.inr (Or.inr rfl)) (hd : (x == ("__debug__" : Str)) = false := by decide)
    (hcd : (x == ("__classdict__" : Str)) = false := by decide) : DE X T (.Subscript (.Name x p) (.Constant (.int 1) j p2) pos) (tp1 i) :=
  PE.imp (pe_ix ix_seq (pv i hN hv hd hcd) pe_int (fun _ _ => rfl)) fun σ H post ⟨Γ, ρ, Q, g, e, h, k⟩ => by
    obtain ⟨d, hd, h⟩ := rd_get h
    obtain ⟨v, h1, h2⟩ := e.va i d hd
    obtain ⟨xs, ed, h⟩ := obj0 h
    subst ed
    obtain ⟨a, l, ns, c0, c1, e1, e2, e3, e4, e5⟩ := tape_at hT g h2
    subst e1
    exact ⟨_, h1, .inl ⟨a, _, 1, .int c0, rfl, rfl, SqL.of e4, rfl, k _ (.int c0) Γ H (.refl g) (hint _) (h c0)⟩⟩
theorem de_tp2 (hT : Tp T) (i : Nat) {x : Str} {p p2 : Pos} {j : Nat} (hN : X.N[i]? = some x := by rfl) (hv : Vis X.env.scope x := by first | exact Or.inl rfl | exact Or.inr (Or.inl rfl) | exact Or.inr (Or.inr rfl)) (hd : (x == ("__debug__" : Str)) = false := by decide)
    (hcd : (x == ("__classdict__" : Str)) = false := by decide) : DE X T (.Subscript (.Name x p) (.Constant (.int 2) j p2) pos) (tp1 i) :=
  PE.imp (pe_ix ix_seq (pv i hN hv hd hcd) pe_int (fun _ _ => rfl)) fun σ H post ⟨Γ, ρ, Q, g, e, h, k⟩ => by
    obtain ⟨d, hd, h⟩ := rd_get h
    obtain ⟨v, h1, h2⟩ := e.va i d hd
    obtain ⟨xs, ed, h⟩ := obj0 h
    subst ed
    obtain ⟨a, l, ns, c0, c1, e1, e2, e3, e4, e5⟩ := tape_at hT g h2
    subst e1
    exact ⟨_, h1, .inl ⟨a, _, 2, .int c1, rfl, rfl, SqL.of e4, rfl, k _ (.int c1) Γ H (.refl g) (hint _) (h c1)⟩⟩
/-- a told object is written, and stays what it is told to be -/
theorem Good.swap {Γ : Wo} {H : Hp} {a : Addr} {d : D} {o : HO} (g : Good T Γ H) (h : Γ a = some d) (s : satO T Γ a d o) : Ext T Γ H Γ (upd H a o) := by
  refine ⟨Wo.le.refl _, fun b e q => ?_, fun b u q n => ?_⟩
  · by_cases hb : b = a
    · subst hb
      rw [h] at q; cases q
      exact ⟨o, upd_same, s⟩
    · rw [upd_ne hb]; exact g b e q
  · have hb : b ≠ a := fun z => by subst z; rw [h] at n; cases n
    exact ⟨by rw [upd_ne hb]; exact q, n⟩
theorem ds_tp (hT : Tp T) (i k : Nat) (hk : k = 1 ∨ k = 2) {x : Str} {e : Expr} {fe : Rho → M D} {p p2 p3 : Pos} {j : Nat} (he : DE X T e fe) (hN : X.N[i]? = some x := by rfl) (hv : Vis X.env.scope x := by first | exact Or.inl rfl | exact Or.inr (Or.inl rfl) | exact Or.inr (Or.inr rfl)) (hd : (x == ("__debug__" : Str)) = false := by decide)
    (hcd : (x == ("__classdict__" : Str)) = false := by decide)
    (hs : swapsWithSole [.Subscript (.Name x p) (.Constant (.int (k : Int)) j p2) p3] e pos.line X.env = pure false := by rfl) (hw : swappedStores [.Subscript (.Name x p) (.Constant (.int (k : Int)) j p2) p3] e X.env = pure none := by rfl)
    (h1 : (assignEach [.Subscript (.Name x p) (.Constant (.int (k : Int)) j p2) p3] X.env).map (·.2) = [assign (.Subscript (.Name x p) (.Constant (.int (k : Int)) j p2) p3) X.env] := by rfl)
    (ha : ∀ v, assign (.Subscript (.Name x p) (.Constant (.int (k : Int)) j p2) p3) X.env v = (do
      let ov ← holding [v] (eval (.Name x p) X.env)
      let iv ← holding [v, ov] (eval (.Constant (.int (k : Int)) j p2) X.env)
      standAt p3
      holding [v, ov, iv] (setItem ov iv v)
      release [v, ov, iv] []) := by intro _; rfl) :
    DS X T (.Assign [.Subscript (.Name x p) (.Constant (.int (k : Int)) j p2) p3] e pos) (sTp i fe) :=
  PS.imp (ps_asg he (pg_sub (pv i hN hv hd hcd) pe_int set_list ha) hs hw h1) fun D σ H ⟨Γ0, H0, Γ, ρ, Q, s, h, k1, k2, k3, k4⟩ => .mk s.good s.e h fun v d Γ' H' x' hv' q => by
    cases d with
    | int z =>
      obtain ⟨d, hd, q⟩ := rd_get q
      obtain ⟨u, g1, g2⟩ := s.e.va i d hd
      obtain ⟨xs, ed, q⟩ := obj0 q
      subst ed
      obtain ⟨a, l, ns, c0, c1, e1, e2, e3, e4, e5⟩ := tape_at hT x'.good (g2.mono x'.le)
      subst e1
      cases (show v = .int z from hv')
      rcases hk with rfl | rfl
      · refine ⟨_, g1, a, _, 1, 1, rfl, rfl, e4, rfl, ?_⟩
        have y : Ext T Γ' H' Γ' (upd H' a (.lst [.ref l, .int z, .int c1])) := x'.good.swap e2 ((hT _ _ _ _).mpr ⟨l, ns, z, c1, rfl, e3, rfl, e5⟩)
        exact k1 _ _ Γ' _ x'.le ((s.step x').step y) q
      · refine ⟨_, g1, a, _, 2, 2, rfl, rfl, e4, rfl, ?_⟩
        have y : Ext T Γ' H' Γ' (upd H' a (.lst [.ref l, .int c0, .int z])) := x'.good.swap e2 ((hT _ _ _ _).mpr ⟨l, ns, c0, z, rfl, e3, rfl, e5⟩)
        exact k1 _ _ Γ' _ x'.le ((s.step x').step y) q
    | _ => exact False.elim q
end
end DL
namespace DL
open PySem PySem.Spec L2 PyProof.Rows
/-- a def stands in the module -/
def Def (K : PySem.W.Frag) (mg : Str → Option Value) (x : Str) (st : Stmt) (ps : List Str) : Prop := ∃ (a : Addr) (fd : FuncData), Fun K x x st a fd ∧ mg x = some (.ref a) ∧ Binds K fd ps []
end DL

namespace DL
open PySem PySem.Spec L2 PyProof.Rows

/-! ### the law -/
theorem ints_pd0 {K : PySem.W.Frag} {T : Th K} {Γ : Wo} : ∀ ns : List Int, Paired (Holds T Γ) (ns.map V.int) (ns.map .int)
  | [] => .nil
  | n :: ns => .cons rfl (ints_pd0 ns)
def lawD (m : Nat) (b : Rho → M Fl) : List Int → M D := fun ns => bnd (b (.no :: .va (.obj 0 (ns.map .int)) :: List.replicate m .no)) flRet
def spLaw (K : PySem.W.Frag) : Sp := fun vs H Q _ => ∃ (a : Addr) (ns : List Int), vs = [.ref a] ∧ SqL K H a (ns.map V.int) ∧ ns.length ≤ 63 ∧ ∀ H', Q (.bl true) H'
theorem law_of {P : Program} {w : World} {K : PySem.W.Frag} {mg : Str → Option Value} {base : Heap} {T : Th K} {st : Stmt} {f : Addr} {fd : FuncData} {N : List Str} {k m : Nat} {b : Rho → M Fl}
    (hT : Tp T) (F : Fun K "law" "law" st f fd) (S : FnScope N ["script"] (defScope st)) (hN : N.length = m + 2) 
    (h : ∀ ns : List Int, lawD m b ns fun d => d = .bl true)
    (hbody : ∀ (cdv : Value) (A : Around) (outer : List Env) (s : Shared) (H : Hp) (E : XK), Room k (A.deeper (PyProof.Rows.envOfC "law" (defScope st) s.heap.objs.size f cdv)) →
      ∃ (t1 : TS), PSs (cxOf CX0 P w K mg base N "law" (defScope st) f cdv A outer s H E).nox (defBody st) t1 ∧
        ∀ (D : Ends) (σ : L2.St) (H : Hp), (∃ x : V, σ[0]? = some (some x) ∧ ∃ p ys, x = .ref p ∧ (SqL K H p ys ∨ SqT K H p ys) ∧ ∀ l, H l = none → ∀ q, (upd H l (.lst ys)) q = none → tsOf T b D (σ.set 1 (some (.ref q))) (upd (upd H l (.lst ys)) q (.lst [.ref l, .int 0, .int 0]))) → t1 D σ H) :
    FnOk P w K mg base CX0 (k + 1) f fd ["script"] (spLaw K) := by
  refine F.ok S (fun vs H Q E h => ?_) (fun cdv A outer s H vs Q E hr hq => ?_)
  · obtain ⟨a, ns, rfl, _⟩ := h
    rfl
  obtain ⟨a, ns, rfl, hS, hl, q⟩ := hq
  obtain ⟨t1, hp, ht⟩ := hbody cdv A outer s H E hr
  refine ⟨t1, hp, ht _ _ _ ?_⟩
  have hs : L2.start N [.ref a] = some (.ref a) :: none :: List.replicate m none := by
    unfold L2.start
    rw [hN]
    show some (V.ref a) :: List.replicate (m + 2 - 1) none = _
    rfl
  rw [hs]
  refine ⟨.ref a, rfl, a, ns.map V.int, rfl, .inl hS, fun l hl0 q0 hq0 => ?_⟩
  let Γ0 : Wo := fun _ => none
  have g0 : Good T Γ0 H := fun _ _ z => by cases z
  have zl : (ns.map D.int).length ≤ sizeLine := by rw [List.length_map]; exact Nat.le_trans hl (by decide)
  have x1 : Ext T Γ0 H (put Γ0 l (.lst (ns.map D.int))) (upd H l (.lst (ns.map V.int))) := .new g0 hl0 ⟨_, rfl, ints_pd0 ns, zl⟩
  have x2 : Ext T (put Γ0 l (.lst (ns.map D.int))) (upd H l (.lst (ns.map V.int))) (put (put Γ0 l (.lst (ns.map D.int))) q0 (.obj 0 (ns.map D.int))) (upd (upd H l (.lst (ns.map V.int))) q0 (.lst [.ref l, .int 0, .int 0])) :=
    .new x1.good hq0 ((hT _ _ _ _).mpr ⟨l, ns, 0, 0, rfl, rfl, rfl, by rw [put_ne (ne_of_none upd_same hq0)]; exact put_same⟩)
  have env : EnvR T (put (put Γ0 l (.lst (ns.map D.int))) q0 (.obj 0 (ns.map D.int))) (upd (upd H l (.lst (ns.map V.int))) q0 (.lst [.ref l, .int 0, .int 0])) ((some (V.ref a) :: none :: List.replicate m none).set 1 (some (.ref q0))) (.no :: .va (.obj 0 (ns.map D.int)) :: List.replicate m .no) := by
    have e0 : EnvR T (put (put Γ0 l (.lst (ns.map D.int))) q0 (.obj 0 (ns.map D.int))) (upd (upd H l (.lst (ns.map V.int))) q0 (.lst [.ref l, .int 0, .int 0])) (some (V.ref a) :: none :: List.replicate m none) (.no :: .no :: List.replicate m .no) := by
      have nope : ∀ (i : Nat) (x : Sl), (Sl.no :: Sl.no :: List.replicate m Sl.no)[i]? = some x → x = .no := fun i x e => by
        have := List.mem_of_getElem? e
        simp only [List.mem_cons, List.mem_replicate] at this
        rcases this with h | h | h
        · exact h
        · exact h
        · exact h.2
      refine ⟨by simp, fun i d e => (by cases nope i _ e), fun i d e => (by cases nope i _ e), fun i d e => (by cases nope i _ e), fun i j x y v e1 _ o1 _ _ _ => ?_⟩
      rw [nope i _ e1] at o1
      cases o1
    exact e0.set (show Holds T _ (.ref q0) (.obj 0 (ns.map D.int)) from ⟨q0, rfl, put_same⟩) 1
  refine ⟨_, _, _, _, _, ⟨.refl x2.good, env, fun i x b e1 e2 e3 => ?_⟩, h ns, fun σ' ρ' Γ' H' _ _ z => (by cases (show D.non = .bl true from z)), fun v d Γ' H' _ _ hv z => ?_, fun σ' ρ' Γ' H' _ _ z => False.elim z, fun σ' ρ' Γ' H' _ _ z => False.elim z⟩
  · have := List.mem_of_getElem? e1
    simp only [List.mem_cons, List.mem_replicate] at this
    rcases this with h | h | h
    · subst h; cases e2
    · subst h; cases e2
    · rw [h.2] at e2; cases e2
  · have z' : d = .bl true := z
    subst z'
    cases (show v = .bl true from hv)
    exact q H'
/-- the law's first row: tape = [list(script), 0, 0] -/
theorem law_start {X : Cx} {T : Th X.K} {b : Rho → M Fl} {rest : List Stmt} {p1 p2 p3 p4 p5 p6 p7 pos : Pos} {j1 j2 : Nat} (hN : X.N.Nodup) (h0 : X.N[0]? = some ("script" : Str)) (h1 : X.N[1]? = some ("tape" : Str)) (ml : X.mg "list" = none) (hr : DSs X T rest b)
    (hv : Vis X.env.scope "script" := by first | exact Or.inl rfl | exact Or.inr (Or.inl rfl) | exact Or.inr (Or.inr rfl)) (hx : Loc X.env.scope "tape" := by first | exact .inl rfl | exact .inr rfl) (hg : Gl X "list" := by rfl)
    (hs : swapsWith (.List [.Call (.Name "list" p2) [.Name "script" p3] [] p4, .Constant (.int 0) j1 p5, .Constant (.int 0) j2 p6] p7) (some (.Name "tape" p1)) pos.line X.env = pure false := by rfl)
    (hf : X.fn "tape" = true ∨ X.env.scope.names.lookup ("tape" : Str) = some .local := by first | exact .inl rfl | exact .inr rfl | assumption)
    (e1 : starEach [.Name "script" p3] X.env = (false, eval (.Name "script" p3) X.env) :: starEach [] X.env := by rfl) (e2 : (backTo p4 (starEach [] X.env)).any (·.1) = false := by rfl)
    (e3 : starEach [.Call (.Name "list" p2) [.Name "script" p3] [] p4, .Constant (.int 0) j1 p5, .Constant (.int 0) j2 p6] X.env = (false, eval (.Call (.Name "list" p2) [.Name "script" p3] [] p4) X.env) :: starEach [.Constant (.int 0) j1 p5, .Constant (.int 0) j2 p6] X.env := by rfl)
    (e4 : starEach [.Constant (.int 0) j1 p5, .Constant (.int 0) j2 p6] X.env = (false, eval (.Constant (.int 0) j1 p5) X.env) :: starEach [.Constant (.int 0) j2 p6] X.env := by rfl)
    (e5 : starEach [.Constant (.int 0) j2 p6] X.env = (false, eval (.Constant (.int 0) j2 p6) X.env) :: starEach [] X.env := by rfl) :
    ∃ (t1 : TS), PSs X (.Assign [.Name "tape" p1] (.List [.Call (.Name "list" p2) [.Name "script" p3] [] p4, .Constant (.int 0) j1 p5, .Constant (.int 0) j2 p6] p7) pos :: rest) t1 ∧
        ∀ (D : Ends) (σ : L2.St) (H : Hp), (∃ x : V, σ[0]? = some (some x) ∧ ∃ p ys, x = .ref p ∧ (SqL X.K H p ys ∨ SqT X.K H p ys) ∧ ∀ l, H l = none → ∀ q, (upd H l (.lst ys)) q = none → tsOf T b D (σ.set 1 (some (.ref q))) (upd (upd H l (.lst ys)) q (.lst [.ref l, .int 0, .int 0]))) → t1 D σ H := by
  refine ⟨_, pss_cons (ps_set (i := 1) hN h1 hx (pe_lst (pa_cons (pe_callTy call_list_of hg ml (by decide +kernel) (pa_cons (pv 0 h0 hv) pa_nil e1) (he := e1) (hpl := e2)) (pa_cons pe_int (pa_cons pe_int pa_nil e5) e4) e3)) hs hf) hr, fun D σ H ⟨x, hx0, p, ys, ex, hys, h⟩ => ?_⟩
  exact ⟨x, hx0, p, ys, by rw [ex], hys, fun l hl => ⟨(by show 3 ≤ sizeLine; decide), fun q hq => h l hl q hq⟩⟩
/-! ### a def of no use: the level 0 of a recursion -/
theorem dfn_bad {P : Program} {w : World} {K : PySem.W.Frag} {mg : Str → Option Value} {base : Heap} {T : Th K} {x : Str} {st : Stmt} {ps : List Str} {n : Nat} (F : Def K mg x st ps) (hn : ps.length = n) : DFn P w K mg base T 0 x n fun _ => bad := by
  obtain ⟨a, fd, F0, hm, hb⟩ := F
  exact ⟨⟨a, fd, ps, ⟨fun vs H Q E ⟨Γ, ds, R, hl, _⟩ => hl.trans hn.symm, fun A outer s H args us vs Q E _ _ _ _ ⟨Γ, ds, R, _, _, _, h, _⟩ => False.elim h⟩, hm, F0.kp, hb⟩, fun ds Q q => False.elim q⟩
/-! ### reading the worths -/
theorem forD_inv {g : D → Rho → M Rho} {b : Rho → M Fl} {Q : Fl → Prop} (I : Nat → Rho → Prop) (R : D → Prop) : ∀ (xs : List D) (ρ : Rho) (i : Nat), I i ρ → (∀ j x, xs[j]? = some x → ∀ ρ K, I (i + j) ρ → (∀ ρ', I (i + j + 1) ρ' → K (.nx ρ')) → (∀ ρ', I (i + j + 1) ρ' → K (.ct ρ')) → (∀ ρ', I (i + xs.length) ρ' → K (.bk ρ')) → (∀ d, R d → K (.rt d)) → bnd (g x ρ) b K) →
    (∀ ρ', I (i + xs.length) ρ' → Q (.nx ρ')) → (∀ d, R d → Q (.rt d)) → forD g b xs ρ Q := fun xs => by
  induction xs with
  | nil => exact fun ρ i h0 _ he _ => he ρ h0
  | cons x xs ih =>
    intro ρ i h0 hs he hr
    have e : i + (x :: xs).length = i + 1 + xs.length := by rw [List.length_cons]; omega
    have go : ∀ ρ', I (i + 1) ρ' → forD g b xs ρ' Q := fun ρ' h1 => ih ρ' (i + 1) h1 (fun j y hy ρ2 K q1 q2 q3 q4 q5 => hs (j + 1) y (by simpa using hy) ρ2 K (by rw [← Nat.add_assoc, Nat.add_right_comm]; exact q1) (fun a q => q2 a (by rw [Nat.add_right_comm i 1 j]; exact q)) (fun a q => q3 a (by rw [Nat.add_right_comm i 1 j]; exact q)) (fun a q => q4 a (by rw [← e]; exact q)) q5) (fun a q => he a (by rw [e]; exact q)) hr
    exact hs 0 x rfl ρ _ h0 (fun ρ' q => go ρ' q) (fun ρ' q => go ρ' q) (fun ρ' q => he ρ' q) hr
/-- a loop that keeps what is said of its environment -/
theorem forD_keep {g : D → Rho → M Rho} {b : Rho → M Fl} {Q : Fl → Prop} (I : Rho → Prop) (R : D → Prop) (xs : List D) (ρ : Rho) (h0 : I ρ) (hs : ∀ x, x ∈ xs → ∀ ρ K, I ρ → (∀ ρ', I ρ' → K (.nx ρ')) → (∀ ρ', I ρ' → K (.ct ρ')) → (∀ ρ', I ρ' → K (.bk ρ')) → (∀ d, R d → K (.rt d)) → bnd (g x ρ) b K)
    (he : ∀ ρ', I ρ' → Q (.nx ρ')) (hr : ∀ d, R d → Q (.rt d)) : forD g b xs ρ Q :=
  forD_inv (fun _ => I) R xs ρ 0 h0 (fun j x hx ρ K q1 q2 q3 q4 q5 => hs x (List.mem_of_getElem? hx) ρ K q1 q2 q3 q4 q5) he hr
theorem lcD_det {s : D → M (Option D)} {f : D → Option D} : ∀ {xs : List D}, (∀ x ∈ xs, s x = ret (f x)) → lcD s xs = ret (xs.filterMap f)
  | [], _ => rfl
  | x :: xs, h => by
    unfold lcD
    rw [h x List.mem_cons_self, ret_bnd, lcD_det fun y hy => h y (List.mem_cons_of_mem _ hy), ret_bnd, List.filterMap_cons]
    cases f x <;> rfl
theorem lcD_map {s : D → M (Option D)} {f : D → D} {xs : List D} (h : ∀ x ∈ xs, s x = ret (some (f x))) : lcD s xs = ret (xs.map f) := by
  rw [lcD_det (f := fun x => some (f x)) h]
  congr 1
  induction xs with
  | nil => rfl
  | cons x xs ih => rw [List.filterMap_cons, ih fun y hy => h y (List.mem_cons_of_mem _ hy)]; rfl
theorem lcD_any {s : D → M (Option D)} {P : D → Prop} {Q : List D → Prop} : ∀ {xs : List D}, (∀ x ∈ xs, ∀ K : Option D → Prop, (∀ d, P d → K (some d)) → s x K) → (∀ r : List D, r.length = xs.length → (∀ d ∈ r, P d) → Q r) → lcD s xs Q
  | [], _, k => k [] rfl fun _ h => by cases h
  | x :: xs, h, k => h x List.mem_cons_self _ fun d hd => lcD_any (xs := xs) (fun y hy => h y (List.mem_cons_of_mem _ hy)) fun r hr hp => k (d :: r) (by simp [hr]) fun e he => by
    rcases List.mem_cons.mp he with e1 | e1
    · subst e1; exact hd
    · exact hp e e1
/-- any number below n -/
def anyR (n : Int) : M D := fun Q => ∀ r : Int, 0 ≤ r → r < n → Q (.int r)
/-- what is drawn -/
def P_draw : List D → M D := fun ds => match ds with
  | [.obj 0 _, .int n] => asrt (0 < n ∧ n < 1000000000000000000000000000000) (anyR n)
  | _ => bad
end DL
namespace DL
open PySem PySem.Spec L2
/-- the theory of a law with a tape alone -/
def T0 (w : World) {K : PySem.W.Frag} : Th K := { w := w, ct := fun _ => none, ctok := fun _ _ h => (by cases h), ob := fun t xs Γ a o => tapeO (K := K) t xs Γ a o, mono := tapeO_mono }
theorem T0_tp {w : World} {K : PySem.W.Frag} : Tp (K := K) (T0 w) := fun xs Γ a o => Iff.rfl
end DL

namespace DL
open PySem PySem.Spec L2
def n_law_draw : List Str := ["tape", "many", "prime", "cell", "found"]
def b_law_draw : Rho → M Fl := sSeq (sSet 2 (cst (.int 2305843009213693951))) (sSeq (sIf (tst (c2 oLt (tp1 0) (rd 1))) (sSeq (sSet 3 (cst (.int 0))) (sSeq (sIf (tst (c2 oGt (cA (on1 oLen1) (aCons (tp0 0) (aNil))) (cst (.int 0)))) (sSet 3 (c2 oIx (tp0 0) (c2 oMod (cA (on1 oInt1) (aCons (tp1 0) (aNil))) (cA (on1 oLen1) (aCons (tp0 0) (aNil)))))) (sNext)) (sSeq (sIf (cOr (tst (c2 oGe (tp1 0) (cA (on1 oLen1) (aCons (tp0 0) (aNil))))) (tst (c2 oLt (rd 3) (c2 oPow (cst (.int 10)) (cst (.int 18)))))) (sSeq (sSet 3 (c2 oMod (cA (on1 oInt1) (aCons (c2 oAdd (rd 3) (c2 oMul (cst (.int 1000003)) (tp1 0))) (aNil))) (rd 2))) (sSeq (sSet 3 (c2 oMod (cA (on1 oInt1) (aCons (c2 oAdd (c2 oAdd (c2 oMul (rd 3) (rd 3)) (c2 oMul (cst (.int 1181783497276652981)) (rd 3))) (cst (.int 2049848353892358983))) (aNil))) (rd 2))) (sSet 3 (c2 oMod (cA (on1 oInt1) (aCons (c2 oAdd (c2 oMul (rd 3) (rd 3)) (cst (.int 1442695040888963407))) (aNil))) (rd 2))))) (sNext)) (sSeq (sTp 0 (c2 oAdd (tp1 0) (cst (.int 1)))) (sTp 0 (rd 3)))))) (sNext)) (sSeq (sSet 4 (c2 oMod (cA (on1 oInt1) (aCons (tp1 0) (aNil))) (rd 1))) (sSeq (sTp 0 (c2 oDiv (tp1 0) (rd 1))) (sRet (rd 4)))))
def d_law_draw : List D → M D := fnD 2 3 (b_law_draw)
def n_law_like : List Str := ["one", "two", "k"]
def b_law_like (W_law_like : List D → M D) : Rho → M Fl := sSeq (sIf (tst (c1 (oIsi isLT) (rd 0))) (sSeq (sIf (cOr (tst (c2 oNe (c1 (oIsi isLst) (rd 0)) (c1 (oIsi isLst) (rd 1)))) (tst (c2 oNe (c1 (oIsi isTup) (rd 0)) (c1 (oIsi isTup) (rd 1))))) (sRet (cst (.bl false))) (sNext)) (sSeq (sIf (tst (c2 oNe (cA (on1 oLen1) (aCons (rd 0) (aNil))) (cA (on1 oLen1) (aCons (rd 1) (aNil))))) (sRet (cst (.bl false))) (sNext)) (sRet (c2 oEq (cLcL (cRng1 (cA (on1 oLen1) (aCons (rd 0) (aNil)))) (gN 2) (cNot (tst (cA W_law_like (aCons (c2 oIx (rd 0) (rd 2)) (aCons (c2 oIx (rd 1) (rd 2)) (aNil)))))) (rd 2) [2]) (cA oLst (aNil)))))) (sNext)) (sSeq (sIf (tst (c1 (oIsi isLT) (rd 1))) (sRet (cst (.bl false))) (sNext)) (sRet (vAnd (c2 oEq (c1 (oIsi isBool) (rd 0)) (c1 (oIsi isBool) (rd 1))) (c2 oEq (rd 0) (rd 1)))))
def d_law_like (W_law_like : List D → M D) : List D → M D := fnD 2 1 (b_law_like W_law_like)
def n_law_word : List Str := ["tape", "many", "turn"]
def b_law_word (W_law_draw : List D → M D) : Rho → M Fl := sSeq (sSet 1 (c2 oIx (cA oLst (aCons (cst (.int 1)) (aCons (cst (.int 1)) (aCons (cst (.int 2)) (aCons (cst (.int 2)) (aCons (cst (.int 2)) (aCons (cst (.int 3)) (aCons (cst (.int 5)) (aNil))))))))) (cA W_law_draw (aCons (rd 0) (aCons (cst (.int 7)) (aNil)))))) (sRet (cMS oJoin (cst (.str [])) (aCons (cLcL (cRng1 (rd 1)) (gN 2) (tYesD) (c2 oIx (cst (.str [48, 49, 50, 51, 52, 53, 54, 55, 56, 57])) (cA W_law_draw (aCons (rd 0) (aCons (cst (.int 10)) (aNil))))) [2]) (aNil))))
def d_law_word (W_law_draw : List D → M D) : List D → M D := fnD 1 2 (b_law_word W_law_draw)
def n_law_rule : List Str := ["tape"]
def b_law_rule (W_law_word W_law_draw : List D → M D) : Rho → M Fl := sRet (cA oTup (aCons (c2 oIx (cA oLst (aCons (cst (.str [104, 97, 115])) (aCons (cst (.str [101, 110, 100, 115])) (aCons (cst (.str [98, 101, 103, 105, 110, 115])) (aCons (cst (.str [105, 115])) (aNil)))))) (cA W_law_draw (aCons (rd 0) (aCons (cst (.int 4)) (aNil))))) (aCons (cA W_law_word (aCons (rd 0) (aNil))) (aNil))))
def d_law_rule (W_law_word W_law_draw : List D → M D) : List D → M D := fnD 1 0 (b_law_rule W_law_word W_law_draw)
def n_law_counter : List Str := ["tape", "rules", "extras", "turn", "rule", "number"]
def b_law_counter (W_law_draw W_law_rule : List D → M D) : Rho → M Fl := sSeq (sAsg (cA oTup (aCons (cA oTup (aNil)) (aCons (cA oTup (aNil)) (aNil)))) (gTn 2 (gsCons (gN 1) (gsCons (gN 2) (gsNil))))) (sSeq (sFor (cRng1 (cA W_law_draw (aCons (rd 0) (aCons (cst (.int 6)) (aNil))))) (gN 3) (sSeq (sSet 4 (cA W_law_rule (aCons (rd 0) (aNil)))) (sSet 1 (cIf (tst (c2 oIn (rd 4) (rd 1))) (rd 1) (c2 oAdd (rd 1) (cA oTup (aCons (rd 4) (aNil)))))))) (sSeq (sFor (cIt (c1 oSortedSet (cLcL (cRng1 (cA W_law_draw (aCons (rd 0) (aCons (cst (.int 4)) (aNil))))) (gN 3) (tYesD) (c2 oAdd (cst (.int 1)) (cA W_law_draw (aCons (rd 0) (aCons (cst (.int 40)) (aNil))))) [3]))) (gN 5) (sSet 2 (c2 oAdd (rd 2) (cA oTup (aCons (cA oTup (aCons (rd 5) (aCons (c2 oAdd (cst (.int 1)) (cA W_law_draw (aCons (rd 0) (aCons (cst (.int 3)) (aNil))))) (aNil)))) (aNil)))))) (sRet (cA oTup (aCons (rd 1) (aCons (rd 2) (aNil)))))))
def d_law_counter (W_law_draw W_law_rule : List D → M D) : List D → M D := fnD 1 5 (b_law_counter W_law_draw W_law_rule)
def n_law_left_by : List Str := ["rule", "digits", "kind", "word", "at"]
def b_law_left_by : Rho → M Fl := sSeq (sAsg (rd 0) (gTn 2 (gsCons (gN 2) (gsCons (gN 3) (gsNil))))) (sSeq (sIf (tst (c2 oEq (rd 2) (cst (.str [105, 115])))) (sRet (c2 oEq (rd 1) (rd 3))) (sNext)) (sSeq (sIf (tst (c2 oEq (rd 2) (cst (.str [98, 101, 103, 105, 110, 115])))) (sRet (c2 oEq (cSl (rd 1) (pNone) (pSome (cA (on1 oLen1) (aCons (rd 3) (aNil))))) (rd 3))) (sNext)) (sSeq (sIf (tst (c2 oEq (rd 2) (cst (.str [101, 110, 100, 115])))) (sRet (c2 oEq (cSl (rd 1) (pSome (cA (on2 oMax2) (aCons (cst (.int 0)) (aCons (c2 oSub (cA (on1 oLen1) (aCons (rd 1) (aNil))) (cA (on1 oLen1) (aCons (rd 3) (aNil)))) (aNil))))) (pNone)) (rd 3))) (sNext)) (sRet (c2 oNe (cLcL (cRng1 (cA (on1 oLen1) (aCons (rd 1) (aNil)))) (gN 4) (tst (c2 oEq (cSl (rd 1) (pSome (rd 4)) (pSome (c2 oAdd (rd 4) (cA (on1 oLen1) (aCons (rd 3) (aNil)))))) (rd 3))) (rd 4) [4]) (cA oLst (aNil)))))))
def d_law_left_by : List D → M D := fnD 2 3 (b_law_left_by)
def n_law_shown : List Str := ["counter", "number", "rule"]
def b_law_shown (W_law_left_by : List D → M D) : Rho → M Fl := sRet (c2 oEq (cLcL (cIt (c2 oIx (rd 0) (cst (.int 0)))) (gN 2) (tst (cA W_law_left_by (aCons (rd 2) (aCons (cA (on1 oStr1) (aCons (rd 1) (aNil))) (aNil))))) (rd 2) [2]) (cA oLst (aNil)))
def d_law_shown (W_law_left_by : List D → M D) : List D → M D := fnD 2 1 (b_law_shown W_law_left_by)
def n_law_number : List Str := ["tape", "digits", "text", "turn"]
def b_law_number (W_law_draw : List D → M D) : Rho → M Fl := sSeq (sSet 1 (c2 oIx (cA oLst (aCons (cst (.int 1)) (aCons (cst (.int 2)) (aCons (cst (.int 3)) (aCons (cst (.int 5)) (aCons (cst (.int 9)) (aCons (cst (.int 20)) (aCons (cst (.int 40)) (aNil))))))))) (cA W_law_draw (aCons (rd 0) (aCons (cst (.int 7)) (aNil)))))) (sSeq (sSet 2 (c2 oIx (cst (.str [49, 50, 51, 52, 53, 54, 55, 56, 57])) (cA W_law_draw (aCons (rd 0) (aCons (cst (.int 9)) (aNil)))))) (sSeq (sFor (cRng1 (c2 oSub (rd 1) (cst (.int 1)))) (gN 3) (sSet 2 (c2 oAdd (rd 2) (c2 oIx (cst (.str [48, 49, 50, 51, 52, 53, 54, 55, 56, 57])) (cA W_law_draw (aCons (rd 0) (aCons (cst (.int 10)) (aNil)))))))) (sRet (cA (on1 oInt1) (aCons (rd 2) (aNil))))))
def d_law_number (W_law_draw : List D → M D) : List D → M D := fnD 1 3 (b_law_number W_law_draw)
def nfits_rule : List Str := ["rule", "number", "kind", "word", "digits"]
def bfits_rule : Rho → M Fl := sSeq (sAsg (rd 0) (gTn 2 (gsCons (gN 2) (gsCons (gN 3) (gsNil))))) (sSeq (sSet 4 (cA (on1 oStr1) (aCons (rd 1) (aNil)))) (sSeq (sIf (tst (c2 oEq (rd 2) (cst (.str [104, 97, 115])))) (sRet (c2 oIn (rd 3) (rd 4))) (sNext)) (sSeq (sIf (tst (c2 oEq (rd 2) (cst (.str [105, 115])))) (sRet (c2 oEq (rd 3) (rd 4))) (sNext)) (sRet (cIf (tst (c2 oEq (rd 2) (cst (.str [98, 101, 103, 105, 110, 115])))) (cMS oStarts (rd 4) (aCons (rd 3) (aNil))) (cMS oEnds (rd 4) (aCons (rd 3) (aNil))))))))
def dfits_rule : List D → M D := fnD 2 3 (bfits_rule)
def nis_shown : List Str := ["counter", "number", "rule"]
def bis_shown (Wfits_rule : List D → M D) : Rho → M Fl := sRet (c1 oNot (cA (on1 oAny1) (aCons (cLcL (cIt (c2 oIx (rd 0) (cst (.int 0)))) (gN 2) (tYesD) (cA Wfits_rule (aCons (rd 2) (aCons (rd 1) (aNil)))) [2]) (aNil))))
def dis_shown (Wfits_rule : List D → M D) : List D → M D := fnD 2 1 (bis_shown Wfits_rule)
end DL

namespace DL
open PySem PySem.Spec L2 PyProof.Rows

/-! ### x[::-1] -/
def rRevA (K : PySem.W.Frag) : V → Hp → VK → Prop := fun x H Q => (∃ a xs, x = .ref a ∧ SqL K H a xs ∧ ∀ p, H p = none → Q (.ref p) (upd H p (.lst xs.reverse))) ∨ (∃ l : List Nat, x = vS l ∧ l.length ≤ sizeLine ∧ Q (vS l.reverse) H) ∨
  ∃ a xs, x = .ref a ∧ SqT K H a xs ∧ ∀ p, H p = none → Q (.ref p) (upd H p (.tup xs.reverse))
theorem rev_signs (l : List Nat) : ((Builtin.Str.strSliceIndices none none (-1) (⟨l.toArray⟩ : Str).length).filterMap ((⟨l.toArray⟩ : Str).cps[·]?)).toArray = l.reverse.toArray := by
  rw [picked_rev, len_mk, filterMap_get]
  · congr 1
    apply List.ext_getElem
    · simp
    · intro i h1 h2
      simp only [List.length_map, List.length_range] at h1
      simp [Array.getD, show l.length - 1 - i < l.length by omega]
  · intro i hi
    obtain ⟨k, hk, rfl⟩ := List.mem_map.mp hi
    have hk' := List.mem_range.mp hk
    show l.length - 1 - k < l.toArray.size
    rw [List.size_toArray]
    omega
theorem back_pick (n : Nat) : Builtin.Slice.sliceAdjust none none (-1) (n : Int) = ((n : Int) - 1, -1) := by
  unfold Builtin.Slice.sliceAdjust
  simp
theorem back_places (n : Nat) : Builtin.Slice.slicePlaces ((n : Int) - 1) (-1) (-1) = n := by
  unfold Builtin.Slice.slicePlaces
  simp
  omega
section
variable {X : Cx} {T : Th X.K} {pos : Pos}
theorem back_tuple {prog : Program} {w : World} {A : Around} {E : Value → Shared → Prop} {s : Shared} {t sl : Addr} {items : Array Value} {vs : Value} {Q : Value → Shared → Prop} (ht : PyProof.Rows.IsTup s.heap t items) (hs : s.heap.IsSliceOf sl .none .none vs) (ps : IsPart vs (some (-1)))
    (h : Q (.ref s.heap.objs.size) { s with heap := s.heap.push { cls := .type "tuple", data := .seq items.toList.reverse.toArray } }) (hsz : items.size ≤ sizeLine) : wpAny (model prog w) A (getItem (.ref t) (.ref sl)) Q E s := by
  have hrev : sizeOk (.seq items.toList.reverse.toArray) := by
    show items.toList.reverse.toArray.size ≤ sizeLine
    rw [List.size_toArray, List.length_reverse, Array.length_toList]
    exact hsz
  obtain ⟨os, hos, hcs, hds⟩ := id hs
  have hTs : s.TypeIs (.ref sl) "slice" := ⟨os, hos, hcs⟩
  unfold getItem
  try with_reducible refine wpAny_holding ?_
  first | refine wpAny_bind (wpAny_pure ?_) | skip
  refine wpAny_bind (wpAny_sequenceKey ht.typeIs (by decide) ?_)
  refine wpAny_bind (wpAny_callSpecial?_slot (name := Str.ofString "__getitem__") ht.typeIs PyProof.Rows.slot_tuple_getitem (wpAny_call_entry PyProof.Rows.slot_tuple_getitem ht.typeIs entry_tuple_getitem ?_ (args_tuple_getitem _ _)))
  show wpAny _ _ (Builtin.Tuple.tupleItemsOf (.ref t) >>= _) _ _ s
  refine wpAny_bind (tupleItemsOf_ ht ?_)
  refine wpAny_bind (wpAny_typeOf hTs ?_)
  rw [if_pos (by decide)]
  have applied : ∀ {Q' : Int × Int × Nat → Shared → Prop} {A' : Around} {E' : Value → Shared → Prop}, Q' ((items.size : Int) - 1, -1, items.size) s → wpAny (model prog w) A' (Builtin.Slice.sliceApplied (.ref sl) (pure (items.size : Int))) Q' E' s := by
    intro Q' A' E' hq
    unfold Builtin.Slice.sliceApplied Builtin.Slice.sliceFields
    refine wpAny_bind (wpAny_bind (wpAny_field hos hds (x := .none) rfl (wpAny_bind (wpAny_field hos hds (x := .none) rfl (wpAny_bind (wpAny_field hos hds (x := vs) rfl (wpAny_pure ?_)))))))
    refine wpAny_bind (HT.slicePart_ ps ?_)
    show wpAny _ _ (if ((-1 : Int) == 0) = true then _ else _) _ _ s
    rw [if_neg (by decide)]
    refine wpAny_bind (PyProof.Rows.slicePart_none (wpAny_bind (PyProof.Rows.slicePart_none (wpAny_bind (wpAny_pure ?_)))))
    show wpAny _ _ (match Builtin.Slice.sliceAdjust none none (-1) (items.size : Int) with | (lo, hi) => pure (lo, (-1 : Int), Builtin.Slice.slicePlaces lo hi (-1))) _ _ s
    rw [back_pick]
    show wpAny _ _ (pure ((items.size : Int) - 1, (-1 : Int), Builtin.Slice.slicePlaces ((items.size : Int) - 1) (-1) (-1))) _ _ s
    rw [back_places]
    exact wpAny_pure hq
  refine wpAny_bind (applied ?_)
  have hno : ¬ ((((items.size : Int) - 1) == 0 && (-1 : Int) == 1 && items.size == items.size) = true) := by simp
  show wpAny _ _ (if (((items.size : Int) - 1) == 0 && (-1 : Int) == 1 && items.size == items.size) = true then _ else _) _ _ s
  have e : ((List.range items.size).filterMap fun (m : Nat) => items[((items.size : Int) - 1 + (m : Int) * -1).toNat]?).toArray = items.toList.reverse.toArray := by
    congr 1
    have e1 : ∀ m ∈ List.range items.size, items[((items.size : Int) - 1 + (m : Int) * -1).toNat]? = items.toList.reverse[m]? := fun m hm => by
      have hm' := List.mem_range.mp hm
      have e2 : ((items.size : Int) - 1 + (m : Int) * -1).toNat = items.toList.length - 1 - m := by rw [Array.length_toList]; omega
      rw [e2, List.getElem?_reverse (by rw [Array.length_toList]; exact hm'), ← Array.getElem?_toList]
    rw [(show ∀ (l : List Nat), (∀ m ∈ l, items[((items.size : Int) - 1 + (m : Int) * -1).toNat]? = items.toList.reverse[m]?) → l.filterMap (fun (m : Nat) => items[((items.size : Int) - 1 + (m : Int) * -1).toNat]?) = l.filterMap (fun m => items.toList.reverse[m]?) from fun l => by
      induction l with
      | nil => exact fun _ => rfl
      | cons m l ih => exact fun h => by rw [List.filterMap_cons, List.filterMap_cons, h m List.mem_cons_self, ih fun x hx => h x (List.mem_cons_of_mem _ hx)]) _ e1]
    have hl : items.size = items.toList.reverse.length := by rw [List.length_reverse, Array.length_toList]
    rw [hl]
    generalize items.toList.reverse = xs
    clear hno applied hrev h hsz e1 hl
    induction xs with
    | nil => rfl
    | cons x xs ih =>
      rw [List.length_cons, List.range_succ_eq_map, List.filterMap_cons]
      simp only [List.getElem?_cons_zero, List.filterMap_map, Function.comp_def, List.getElem?_cons_succ]
      rw [ih]
  rw [if_neg hno, e]
  first
    | exact wpAny_bind (m := Builtin.Tuple.tupleExact _) (wpAny_newObj_type (wpAny_pure ⟨_, rfl, wpAny_pure h⟩) hrev)
    | exact wpAny_bind (m := Builtin.Tuple.tupleExact _) (wpAny_newObj_type (wpAny_bind (wpAny_pure (wpAny_pure ⟨_, rfl, wpAny_pure h⟩))) hrev)
    | exact wpAny_bind (wpAny_bind (m := Builtin.Tuple.tupleExact _) (wpAny_newObj_type (wpAny_pure (wpAny_pure ⟨_, rfl, wpAny_pure h⟩)) hrev))
    | exact wpAny_bind (wpAny_bind (m := Builtin.Tuple.tupleExact _) (wpAny_newObj_type (wpAny_pure ⟨_, rfl, wpAny_pure h⟩) hrev))
theorem pe_revA {e : Expr} {te : TE} {k : Nat} {p1 p2 p3 : Pos} (he : PE X e te) : PE X (.Subscript e (.Slice none none (some (.UnaryOp .USub (.Constant (.int 1) k p1) p2)) p3) pos) (fun σ H Q => te σ H fun x H1 => rRevA X.K x H1 Q) := by
  refine ⟨fun pins s σ H Q I h => ?_⟩
  refine Subscript_ (thn (he.run pins s σ H _ I h) fun v s1 ⟨x, H1, I1, r1, q1⟩ => ?_)
  have step : PO X (some (.UnaryOp .USub (.Constant (.int 1) k p1) p2)) (tPart (tUn (rU fun i => .int (-i)) (tC (.int 1)))) := po_some (pe_un un_neg pe_int)
  refine wpAny_Slice (thn (po_none.run pins s1 σ H1 (fun o H2 => o = none ∧ H2 = H1) I1 ⟨rfl, rfl⟩) fun vl s2 ⟨l, H2, I2, pl, el, e2⟩ => ?_)
  subst el e2
  refine thn (po_none.run pins s2 σ H2 (fun o H3 => o = none ∧ H3 = H2) I2 ⟨rfl, rfl⟩) fun vu s3 ⟨u, H3, I3, pu, eu, e3⟩ => ?_
  subst eu e3
  refine thn (step.run pins s3 σ H3 (fun o H4 => o = some (-1) ∧ H4 = H3) I3 ⟨1, rfl, -1, rfl, rfl, rfl⟩) fun vs s4 ⟨o, H4, I4, ps, eo, e4⟩ => ?_
  subst eo e4
  have I5 : Inv X pins σ H4 { s4 with heap := s4.heap.push { cls := .type "slice", data := .fields #[vl, vu, vs] } } := I4.kept (t' := s4.toks) fun b ob q => Heap.get?_push_of_some _ q
  have isS := Heap.IsSliceOf.new s4.heap vl vu vs
  rcases q1 with ⟨a, xs, ex, hx, q⟩ | ⟨z, ex, hz, q⟩ | ⟨a, xs, ex, hx, q⟩
  · subst ex
    cases r1
    obtain ⟨its, r, ht, hz⟩ := I5.list hx
    have hlen := r.length
    show wpAny (model X.prog X.w) X.A (subscriptTail e _ (.ref a) (.ref s4.heap.objs.size)) (EP X pins σ Q) X.xe { s4 with heap := s4.heap.push { cls := .type "slice", data := .fields #[vl, vu, vs] } }
    refine tail_any (ops := [.ref a, .ref s4.heap.objs.size]) ht.isList.typeIs (PySem.slot_list_getitem.lookup) ?_ (by with_unfolding_all rfl)
    refine wpAny_getItem_list_slice ht.isList isS pl pu ps (by decide) ?_ (by rw [List.size_toArray]; omega)
    rw [PySem.W.krv_pick]
    exact ⟨.ref _, _, I5.laid (t' := s4.toks) (o := .lst xs.reverse) (fun b ob q => Heap.get?_push_of_some _ q) (Nat.le_refl _) ⟨by rw [List.length_reverse]; exact hz, _, 0, r.reverse, Heap.get?_push_size _ rfl⟩, rfl, q _ (I5.hok.fresh (Nat.le_refl _))⟩
  · subst ex
    obtain ⟨t, rfl⟩ := r1
    show wpAny (model X.prog X.w) X.A (subscriptTail e _ (.str ⟨z.toArray⟩ t) (.ref s4.heap.objs.size)) (EP X pins σ Q) X.xe { s4 with heap := s4.heap.push { cls := .type "slice", data := .fields #[vl, vu, vs] } }
    refine tail_any (ops := [.str ⟨z.toArray⟩ t, .ref s4.heap.objs.size]) (typeIs_str _ _ _) F.slot_str_getitem.lookup ?_ (by with_unfolding_all rfl)
    obtain ⟨l1, rfl, e1⟩ := IsPart.raw pl
    obtain ⟨u1, rfl, e2⟩ := IsPart.raw pu
    obtain ⟨st, rfl, e3⟩ := IsPart.raw ps
    refine wpAny_getItem_str_slice (l := l1) (u := u1) (st := st) isS (by rw [e3] <;> rfl) ?_
    have el : l1 = none := Option.map_eq_none_iff.mp e1
    have eu : u1 = none := Option.map_eq_none_iff.mp e2
    subst el eu
    obtain ⟨⟨i, ti⟩, rfl, ei⟩ : ∃ p : Int × Tok, st = some p ∧ p.1 = -1 := by
      cases st with
      | none => cases e3
      | some p => exact ⟨p, rfl, Option.some.inj e3⟩
    cases ei
    show Made.post (if ((-1 : Int) == 1 && (Builtin.Str.strSliceIndices none none (-1) (⟨z.toArray⟩ : Str).length).length == (⟨z.toArray⟩ : Str).length) = true then Made.val (.str ⟨z.toArray⟩ t)
      else Made.str ⟨((Builtin.Str.strSliceIndices none none (-1) (⟨z.toArray⟩ : Str).length).filterMap ((⟨z.toArray⟩ : Str).cps[·]?)).toArray⟩) (EP X pins σ Q) _
    rw [if_neg (by simp), rev_signs]
    exact ⟨by rw [len_mk, List.length_reverse]; exact hz, vS z.reverse, H4, I5.tok _, ⟨_, rfl⟩, q⟩
  · subst ex
    cases r1
    obtain ⟨its, r, ht, hz⟩ := I5.tuple hx
    have hlen := r.length
    show wpAny (model X.prog X.w) X.A (subscriptTail e _ (.ref a) (.ref s4.heap.objs.size)) (EP X pins σ Q) X.xe { s4 with heap := s4.heap.push { cls := .type "slice", data := .fields #[vl, vu, vs] } }
    refine tail_any (ops := [.ref a, .ref s4.heap.objs.size]) ht.typeIs (PyProof.Rows.slot_tuple_getitem.lookup) ?_ (by with_unfolding_all rfl)
    cases pl
    cases pu
    refine back_tuple ht isS ps ?_ (by rw [List.size_toArray]; omega)
    exact ⟨.ref _, _, I5.laid (t' := s4.toks) (o := .tup xs.reverse) (fun b ob q => Heap.get?_push_of_some _ q) (Nat.le_refl _) ⟨by rw [List.length_reverse]; exact hz, _, r.reverse, IsTup.new _ _⟩, rfl, q _ (I5.hok.fresh (Nat.le_refl _))⟩
end
end DL

namespace DL
open PySem PySem.Spec L2 PyProof.Rows

section
variable {X : Cx} {T : Th X.K} {pos : Pos}
/-! ### x[::-1] -/
def oRev : D → M D
  | .lst xs => ret (.lst xs.reverse)
  | .tup xs => ret (.tup xs.reverse)
  | .str l => ret (.str l.reverse)
  | _ => bad
theorem de_rev {e : Expr} {fe : Rho → M D} {k : Nat} {p1 p2 p3 : Pos} (he : DE X T e fe) : DE X T (.Subscript e (.Slice none none (some (.UnaryOp .USub (.Constant (.int 1) k p1) p2)) p3) pos) (c1 oRev fe) :=
  PE.imp (pe_revA he) fun σ H post ⟨Γ, ρ, Q, g, e, h, k⟩ => .mk g e h fun v d Γ1 H1 x1 hv h1 => by
    cases d with
    | lst xs =>
      obtain ⟨a, vs, e1, ho, r, z⟩ := Holds.lst x1.good hv
      refine .inl ⟨a, vs, e1, SqL.of ho, fun p hp => ?_⟩
      obtain ⟨x2, hh⟩ := newLst x1.good (Pd.reverse r) (by rw [List.length_reverse]; exact z) hp
      exact k _ _ _ _ (x1.trans x2) hh h1
    | tup xs =>
      have z := Holds.tupLe x1.good hv
      obtain ⟨a, vs, e1, ho, r⟩ := Holds.tup x1.good hv
      refine .inr (.inr ⟨a, vs, e1, ho, fun p hp => ?_⟩)
      obtain ⟨x2, hh⟩ := newTup x1.good (Pd.reverse r) (by rw [List.length_reverse]; exact z) hp
      exact k _ _ _ _ (x1.trans x2) hh h1
    | str l =>
      obtain ⟨e1, o1⟩ := (show v = vS l ∧ okS l from hv)
      exact .inr (.inl ⟨l, e1, o1.1, k _ (.str l.reverse) Γ1 H1 x1 ⟨rfl, by rw [List.length_reverse]; exact o1.1, fun c hc => o1.2 c (List.mem_reverse.mp hc)⟩ h1⟩)
    | _ => exact False.elim h1

/-! ### list(text) -/
def rListS : List V → Hp → VK → Prop := fun xs H Q => ∃ l : List Nat, xs = [vS l] ∧ l.length ≤ sizeLine ∧ ∀ p, H p = none → Q (.ref p) (upd H p (.lst (l.map fun c => vS [c])))
theorem cr_listS (hc : X.calm = true) : CallR X (.type "list") rListS := by
  intro pins s σ H xs us Q I r h
  obtain ⟨l, rfl, hz, q⟩ := h
  obtain ⟨u, rfl, rx⟩ := vals1 r
  obtain ⟨t, rfl⟩ := rx
  refine call_list_str (I.ok.hd hc) ⟨l.toArray⟩ t (fun h' tk acc' c' kp e it => ?_) (by show l.toArray.size ≤ sizeLine; rw [List.size_toArray]; exact hz)
  have ls : acc'.toList.length = l.length := by
    have := it.1
    rw [Array.length_toList, this]
    show l.toArray.size = _
    rw [List.size_toArray]
  have rv : Vals (l.map fun c => vS [c]) acc'.toList := by
    have key : ∀ (l : List Nat) (us : List Value), us.length = l.length → (∀ (j : Nat) (v : Value), us[j]? = some v → ∃ c u, l[j]? = some c ∧ v = .str ⟨#[c]⟩ u) → Vals (l.map fun c => vS [c]) us := by
      intro l
      induction l with
      | nil =>
        intro us hl _
        rw [List.eq_nil_of_length_eq_zero hl]
        exact .nil
      | cons c l ih =>
        intro us hl hv
        cases us with
        | nil => cases hl
        | cons u us =>
          obtain ⟨c', t, e1, e2⟩ := hv 0 u rfl
          cases e1
          exact .cons ⟨t, e2⟩ (ih us (by simpa using hl) fun j v hj => hv (j + 1) v (by simpa using hj))
    refine key l _ ls fun j v hj => ?_
    obtain ⟨c, u, e1, e2⟩ := it.2 j v (by rw [← Array.getElem?_toList]; exact hj)
    exact ⟨c, u, by simpa using e1, e2⟩
  refine ⟨.ref s.heap.objs.size, _, I.laid (t' := tk) kp (Nat.le_refl _) (show ObjOk X.prog X.w _ h' _ (.lst (l.map fun c => vS [c])) from ⟨by rw [List.length_map]; exact hz, acc'.toList, c', rv, ?_⟩), rfl, q _ (I.hok.fresh (Nat.le_refl _))⟩
  exact e
def oListS : D → M D
  | .str l => ret (.lst (l.map fun c => .str [c]))
  | _ => bad
theorem pd_signs {Γ : Wo} : ∀ {l : List Nat}, (∀ c ∈ l, c < 1114112) → Paired (Holds T Γ) (l.map fun c => vS [c]) (l.map fun c => .str [c])
  | [], _ => .nil
  | c :: l, h => .cons ⟨rfl, (by show 1 ≤ sizeLine; decide), fun x hx => by
      have e : x = c := by simpa using hx
      rw [e]; exact h c List.mem_cons_self⟩ (pd_signs fun x hx => h x (List.mem_cons_of_mem _ hx))
theorem de_listS {e : Expr} {fe : Rho → M D} {p : Pos} (hc : X.calm = true) (hm : X.mg "list" = none) (he : DE X T e fe) (hg : Gl X "list" := by rfl)
    (hs : starEach [e] X.env = (false, eval e X.env) :: starEach [] X.env := by rfl) (hpl : (backTo pos (starEach [] X.env)).any (·.1) = false := by rfl) : DE X T (.Call (.Name "list" p) [e] [] pos) (c1 oListS fe) :=
  PE.imp (pe_callTy (cr_listS hc) hg hm (by decide +kernel) (pa_cons he pa_nil hs) (he := hs) (hpl := hpl)) fun σ H post ⟨Γ, ρ, Q, g, e, h, k⟩ => .mk g e h fun v d Γ1 H1 x1 hv h1 => by
    cases d with
    | str l =>
      obtain ⟨e1, o1⟩ := (show v = vS l ∧ okS l from hv)
      subst e1
      refine ⟨l, rfl, o1.1, fun p hp => ?_⟩
      obtain ⟨x2, hh⟩ := newLst x1.good (pd_signs o1.2) (by rw [List.length_map]; exact o1.1) hp
      exact k _ _ _ _ (x1.trans x2) hh h1
    | _ => exact False.elim h1

/-! ### text * int, tuple * int -/
def okRep (n : Nat) (k : Int) : Prop := n ≤ 1000 ∧ -1000 ≤ k ∧ k ≤ 1000
def rMulS : R2 := fun x y H Q => ∃ (l : List Nat) (k : Int), x = vS l ∧ y = .int k ∧ okRep l.length k ∧ Q (vS (List.replicate k.toNat l).flatten) H
theorem foldl_signs (l : List Nat) : ∀ m (acc : List Nat), (List.replicate m l.toArray).foldl (· ++ ·) acc.toArray = (acc ++ (List.replicate m l).flatten).toArray
  | 0, acc => by simp
  | m + 1, acc => by
    rw [List.replicate_succ, List.foldl_cons, List.append_toArray, foldl_signs l m, List.replicate_succ, List.flatten_cons, List.append_assoc]
theorem op_mulS : OpR X (binaryOp .Mult) rMulS := by
  intro pins s σ H x y v u Q I rx ry h
  obtain ⟨l, k, rfl, rfl, ⟨h1, h2, h3⟩, q⟩ := h
  obtain ⟨t, rfl⟩ := rx
  obtain ⟨t', rfl⟩ := ry
  have len : (⟨l.toArray⟩ : Str).length = l.length := len_mk l
  refine PySem.P.mul_str (by rw [decide_eq_false (by omega), decide_eq_false (by omega)]; rfl) (fun hk _ => ?_) (fun hk _ => ?_) ?_
  · rw [len]
    have : (1000 : Int) ≤ (2 ^ 63 - 1) / k := by
      rw [Int.le_ediv_iff_mul_le (by omega)]
      omega
    omega
  · rw [len]
    have : l.length * k.toNat ≤ 1000 * 1000 := Nat.mul_le_mul h1 (by omega)
    have hb : l.length * k.toNat ≤ sizeLine := Nat.le_trans this (by decide)
    unfold Builtin.Str.tooLong
    first
      | exact decide_eq_false (by omega)
      | simp; omega
  · by_cases hk : k < 1
    · rw [if_pos hk]
      have e0 : k.toNat = 0 := by omega
      rw [e0] at q
      exact ⟨by decide, .str Str.empty, H, I.tok _, ⟨_, rfl⟩, q⟩
    · rw [if_neg hk]
      by_cases h1k : (k == 1 || (⟨l.toArray⟩ : Str).length == 0) = true
      · rw [if_pos h1k]
        have e : (List.replicate k.toNat l).flatten = l := by
          rw [len, Bool.or_eq_true, beq_iff_eq, beq_iff_eq] at h1k
          rcases h1k with e | e
          · subst e
            show (List.replicate 1 l).flatten = l
            simp
          · rw [List.eq_nil_of_length_eq_zero e]
            simp
        rw [e] at q
        exact ⟨vS l, H, I, ⟨t, rfl⟩, q⟩
      · rw [if_neg h1k]
        have e : (List.replicate k.toNat (⟨l.toArray⟩ : Str).cps).foldl (· ++ ·) #[] = (List.replicate k.toNat l).flatten.toArray := by
          have := foldl_signs l k.toNat []
          rw [List.nil_append] at this
          exact this
        rw [e]
        refine ⟨?_, vS (List.replicate k.toNat l).flatten, H, I.tok _, ⟨_, rfl⟩, q⟩
        rw [len_mk, PyProof.Rows.lm_len_rep_flat]
        exact Nat.le_trans (Nat.mul_le_mul (show k.toNat ≤ 1000 by omega) h1) (by decide)
def oMulX : D → D → M D
  | .int i, .int j => asrt (okMul i j) (ret (.int (i * j)))
  | .str l, .int k => asrt (okRep l.length k) (ret (.str (List.replicate k.toNat l).flatten))
  | .tup xs, .int k => asrt (xs ≠ [] ∧ xs.length ≤ 1000 ∧ 2 ≤ k ∧ k ≤ 1000) (ret (.tup (List.replicate k.toNat xs).flatten))
  | _, _ => bad
def rMulX (K : PySem.W.Frag) : R2 := fun x y H Q => rMulA x y H Q ∨ rMulS x y H Q ∨ rRepT K x y H Q
theorem op_mulXX : OpR X (binaryOp .Mult) (rMulX X.K) := op_mulA.or (op_mulS.or op_repT)
theorem okS_rep {l : List Nat} {k : Int} (h : okS l) (o : okRep l.length k) : okS (List.replicate k.toNat l).flatten := by
  refine ⟨?_, fun c hc => ?_⟩
  · rw [PyProof.Rows.lm_len_rep_flat]
    exact Nat.le_trans (Nat.mul_le_mul (show k.toNat ≤ 1000 by have := o.2.2; omega) o.1) (by decide)
  · obtain ⟨m, h1, h2⟩ := List.mem_flatten.mp hc
    rw [(List.mem_replicate.mp h1).2] at h2
    exact h.2 c h2
theorem od_mulX : OpD T (rMulX X.K) oMulX := fun Γ H x y d e Q post g hx hy h k => by
  cases d with
  | int i =>
    cases e with
    | int j => exact .inl (od_mul (X := X) (T := T) Γ H x y (.int i) (.int j) Q post g hx hy h k)
    | _ => exact False.elim h
  | str l =>
    cases e with
    | int j =>
      obtain ⟨e1, o1⟩ := (show x = vS l ∧ okS l from hx)
      exact .inr (.inl ⟨l, j, e1, hy, h.1, k _ (.str _) Γ H (.refl g) ⟨rfl, okS_rep o1 h.1⟩ h.2⟩)
    | _ => exact False.elim h
  | tup xs =>
    cases e with
    | int j =>
      obtain ⟨⟨h1, h2, h3, h4⟩, h⟩ := h
      obtain ⟨a, vs, e1, ho, r⟩ := Holds.tup g hx
      have hl := r.length
      refine .inr (.inr ⟨a, j, vs, e1, hy, ho, fun e => h1 ((Pd.nil_iff r).mp e), h3, h4, by omega, fun p hp => ?_⟩)
      obtain ⟨x2, hh⟩ := newTup g (Pd.rep r j.toNat) (by
        rw [PyProof.Rows.lm_len_rep_flat]
        exact Nat.le_trans (Nat.mul_le_mul (show j.toNat ≤ 1000 by omega) h2) (by decide)) hp
      exact k _ _ _ _ x2 hh h
    | _ => exact False.elim h
  | _ => cases e <;> exact False.elim h
end
end DL

namespace DL
open PySem PySem.Spec L2
abbrev c_DIGITS : D := .str [48, 49, 50, 51, 52, 53, 54, 55, 56, 57]
abbrev c_LETTERS : D := .str [97, 98, 99]
def n_law_any : List Str := ["tape", "deep", "course", "some", "k"]
def b_law_any (W_law_draw W_law_any : List D → M D) : Rho → M Fl := sSeq (sSet 2 (cA W_law_draw (aCons (rd 0) (aCons (cst (.int 13)) (aNil))))) (sSeq (sIf (cAnd (tst (c2 oLt (rd 2) (cst (.int 4)))) (tst (c2 oGt (rd 1) (cst (.int 0))))) (sSeq (sSet 3 (cLcL (cRng1 (cA W_law_draw (aCons (rd 0) (aCons (cst (.int 4)) (aNil))))) (gN 4) (tYesD) (cA W_law_any (aCons (rd 0) (aCons (c2 oSub (rd 1) (cst (.int 1))) (aNil)))) [4])) (sRet (c2 oIx (cA oLst (aCons (rd 3) (aCons (cA (on1 oTuple1) (aCons (rd 3) (aNil))) (aCons (cA (on1 oTuple1) (aCons (rd 3) (aNil))) (aCons (cA (on1 oTuple1) (aCons (rd 3) (aNil))) (aNil)))))) (rd 2)))) (sNext)) (sSeq (sIf (tst (c2 oLt (rd 2) (cst (.int 8)))) (sRet (c2 oIx (cA oLst (aCons (c2 oSub (cA W_law_draw (aCons (rd 0) (aCons (cst (.int 12)) (aNil)))) (cst (.int 2))) (aCons (cA W_law_draw (aCons (rd 0) (aCons (c2 oPow (cst (.int 10)) (cst (.int 12))) (aNil)))) (aCons (cst (.int 0)) (aCons (cst (.int 3)) (aNil)))))) (cA (on2 oMax2) (aCons (cst (.int 0)) (aCons (c2 oSub (rd 2) (cst (.int 4))) (aNil)))))) (sNext)) (sSeq (sSet 3 (cA oLst (aCons (cst (.str [])) (aCons (cst (.str [104, 97, 115])) (aCons (cst (.str [105, 115])) (aCons (cst (.str [49, 51])) (aCons (cst (.str [52])) (aCons (cst (.str [49, 50, 97])) (aCons (cst (.str [97, 108, 108])) (aNil)))))))))) (sRet (c2 oIx (cA oLst (aCons (cst (.bl true)) (aCons (cst (.bl false)) (aCons (cst .non) (aCons (c2 oIx (rd 3) (cA W_law_draw (aCons (rd 0) (aCons (cst (.int 7)) (aNil))))) (aCons (cA oTup (aCons (cst (.int 1)) (aCons (cst (.int 2)) (aNil)))) (aNil))))))) (c2 oSub (rd 2) (cst (.int 8))))))))
def d_law_any (W_law_draw W_law_any : List D → M D) : List D → M D := fnD 2 3 (b_law_any W_law_draw W_law_any)
def n_law_is_label : List Str := ["value", "digits", "sign"]
def b_law_is_label : Rho → M Fl := sSeq (sIf (cOr (cNot (tst (c1 (oIsi isStr) (rd 0)))) (tst (c2 oEq (rd 0) (cst (.str []))))) (sRet (cst (.bl false))) (sNext)) (sSeq (sSet 1 (cIf (tst (c2 oIn (c2 oIx (rd 0) (c1 oNeg (cst (.int 1)))) (cA oLst (aCons (cst (.str [97])) (aCons (cst (.str [98])) (aCons (cst (.str [99])) (aNil))))))) (cSl (rd 0) (pNone) (pSome (c1 oNeg (cst (.int 1))))) (rd 0))) (sSeq (sIf (cOr (cNot (tst (c3 oLe oLe (cst (.int 1)) (cA (on1 oLen1) (aCons (rd 1) (aNil))) (cst (.int 40))))) (tst (c2 oEq (c2 oIx (rd 1) (cst (.int 0))) (cst (.str [48]))))) (sRet (cst (.bl false))) (sNext)) (sRet (c2 oEq (cLcL (cIt (rd 1)) (gN 2) (tst (c2 oNotIn (rd 2) (c1 oListS (cst (.str [48, 49, 50, 51, 52, 53, 54, 55, 56, 57]))))) (rd 2) [2]) (cA oLst (aNil))))))
def d_law_is_label : List D → M D := fnD 1 2 (b_law_is_label)
def nis_label : List Str := ["value", "digits", "sign"]
def bis_label : Rho → M Fl := sSeq (sIf (cNot (tst (c1 (oIsi isStr) (rd 0)))) (sRet (cst (.bl false))) (sNext)) (sSeq (sSet 1 (cIf (cAnd (tst (c2 oNe (rd 0) (cst (.str [])))) (tst (c2 oIn (c2 oIx (rd 0) (c1 oNeg (cst (.int 1)))) (cst c_LETTERS)))) (cSl (rd 0) (pNone) (pSome (c1 oNeg (cst (.int 1))))) (rd 0))) (sSeq (sIf (cOr (tst (c2 oEq (rd 1) (cst (.str [])))) (cOr (tst (c2 oEq (c2 oIx (rd 1) (cst (.int 0))) (cst (.str [48])))) (cNot (tst (cA (on1 oAll1) (aCons (cLcL (cIt (rd 1)) (gN 2) (tYesD) (c2 oIn (rd 2) (cst c_DIGITS)) [2]) (aNil))))))) (sRet (cst (.bl false))) (sNext)) (sRet (c2 oLe (cA (on1 oLen1) (aCons (rd 1) (aNil))) (cst (.int 40))))))
def dis_label : List D → M D := fnD 1 2 (bis_label)
end DL

namespace DL
open PySem PySem.Spec L2 PyProof.Rows

/-! ### sets of objects of any kind that can be a key, fewer than 64 of them -/
section
variable {P : Program} {w : World} {κ : Type} [DecidableEq κ] (kn : HeapKind P w κ)
/-- what a search and a new member ask beside == and hash -/
structure Meek : Prop where
  st : kn.Stays
  cls : ∀ {A : Around} {E : Value → Shared → Prop} {s : Shared} {k : κ} {b : Addr} {Q : Bool → Shared → Prop}, kn.is s.heap k b → Q false s → wpAny (model P w) A (ofAClassStatement 8 (.ref b)) Q E s
  byv : ∀ {A : Around} {E : Value → Shared → Prop} {s : Shared} {k : κ} {b : Addr} {Q : Bool → Shared → Prop}, kn.is s.heap k b → (∀ z, Q z s) → wpAny (model P w) A (hashByValue 8 (.ref b)) Q E s
def rowsG (L : List (Addr × κ)) : List (Int × Value) := L.map fun p => (kn.hash p.2, Value.ref p.1)
structure RepG (h : Heap) (a : Addr) (L : List (Addr × κ)) (es : Array (Int × Value)) (ep : Nat) (t : SetTable) : Prop where
  ob : ∃ o, h.get? a = some o ∧ o.ExactSet ∧ o.data = .set es ep t
  rows : es.toList = rowsG kn L
  tab : TabOk t (L.map fun p => kn.hash p.2)
  nd : (L.map (·.2)).Nodup
  mem : ∀ p ∈ L, kn.is h p.2 p.1
  led : w.params.followText "set-order" = true ∨ t.led = true
  room : L.length * 5 < t.mask * 3
  few : L.length < 64
end
section
variable {P : Program} {w : World} {κ : Type} [DecidableEq κ] {kn : HeapKind P w κ} {A : Around} {E : Value → Shared → Prop} {s : Shared} {a : Addr} {L : List (Addr × κ)} {es : Array (Int × Value)} {ep : Nat} {t : SetTable}
theorem rowsG_len (h : es.toList = rowsG kn L) : es.size = L.length := by
  have q := congrArg List.length h
  rwa [rowsG, Array.length_toList, List.length_map] at q
theorem RepG.fits (R : RepG kn s.heap a L es ep t) : t.fits es.size = true := by
  have q1 := R.tab.sz
  have q2 := rowsG_len R.rows
  have q3 := R.room
  rw [List.length_map] at q1
  unfold SetTable.fits SetTable.fill
  rw [R.tab.dm, Bool.and_eq_true, beq_iff_eq, decide_eq_true_eq]
  refine ⟨by omega, ?_⟩
  show t.place.size + 0 ≤ t.mask
  omega
theorem rowsG_at (hr : es.toList = rowsG kn L) {i : Nat} {p : Addr × κ} (h : L[i]? = some p) : es[i]? = some (kn.hash p.2, Value.ref p.1) := by
  rw [← Array.getElem?_toList, hr, rowsG, List.getElem?_map, h] <;> rfl
theorem RepG.odd (R : RepG kn s.heap a L es ep t) : ¬ t.gaveWay = true := by
  unfold SetTable.gaveWay
  rw [mask_odd R.tab.mok]
  decide
/-- a search among members of a set is never seen -/
theorem unseen (M : Meek kn) {k : κ} {b : Addr} {Q : Bool → Shared → Prop} (hk : kn.is s.heap k b) {ys : List Value} (hy : ∀ y ∈ ys, ∃ j c, y = Value.ref c ∧ kn.is s.heap j c) (q : Q false s) : wpAny (model P w) A (searchCouldBeSeen (.ref b) ys) Q E s := by
  unfold searchCouldBeSeen
  refine wpAny_bind (wpAny_forIn_list _ (fun more r s2 => r.1 = none ∧ s2 = s ∧ ∀ y ∈ more, ∃ j c, y = Value.ref c ∧ kn.is s.heap j c) _ (fun v more r s2 => ?_) (fun r s2 => ?_) _ _ ⟨rfl, rfl, hy⟩)
  · rintro ⟨hr, e, all⟩
    subst e
    obtain ⟨j, c, rfl, hc⟩ := all v List.mem_cons_self
    have all2 : ∀ y ∈ more, ∃ j c, y = Value.ref c ∧ kn.is s2.heap j c := fun u hu => all u (List.mem_cons_of_mem _ hu)
    dsimp only
    by_cases same : (b == c || (carriedByValue (.ref b) && carriedByValue (.ref c))) = true
    · exact wp_if_pos same (wpAny_pure ⟨rfl, rfl, all2⟩)
    · refine wp_if_neg same (wpAny_bind (kn.quiet hk ?_))
      simp only [Bool.not_true, Bool.false_eq_true, if_false]
      refine wpAny_bind (kn.quiet hc ?_)
      simp only [Bool.not_true, Bool.false_eq_true, if_false]
      refine wpAny_bind (M.cls hk ?_)
      simp only [Bool.false_eq_true, if_false]
      refine wpAny_bind (M.cls hc ?_)
      simp only [Bool.false_eq_true, if_false]
      exact wpAny_pure ⟨rfl, rfl, all2⟩
  · obtain ⟨r1, r2⟩ := r
    rintro ⟨hr, e, _⟩
    simp only at hr
    subst hr e
    exact wpAny_pure q
theorem nth_clean (m : Nat) : ∀ (n : Nat) (p : SetTable.Probe), p.dummy = none → (nth m p n).dummy = none
  | 0, _, h => h
  | n + 1, p, h => nth_clean m n (adv m p) (by unfold adv; split <;> exact h)
/-- the c-th place that a search for this hash looks at -/
abbrev look (t : SetTable) (h : Int) (c : Nat) : SetTable.Probe := nth t.mask (runAt t.mask (SetTable.bits h % (t.mask + 1)) (SetTable.bits h)) c
theorem look_add (t : SetTable) (h : Int) (c q : Nat) : nth t.mask (look t h c) q = look t h (c + q) := (nth_add t.mask c _ q).symm
theorem findG (M : Meek kn) (R : RepG kn s.heap a L es ep t) {x : Addr} {k : κ} (hx : kn.is s.heap k x) (hu : kn.room A) {K : Nat} (hKf : K < 10 * SetTable.turns t.mask)
    (hK : way t.mask (kn.hash k) K ∉ t.place.toList) (hb : ∀ c, c < K → way t.mask (kn.hash k) c ∈ t.place.toList) {Q : SetFound → Shared → Prop}
    (yes : k ∈ L.map (·.2) → Q (.there none) s) (no : k ∉ L.map (·.2) → Q (.free (way t.mask (kn.hash k) K) false) s) :
    ∀ (f c : Nat) (st : Option SetTable.Probe), st.getD (t.probeStart (kn.hash k)) = look t (kn.hash k) c → c ≤ K → K - c < f →
      (∀ (i : Nat) p, L[i]? = some p → p.2 = k → ∃ d, c ≤ d ∧ d < K ∧ t.place.toList[i]? = some (way t.mask (kn.hash k) d)) →
      wpAny (model P w) A (setSearchFrom a (.ref x) (kn.hash k) true f st) Q E s := by
  obtain ⟨o, ho, hex, hd⟩ := R.ob
  have at' : ∀ (i : Nat) p, L[i]? = some p → (fun i => (es[i]?.map (·.1)).getD 0) i = kn.hash p.2 := fun i p hp => by
    show (es[i]?.map (·.1)).getD 0 = _
    rw [rowsG_at R.rows hp] <;> rfl
  intro f
  induction f with
  | zero => exact fun c st _ _ z _ => absurd z (Nat.not_lt_zero _)
  | succ f ih =>
    intro c st hst hc hf reach
    rw [setSearchFrom_succ]
    refine wpAny_bind (wpAny_setState_of ho hd R.fits ?_)
    dsimp only
    refine wp_if_neg R.odd ?_
    try refine wpAny_bind (wpAny_pure ?_)
    have js : ∀ q, (nth t.mask (look t (kn.hash k) c) q).j = way t.mask (kn.hash k) (c + q) := fun q => congrArg SetTable.Probe.j (look_add t (kn.hash k) c q)
    have told := go_spec t R.tab.ris R.tab.dm (fun i => (es[i]?.map (·.1)).getD 0) (kn.hash k) (10 * SetTable.turns t.mask) (K - c) _ (nth_clean t.mask c _ rfl) (by omega)
      (fun q hq => by rw [js]; exact hb (c + q) (by omega)) (by rw [js, show c + (K - c) = K by omega]; exact hK)
    rcases told with ⟨q, i, hq, hi, hh, first, pr⟩ | ⟨first, pr⟩
    · have pr2 : t.probe (fun i => (es[i]?.map (·.1)).getD 0) (kn.hash k) (st.getD (t.probeStart (kn.hash k))) = some (.candidate (way t.mask (kn.hash k) (c + q)) i (look t (kn.hash k) (c + (q + 1)))) := by
        rw [hst, ← js, ← look_add]
        exact pr
      rw [pr2]
      dsimp only
      rw [js] at hi
      have il : i < L.length := by
        have z1 := (List.getElem?_eq_some_iff.mp hi).1
        have z2 := R.tab.sz
        rw [List.length_map] at z2
        rw [Array.length_toList] at z1
        omega
      obtain ⟨p, hp⟩ : ∃ p, L[i]? = some p := ⟨_, List.getElem?_eq_getElem il⟩
      have pm : p ∈ L := List.mem_of_getElem? hp
      have on : wpAny (model P w) A (searchRest a (.ref x) (kn.hash k) true f es t (way t.mask (kn.hash k) (c + q)) i (look t (kn.hash k) (c + (q + 1)))) Q E s := by
        unfold searchRest
        rw [rowsG_at R.rows hp]
        dsimp only
        refine wpAny_bind (wpAny_holding (kn.eqBool hu (R.mem p pm) hx ?_))
        refine wpAny_bind (wpAny_setState_of ho hd R.fits ?_)
        dsimp only
        by_cases eq : p.2 = k
        · exact wp_if_pos (by simp [eq]) (wpAny_pure (yes (List.mem_map.mpr ⟨p, pm, eq⟩)))
        · refine wp_if_neg (by simp [eq]) ?_
          try refine wpAny_bind (wpAny_pure ?_)
          rw [sameMem]
          dsimp only
          have live := slot_live R.tab.ris hi
          simp only [if_true, live, rowsG_at R.rows hp]
          refine wpAny_bind (wpAny_isSame_ref_self (wpAny_bind (wpAny_pure ?_)))
          simp only [if_true]
          refine wp_if_neg (by simp [eq]) (ih (c + (q + 1)) _ rfl (by omega) (by omega) fun i2 p2 h2 e2 => ?_)
          obtain ⟨d, d1, d2, d3⟩ := reach i2 p2 h2 e2
          refine ⟨d, ?_, d2, d3⟩
          have ne1 : ¬ d < c + q := fun z => first (d - c) i2 (by omega) (by rw [js, show c + (d - c) = d by omega]; exact d3) ((at' i2 p2 h2).trans (congrArg kn.hash e2))
          have ne2 : d ≠ c + q := fun z => by
            rw [z] at d3
            have s2 := slot_live R.tab.ris d3
            rw [live] at s2
            injection s2 with s2
            rw [← s2, hp] at h2
            exact eq ((congrArg Prod.snd (Option.some.inj h2)).trans e2)
          omega
      by_cases hl : t.led = true
      · refine wp_if_neg (by simp [hl]) ?_
        try refine wpAny_bind (wpAny_pure ?_)
        exact on
      · refine wp_if_pos (by simp [hl]) (wpAny_bind (unseen M hx (fun y hy => ?_) ?_))
        · obtain ⟨e, he, ee⟩ := List.mem_map.mp hy
          have he1 : e ∈ es ∧ e.1 = kn.hash k := by simpa using he
          have he2 : e ∈ es.toList := by simpa using he1.1
          rw [R.rows] at he2
          obtain ⟨p2, m2, e2⟩ := List.mem_map.mp he2
          exact ⟨p2.2, p2.1, by rw [← ee, ← e2], R.mem p2 m2⟩
        · refine wp_if_neg (by decide) ?_
          try refine wpAny_bind (wpAny_pure ?_)
          exact on
    · have pr2 : t.probe (fun i => (es[i]?.map (·.1)).getD 0) (kn.hash k) (st.getD (t.probeStart (kn.hash k))) = some (.empty (way t.mask (kn.hash k) K) none) := by
        have e2 : way t.mask (kn.hash k) K = (nth t.mask (look t (kn.hash k) c) (K - c)).j := by rw [js, show c + (K - c) = K by omega]
        rw [hst, e2]
        exact pr
      rw [pr2]
      dsimp only
      refine wpAny_pure (no fun hm => ?_)
      obtain ⟨p2, h2, e2⟩ := List.mem_map.mp hm
      obtain ⟨i2, l2, g2⟩ := List.getElem_of_mem h2
      have h3 : L[i2]? = some p2 := by rw [List.getElem?_eq_getElem l2, g2]
      obtain ⟨d, d1, d2, d3⟩ := reach i2 p2 h3 e2
      exact first (d - c) i2 (by omega) (by rw [js, show c + (d - c) = d by omega]; exact d3) ((at' i2 p2 h3).trans (congrArg kn.hash e2))
theorem seekG (M : Meek kn) (R : RepG kn s.heap a L es ep t) {x : Addr} {k : κ} (hx : kn.is s.heap k x) (hu : kn.room A) {Q : SetFound → Shared → Prop} (yes : k ∈ L.map (·.2) → Q (.there none) s)
    (no : ∀ K, k ∉ L.map (·.2) → way t.mask (kn.hash k) K ∉ t.place.toList → (∀ c, c < K → way t.mask (kn.hash k) c ∈ t.place.toList) → Q (.free (way t.mask (kn.hash k) K) false) s) : wpAny (model P w) A (setSearch a (.ref x) (kn.hash k) true) Q E s := by
  have big := R.room
  obtain ⟨K, kf, hK, hb⟩ := R.tab.first (by rw [List.length_map]; omega) (kn.hash k)
  have lim : K < 100000 := by
    have : 10 * SetTable.turns t.mask ≤ 1420 := by
      unfold SetTable.turns
      rcases R.tab.mok with e | e | e <;> omega
    omega
  unfold setSearch
  refine findG M R hx hu kf hK hb yes (fun hn => no K hn hK hb) 100000 0 none rfl (Nat.zero_le _) (by omega) fun i p hp e => ?_
  have il : i < t.place.toList.length := by
    have z1 := (List.getElem?_eq_some_iff.mp hp).1
    have z2 := R.tab.sz
    rw [List.length_map] at z2
    rw [Array.length_toList]
    omega
  have pl := List.getElem?_eq_getElem il
  obtain ⟨d, d1, d2⟩ := R.tab.before hK (show (L.map fun p => kn.hash p.2)[i]? = some (kn.hash k) by rw [List.getElem?_map, hp, ← e] <;> rfl) pl
  exact ⟨d, Nat.zero_le _, d1, by rw [pl, d2]⟩
theorem insert_perm {α : Type} (L : List α) (p : Nat) (x : α) : (L.take p ++ x :: L.drop p).Perm (x :: L) := by
  have := List.perm_middle (a := x) (l₁ := L.take p) (l₂ := L.drop p)
  rwa [List.take_append_drop] at this
/-- another object than the set stays a key -/
theorem Meek.past (M : Meek kn) {h h' : Heap} {k : κ} {b : Addr} {o : Obj} (hb : kn.is h k b) (ho : h.get? a = some o) (hd : o.data = .set es ep t) (sb : Heap.SameBut a h h') : kn.is h' k b :=
  M.st.stays (fun c u vs n hc hs => by
    have ne : c ≠ a := fun z => by
      subst z
      obtain rfl : u = o := Option.some.inj (hc.symm.trans ho)
      rw [hd] at hs
      exact nomatch hs
    exact (sb.2 c ne).trans hc) hb
theorem Meek.later (M : Meek kn) {h h' : Heap} {k : κ} {b : Addr} (hb : kn.is h k b) (up : ∀ c o, h.get? c = some o → h'.get? c = some o) : kn.is h' k b := M.st.stays (fun c u _ _ hc _ => up c u hc) hb
/-- rows taken in another order -/
theorem turned {order : Array Nat} (hr : es.toList = rowsG kn L) (hp : order.toList.Perm (List.range L.length)) :
    ∃ L2, (order.filterMap (es[·]?)).toList = rowsG kn L2 ∧ L2.Perm L ∧ (L2.map fun p => kn.hash p.2) = order.toList.map fun i => (es.map (·.1)).getD i 0 := by
  have sz := rowsG_len hr
  have all : ∀ l : List Nat, (∀ i ∈ l, i < L.length) → l.filterMap (fun i => es[i]?) = rowsG kn (l.filterMap fun i => L[i]?) ∧ ((l.filterMap fun i => L[i]?).map fun p => kn.hash p.2) = l.map fun i => (es.map (·.1)).getD i 0 := by
    intro l
    induction l with
    | nil => exact fun _ => ⟨rfl, rfl⟩
    | cons i l ih =>
      intro hl
      have hi := hl i List.mem_cons_self
      obtain ⟨e1, e2⟩ := ih fun j hj => hl j (List.mem_cons_of_mem _ hj)
      have g1 := List.getElem?_eq_getElem hi
      have g2 := rowsG_at hr g1
      have g3 : (es.map (·.1)).getD i 0 = kn.hash (L[i]).2 := by
        have : (es.map (·.1))[i]? = some (kn.hash (L[i]).2) := by rw [Array.getElem?_map, g2] <;> rfl
        simp [Array.getD_eq_getD_getElem?, this]
      rw [List.filterMap_cons_some g2, List.filterMap_cons_some g1, e1, List.map_cons, e2, List.map_cons, g3]
      exact ⟨rfl, rfl⟩
  obtain ⟨e1, e2⟩ := all order.toList fun i hi => List.mem_range.mp (hp.mem_iff.mp hi)
  refine ⟨_, by first | (rw [Array.toList_filterMap]; exact e1) | simpa using e1, ?_, e2⟩
  have e3 : ∀ n, n ≤ L.length → (List.range n).filterMap (fun i => L[i]?) = L.take n := by
    intro n
    induction n with
    | zero => exact fun _ => rfl
    | succ n ih =>
      intro hn
      rw [List.range_succ, List.filterMap_append, ih (Nat.le_of_lt hn), List.take_succ, List.getElem?_eq_getElem hn, List.filterMap_cons_some (List.getElem?_eq_getElem hn)] <;> rfl
  have e4 := e3 L.length (Nat.le_refl _)
  rw [List.take_length] at e4
  have := hp.filterMap fun i => L[i]?
  rwa [e4] at this
/-- the table is laid anew -/
theorem relayG (M : Meek kn) {o : Obj} (ho : s.heap.get? a = some o) (hex : o.ExactSet) (hd : o.data = .set es ep t) (hr : es.toList = rowsG kn L) (hsz : t.place.size = es.size) (hdm : t.dummies = #[]) (hfl : es.size ≤ t.mask)
    (nd : (L.map (·.2)).Nodup) (mem : ∀ p ∈ L, kn.is s.heap p.2 p.1) (ld : w.params.followText "set-order" = true ∨ t.led = true) (few : L.length < 64) {wanted m : Nat}
    (hw : SetTable.sizeAbove wanted - 1 = m) (hm : MaskOk m) (hw2 : SetTable.sizeAbove wanted ≤ 128) (room : L.length * 5 < m * 3) {Q : Unit → Shared → Prop}
    (q : ∀ h' L' es' ep' t', Heap.SameBut a s.heap h' → RepG kn h' a L' es' ep' t' → L'.Perm L → Q () { s with heap := h' }) : wpAny (model P w) A (setRelay a wanted) Q E s := by
  have sz := rowsG_len hr
  have fits : t.fits es.size = true := by
    unfold SetTable.fits SetTable.fill
    rw [hdm, Bool.and_eq_true, beq_iff_eq, decide_eq_true_eq]
    refine ⟨hsz, ?_⟩
    show t.place.size + 0 ≤ t.mask
    omega
  obtain ⟨t', order, e, hp, T, em, el, _, _⟩ := relaid_ok t (hs := es.map (·.1)) (wanted := wanted) hw hm (by rw [Array.size_map, sz]; omega)
  rw [Array.size_map, sz] at hp
  obtain ⟨L2, r1, r2, r3⟩ := turned hr hp
  rw [← r3] at T
  have sz2 := (rowsG_len r1).trans (r2.length_eq.trans sz.symm)
  rw [setRelay_eq]
  refine wpAny_bind (wpAny_setState_of ho hd fits ?_)
  dsimp only
  refine wp_if_neg (by rw [sizeLine_eq]; omega) ?_
  try refine wpAny_bind (wpAny_pure ?_)
  rw [e]
  dsimp only
  refine wpAny_bind (wp_if_neg (by rw [sz2]; simp) ?_)
  try refine wpAny_bind (wpAny_pure ?_)
  refine wpAny_pure ?_
  dsimp only
  refine wpAny_storeSet_of ho hd ?_ (by rw [sz2, sz, sizeLine_eq]; omega)
  have sb : Heap.SameBut a s.heap (s.heap.update a (Obj.putSet (order.filterMap (es[·]?)) t')) := Heap.SameBut.update ..
  exact q _ L2 _ (ep + 1) t' sb ⟨⟨_, store_at ho hd, ⟨hex.1, hex.2.1, hex.2.2⟩, rfl⟩, r1, T, (r2.map (·.2)).nodup_iff.mpr nd, fun p hpm => M.past (mem p (r2.mem_iff.mp hpm)) ho hd sb, by rw [el]; exact ld, by rw [r2.length_eq, em]; exact room, by rw [r2.length_eq]; exact few⟩ r2
/-- a member more -/
theorem addG (M : Meek kn) (R : RepG kn s.heap a L es ep t) {x : Addr} {k : κ} (hx : kn.is s.heap k x) (hu : kn.room A) (few : L.length + 1 < 64) {Q : Bool → Shared → Prop}
    (q : ∀ b h' L' es' ep' t', Heap.SameBut a s.heap h' → RepG kn h' a L' es' ep' t' → (k ∈ L.map (·.2) → L' = L) → (k ∉ L.map (·.2) → L'.Perm ((x, k) :: L)) → Q b { s with heap := h' }) :
    wpAny (model P w) A (setAddHashed a (.ref x) (kn.hash k)) Q E s := by
  obtain ⟨o, ho, hex, hd⟩ := R.ob
  have sz := rowsG_len R.rows
  have room := R.room
  unfold setAddHashed
  refine wpAny_holding ?_
  rw [show (100000 : Nat) = 99999 + 1 from rfl, setAddHashedIn_succ]
  refine wpAny_bind (wpAny_setState_of ho hd R.fits ?_)
  dsimp only
  refine wp_if_neg (by simp [byScan, Value.scannable]) ?_
  try refine wpAny_bind (wpAny_pure ?_)
  refine wpAny_bind (seekG M R hx hu (fun hm => ?_) fun K hm hK hb => ?_)
  · dsimp only
    exact wpAny_pure (q false s.heap L es ep t (Heap.SameBut.refl a s.heap) R (fun _ => rfl) fun z => absurd hm z)
  dsimp only
  refine wpAny_bind (wpAny_setState_of ho hd R.fits ?_)
  dsimp only
  obtain ⟨q1, q2, q3, q4, q5, q6, q7, q8, q9⟩ := R.tab.put hK hb
  generalize hpt : t.put (way t.mask (kn.hash k) K) = pt at q1 q3 q4 q5 q6 q7 q8 q9 ⊢
  obtain ⟨t1, p⟩ := pt
  dsimp only at q1 q3 q4 q5 q6 q7 q8 q9 ⊢
  subst q1
  -- whatever is told of the hash, the table's places are those
  have go : ∀ t2 : SetTable, t2.place = t1.place → t2.dummies = t1.dummies → t2.mask = t1.mask → t2.led = t1.led → t2.moves = t1.moves → t2.tooFull = t1.tooFull → TabOk t2 ((L.map fun p => kn.hash p.2).take (SetTable.below t.place (way t.mask (kn.hash k) K)) ++ kn.hash k :: (L.map fun p => kn.hash p.2).drop (SetTable.below t.place (way t.mask (kn.hash k) K))) →
      wpAny (model P w) A (do
        storeSet a (SetTable.insertAt es (SetTable.below t.place (way t.mask (kn.hash k) K)) (kn.hash k, .ref x)) t2
        if !false && t2.tooFull then setRelay a (SetTable.grown (es.size + 1))
        return true) Q E s := by
    intro t2 p1 p2 p3 p4 p5 p6 T2
    have rows1 : (SetTable.insertAt es (SetTable.below t.place (way t.mask (kn.hash k) K)) (kn.hash k, Value.ref x)).toList = rowsG kn (L.take (SetTable.below t.place (way t.mask (kn.hash k) K)) ++ (x, k) :: L.drop (SetTable.below t.place (way t.mask (kn.hash k) K))) := by
      rw [SetTable.toList_insertAt, R.rows]
      unfold rowsG
      rw [List.map_append, List.map_cons, List.map_take, List.map_drop]
    have hs1 : (L.take (SetTable.below t.place (way t.mask (kn.hash k) K)) ++ (x, k) :: L.drop (SetTable.below t.place (way t.mask (kn.hash k) K))).map (fun p => kn.hash p.2) = (L.map fun p => kn.hash p.2).take (SetTable.below t.place (way t.mask (kn.hash k) K)) ++ kn.hash k :: (L.map fun p => kn.hash p.2).drop (SetTable.below t.place (way t.mask (kn.hash k) K)) := by
      rw [List.map_append, List.map_cons, List.map_take, List.map_drop]
    rw [← hs1] at T2
    have pm := insert_perm L (SetTable.below t.place (way t.mask (kn.hash k) K)) (x, k)
    generalize SetTable.insertAt es (SetTable.below t.place (way t.mask (kn.hash k) K)) (kn.hash k, Value.ref x) = es1 at rows1 ⊢
    generalize L.take (SetTable.below t.place (way t.mask (kn.hash k) K)) ++ (x, k) :: L.drop (SetTable.below t.place (way t.mask (kn.hash k) K)) = L1 at pm rows1 T2
    have len1 : L1.length = L.length + 1 := pm.length_eq
    have nd1 : (L1.map (·.2)).Nodup := by
      refine (pm.map (·.2)).nodup_iff.mpr ?_
      rw [List.map_cons]
      exact List.nodup_cons.mpr ⟨hm, R.nd⟩
    have sz1 : es1.size = L.length + 1 := (rowsG_len rows1).trans len1
    refine wpAny_bind (wpAny_storeSet_of ho hd ?_ (by rw [sz1, sizeLine_eq]; omega))
    have sb : Heap.SameBut a s.heap (s.heap.update a (Obj.putSet es1 t2)) := Heap.SameBut.update ..
    have ho1 := store_at (es' := es1) (t' := t2) ho hd
    generalize s.heap.update a (Obj.putSet es1 t2) = h1 at sb ho1 ⊢
    have mem1 : ∀ p ∈ L1, kn.is h1 p.2 p.1 := fun p hp => by
      rcases List.mem_cons.mp (pm.mem_iff.mp hp) with e | hp
      · rw [e]; exact M.past hx ho hd sb
      · exact M.past (R.mem p hp) ho hd sb
    have ld1 : w.params.followText "set-order" = true ∨ t2.led = true := by rw [p4, q5]; exact R.led
    by_cases hf : t1.tooFull = true
    · have full : (L.length + 1) * 5 ≥ t1.mask * 3 := by
        have z := hf
        unfold SetTable.tooFull at z
        rwa [decide_eq_true_eq, q9, List.length_map] at z
      have two : (t.mask = 7 ∧ L.length = 4) ∨ (t.mask = 31 ∧ L.length = 18) := by
        rcases R.tab.mok with e | e | e
        · left; rw [q4, e] at full; rw [e] at room; exact ⟨e, by omega⟩
        · right; rw [q4, e] at full; rw [e] at room; exact ⟨e, by omega⟩
        · exfalso; rw [q4, e] at full; omega
      have place1 : t2.place.size = es1.size := by
        have z := T2.sz
        rw [List.length_map, len1] at z
        rw [z, sz1]
      have lay : ∀ m, SetTable.sizeAbove (SetTable.grown (L.length + 1)) - 1 = m → MaskOk m → SetTable.sizeAbove (SetTable.grown (L.length + 1)) ≤ 128 → (L.length + 1) * 5 < m * 3 →
          wpAny (model P w) A (setRelay a (SetTable.grown (L.length + 1))) (fun _ s' => wpAny (model P w) A (pure true) Q E s') E { s with heap := h1 } := fun m z1 z2 z3 z4 =>
        relayG M (s := { s with heap := h1 }) ho1 ⟨hex.1, hex.2.1, hex.2.2⟩ rfl rows1 place1 T2.dm (by rw [sz1, p3, q4]; rcases two with ⟨e, e2⟩ | ⟨e, e2⟩ <;> omega) nd1 mem1 ld1 (by rw [len1]; exact few) z1 z2 z3 (by rw [len1]; exact z4)
          fun h2 L2 es2 ep2 t3 sb2 R2 pm2 => wpAny_pure (q true h2 L2 es2 ep2 t3 (sb.trans sb2) R2 (fun z => absurd z hm) fun _ => pm2.trans pm)
      have c1 : (!false && t2.tooFull) = true := by rw [p6, hf]; rfl
      rw [sz]
      first
        | (refine wpAny_bind ?_; refine wp_if_pos c1 ?_)
        | (refine wp_if_pos c1 ?_; refine wpAny_bind ?_)
      rcases two with ⟨_, e2⟩ | ⟨_, e2⟩
      · exact lay 31 (by rw [e2, size_20]) (.inr (.inl rfl)) (by rw [e2, size_20]; decide) (by omega)
      · exact lay 127 (by rw [e2, size_76]) (.inr (.inr rfl)) (by rw [e2, size_76]; decide) (by omega)
    · have c1 : ¬ (!false && t2.tooFull) = true := by rw [p6]; simp [hf]
      have room1 : (L.length + 1) * 5 < t2.mask * 3 := by
        have z := hf
        unfold SetTable.tooFull at z
        rw [decide_eq_true_eq, q9, List.length_map] at z
        rw [p3]
        omega
      first
        | refine wp_if_neg c1 ?_
        | (refine wpAny_bind ?_; refine wp_if_neg c1 ?_; refine wpAny_pure ?_)
      exact wpAny_pure (q true h1 L1 es1 (ep + 1) t2 sb ⟨⟨_, ho1, ⟨hex.1, hex.2.1, hex.2.2⟩, rfl⟩, rows1, T2, nd1, mem1, ld1, by rw [len1]; exact room1, by rw [len1]; exact few⟩ (fun z => absurd z hm) fun _ => pm)
  have T1 := q3
  have plainless : TabOk { t1 with plain := false } _ := ⟨T1.ris, T1.dm, T1.sz, T1.mok, T1.bd, T1.reach⟩
  have go1 := go t1 rfl rfl rfl rfl rfl rfl T1
  have go2 := go { t1 with plain := false } rfl rfl rfl rfl rfl rfl plainless
  by_cases hp : t1.plain = true
  · first
      | (refine wpAny_bind ?_; refine wp_if_pos hp ?_; refine M.byv hx fun z => ?_)
      | refine wp_if_pos hp (wpAny_bind (M.byv hx fun z => ?_))
    cases z with
    | true => exact go1
    | false => exact go2
  · first
      | (refine wpAny_bind ?_; refine wp_if_neg hp ?_; refine wpAny_pure ?_; exact go1)
      | (refine wp_if_neg hp ?_; refine wpAny_bind (wpAny_pure ?_); exact go1)
end
end DL

namespace DL
open PySem PySem.Spec L2 PyProof.Rows

abbrev walkerT (l : Addr) : Obj := { cls := .type "tuple_iterator", data := .fields #[.ref l, .int 0 0] }
section
variable {P : Program} {w : World} {A : Around} {E : Value → Shared → Prop} {s : Shared}
theorem set_of_tuple {l : Addr} {items : Array Value} {Q : Value → Shared → Prop} {Z : Shared → Prop} (hh : A.handled = none) (hl : s.heap.IsTuple l items)
    (fill : ∀ (A' : Around) (R : Result → Shared → Prop), A'.in1.handled = none → A'.in1.units ≤ A.units + 3 → (∀ s', Moved [s.heap.objs.size, s.heap.objs.size + 1] (fun g g' => g' = g) { s with heap := (s.heap.push (seed w)).push (walkerT l) } s' → Z s' → R (.ok (.ret .none)) s') →
      codeAny (model P w) A' (.builtin "set.update.loop" ⟨[.ref s.heap.objs.size, .ref (s.heap.objs.size + 1)], []⟩) R { s with heap := (s.heap.push (seed w)).push (walkerT l) })
    (done : ∀ (h' : Heap) (tk : Nat), Z { s with heap := h', toks := tk } → (∀ b o, s.heap.get? b = some o → h'.get? b = some o) → Q (.ref s.heap.objs.size) { s with heap := h', toks := tk }) :
    wpAny (model P w) A (call (.type "set") [.ref l]) Q E s := by
  obtain ⟨c, tl, hmro⟩ := F.called_set.mro
  have made := F.called_set.made
  have subs := F.called_set.sub
  refine wpAny_call (codeAny_of_tree ?_)
  show wpAny _ _ (callAny (.type "set") _) _ _ _
  refine wpAny_pure ⟨Code.quiet_builtin _ (by decide +kernel), codeAny_builtin F.entry_type_call ?_⟩
  rw [Around.under_plain (weight_type_call_type "set" [.ref l] []) rfl]
  have g1 := F.called_set.notType
  have g2 := F.called_set.canCreate
  have g3 := F.typeCall_set_1 (.ref l)
  repeat (any_goals (first | assumption | wp_step))
  refine codeAny_mono (code_set_led1 (.ref l) (E := E) (Q₁ := fun obj s₁ => obj = .ref s.heap.objs.size ∧ s₁ = { s with heap := s.heap.push (seed w) }) ⟨rfl, rfl⟩) fun r s₁ hr => ?_
  cases r with
  | error e => exact hr
  | ok fl =>
    cases fl with
    | ret obj =>
      obtain ⟨rfl, rfl⟩ := hr
      have here : (s.heap.push (seed w)).get? s.heap.objs.size = some (seed w) := Heap.get?_push_size _ rfl
      have ty : Shared.TypeIs { s with heap := s.heap.push (seed w) } (.ref s.heap.objs.size) "set" := ⟨_, here, rfl⟩
      have g4 := F.called_set.init.lookup
      have g5 := F.called_set.init.bind (.ref s.heap.objs.size)
      repeat (any_goals (first | assumption | wp_step))
      refine codeAny_mono (codeAny_call_builtin (R := wants (fun r s₂ => r = .none ∧ ∃ h' tk, s₂ = { s with heap := h', toks := tk } ∧ Z s₂ ∧ (∀ b o, s.heap.get? b = some o → h'.get? b = some o)) E) F.called_set.init.plain F.entry_set_init (check_set_init_1 ty ?_)) fun r₂ s₂ hr₂ => ?_
      · obtain ⟨ol, hol, hcl, nl, hdl⟩ := hl
        obtain ⟨ocls, odict, odata, oslots⟩ := ol
        simp only at hcl hdl
        subst hcl; subst hdl
        have there : (s.heap.push (seed w)).get? l = some { cls := .type "tuple", dict := odict, data := .seq items nl, slots := oslots } := Heap.get?_push_of_some _ hol
        have g6 := F.sub_tuple_set
        have g7 := F.sub_tuple_frozenset
        have g8 : (Value.type "tuple" == Value.type "dict") = false := by decide
        have isl : (s.heap.push (seed w)).IsTuple l items := ⟨_, there, rfl, nl, rfl⟩
        have sz1 : (s.heap.push (seed w)).objs.size = s.heap.objs.size + 1 := Heap.size_push ..
        unfold Builtin.«set.__init__» noKeywords Builtin.Frozenset.updateFrom
        generalize hPI : pyIter = PI
        wp_walk
        subst hPI
        refine wpAny_pyIter_tuple isl ?_
        refine wpAny_bind (wpAny_runValue ?_)
        show codeAny _ _ (.builtin "set.update.loop" ⟨[_, .ref (s.heap.push (seed w)).objs.size], []⟩) _ _
        rw [sz1]
        refine fill _ _ (by simp [hh]) (by first | exact Nat.le_refl _ | (simp [Around.in1]) ) fun s' hm hz => ?_
        obtain ⟨h', g2, d', tk', os'⟩ := s'
        have eg : g2 = s.gens := hm.gens
        have ed : d' = s.drawn := hm.drawn
        have eo : os' = s.os := hm.os
        subst eg; subst ed; subst eo
        show wpAny _ _ _ _ _ _
        refine wpAny_pure ?_
        show wpAny _ _ (PySem.ret Value.none) _ _ _
        refine wpAny_pure ⟨rfl, h', tk', rfl, hz, fun b o e => ?_⟩
        have b0 : b < s.heap.objs.size := Heap.lt_size e
        have b1 : b ≠ s.heap.objs.size := Nat.ne_of_lt b0
        have b2 : b ≠ s.heap.objs.size + 1 := Nat.ne_of_lt (Nat.lt_succ_of_lt b0)
        exact hm.heap b o (by simp only [List.mem_cons, List.mem_singleton, List.not_mem_nil, or_false, not_or]; exact ⟨b1, b2⟩) (Heap.get?_push_of_some _ (Heap.get?_push_of_some _ e))
      · cases r₂ with
        | error e => exact hr₂
        | ok fl₂ =>
          cases fl₂ with
          | ret r =>
            obtain ⟨rfl, h', tk, rfl, hz, keep⟩ := hr₂
            repeat (any_goals (first | assumption | wp_step))
            exact done _ _ hz keep
          | _ => exact hr₂.elim
    | _ => exact hr.elim
end

/-! ### lists without doubles -/
section
variable {α : Type} [DecidableEq α]
def uniq : List α → List α
  | [] => []
  | x :: r => if x ∈ r then uniq r else x :: uniq r
theorem mem_uniq {z : α} : ∀ {l : List α}, z ∈ uniq l ↔ z ∈ l
  | [] => Iff.rfl
  | x :: r => by
    unfold uniq
    split
    · rename_i h
      rw [mem_uniq, List.mem_cons]
      exact ⟨.inr, fun q => q.elim (fun e => e ▸ h) id⟩
    · rw [List.mem_cons, mem_uniq, List.mem_cons]
theorem nodup_uniq : ∀ l : List α, (uniq l).Nodup
  | [] => List.nodup_nil
  | x :: r => by
    unfold uniq
    split
    · exact nodup_uniq r
    · rename_i h
      exact List.nodup_cons.mpr ⟨fun q => h (mem_uniq.mp q), nodup_uniq r⟩
theorem uniq_len : ∀ l : List α, (uniq l).length ≤ l.length
  | [] => Nat.le_refl _
  | x :: r => by
    have := uniq_len r
    unfold uniq
    split
    · rw [List.length_cons]; omega
    · rw [List.length_cons, List.length_cons]; omega
theorem uniq_eq_len : ∀ {l : List α}, (uniq l).length = l.length ↔ l.Nodup
  | [] => by simp [uniq]
  | x :: r => by
    have h1 := uniq_len r
    have h2 := uniq_eq_len (l := r)
    unfold uniq
    split
    · rename_i h
      refine ⟨fun e => ?_, fun e => absurd h (List.nodup_cons.mp e).1⟩
      rw [List.length_cons] at e
      omega
    · rename_i h
      rw [List.length_cons, List.length_cons, List.nodup_cons]
      exact ⟨fun e => ⟨h, h2.mp (by omega)⟩, fun e => by rw [h2.mpr e.2]⟩
theorem nodup_le : ∀ {l m : List α}, l.Nodup → (∀ z ∈ l, z ∈ m) → l.length ≤ m.length
  | [], _, _, _ => Nat.zero_le _
  | x :: l, m, h, k => by
    obtain ⟨h1, h2⟩ := List.nodup_cons.mp h
    have hx := k x List.mem_cons_self
    have ih := nodup_le (m := m.erase x) h2 fun z hz => (List.mem_erase_of_ne fun e => h1 (by rw [← e]; exact hz)).mpr (k z (List.mem_cons_of_mem _ hz))
    have hl := List.length_erase_of_mem hx
    have := List.length_pos_of_mem hx
    rw [List.length_cons]
    omega
theorem nodup_len {l m : List α} (h : l.Nodup) (k : ∀ z, z ∈ l ↔ z ∈ m) : l.length = (uniq m).length :=
  Nat.le_antisymm (nodup_le h fun z hz => mem_uniq.mpr ((k z).mp hz)) (nodup_le (nodup_uniq m) fun z hz => (k z).mpr (mem_uniq.mp hz))
end

/-! ### set(a tuple of keys) -/
section
variable {P : Program} {w : World} {κ : Type} [DecidableEq κ] {kn : HeapKind P w κ} {A : Around} {E : Value → Shared → Prop} {s : Shared}
theorem repG_new {h : Heap} {a : Addr} (ho : h.get? a = some (seed w)) : RepG kn h a [] #[] 0 (.fresh 0 0 (!w.params.followText "set-order")) where
  ob := ⟨_, ho, ⟨rfl, rfl, rfl⟩, rfl⟩
  rows := rfl
  tab := ⟨List.Pairwise.nil, rfl, rfl, .inl rfl, fun x hx => by simp [SetTable.fresh] at hx, fun i h j hi _ => by simp at hi⟩
  nd := List.nodup_nil
  mem := fun p hp => by cases hp
  led := by
    show _ ∨ (!w.params.followText "set-order") = true
    cases w.params.followText "set-order"
    · exact .inr rfl
    · exact .inl rfl
  room := by
    show 0 * 5 < 7 * 3
    decide
  few := by
    show 0 < 64
    decide
/-- what the set has of the first i keys -/
structure Part (ks L : List (Addr × κ)) (i : Nat) : Prop where
  sub : ∀ p ∈ L, p ∈ ks.take i
  all : ∀ p ∈ ks.take i, p.2 ∈ L.map (·.2)
theorem fillG (M : Meek kn) {I : Addr} {fp wr : List Addr} {G : Array GenState → Array GenState → Prop} {n : Nat} {Pv : Nat → Value → Prop} {St : Nat → Shared → Prop} {R : Result → Shared → Prop}
    (W : WalksS P w A.in1 I fp wr G n Pv St) (S : Addr) (out : S ∉ fp) (ks : List (Addr × κ)) (hn : n = ks.length) (few : ks.length < 64) (val : ∀ i v, Pv i v → ∃ p, ks[i]? = some p ∧ v = .ref p.1)
    (h0 : Heap) (hk : ∀ p ∈ ks, kn.is h0 p.2 p.1) (S0 : h0.get? S = none) (w0 : ∀ b ∈ wr, h0.get? b = none) (hu : kn.room A.in1) :
    ∀ (m i : Nat) (s : Shared), n - i = m → i ≤ n → St i s → (∀ b o, h0.get? b = some o → s.heap.get? b = some o) → (∃ L es ep t, RepG kn s.heap S L es ep t ∧ Part ks L i) →
      (∀ s' L es ep t, Moved (S :: wr) G s s' → RepG kn s'.heap S L es ep t → Part ks L n → (∀ b o, h0.get? b = some o → s'.heap.get? b = some o) → R (.ok (.ret .none)) s') →
      codeAny (model P w) A (.builtin "set.update.loop" ⟨[.ref S, .ref I], []⟩) R s := by
  have outW : S ∉ wr := fun h => out (W.sub _ h)
  have more : ∀ b ∈ wr, b ∈ S :: wr := fun b hb => List.mem_cons_of_mem _ hb
  have past : ∀ {s s' : Shared}, Moved wr G s s' → (∀ b o, h0.get? b = some o → s.heap.get? b = some o) → ∀ b o, h0.get? b = some o → s'.heap.get? b = some o := fun hm up b o e =>
    hm.heap b o (fun hb => by rw [w0 b hb] at e; cases e) (up b o e)
  have same : ∀ {s' : Shared} {s : Shared} {L : List (Addr × κ)} {es : Array (Int × Value)} {ep : Nat} {t : SetTable} {i : Nat}, Moved wr G s s' → (∀ b o, h0.get? b = some o → s'.heap.get? b = some o) → RepG kn s.heap S L es ep t → Part ks L i → RepG kn s'.heap S L es ep t := fun hm up r g => by
    obtain ⟨o, ho, q⟩ := r.ob
    exact ⟨⟨o, hm.heap S o outW ho, q⟩, r.rows, r.tab, r.nd, fun p hp => M.later (hk p (List.mem_of_mem_take (g.sub p hp))) up, r.led, r.room, r.few⟩
  intro m
  induction m with
  | zero =>
    intro i s hm' hi hst up ⟨L, es, ep, t, r, g⟩ fin
    have e : i = n := by omega
    subst e
    refine codeAny_builtin F.entry_set_update_loop ?_
    rw [Around.under_plainId F.plain_set_update_loop _]
    show wpAny _ A.in1 (pyNext (.ref I) >>= _) _ _ s
    refine wpAny_bind (W.done s _ _ hst fun s' hm => ?_)
    show wpAny _ A.in1 (PySem.ret Value.none) _ _ s'
    exact wpAny_pure (fin s' L es ep t (hm.mono more) (same hm (past hm up) r g) g (past hm up))
  | succ m ih =>
    intro i s hm' hi hst up ⟨L, es, ep, t, r, g⟩ fin
    have lt : i < n := by omega
    refine codeAny_builtin F.entry_set_update_loop ?_
    rw [Around.under_plainId F.plain_set_update_loop _]
    show wpAny _ A.in1 (pyNext (.ref I) >>= _) _ _ s
    refine wpAny_bind (W.item i s _ _ lt hst fun v s' hP hst' hm => ?_)
    obtain ⟨p, hp, rfl⟩ := val i v hP
    have up' := past hm up
    have r' := same hm up' r g
    have hx : kn.is s'.heap p.2 p.1 := M.later (hk p (List.mem_of_getElem? hp)) up'
    show wpAny _ A.in1 (holding [Value.ref p.1] (setAdd S (.ref p.1)) >>= _) _ _ s'
    refine wpAny_bind (wpAny_holding ?_)
    unfold setAdd
    refine wpAny_holding (wpAny_bind (kn.pyHash hu hx ?_))
    have hl : L.length ≤ i := by
      have h1 := nodup_le (m := (ks.take i).map (·.2)) r.nd fun z hz => by
        obtain ⟨p2, h2, e2⟩ := List.mem_map.mp hz
        exact List.mem_map.mpr ⟨p2, g.sub p2 h2, e2⟩
      rw [List.length_map, List.length_map, List.length_take] at h1
      omega
    refine addG M (s := { s' with toks := s'.toks + kn.draws p.2 }) r' hx hu (by omega) fun b h' L' es' ep' t' sb r2 c1 c2 => ?_
    have tk : ks.take (i + 1) = ks.take i ++ [p] := by rw [List.take_succ, hp] <;> rfl
    have g' : Part ks L' (i + 1) := by
      rcases Classical.em (p.2 ∈ L.map (·.2)) with c | c
      · rw [c1 c]
        refine ⟨fun q hq => by rw [tk]; exact List.mem_append_left _ (g.sub q hq), fun q hq => ?_⟩
        rw [tk] at hq
        rcases List.mem_append.mp hq with z | z
        · exact g.all q z
        · rw [List.mem_singleton.mp z]; exact c
      · have pm := c2 c
        refine ⟨fun q hq => ?_, fun q hq => ?_⟩
        · rw [tk]
          rcases List.mem_cons.mp (pm.mem_iff.mp hq) with e | z
          · rw [e]; exact List.mem_append_right _ (List.mem_singleton.mpr rfl)
          · exact List.mem_append_left _ (g.sub q z)
        · rw [(pm.map (·.2)).mem_iff, List.map_cons]
          rw [tk] at hq
          rcases List.mem_append.mp hq with z | z
          · exact List.mem_cons_of_mem _ (g.all q z)
          · rw [List.mem_singleton.mp z]; exact List.mem_cons_self
    have up2 : ∀ b o, h0.get? b = some o → h'.get? b = some o := fun b o e => (sb.2 b (fun z => by rw [z, S0] at e; cases e)).trans (up' b o e)
    refine wpAny_pure ⟨plainId_quiet F.plain_set_update_loop _, ih (i + 1) _ (by omega) lt (W.frame _ s' _ _ hst' (Nat.le_add_right _ _) fun b hb o e => ?_) up2 ⟨L', es', ep', t', r2, g'⟩ fun s'' L2 es2 ep2 t2 hm2 r3 g2 up3 => ?_⟩
    · rw [sb.2 b (fun h : b = S => out (by rw [← h]; exact hb))]; exact e
    · refine fin s'' L2 es2 ep2 t2 (Moved.trans W.gtrans ((hm.mono more).then_heap (Nat.le_add_right _ _) fun b o hb e => ?_) hm2) r3 g2 up3
      rw [sb.2 b (fun h : b = S => hb (by rw [h]; exact List.mem_cons_self))]; exact e
/-- set(a tuple of keys): its members -/
theorem set_of_keys (M : Meek kn) {l : Addr} {items : Array Value} (ks : List (Addr × κ)) {Q : Value → Shared → Prop} (hh : A.handled = none) (hl : s.heap.IsTuple l items) (hit : items.toList = ks.map fun p => Value.ref p.1) (hk : ∀ p ∈ ks, kn.is s.heap p.2 p.1) (few : ks.length < 64)
    (hu : ∀ A' : Around, A'.units ≤ A.units + 4 → kn.room A')
    (h : ∀ (h' : Heap) (tk : Nat) L es ep t, RepG kn h' s.heap.objs.size L es ep t → Part ks L ks.length → (∀ b o, s.heap.get? b = some o → h'.get? b = some o) → Q (.ref s.heap.objs.size) { s with heap := h', toks := tk }) :
    wpAny (model P w) A (call (.type "set") [.ref l]) Q E s := by
  have isz : items.size = ks.length := by
    have q := congrArg List.length hit
    rwa [Array.length_toList, List.length_map] at q
  have hl0 := hl
  obtain ⟨ol, hol, _⟩ := hl0
  have lt : l < s.heap.objs.size := Heap.lt_size hol
  have sz1 : (s.heap.push (seed w)).objs.size = s.heap.objs.size + 1 := Heap.size_push ..
  refine set_of_tuple (Z := fun s' => ∃ L es ep t, RepG kn s'.heap s.heap.objs.size L es ep t ∧ Part ks L ks.length) hh hl (fun A' R hh' hA hR => ?_) fun h' tk ⟨L, es, ep, t, r, g⟩ keep => h h' tk L es ep t r g keep
  have ne1 : l ≠ s.heap.objs.size + 1 := Nat.ne_of_lt (Nat.lt_succ_of_lt lt)
  have val : ∀ (i : Nat) (v : Value), items[i]? = some v → ∃ p, ks[i]? = some p ∧ v = .ref p.1 := fun i v hv => by
    have q : items.toList[i]? = some v := by rw [Array.getElem?_toList]; exact hv
    rw [hit, List.getElem?_map] at q
    cases e : ks[i]? with
    | none => rw [e] at q; cases q
    | some p => rw [e] at q; exact ⟨p, rfl, (Option.some.inj q).symm⟩
  have outS : s.heap.objs.size ∉ [s.heap.objs.size + 1, l] := by
    simp only [List.mem_cons, List.mem_singleton, List.not_mem_nil, or_false, not_or]
    exact ⟨Nat.ne_of_lt (Nat.lt_succ_self _), Nat.ne_of_gt lt⟩
  have is2 : ((s.heap.push (seed w)).push (walkerT l)).IsTuple l items := (hl.push _).push _
  have getS : ((s.heap.push (seed w)).push (walkerT l)).get? s.heap.objs.size = some (seed w) := Heap.get?_push_of_some _ (Heap.get?_push_size _ rfl)
  have getI : ((s.heap.push (seed w)).push (walkerT l)).get? (s.heap.objs.size + 1) = some (walkerT l) := by rw [← sz1]; exact Heap.get?_push_size _ rfl
  have absent : ∀ b, s.heap.objs.size ≤ b → s.heap.get? b = none := fun b hb => by
    cases q : s.heap.get? b with
    | none => rfl
    | some o => exact absurd (Nat.lt_of_lt_of_le (Heap.lt_size q) hb) (Nat.lt_irrefl _)
  exact fillG M ((Walks.tuple hh' (s.heap.objs.size + 1) l ne1 items).toS) s.heap.objs.size outS ks isz few val s.heap hk (absent _ (Nat.le_refl _)) (fun b hb => absent b (by rw [List.mem_singleton.mp hb]; exact Nat.le_succ _)) (hu _ (Nat.le_trans hA (by omega))) (items.size - 0) 0 _ (by omega) (Nat.zero_le _)
    ⟨⟨_, getI, rfl, rfl⟩, is2⟩ (fun b o e => Heap.get?_push_of_some _ (Heap.get?_push_of_some _ e)) ⟨[], #[], 0, _, repG_new getS, ⟨fun p hp => (by cases hp), fun p hp => (by simp at hp)⟩⟩ fun s' L es ep t hm r g _ => hR s' hm ⟨L, es, ep, t, r, by rw [← isz]; exact g⟩
end
end DL

namespace DL
open PySem PySem.Spec L2 PyProof.Rows

/-! ### tuples of texts as keys -/
section
variable {P : Program} {w : World} {A : Around} {E : Value → Shared → Prop} {s : Shared}
abbrev kS (P : Program) (w : World) : HeapKind P w (List Str) := tupleKind (PySem.strKind P w)
theorem items_strs {k : List Str} {vs : List Value} (h : ItemsAre (PySem.strKind P w) k vs) : ∀ v ∈ vs, ∃ x t, v = Value.str x t := by
  induction h with
  | nil => intro v hv; cases hv
  | @cons k0 v0 ks vs h1 _ ih =>
    intro v hv
    rcases List.mem_cons.mp hv with e | hv
    · obtain ⟨t, e2⟩ := Value.isStrOf_shape h1
      exact ⟨k0, t, e.trans e2⟩
    · exact ih v hv
theorem ofA_str (n : Nat) (x : Str) (t : Tok) : ofAClassStatement n (.str x t) = pure false := by cases n <;> rfl
theorem byV_str (n : Nat) (x : Str) (t : Tok) : hashByValue n (.str x t) = pure false := by cases n <;> rfl
theorem meekS : Meek (kS P w) where
  st := tupleKind_stays
  cls := fun {A E s k b Q} hk q => by
    have ty : s.TypeIs (.ref b) "tuple" := IsTupleKey.typeIs hk
    obtain ⟨o, items, n, ho, _, hd, hi⟩ := hk
    unfold ofAClassStatement
    refine wpAny_bind (wpAny_typeOf ty ?_)
    dsimp only
    have e : (("tuple" : String) == "tuple") = true := by decide
    simp only [e, if_true, Bool.not_true, Bool.false_eq_true, if_false]
    try refine wpAny_bind (wpAny_pure ?_)
    try simp only [Bool.not_true, Bool.false_eq_true, if_false]
    show wpAny _ _ (seqItems? (.ref b) >>= _) _ _ s
    refine wpAny_bind (wpAny_seqItems ho hd ?_)
    dsimp only
    refine wpAny_bind ?_
    show wpAny _ _ (forIn items _ _) _ _ s
    rw [← Array.forIn_toList]
    refine wpAny_forIn_list _ (fun more r s2 => r.1 = none ∧ s2 = s ∧ ∀ v ∈ more, ∃ x t, v = Value.str x t) _ (fun v more r s2 => ?_) (fun r s2 => ?_) _ _ ⟨rfl, rfl, items_strs hi⟩
    · rintro ⟨hr, e, all⟩
      subst e
      obtain ⟨x, t, rfl⟩ := all v List.mem_cons_self
      rw [ofA_str]
      refine wpAny_bind (wpAny_pure ?_)
      simp only [Bool.false_eq_true, if_false]
      exact wpAny_pure ⟨rfl, rfl, fun u hu => all u (List.mem_cons_of_mem _ hu)⟩
    · obtain ⟨r1, r2⟩ := r
      rintro ⟨hr, e, _⟩
      simp only at hr
      subst hr e
      exact wpAny_pure q
  byv := fun {A E s k b Q} hk q => by
    have ty : s.TypeIs (.ref b) "tuple" := IsTupleKey.typeIs hk
    obtain ⟨o, items, n, ho, _, hd, hi⟩ := hk
    unfold hashByValue
    refine wpAny_bind (wpAny_specialOf ty F.slot_tuple_hash.lookup ?_)
    show wpAny _ _ (seqItems? (.ref b) >>= _) _ _ s
    refine wpAny_bind (wpAny_seqItems ho hd ?_)
    refine wpAny_bind ?_
    show wpAny _ _ (forIn items _ _) _ _ s
    rw [← Array.forIn_toList]
    refine wpAny_forIn_list _ (fun more r s2 => r.1 = none ∧ s2 = s ∧ ∀ v ∈ more, ∃ x t, v = Value.str x t) _ (fun v more r s2 => ?_) (fun r s2 => ?_) _ _ ⟨rfl, rfl, items_strs hi⟩
    · rintro ⟨hr, e, all⟩
      subst e
      obtain ⟨x, t, rfl⟩ := all v List.mem_cons_self
      rw [byV_str]
      refine wpAny_bind (wpAny_pure ?_)
      simp only [Bool.not_false, if_true]
      exact wpAny_pure (wpAny_pure (q _))
    · obtain ⟨r1, r2⟩ := r
      rintro ⟨hr, e, _⟩
      simp only at hr
      subst hr e
      exact wpAny_pure (q _)
end
theorem strs_items {P : Program} {w : World} : ∀ {k : List Str} {us : List Value}, Vals (k.map V.str) us → ItemsAre (PySem.strKind P w) k us
  | [], _, .nil => .nil
  | x :: k, _, .cons r t => by
    obtain ⟨tk, rfl⟩ := r
    exact .cons (by simp [PySem.strKind, Value.isStrOf]) (strs_items t)
theorem refs_vals {κ : Type} : ∀ {ks : List (Addr × κ)} {us : List Value}, Vals (ks.map fun p => V.ref p.1) us → us = ks.map fun p => Value.ref p.1
  | [], _, .nil => rfl
  | p :: ks, _, .cons r t => by
    cases r
    rw [refs_vals t] <;> rfl
/-- a set, of which its size alone is told -/
def SizeO (a : Addr) (n : Nat) : HO := .ext fun h => ∃ o es ep t, h.get? a = some o ∧ o.ExactSet ∧ o.data = .set es ep t ∧ t.fits es.size = true ∧ es.size = n ∧ n < 64
section
variable {X : Cx} {T : Th X.K} {pos : Pos}
theorem isKey {pins : List (Addr × Obj)} {σ : L2.St} {H : Hp} {s : Shared} {b : Addr} {k : List Str} (I : L2.Inv X pins σ H s) (h : SqT X.K H b (k.map V.str)) : (kS X.prog X.w).is s.heap k b := by
  obtain ⟨its, r, ⟨o, ho, hc, n, hd⟩, _⟩ := I.tuple h
  exact ⟨o, its.toArray, n, ho, hc, hd, by simpa using strs_items r⟩
theorem sizeO_new {P : Program} {w : World} {H : Hp} {h : Heap} {a : Addr} {n : Nat} (R : ∃ o es ep t, h.get? a = some o ∧ o.ExactSet ∧ o.data = .set es ep t ∧ t.fits es.size = true ∧ es.size = n ∧ n < 64) : ObjOk P w H h a (SizeO a n) :=
  ⟨R, (let ⟨o, _, _, _, ho, _⟩ := R; ⟨o, ho⟩), fun h1 h2 ⟨o, es, ep, t, ho, r⟩ k => ⟨o, es, ep, t, k o ho, r⟩⟩
def rSetSize (K : PySem.W.Frag) : List V → Hp → VK → Prop := fun xs H Q => ∃ (l : Addr) (ks : List (Addr × List Str)), xs = [V.ref l] ∧ SqT K H l (ks.map fun p => V.ref p.1) ∧ (∀ p ∈ ks, SqT K H p.1 (p.2.map V.str)) ∧ ks.length < 64 ∧
  ∀ a, H a = none → Q (.ref a) (upd H a (SizeO a (uniq (ks.map (·.2))).length))
theorem cr_setSize (hc : X.calm = true) (hu : X.A.units + 65 < cLine) : CallR X (.type "set") (rSetSize X.K) := by
  intro pins s σ H xs us Q I r h
  obtain ⟨l, ks, rfl, hl, hk, hf, q⟩ := h
  rw [Vals.ref1 r]
  obtain ⟨its, rv, pl, hz⟩ := I.tuple hl
  have hn : H s.heap.objs.size = none := I.hok.fresh (Nat.le_refl _)
  refine set_of_keys (P := X.prog) (w := X.w) meekS ks (I.ok.hd hc) pl (by simpa using refs_vals rv) (fun p hp => isKey I (hk p hp)) hf (fun A' hA => show A'.units < cLine by omega) fun h' tk L es ep t R g k => ?_
  have len : L.length = (uniq (ks.map (·.2))).length := by
    have := nodup_len (m := ks.map (·.2)) R.nd fun z => ⟨fun hz => ?_, fun hz => ?_⟩
    · rwa [List.length_map] at this
    · obtain ⟨p, hp, e⟩ := List.mem_map.mp hz
      have := g.sub p hp
      rw [List.take_length] at this
      exact List.mem_map.mpr ⟨p, this, e⟩
    · obtain ⟨p, hp, e⟩ := List.mem_map.mp hz
      rw [← e]
      exact g.all p (by rw [List.take_length]; exact hp)
  obtain ⟨o, ho, hex, hd⟩ := R.ob
  exact ⟨.ref s.heap.objs.size, upd H s.heap.objs.size (SizeO s.heap.objs.size (uniq (ks.map (·.2))).length), I.laid (t' := tk) k (Nat.le_refl _) (sizeO_new ⟨o, es, ep, t, ho, hex, hd, RepG.fits (s := { s with heap := h' }) R, by rw [rowsG_len R.rows, len], by rw [← len]; exact R.few⟩), rfl, q _ hn⟩
def rLenSize : List V → Hp → VK → Prop := fun vs H Q => ∃ (a : Addr) (n : Nat), vs = [V.ref a] ∧ H a = some (SizeO a n) ∧ Q (.int n) H
theorem cr_lenSize : CallR X (.builtin "len") rLenSize := by
  intro pins s σ H vs us Q I r h
  obtain ⟨a, n, rfl, ha, q⟩ := h
  rw [Vals.ref1 r]
  obtain ⟨o, es, ep, t, ho, hex, hd, hf, hn, h64⟩ := (I.hok a _ ha).1
  refine call_len_set ho hex hd hf (by omega) ⟨.int n, H, ?_, ⟨_, by rw [hn]⟩, q⟩
  exact I.tok _
/-- keys of texts -/
def keysOf : List D → Option (List (List (List Nat)))
  | [] => some []
  | .tup ds :: r => match strsOf ds, keysOf r with
    | some k, some ks => some (k :: ks)
    | _, _ => none
  | _ :: _ => none
theorem keysOf_inv : ∀ {ds : List D} {ks : List (List (List Nat))}, keysOf ds = some ks → ds = ks.map fun k => .tup (k.map .str)
  | [], ks, h => by cases h; rfl
  | d :: ds, ks, h => by
    cases d with
    | tup xs =>
      unfold keysOf at h
      cases e1 : strsOf xs with
      | none => rw [e1] at h; cases h
      | some k =>
        cases e2 : keysOf ds with
        | none => rw [e1, e2] at h; cases h
        | some kk =>
          rw [e1, e2] at h
          cases h
          rw [List.map_cons, ← strsOf_inv e1, ← keysOf_inv e2]
    | _ => cases h
theorem keysOf_map : ∀ ks : List (List (List Nat)), keysOf (ks.map fun k => .tup (k.map .str)) = some ks
  | [] => rfl
  | k :: ks => by
    rw [List.map_cons]
    unfold keysOf
    rw [strsOf_map, keysOf_map ks]
abbrev mkS (l : List Nat) : Str := ⟨l.toArray⟩
theorem mkS_in {a b : List Nat} (h : mkS a = mkS b) : a = b := by
  have := congrArg (fun x : Str => x.cps.toList) h
  simpa using this
theorem mkSs_in {a b : List (List Nat)} (h : a.map mkS = b.map mkS) : a = b := by
  induction a generalizing b with
  | nil => cases b with
    | nil => rfl
    | cons _ _ => cases h
  | cons x a ih => cases b with
    | nil => cases h
    | cons y b =>
      rw [List.map_cons, List.map_cons] at h
      injection h with h1 h2
      rw [mkS_in h1, ih h2]
theorem uniq_map {α β : Type} [DecidableEq α] [DecidableEq β] {f : α → β} (hf : ∀ a b, f a = f b → a = b) : ∀ l : List α, uniq (l.map f) = (uniq l).map f
  | [] => rfl
  | x :: r => by
    have e : f x ∈ r.map f ↔ x ∈ r := ⟨fun h => by
      obtain ⟨y, h1, h2⟩ := List.mem_map.mp h
      rw [← hf _ _ h2]; exact h1, fun h => List.mem_map.mpr ⟨x, h, rfl⟩⟩
    rw [List.map_cons]
    unfold uniq
    by_cases h : x ∈ r
    · rw [if_pos h, if_pos (e.mpr h), uniq_map hf r]
    · rw [if_neg h, if_neg fun z => h (e.mp z), uniq_map hf r, List.map_cons]
def oLenSet : D → M D
  | .tup xs => ofO (keysOf xs) fun ks => asrt (ks.length < 64) (ret (.int (uniq ks).length))
  | _ => bad
theorem keys_held {Γ : Wo} {H : Hp} (g : Good T Γ H) : ∀ {ks : List (List (List Nat))} {vs : List V}, Paired (Holds T Γ) vs (ks.map fun k => .tup (k.map .str)) → ∃ ps : List (Addr × List Str), vs = ps.map (fun p => V.ref p.1) ∧ ps.map (·.2) = ks.map (·.map mkS) ∧ ∀ p ∈ ps, SqT X.K H p.1 (p.2.map V.str)
  | [], _, h => by cases h; exact ⟨[], rfl, rfl, fun p hp => by cases hp⟩
  | k :: ks, _, h => by
    rw [List.map_cons] at h
    cases h with
    | cons r rr =>
      obtain ⟨a, us, e, hs, hv⟩ := Holds.tup g r
      obtain ⟨e2, _⟩ := pd_strs hv
      obtain ⟨ps, h1, h2, h3⟩ := keys_held g rr
      refine ⟨(a, k.map mkS) :: ps, by rw [e, h1]; rfl, by rw [List.map_cons, List.map_cons, h2], fun p hp => ?_⟩
      rcases List.mem_cons.mp hp with z | z
      · rw [z]
        rw [e2] at hs
        exact hs
      · exact h3 p z
theorem de_lenSet {a : Expr} {fa : Rho → M D} {p p2 q : Pos} (hc : X.calm = true) (hu : X.A.units + 65 < cLine) (hm : X.mg "len" = none) (hm2 : X.mg "set" = none) (ha : DE X T a fa) (hg : Gl X "len" := by rfl) (hg2 : Gl X "set" := by rfl)
    (he : starEach [.Call (.Name "set" p2) [a] [] q] X.env = (false, eval (.Call (.Name "set" p2) [a] [] q) X.env) :: starEach [] X.env := by rfl) (hpl : (backTo pos (starEach [] X.env)).any (·.1) = false := by rfl)
    (he2 : starEach [a] X.env = (false, eval a X.env) :: starEach [] X.env := by rfl) (hpl2 : (backTo q (starEach [] X.env)).any (·.1) = false := by rfl) :
    DE X T (.Call (.Name "len" p) [.Call (.Name "set" p2) [a] [] q] [] pos) (c1 oLenSet fa) :=
  PE.imp (pe_callB cr_lenSize hg hm (by decide +kernel) (pa_cons (pe_callTy (cr_setSize hc hu) hg2 hm2 (by decide +kernel) (pa_cons ha pa_nil he2) (he := he2) (hpl := hpl2)) pa_nil he) (he := he) (hpl := hpl)) fun σ H post ⟨Γ, ρ, Q, g, e, h, k⟩ => .mk g e h fun v d Γ1 H1 x1 hv h1 => by
    cases d with
    | tup xs =>
      obtain ⟨ad, vs, e1, ho, r⟩ := Holds.tup x1.good hv
      obtain ⟨ks, ek, hl, h2⟩ := ofO_get (show ofO (keysOf xs) (fun ks => asrt (ks.length < 64) (ret (.int (uniq ks).length))) Q from h1)
      have ex := keysOf_inv ek
      subst ex
      obtain ⟨ps, h3, h4, h5⟩ := keys_held x1.good r
      subst h3 e1
      have len : ps.length = ks.length := by
        have := congrArg List.length h4
        rwa [List.length_map, List.length_map] at this
      refine ⟨ad, ps, rfl, ho, h5, by omega, fun a2 ha2 => ?_⟩
      have x2 : Ext T Γ1 H1 Γ1 (upd H1 a2 (SizeO a2 (uniq (ps.map (·.2))).length)) := .newOwn x1.good ha2
      refine ⟨a2, _, rfl, upd_same, ?_⟩
      have en : (uniq (ps.map (·.2))).length = (uniq ks).length := by
        rw [h4, uniq_map (fun a b h => mkSs_in h), List.length_map]
      rw [en]
      exact k _ (.int (uniq ks).length) _ _ (by rw [← en]; exact x1.trans x2) (hint _) h2
    | _ => exact False.elim h1
end
end DL

namespace DL
open PySem PySem.Spec L2 PyProof.Rows
section
variable {X : Cx} {T : Th X.K} {pos : Pos}
/-! ### zip of two lists, of two tuples -/
def oZip : D → D → M (List D)
  | .lst xs, .lst ys => ret (pairs xs ys)
  | .tup xs, .tup ys => ret (pairs xs ys)
  | _, _ => bad
def cZip (f g : Rho → M D) : Rho → M (List D) := fun ρ => bnd (f ρ) fun x => bnd (g ρ) (oZip x)
theorem pairs_len (xs ys : List D) : (pairs xs ys).length = min xs.length ys.length := by unfold pairs; simp
theorem pairs_at {xs ys : List D} {i : Nat} {d e : D} (h1 : xs[i]? = some d) (h2 : ys[i]? = some e) : (pairs xs ys)[i]? = some (.tup [d, e]) := by
  unfold pairs
  rw [List.getElem?_map, (List.getElem?_zip_eq_some (z := (d, e))).mpr ⟨h1, h2⟩] <;> rfl
theorem di_zip {elts : List Expr} {kk : Nat} {tpos : Pos} {a b : Expr} {f g : Rho → M D} {p pos : Pos} (hm : X.mg "zip" = none) (ha : DE X T a f) (hb : DE X T b g) (hg : Gl X "zip" := by rfl)
    (hs : starEach [a, b] X.env = (false, eval a X.env) :: starEach [b] X.env := by rfl) (hs2 : starEach [b] X.env = (false, eval b X.env) :: starEach [] X.env := by rfl) (hpl : (backTo pos (starEach [b] X.env)).any (·.1) = false := by rfl) :
    DI X T (.Tuple elts kk tpos) (.Call (.Name "zip" p) [a, b] [] pos) (cZip f g) :=
  PI.imp (RZ.pi_zipA hg hm (pa_cons ha (pa_cons hb pa_nil hs2) hs) hs hpl) fun σ H R ⟨Γ, ρ, Q, g0, en, h, k⟩ => .mk g0 en h fun v d Γ1 H1 x1 hv h1 => .mk x1.good (en.mono x1) h1 fun u e Γ2 H2 x2 hu h2 => by
    have hv2 := hv.mono x2.le
    cases d with
    | lst xs =>
      cases e with
      | lst ys =>
        obtain ⟨p1, e1, q1⟩ := hv2
        obtain ⟨p2, e2, q2⟩ := hu
        obtain ⟨o1, ho1, vs1, eo1, r1, z1⟩ := x2.good p1 _ q1
        obtain ⟨o2, ho2, vs2, eo2, r2, z2⟩ := x2.good p2 _ q2
        subst e1 e2 eo1 eo2
        refine ⟨p1, p2, vs1, vs2, rfl, .inl ⟨SqL.of ho1, SqL.of ho2, k _ _ Γ2 H2 (x1.trans x2) ⟨by rw [pairs_len]; omega, fun i Γ3 H3 le g3 => ?_⟩ h2⟩⟩
        obtain ⟨o3, ho3, us1, eo3, s1, _⟩ := g3 p1 _ (le _ _ q1)
        obtain ⟨o4, ho4, us2, eo4, s2, _⟩ := g3 p2 _ (le _ _ q2)
        subst eo3 eo4
        have l1 := s1.length
        have l2 := s2.length
        rw [pairs_len]
        refine ⟨fun hi => ?_, fun hi => ⟨us1, us2, SqL.of ho3, SqL.of ho4, by omega⟩⟩
        obtain ⟨d1, hd1⟩ : ∃ d, xs[i]? = some d := ⟨_, List.getElem?_eq_getElem (by omega)⟩
        obtain ⟨d2, hd2⟩ : ∃ d, ys[i]? = some d := ⟨_, List.getElem?_eq_getElem (by omega)⟩
        obtain ⟨w1, hw1, rw1⟩ := Pd.get s1 hd1
        obtain ⟨w2, hw2, rw2⟩ := Pd.get s2 hd2
        refine ⟨⟨us1, us2, w1, w2, SqL.of ho3, SqL.of ho4, hw1, hw2⟩, fun y H4 ⟨t, x, x', e1, hn, e2, f1, f2⟩ => ?_⟩
        have a1 := f1 us1 (SqL.of ho3)
        have a2 := f2 us2 (SqL.of ho4)
        rw [hw1] at a1
        rw [hw2] at a2
        cases a1
        cases a2
        subst e1 e2
        obtain ⟨x3, h3⟩ := new_pair (T := T) g3 rw1 rw2 hn
        exact ⟨_, _, x3, pairs_at hd1 hd2, h3⟩
      | _ => exact False.elim h2
    | tup xs =>
      cases e with
      | tup ys =>
        have b1 := Holds.tupLe x2.good hv2
        obtain ⟨p1, vs1, e1, ho1, r1⟩ := Holds.tup x2.good hv2
        obtain ⟨p2, vs2, e2, ho2, r2⟩ := Holds.tup x2.good hu
        subst e1 e2
        refine ⟨p1, p2, vs1, vs2, rfl, .inr ⟨ho1, ho2, k _ _ Γ2 H2 (x1.trans x2) ⟨by rw [pairs_len]; omega, fun i Γ3 H3 le g3 => ?_⟩ h2⟩⟩
        obtain ⟨p3, us1, e3, ho3, s1⟩ := Holds.tup g3 (hv2.mono le)
        obtain ⟨p4, us2, e4, ho4, s2⟩ := Holds.tup g3 (hu.mono le)
        cases e3
        cases e4
        have l1 := s1.length
        have l2 := s2.length
        rw [pairs_len]
        refine ⟨fun hi => ?_, fun hi => ⟨us1, us2, ho3, ho4, by omega⟩⟩
        obtain ⟨d1, hd1⟩ : ∃ d, xs[i]? = some d := ⟨_, List.getElem?_eq_getElem (by omega)⟩
        obtain ⟨d2, hd2⟩ : ∃ d, ys[i]? = some d := ⟨_, List.getElem?_eq_getElem (by omega)⟩
        obtain ⟨w1, hw1, rw1⟩ := Pd.get s1 hd1
        obtain ⟨w2, hw2, rw2⟩ := Pd.get s2 hd2
        refine ⟨⟨us1, us2, w1, w2, ho3, ho4, hw1, hw2⟩, fun y H4 ⟨t, x, x', e1, hn, e2, f1, f2⟩ => ?_⟩
        have a1 := f1 us1 ho3
        have a2 := f2 us2 ho4
        rw [hw1] at a1
        rw [hw2] at a2
        cases a1
        cases a2
        subst e1 e2
        obtain ⟨x3, h3⟩ := new_pair (T := T) g3 rw1 rw2 hn
        exact ⟨_, _, x3, pairs_at hd1 hd2, h3⟩
      | _ => exact False.elim h2
    | _ => cases e <;> exact False.elim h2

/-! ### f'..' -/
def oFmt : D → M D
  | .str l => ret (.str l)
  | .int i => asrt (0 ≤ i ∧ i < strMost) (ret (.str (TL.numL i.toNat)))
  | _ => bad
theorem de_fmt {e : Expr} {f : Rho → M D} {pos : Pos} (he : DE X T e f) : DE X T (.FormattedValue e (-1) none pos) (c1 oFmt f) :=
  PE.imp (pe_fmt he) fun σ H post ⟨Γ, ρ, Q, g, e, h, k⟩ => .mk g e h fun v d Γ1 H1 x1 hv h1 => by
    cases d with
    | str l =>
      obtain ⟨e1, o1⟩ := (show v = vS l ∧ okS l from hv)
      exact .inl ⟨_, e1, by rw [len_mk]; exact o1.1, k _ (.str l) Γ1 H1 x1 ⟨rfl, o1⟩ h1⟩
    | int i =>
      obtain ⟨⟨h0, h2⟩, h1⟩ := h1
      cases (show v = .int i from hv)
      obtain ⟨n, rfl⟩ := Int.eq_ofNat_of_zero_le h0
      have h3 : n < strMost := Int.ofNat_lt.mp h2
      rw [Int.toNat_natCast] at h1
      refine .inr ⟨_, rfl, log2_small h3, ?_⟩
      rw [str_num]
      exact k _ (.str (TL.numL n)) Γ1 H1 x1 ⟨rfl, numL_okS h3⟩ h1
    | _ => exact False.elim h1
def jsGo : List (Rho → M D) → List Nat → Rho → M D
  | [], acc, _ => ret (.str acc)
  | f :: fs, acc, ρ => bnd (f ρ) fun d => match d with
    | .str l => asrt (acc.length + l.length ≤ sizeLine) (jsGo fs (acc ++ l) ρ)
    | _ => bad
/-- the parts of an f'..' -/
inductive DJ (X : Cx) (T : Th X.K) : List Expr → List (Rho → M D) → Prop where
  | nil : DJ X T [] []
  | cons {e : Expr} {f : Rho → M D} {es : List Expr} {fs : List (Rho → M D)} (h : DE X T e f) (r : DJ X T es fs) : DJ X T (e :: es) (f :: fs)
theorem DJ.pj {es : List Expr} {fs : List (Rho → M D)} (h : DJ X T es fs) : PJ X es (fs.map (teOf T)) := by
  induction h with
  | nil => exact .nil
  | cons h r ih => exact .cons h ih
theorem js_run : ∀ (fs : List (Rho → M D)) (acc : List Nat) (σ : L2.St) (Γ : Wo) (H : Hp) (ρ : Rho) (Q : D → Prop) (R : Str → Hp → Prop), okS acc → Good T Γ H → EnvR T Γ H σ ρ → jsGo fs acc ρ Q →
    (∀ l Γ' H', Ext T Γ H Γ' H' → okS l → Q (.str l) → R ⟨l.toArray⟩ H') → tJs (fs.map (teOf T)) ⟨acc.toArray⟩ σ H R
  | [], acc, σ, Γ, H, ρ, Q, R, o, g, e, h, k => k acc Γ H (.refl g) o h
  | f :: fs, acc, σ, Γ, H, ρ, Q, R, o, g, e, h, k => .mk g e h fun v d Γ1 H1 x1 hv h1 => by
    cases d with
    | str l =>
      obtain ⟨e1, o1⟩ := (show v = vS l ∧ okS l from hv)
      obtain ⟨hz, h1⟩ := h1
      refine ⟨_, e1, ?_, ?_⟩
      · rw [str_app, len_mk, List.length_append]; exact hz
      · rw [str_app]
        exact js_run fs (acc ++ l) σ Γ1 H1 ρ Q R (okS_append o o1 hz) x1.good (e.mono x1) h1 fun l2 Γ2 H2 x2 => k l2 Γ2 H2 (x1.trans x2)
    | _ => exact False.elim h1
def cJs (fs : List (Rho → M D)) : Rho → M D := jsGo fs []
theorem de_joined {v1 v2 : Expr} {rest : List Expr} {fs : List (Rho → M D)} (h : DJ X T (v1 :: v2 :: rest) fs) : DE X T (.JoinedStr (v1 :: v2 :: rest) pos) (cJs fs) :=
  PE.imp (pe_joined h.pj) fun σ H post ⟨Γ, ρ, Q, g, e, h, k⟩ => js_run _ [] σ Γ H ρ Q _ ⟨Nat.zero_le _, fun c h => by cases h⟩ g e h fun l Γ' H' x o q => k _ (.str l) Γ' H' x ⟨rfl, o⟩ q

/-! ### split, count -/
def oSplit (l : List Nat) : List D → M D := fun xs => match xs with
  | [.str w] => asrt (w ≠ [] ∧ (∀ c ∈ w, c < 256) ∧ l.length + 2 ≤ sizeLine) (ret (.lst ((TL.spl w 0 [] l).map .str)))
  | _ => bad
theorem spl_in (S : List Nat) : ∀ (l : List Nat) (k : Nat) (acc : List Nat), (TL.spl S k acc l).length ≤ l.length + 1 ∧ ∀ p ∈ TL.spl S k acc l, p.length ≤ acc.length + l.length ∧ ∀ c ∈ p, c ∈ acc ∨ c ∈ l
  | [], k, acc => by
    rw [TL.spl_nil]
    refine ⟨Nat.le_refl _, fun p hp => ?_⟩
    rw [List.mem_singleton.mp hp]
    exact ⟨Nat.le_refl _, fun c h => .inl h⟩
  | c :: r, 0, acc => by
    cases hp : TL.pre S (c :: r) with
    | true =>
      rw [TL.spl_hit hp]
      obtain ⟨h1, h2⟩ := spl_in S r (S.length - 1) []
      refine ⟨by rw [List.length_cons, List.length_cons]; omega, fun p hp => ?_⟩
      rcases List.mem_cons.mp hp with e | e
      · rw [e]; exact ⟨Nat.le_add_right _ _, fun x h => .inl h⟩
      · obtain ⟨a1, a2⟩ := h2 p e
        refine ⟨by rw [List.length_cons]; simp only [List.length_nil] at a1; omega, fun x hx => ?_⟩
        rcases a2 x hx with z | z
        · cases z
        · exact .inr (List.mem_cons_of_mem _ z)
    | false =>
      rw [TL.spl_miss hp]
      obtain ⟨h1, h2⟩ := spl_in S r 0 (acc ++ [c])
      refine ⟨by rw [List.length_cons]; omega, fun p hp => ?_⟩
      obtain ⟨a1, a2⟩ := h2 p hp
      refine ⟨by rw [List.length_append, List.length_singleton] at a1; rw [List.length_cons]; omega, fun x hx => ?_⟩
      rcases a2 x hx with z | z
      · rcases List.mem_append.mp z with z | z
        · exact .inl z
        · rw [List.mem_singleton.mp z]; exact .inr List.mem_cons_self
      · exact .inr (List.mem_cons_of_mem _ z)
  | c :: r, k + 1, acc => by
    show (TL.spl S k acc r).length ≤ _ ∧ _
    obtain ⟨h1, h2⟩ := spl_in S r k acc
    refine ⟨by rw [List.length_cons]; omega, fun p hp => ?_⟩
    obtain ⟨a1, a2⟩ := h2 p hp
    refine ⟨by rw [List.length_cons]; omega, fun x hx => ?_⟩
    rcases a2 x hx with z | z
    · exact .inl z
    · exact .inr (List.mem_cons_of_mem _ z)
theorem strs_pd {Γ : Wo} : ∀ {ns : List (List Nat)}, (∀ l ∈ ns, okS l) → Paired (Holds T Γ) ((ns.map fun l => (⟨l.toArray⟩ : Str)).map V.str) (ns.map .str)
  | [], _ => .nil
  | n :: ns, h => .cons ⟨rfl, h n List.mem_cons_self⟩ (strs_pd fun l hl => h l (List.mem_cons_of_mem _ hl))
theorem split_mk {l w : List Nat} (hw : w ≠ []) (hc : ∀ c ∈ w, c < 256) : Txt.split ⟨l.toArray⟩ ⟨w.toArray⟩ = (TL.spl w 0 [] l).map fun l => (⟨l.toArray⟩ : Str) := by
  apply TL.map_tl_inj
  rw [TL.split_spl _ _ hw (TL.kind_ok (by simpa using hc)), List.map_map]
  show TL.spl w 0 [] l = _
  rw [show (TL.tl ∘ fun l : List Nat => (⟨l.toArray⟩ : Str)) = id from rfl, List.map_id]
theorem md_split : MtD T "str" (fun x xs H Q => ∃ a b, x = .str a ∧ xs = [.str b] ∧ (b.length == 0) = false ∧ a.length + 2 ≤ sizeLine ∧ rNewStrs (Txt.split a b) H Q) (onS oSplit) := fun Γ H x xs d ds Q post gd hx hv h k => by
  cases d with
  | str l =>
    have h' : oSplit l ds Q := h
    unfold oSplit at h'
    split at h'
    · rename_i w
      obtain ⟨⟨c1, c2, c3⟩, q⟩ := h'
      obtain ⟨e1, o1⟩ := (show x = vS l ∧ okS l from hx)
      obtain ⟨y, e2, r⟩ := Pd.one hv
      obtain ⟨e3, o3⟩ := (show y = vS w ∧ okS w from r)
      subst e1 e2 e3
      refine ⟨_, _, rfl, rfl, ?_, by rw [len_mk]; exact c3, fun p hp => ?_⟩
      · rw [len_mk, beq_eq_false_iff_ne]
        exact fun z => c1 (List.eq_nil_of_length_eq_zero z)
      · obtain ⟨b1, b2⟩ := spl_in w l 0 []
        rw [split_mk c1 c2]
        have ok : ∀ p ∈ TL.spl w 0 [] l, okS p := fun p hp => by
          obtain ⟨a1, a2⟩ := b2 p hp
          refine ⟨by simp only [List.length_nil] at a1; have := o1.1; omega, fun c hc => ?_⟩
          rcases a2 c hc with z | z
          · cases z
          · exact o1.2 c z
        obtain ⟨x2, hh⟩ := newLst gd (strs_pd ok) (by rw [List.length_map]; omega) hp
        exact k _ _ _ _ x2 hh q
    · exact False.elim h'
  | _ => exact False.elim h
def oCount (l : List Nat) : List D → M D := fun xs => match xs with
  | [.str [c]] => ret (.int (l.count c : Nat))
  | _ => bad
theorem count_mk (l : List Nat) (c : Nat) : Txt.count ⟨l.toArray⟩ ⟨#[c]⟩ = (l.count c : Nat) := by
  rw [count_is]
  show PyProof.Rows.cnt c l = _
  induction l with
  | nil => rfl
  | cons x l ih =>
    rw [PyProof.Rows.cnt_cons, ih, List.count_cons]
    by_cases h : x = c
    · subst h
      simp
      omega
    · simp [h]
theorem md_count : MtD T "str" (fun x xs H Q => ∃ a b, x = .str a ∧ xs = [.str b] ∧ Q (.int (Txt.count a b)) H) (onS oCount) := fun Γ H x xs d ds Q post gd hx hv h k => by
  cases d with
  | str l =>
    have h' : oCount l ds Q := h
    unfold oCount at h'
    split at h'
    · rename_i c
      obtain ⟨e1, o1⟩ := (show x = vS l ∧ okS l from hx)
      obtain ⟨y, e2, r⟩ := Pd.one hv
      obtain ⟨e3, o3⟩ := (show y = vS [c] ∧ okS [c] from r)
      subst e1 e2 e3
      refine ⟨_, _, rfl, rfl, ?_⟩
      rw [show ([c] : List Nat).toArray = #[c] from rfl, count_mk]
      exact k _ _ Γ H (.refl gd) (hint _) h'
    · exact False.elim h'
  | _ => exact False.elim h
end
end DL

namespace DL
open PySem PySem.Spec L2 PyProof.Rows
section
variable {X : Cx} {T : Th X.K} {pos : Pos}
/-! ### more of own lists -/
/-- x.extend(e) -/
def sExt (i : Nat) (f : Rho → M D) : Rho → M Fl := fun ρ => match ρ[i]? with
  | some (.ow ds) => bnd (f ρ) fun d => match d with
    | .lst zs => asrt (ds.length + zs.length ≤ sizeLine) (ret (.nx (ρ.set i (.ow (ds ++ zs)))))
    | _ => bad
  | _ => bad
theorem ds_ext (i : Nat) {x : Str} {e : Expr} {p apos cpos pos : Pos} {fe : Rho → M D} (he : DE X T e fe) (hN : X.N[i]? = some x := by rfl) (hv : Vis X.env.scope x := by first | exact Or.inl rfl | exact Or.inr (Or.inl rfl) | exact Or.inr (Or.inr rfl))
    (hd : (x == ("__debug__" : Str)) = false := by decide) (hcd : (x == ("__classdict__" : Str)) = false := by decide)
    (hbase : attributeBase (.Name x p) "extend" X.env (eval (.Name x p) X.env) = eval (.Name x p) X.env := by rfl)
    (hfew : ((backTo cpos (starEach [e] X.env)).all (fun x => !x.1) && (backToKw cpos (keywordEach [] X.env)).all (fun x => x.1.isSome)
      && decide (([e] : List Expr).length + ([] : List Keyword).length + (if ([] : List Keyword).isEmpty then 0 else 1) < 30)) = true := by rfl)
    (hline : (apos.endLine == cpos.line) = true := by rfl) (hst : starEach [e] X.env = (false, eval e X.env) :: starEach [] X.env := by rfl) (hplain : (backTo cpos (starEach [] X.env)).any (·.1) = false := by rfl)
    (hs : swapsWith (.Call (.Attribute (.Name x p) "extend" apos) [e] [] cpos) none pos.line X.env = pure false := by rfl) :
    DS X T (.Expr (.Call (.Attribute (.Name x p) "extend" apos) [e] [] cpos) pos) (sExt i fe) :=
  PS.imp (ps_expr (pe_bm PySem.F.plainAttrs_list PySem.F.slot_list_extend PySem.F.type_list_extend mt_extend (pv i hN hv hd hcd) (pa_cons he pa_nil hst) hbase hfew hline hst hplain) hs) fun D σ H ⟨Γ0, H0, Γ, ρ, Q, s, h, k1, k2, k3, k4⟩ => by
    obtain ⟨ds, hd, h⟩ := ow_get h
    obtain ⟨a, vs, h3, h4, h5, h6, h7⟩ := s.e.ow i ds hd
    refine ⟨.ref a, h3, .inl ⟨rfl, vs, SqL.of h5⟩, .mk s.good s.e h fun v d Γ1 H1 x1 hv q => ?_⟩
    cases d with
    | lst zs =>
      obtain ⟨hz, q⟩ := q
      obtain ⟨g1, g2⟩ := x1.fr a _ h5 h4
      obtain ⟨b, us, e1, ho, r, z⟩ := Holds.lst x1.good hv
      subst e1
      have hl := h6.length
      have hl2 := r.length
      exact ⟨a, b, vs, us, rfl, rfl, g1, ho, by omega, k1 _ _ Γ1 _ x1.le ((s.step x1).rewrite (y := .ow (ds ++ zs)) hd rfl h3 g2 ⟨vs ++ us, rfl, Pd.append (Paired.monoH h6 x1.le) r, by rw [List.length_append]; exact hz⟩) q⟩
    | _ => exact False.elim q
/-- len(x) -/
theorem de_lenOwn (i : Nat) {x : Str} {p p2 : Pos} (hm : X.mg "len" = none) (hN : X.N[i]? = some x := by rfl) (hv : Vis X.env.scope x := by first | exact Or.inl rfl | exact Or.inr (Or.inl rfl) | exact Or.inr (Or.inr rfl)) (hg : Gl X "len" := by rfl)
    (hd : (x == ("__debug__" : Str)) = false := by decide) (hcd : (x == ("__classdict__" : Str)) = false := by decide)
    (he : starEach [.Name x p2] X.env = (false, eval (.Name x p2) X.env) :: starEach [] X.env := by rfl) (hpl : (backTo pos (starEach [] X.env)).any (·.1) = false := by rfl) :
    DE X T (.Call (.Name "len" p) [.Name x p2] [] pos) (oLen i) :=
  PE.imp (pe_callB call_len hg hm PySem.boot_len (pa_cons (pv i hN hv hd hcd) pa_nil he) (he := he) (hpl := hpl)) fun σ H post ⟨Γ, ρ, Q, g, e, h, k⟩ => by
    obtain ⟨ds, hd, q⟩ := ow_get (i := i) (ρ := ρ) (α := D) (k := fun ds => ret (D.int ds.length)) (Q := Q) h
    obtain ⟨a, vs, h3, h4, h5, h6, h7⟩ := e.ow i ds hd
    exact ⟨_, h3, _, ds.length, rfl, .inl ⟨vs, SqL.of h5, h6.length.symm⟩, k _ _ Γ H (.refl g) (hint _) q⟩
/-- x == [], x != [] -/
def oOwnNil (neg : Bool) (i : Nat) : Rho → M D := fun ρ => match ρ[i]? with
  | some (.ow ds) => asrt (okDs ds 50 = true) (ret (.bl (if neg = true then !isNilD' ds else isNilD' ds)))
  | _ => bad
where
  isNilD' : List D → Bool
    | [] => true
    | _ :: _ => false
theorem ownEq_run (i : Nat) : ∀ σ H post, teOf T (oOwnNil false i) σ H post → tOp (rEqD X.K) (fun σ H Q => ∃ v, σ[i]? = some (some v) ∧ Q v H) (tLst tNil) σ H post := fun σ H post ⟨Γ, ρ, Q, g, e, h, k⟩ => by
    obtain ⟨ds, hd, ok, q⟩ := ow_get (i := i) (ρ := ρ) (α := D) (k := fun ds => asrt (okDs ds 50 = true) (ret (D.bl (oOwnNil.isNilD' ds)))) (Q := Q) h
    obtain ⟨a, vs, h3, h4, h5, h6, h7⟩ := e.ow i ds hd
    refine ⟨_, h3, Nat.zero_le _, fun z hz => ?_⟩
    have x2 : Ext T Γ H Γ (upd H z (.lst [])) := .newOwn g hz
    have e2 := e.mono x2
    have h5' : (upd H z (.lst [])) a = some (.lst vs) := by rw [upd_ne (ne_of_none h5 hz)]; exact h5
    obtain ⟨d1, d2⟩ := Holds.dps x2.good ds 50 vs ok h6
    refine ⟨.list (toPys ds), .list [], .lst (SqL.of h5') d1, .lst (SqL.of upd_same) .nil, ?_, ?_, ?_⟩
    · unfold SeqAt.shaped
      rw [show PyData.canLay0 (.list (toPys ds)) = PyData.canLayAll0 (toPys ds) by simp only [PyData.canLay0], d2, Bool.true_and]
      refine decide_eq_true ?_
      show PyData.depthAll (toPys ds) + 1 ≤ _
      exact Nat.le_trans (Nat.succ_le_succ (depth_toPys ds 50 ok)) (by decide)
    · rfl
    · have eq : PyData.eqv (.list (toPys ds)) (.list []) = oOwnNil.isNilD' ds := by
        cases ds <;> rfl
      rw [eq]
      exact k _ _ Γ _ x2 (hbl _) q
theorem de_ownEq (i : Nat) {x : Str} {p p2 : Pos} (hu : X.A.units + 64 < cLine) (hN : X.N[i]? = some x := by rfl) (hv : Vis X.env.scope x := by first | exact Or.inl rfl | exact Or.inr (Or.inl rfl) | exact Or.inr (Or.inr rfl))
    (hd : (x == ("__debug__" : Str)) = false := by decide) (hcd : (x == ("__classdict__" : Str)) = false := by decide) : DE X T (.Compare (.Name x p) [.Eq] [.List [] p2] pos) (oOwnNil false i) :=
  PE.imp (pe_cmpR (op_eqD hu) (pv i hN hv hd hcd) (pe_lst pa_nil) (nomark _)) (ownEq_run i)
theorem dt_ownEq (i : Nat) {x : Str} {p p2 : Pos} (hu : X.A.units + 64 < cLine) (hN : X.N[i]? = some x := by rfl) (hv : Vis X.env.scope x := by first | exact Or.inl rfl | exact Or.inr (Or.inl rfl) | exact Or.inr (Or.inr rfl))
    (hd : (x == ("__debug__" : Str)) = false := by decide) (hcd : (x == ("__classdict__" : Str)) = false := by decide) : DT X T (.Compare (.Name x p) [.Eq] [.List [] p2] pos) (tst (oOwnNil false i)) :=
  PT.imp (pt_cmpR (op_eqD hu) (pv i hN hv hd hcd) (pe_lst pa_nil) (nomark _)) (tst_run (ownEq_run i))
/-- x = [elt for ..] on one line, x a local: a list of one's own -/
def sOwnLc (i : Nat) (f : Rho → M (List D)) : Rho → M Fl := fun ρ => bnd (f ρ) fun ds => ret (.nx (ρ.set i (.ow ds)))
theorem ds_ownLc (i : Nat) (own : List (Str × Nat)) {y : Str} {py : Pos} {elt tg iter : Expr} {ifs : List Expr} {scope : Scope} {pos spos : Pos} {fi : Rho → M (List D)} {gg : D → Rho → M Rho} {ts : List Nat} {t : Rho → M Bool} {fe : Rho → M D} (hc : X.calm = true) (hN : X.N.Nodup) (hi : DI X T tg iter fi) (ok : BlkOk X.N X.env.scope scope own)
    (hg : ∀ (s : Shared) (H : Hp) (C : Addr) (cl : List (Str × Addr)) (fp : List Addr), DG (X.blk s H scope (compEnvC scope cl C X.env) fp) T tg gg ts) (ht : ∀ (s : Shared) (H : Hp) (C : Addr) (cl : List (Str × Addr)) (fp : List Addr), DTs (X.blk s H scope (compEnvC scope cl C X.env) fp) T ifs t)
    (he : ∀ (s : Shared) (H : Hp) (C : Addr) (cl : List (Str × Addr)) (fp : List Addr), DE (X.blk s H scope (compEnvC scope cl C X.env) fp) T elt fe) (hts : ∀ i ∈ ts, i ∈ own.map (·.2) := by decide) (hs : ∀ x, foldedSetIterable iter X.env x = pure x := by intro _; rfl)
    (hy : X.N[i]? = some y := by rfl) (hyl : X.env.scope.names.lookup y = some .local := by rfl)
    (hsw : swapsWith (.ListComp elt [⟨tg, iter, ifs, 0⟩] scope pos) (some (.Name y py)) spos.line X.env = pure true := by exact sw_true rfl rfl rfl (by decide +kernel)) :
    DS X T (.Assign [.Name y py] (.ListComp elt [⟨tg, iter, ifs, 0⟩] scope pos) spos) (sOwnLc i (cLc fi gg t fe (own.map (·.2)))) :=
  PS.imp (ps_setLc hc hN hy hyl hsw hi ok hg ht he hs) fun D σ H ⟨Γ0, H0, Γ, ρ, Q, s, h, k1, k2, k3, k4⟩ => lc_run hts s.good s.e (Q := fun ds => Q (.nx (ρ.set i (.ow ds)))) h fun p zs ds Γ' H' x np hp hv hl hf q => by
    -- the new list stands nowhere in the environment
    have far : ∀ (j : Nat) (z : Sl), ρ[j]? = some z → z.owns = true → σ[j]? = some (some (V.ref p)) → False := fun j z hz oz hs => by
      cases z with
      | no => cases oz
      | va d => cases oz
      | ow es =>
        obtain ⟨b, us, h1, _, h3, _⟩ := s.e.ow j es hz
        rw [hs] at h1; cases h1; rw [hf] at h3; cases h3
      | di es =>
        obtain ⟨b, us, h1, _, h3, _⟩ := s.e.di j es hz
        rw [hs] at h1; cases h1; rw [hf] at h3; cases h3
    let Hx : Hp := fun b => if b = p then none else H' b
    have hx1 : ∀ b, b ≠ p → Hx b = H' b := fun b n => by show (if b = p then none else H' b) = _; rw [if_neg n]
    have e' := s.e.mono x
    have ex : EnvR T Γ' Hx σ ρ := by
      refine ⟨e'.len, e'.va, fun j es hz => ?_, fun j es hz => ?_, e'.sep⟩
      · obtain ⟨b, us, h1, h2, h3, h4⟩ := e'.ow j es hz
        exact ⟨b, us, h1, h2, by rw [hx1 b fun z => far j _ hz rfl (by rw [← z]; exact h1)]; exact h3, h4⟩
      · obtain ⟨b, us, h1, h2, h3, h4⟩ := e'.di j es hz
        exact ⟨b, us, h1, h2, by rw [hx1 b fun z => far j _ hz rfl (by rw [← z]; exact h1)]; exact h3, h4⟩
    have e2 : EnvR T Γ' H' (σ.set i (some (.ref p))) (ρ.set i (.ow ds)) := ex.setOwn (x := .ow ds) (H' := H') (by show (if p = p then none else H' p) = none; rw [if_pos rfl]) ⟨np, zs, hp, hv, hl⟩ (fun b o hb => by
      have n : b ≠ p := fun z => by
        have hb' : (if b = p then none else H' b) = some o := hb
        rw [if_pos z] at hb'
        cases hb'
      rwa [hx1 b n] at hb) i
    refine k1 _ _ Γ' H' x.le ⟨s.x.trans x, e2, fun j y a h1 h2 h3 => ?_⟩ q
    rcases get_set h3 with ⟨rfl, z⟩ | ⟨n, z⟩
    · have ea : a = p := by cases z; rfl
      rw [ea]
      exact s.x.freeBack hf
    · rcases get_set h1 with ⟨z1, _⟩ | ⟨_, z1⟩
      · exact absurd z1 n
      · exact s.f j y a z1 h2 z
/-- (a, b, ..) = a list of that length -/
def gL (n : Nat) (h : List D → Rho → M Rho) : D → Rho → M Rho := fun d ρ => match d with
  | .lst ds => asrt (ds.length = n) (h ds ρ)
  | _ => bad
theorem dg_lst {es : List Expr} {k : Nat} {g : List D → Rho → M Rho} {ts : List Nat} {n : Nat} (hc : X.calm = true) (h : DGs X T es g ts)
    (hn : (assignEach es X.env).length = n := by rfl) (hst : (assignEach es X.env).findIdx? (·.1) = none := by rfl) : DG X T (.Tuple es k pos) (gL n g) ts :=
  PG.imp (pg_unl hc h hn hst) fun v σ H R ⟨Γ, ρ, d, Q, gd, en, hv, h, k⟩ => by
    cases d with
    | lst ds =>
      obtain ⟨a, vs, e1, hs, r, _⟩ := Holds.lst gd hv
      obtain ⟨hl, h⟩ := h
      exact ⟨a, vs, e1, SqL.of hs, by rw [r.length]; exact hl, Γ, ρ, ds, Q, gd, en, r, h, k⟩
    | _ => exact h.elim
end
end DL

namespace DL
open PySem PySem.Spec L2 PyProof.Rows

/-! ### enumerate of a tuple, of a text -/
theorem meets_enumT (t : Addr) (items : Array Value) :
    Meets (Builtin.«enumerate.__new__» ⟨[.type "enumerate", .ref t], []⟩) (fun _ R s => s.heap.IsTuple t items ∧
      R (.ok (.ret (.ref (s.heap.push (walkerT t)).objs.size))) { s with heap := (s.heap.push (walkerT t)).push { cls := .type "enumerate", data := .fields #[.none, .bool false, .ref s.heap.objs.size, rawInt 0, .none, .none] } }) :=
  .of_wp fun prog w A R s h => by
    obtain ⟨hp, g, d, tk, os⟩ := s
    obtain ⟨ht, h⟩ := h
    have sub := sub_enumerate
    have q1 : ∀ {A' : Around} {E : Value → Shared → Prop} {Q : Value → Shared → Prop}, Q (.ref hp.objs.size) ⟨hp.push (walkerT t), g, d, tk, os⟩ → wpAny (model prog w) A' (pyIter (.ref t)) Q E ⟨hp, g, d, tk, os⟩ :=
      fun q => wpAny_pyIter_tuple (s := ⟨hp, g, d, tk, os⟩) ht q
    wp_walk using q1
    refine wpAny_stack_any fun st => wpAny_pure ?_
    split
    · rename_i c _ _ _ _ _
      cases (c == Value.type "enumerate")
      · wp_walk using q1
        exact ⟨_, rfl, h⟩
      · wp_walk using q1
        exact ⟨_, rfl, h⟩
    · wp_walk using q1
      exact ⟨_, rfl, h⟩
section
variable {P : Program} {w : World} {A : Around} {E : Value → Shared → Prop} {s : Shared}
theorem call_enumT {t : Addr} {items : Array Value} {Q : Value → Shared → Prop} (ht : s.heap.IsTuple t items)
    (h : ∀ h', IsEnum h' (s.heap.objs.size + 1) s.heap.objs.size 0 .none → h'.IsTupleIter s.heap.objs.size t 0 → (∀ b o, s.heap.get? b = some o → h'.get? b = some o) → Q (.ref (s.heap.objs.size + 1)) { s with heap := h' }) :
    wpAny (model P w) A (call (.type "enumerate") [.ref t]) Q E s := by
  refine callType_new F.called_enumerate (by decide) (F.typeCall_enumerate_1 _) (F.newCall_enumerate_1 _) (fun obj => F.args_object_init_2 obj _) F.entry_enumerate_new (meets_enumT t items) ⟨ht, ?_⟩
  have hz : (s.heap.push (walkerT t)).objs.size = s.heap.objs.size + 1 := Heap.size_push ..
  show _ ∧ _
  rw [hz]
  have he : IsEnum ((s.heap.push (walkerT t)).push { cls := .type "enumerate", data := .fields #[.none, .bool false, .ref s.heap.objs.size, rawInt 0, .none, .none] }) (s.heap.objs.size + 1) s.heap.objs.size 0 .none := by
    have := Heap.get?_push_size (s.heap.push (walkerT t)) (o := { cls := .type "enumerate", data := .fields #[.none, .bool false, .ref s.heap.objs.size, rawInt 0, .none, .none] }) rfl
    rwa [hz] at this
  exact ⟨⟨_, he, rfl⟩, h _ he ⟨_, Heap.get?_push_of_some _ (Heap.get?_push_size _ rfl), rfl, rfl⟩ fun b o x => Heap.get?_push_of_some _ (Heap.get?_push_of_some _ x)⟩
end
/-- fixed values, each in a new pair with its number -/
def Itg (vals : List V) : It :=
  ⟨fun i _ => i < vals.length, fun i H v H' => ∃ t x, v = .ref t ∧ H t = none ∧ H' = upd H t (.tup [.int (i : Nat), x]) ∧ vals[i]? = some x, fun i _ => vals.length ≤ i⟩
/-- one turn of an enumerate -/
theorem enum_turn {X : Cx} {pins : List (Addr × Obj)} {s : Shared} {σ : L2.St} {H : Hp} {E : Value → Shared → Prop} {e it : Addr} {fp : List Addr} {n i : Nat} {Pv : Nat → Value → Prop} {St : Nat → Heap → Prop} {vals : List V} {old : Value} {elts : List Expr} {kk : Nat} {tpos : Pos} {Ni : Nat → Heap → Prop}
    (D : Draws X.prog X.w X.A.in1 it fp n Pv St) (I : L2.Inv X pins σ H s) (hf : ∀ b ∈ [e, it], FpOk X pins H b) (he : IsEnum s.heap e it (i : Int) old) (hst : St i s.heap) (hlt : i < n) (hne : e ≠ it) (hef : e ∉ fp) (hil : it < s.heap.objs.size)
    (val : ∀ v, Pv i v → ∃ x, vals[i]? = some x ∧ RelV x v) (nst : ∀ h, St (i + 1) h → Ni (i + 1) h) (nk : ∀ h h', Ni (i + 1) h → (∀ o, h.get? it = some o → h'.get? it = some o) → Ni (i + 1) h') :
    wpAny (model X.prog X.w) X.A (pyNext (.ref e)) (fun r s1 => ∃ u, r = some u ∧ wpAny (model X.prog X.w) X.A (letOwnedTupleGo (.Tuple elts kk tpos) (.ref e) u) (fun _ s2 => ∃ x H', L2.Inv X pins σ H' s2 ∧ RelV x u ∧ (Itg vals).yld i H x H' ∧
      ((∃ old, IsEnum s2.heap e it ((i + 1 : Nat) : Int) old) ∧ Ni (i + 1) s2.heap ∧ e ≠ it) ∧ ∀ b ∈ [e, it], H' b = none) E s1) E s := by
  have hel : e < s.heap.objs.size := Heap.lt_size he
  refine wpAny_pyNext_enum_itemC D he hst hlt hne hef fun u h' tk hP ho hst' hT hsz hk => ?_
  obtain ⟨x, hx, ru⟩ := val u hP
  refine ⟨_, rfl, wpAny_letOwnedTupleGo_enum (s := { s with heap := h', toks := tk + 1 }) ho fun h'' he' sb => ?_⟩
  have hT2 : h''.get? s.heap.objs.size = some { cls := .type "tuple", data := .seq #[.int (i : Int) tk, u] } := (sb.2 _ (Nat.ne_of_gt hel)).trans hT
  have new : ObjOk X.prog X.w (upd H s.heap.objs.size (.tup [.int (i : Nat), x])) h'' s.heap.objs.size (.tup [.int (i : Nat), x]) := ⟨by show 2 ≤ sizeLine; decide, [.int i tk, u], .cons ⟨_, rfl⟩ (.cons ru .nil), ⟨_, hT2, rfl, _, rfl⟩⟩
  have I1 : L2.Inv X pins σ (upd H s.heap.objs.size (.tup [.int (i : Nat), x])) { s with heap := h'', toks := tk + 1 } :=
    I.turnedNew (ch := [e, it]) (fun b ob hb q => (sb.2 b (fun z => hb (by simp [z]))).trans (hk b ob (fun z => hb (by simp [z])) (fun z => hb (by simp [z])) q)) hf (Nat.le_refl _) new
  refine ⟨.ref s.heap.objs.size, _, I1, rfl, ⟨_, x, rfl, I.hok.fresh (Nat.le_refl _), rfl, hx⟩, ⟨⟨u, ?_⟩, nk _ _ (nst _ hst') fun o q => (sb.2 it (Ne.symm hne)).trans q, hne⟩, fun b hb => ?_⟩
  · have e1 : ((i + 1 : Nat) : Int) = (i : Int) + 1 := by omega
    rw [e1]; exact he'
  · have hb' : b < s.heap.objs.size := by
      have e' : b = e ∨ b = it := by simpa using hb
      rcases e' with z | z
      · rw [z]; exact hel
      · rw [z]; exact hil
    rw [upd_ne (Nat.ne_of_lt hb')]
    exact (hf b hb).1
theorem enum_stop {X : Cx} {pins : List (Addr × Obj)} {s : Shared} {σ : L2.St} {H : Hp} {E : Value → Shared → Prop} {e it : Addr} {fp : List Addr} {n : Nat} {i : Int} {Pv : Nat → Value → Prop} {St : Nat → Heap → Prop} {old : Value}
    (D : Draws X.prog X.w X.A.in1 it fp n Pv St) (I : L2.Inv X pins σ H s) (hf : ∀ b ∈ [e, it], FpOk X pins H b) (he : IsEnum s.heap e it i old) (hst : St n s.heap) :
    wpAny (model X.prog X.w) X.A (pyNext (.ref e)) (fun r s1 => r = none ∧ L2.Inv X pins σ H s1) E s := by
  obtain ⟨f0, f1, f2, f3, f4, f5⟩ := hf it (by simp)
  exact wpAny_pyNext_enum_endD D he hst fun h' eb => ⟨rfl, I.turned (t' := s.toks) (fun b o hb q => eb b o hb q) f0 f1 f3 f4 f5⟩
/-- the tuple at a as it stands at each turn -/
def ItgT (K : PySem.W.Frag) (a : Addr) : It :=
  ⟨fun i H => ∃ xs, SqT K H a xs ∧ i < xs.length, fun i H v H' => ∃ t x, v = .ref t ∧ H t = none ∧ H' = upd H t (.tup [.int (i : Nat), x]) ∧ ∀ xs, SqT K H a xs → xs[i]? = some x, fun i H => ∃ xs, SqT K H a xs ∧ xs.length ≤ i⟩
theorem draws_end {P : Program} {w : World} {A : Around} (hh : A.handled = none) (it t : Addr) (items : Array Value) (i : Nat) (hx : items[i]? = none) :
    Draws P w A it [it, t] i (fun _ _ => False) (fun j h => j = i ∧ h.IsTupleIter it t i ∧ h.IsTuple t items) where
  live := fun _ _ st => let ⟨o, ho, _⟩ := st.2.1; ⟨o, ho⟩
  frame := fun _ _ _ st hk => ⟨st.1, st.2.1.at fun o e => hk it (by simp) o e, st.2.2.at fun o e => hk t (by simp) o e⟩
  item := fun j s Q E hi st hQ => absurd st.1 (Nat.ne_of_lt hi)
  done := fun s Q E st hE => wpAny_nextOf_tuple_end hh st.2.1 st.2.2 hx hE
theorem turn_enumT {P : Program} {w : World} {K : PySem.W.Frag} {elts : List Expr} {kk : Nat} {tpos : Pos} (a e it : Addr) (hai : a ≠ it) :
    Turn P w K (.Tuple elts kk tpos) (ItgT K a) [e, it] e (fun i h => ((∃ old, IsEnum h e it ((i : Nat) : Int) old) ∧ h.IsTupleIter it a i ∧ e ≠ it) ∧ (e ≠ a)) where
  mem := by simp
  obj := fun i h st b hb => by
    obtain ⟨⟨⟨old, he⟩, ⟨o, ho, hc, hd⟩, _⟩, _⟩ := st
    have e' : b = e ∨ b = it := by simpa using hb
    rcases e' with z | z
    · rw [z]; exact ⟨_, he, fun v q => nomatch q⟩
    · rw [z]; exact ⟨o, ho, fun v q => by rw [hd] at q; cases q⟩
  keep := fun i h h' st k => let ⟨⟨⟨old, he⟩, hi, hne⟩, ha⟩ := st; ⟨⟨⟨old, k e (by simp) _ he⟩, hi.at fun o q => k it (by simp) o q, hne⟩, ha⟩
  item := by
    intro X hP hw hK hc i pins s σ H E I hf st hg
    subst hP hw hK
    obtain ⟨⟨⟨old, he⟩, hit, hne⟩, hea⟩ := st
    obtain ⟨vals, hq, hlt⟩ := hg
    obtain ⟨its, rv, pl, hz⟩ := I.tuple hq
    have hl := rv.length
    have il : it < s.heap.objs.size := by obtain ⟨_, q, _⟩ := hit; exact Heap.lt_size q
    have step := enum_turn (elts := elts) (kk := kk) (tpos := tpos) (E := E) (Ni := fun j h => h.IsTupleIter it a j) (Draws.tuple (prog := X.prog) (w := X.w) (A := X.A.in1) (I.ok.hd hc) it a hai its.toArray) I hf he ⟨hit, pl⟩ (by rw [List.size_toArray]; omega) hne
      (by simp only [List.mem_cons, List.mem_singleton, List.not_mem_nil, or_false, not_or]; exact ⟨hne, hea⟩) il (vals := vals) (fun v hv => ?_) (fun h hh => hh.1) (fun h h' q k => q.at k)
    · refine wpAny_mono step (fun r s1 ⟨u, e1, q⟩ => ⟨u, e1, wpAny_mono q (fun _ s2 ⟨x, H', I2, r2, ⟨t, y, y1, y2, y3, y4⟩, t3, z⟩ => ⟨x, H', I2, r2, ⟨t, y, y1, y2, y3, fun xs hxs => ?_⟩, ⟨t3, hea⟩, z⟩) fun _ _ q => q⟩) fun _ _ q => q
      obtain ⟨its2, rv2, pl2, _⟩ := I.tuple hxs
      have e2 : its2 = its := by
        obtain ⟨o1, g1, c1, n1, d1⟩ := pl
        obtain ⟨o2, g2, c2, n2, d2⟩ := pl2
        rw [g1] at g2
        cases g2
        rw [d1] at d2
        injection d2 with d2
        have d3 := congrArg Array.toList d2
        simpa using d3.symm
      subst e2
      rw [Vals.inj rv2 rv]
      exact y4
    · have hv' : its[i]? = some v := by simpa using hv
      obtain ⟨u, hu, ru⟩ := rv.get (List.getElem?_eq_getElem hlt)
      rw [hv'] at hu
      cases hu
      exact ⟨_, List.getElem?_eq_getElem hlt, ru⟩
  done := by
    intro X hP hw hK hc i pins s σ H E I hf st hg
    subst hP hw hK
    obtain ⟨⟨⟨old, he⟩, hit, hne⟩, hea⟩ := st
    obtain ⟨vals, hq, hx⟩ := hg
    obtain ⟨its, rv, pl, hz⟩ := I.tuple hq
    have hl := rv.length
    exact enum_stop (draws_end (P := X.prog) (w := X.w) (A := X.A.in1) (I.ok.hd hc) it a its.toArray i (by simp; omega)) I hf he ⟨rfl, hit, pl⟩
  self := fun A i s Q E st h => let ⟨⟨⟨_, he⟩, _⟩, _⟩ := st; wpAny_pyIter_enum he h
/-- a text's signs -/
theorem turn_enumS {P : Program} {w : World} {K : PySem.W.Frag} {elts : List Expr} {kk : Nat} {tpos : Pos} (l : List Nat) (t : Tok) (e it : Addr) :
    Turn P w K (.Tuple elts kk tpos) (Itg (l.map fun c => vS [c])) [e, it] e (fun i h => (∃ old, IsEnum h e it ((i : Nat) : Int) old) ∧ (h.IsStrIter it (strIterType ⟨l.toArray⟩) ⟨l.toArray⟩ t i ∧ i ≤ l.length) ∧ e ≠ it) where
  mem := by simp
  obj := fun i h st b hb => by
    obtain ⟨⟨old, he⟩, ⟨⟨o, ho, hc, hd⟩, _⟩, _⟩ := st
    have e' : b = e ∨ b = it := by simpa using hb
    rcases e' with z | z
    · rw [z]; exact ⟨_, he, fun v q => nomatch q⟩
    · rw [z]; exact ⟨o, ho, fun v q => by rw [hd] at q; cases q⟩
  keep := fun i h h' st k => let ⟨⟨old, he⟩, hi, hne⟩ := st; ⟨⟨old, k e (by simp) _ he⟩, ⟨(let ⟨o, q1, q2⟩ := hi.1; ⟨o, k it (by simp) o q1, q2⟩), hi.2⟩, hne⟩
  item := by
    intro X hP hw hK hc i pins s σ H E I hf st hg
    subst hP hw hK
    obtain ⟨⟨old, he⟩, ⟨hit, _⟩, hne⟩ := st
    have hlt : i < l.length := by
      have : i < (l.map fun c => vS [c]).length := hg
      rwa [List.length_map] at this
    have il : it < s.heap.objs.size := by obtain ⟨_, q, _⟩ := hit; exact Heap.lt_size q
    refine enum_turn (elts := elts) (kk := kk) (tpos := tpos) (E := E) (Ni := fun j h => h.IsStrIter it (strIterType ⟨l.toArray⟩) ⟨l.toArray⟩ t j ∧ j ≤ l.length) (Draws.text (prog := X.prog) (w := X.w) (A := X.A.in1) (I.ok.hd hc) it ⟨l.toArray⟩ t) I hf he hit (by show i < l.toArray.size; rw [List.size_toArray]; exact hlt) hne
      (by simpa using hne) il (fun v ⟨c, u, h1, h2⟩ => ⟨vS [c], ?_, u, h2⟩) (fun h hh => ⟨hh, by omega⟩) (fun h h' q k => ⟨(let ⟨o, q1, q2⟩ := q.1; ⟨o, k o q1, q2⟩), q.2⟩)
    have h1' : l[i]? = some c := by simpa using h1
    rw [List.getElem?_map, h1']
    rfl
  done := by
    intro X hP hw hK hc i pins s σ H E I hf st hg
    subst hP hw hK
    obtain ⟨⟨old, he⟩, ⟨hit, hle⟩, hne⟩ := st
    have hx : l.length ≤ i := by
      have : (l.map fun c => vS [c]).length ≤ i := hg
      rwa [List.length_map] at this
    have hi : i = (⟨l.toArray⟩ : Str).cps.size := by
      show i = l.toArray.size
      rw [List.size_toArray]; omega
    subst hi
    exact enum_stop (Draws.text (prog := X.prog) (w := X.w) (A := X.A.in1) (I.ok.hd hc) it ⟨l.toArray⟩ t) I hf he hit
  self := fun A i s Q E st h => let ⟨⟨_, he⟩, _⟩ := st; wpAny_pyIter_enum he h
def iEnumA (K : PySem.W.Frag) (ta : TA) : TI := fun σ H R => ta σ H fun vs H1 => (∃ a xs, vs = [.ref a] ∧ SqL K H1 a xs ∧ R (Ite K a) H1) ∨ (∃ a xs, vs = [.ref a] ∧ SqT K H1 a xs ∧ R (ItgT K a) H1) ∨ ∃ l : List Nat, vs = [vS l] ∧ R (Itg (l.map fun c => vS [c])) H1
theorem pi_enumA {X : Cx} {e : Expr} {ta : TA} {p pos tpos : Pos} {elts : List Expr} {kk : Nat} (hg : Gl X "enumerate") (hm : X.mg "enumerate" = none) (ha : PA X [e] ta) (hs : starEach [e] X.env = [(false, eval e X.env)] := by rfl) :
    PI X (.Tuple elts kk tpos) (.Call (.Name "enumerate" p) [e] [] pos) (iEnumA X.K ta) := by
  refine ⟨fun pins s σ H R I h => ?_⟩
  refine Call_ (ld_blt I hg hm boot_enumerate (PyProof.Rows.callWith_type1 (thn (ha.run pos pins s σ H _ I h) fun us s1 ⟨vs, H1, I1, r1, q1⟩ => ?_) hs rfl))
  have two : ∀ b, b ∈ [s1.heap.objs.size + 1, s1.heap.objs.size] → s1.heap.objs.size ≤ b := fun b hb => by
    have e' : b = s1.heap.objs.size + 1 ∨ b = s1.heap.objs.size := by simpa using hb
    rcases e' with z | z
    · rw [z]; exact Nat.le_add_right _ _
    · rw [z]; exact Nat.le_refl _
  rcases q1 with ⟨a, xs, ex, hq, q⟩ | ⟨a, xs, ex, hq, q⟩ | ⟨l, ex, q⟩
  · subst ex
    rw [Vals.ref1 r1]
    obtain ⟨its, rv, p', hz⟩ := I1.list hq
    refine call_enumerate_list p'.isList fun h' he hit hsz hk => wpAny_pyIter_enum he ?_
    have I2 : L2.Inv X pins σ H1 { s1 with heap := h' } := I1.kept (t' := s1.toks) hk
    exact ⟨s1.heap.objs.size + 1, [s1.heap.objs.size + 1, s1.heap.objs.size], _, _, H1, rfl, I2, turn_enum a (s1.heap.objs.size + 1) s1.heap.objs.size, ⟨⟨.none, he⟩, hit, Nat.succ_ne_self _⟩, fun b hb => I1.fpOk (two b hb) (I1.hok.fresh (two b hb)), q⟩
  · subst ex
    rw [Vals.ref1 r1]
    obtain ⟨its, rv, p', hz⟩ := I1.tuple hq
    have la : a < s1.heap.objs.size := by obtain ⟨_, z, _⟩ := p'; exact Heap.lt_size z
    refine call_enumT p' fun h' he hit hk => wpAny_pyIter_enum he ?_
    have I2 : L2.Inv X pins σ H1 { s1 with heap := h' } := I1.kept (t' := s1.toks) hk
    exact ⟨s1.heap.objs.size + 1, [s1.heap.objs.size + 1, s1.heap.objs.size], _, _, H1, rfl, I2, turn_enumT a (s1.heap.objs.size + 1) s1.heap.objs.size (Nat.ne_of_lt la), ⟨⟨⟨.none, he⟩, hit, Nat.succ_ne_self _⟩, Nat.ne_of_gt (Nat.lt_succ_of_lt la)⟩, fun b hb => I1.fpOk (two b hb) (I1.hok.fresh (two b hb)), q⟩
  · subst ex
    obtain ⟨u, e1, t, e2⟩ := vals1 r1
    subst e1 e2
    refine call_enumerate_str fun h' he hit hsz hk => wpAny_pyIter_enum he ?_
    have I2 : L2.Inv X pins σ H1 { s1 with heap := h' } := I1.kept (t' := s1.toks) hk
    exact ⟨s1.heap.objs.size + 1, [s1.heap.objs.size + 1, s1.heap.objs.size], _, _, H1, rfl, I2, turn_enumS l t (s1.heap.objs.size + 1) s1.heap.objs.size, ⟨⟨.none, he⟩, ⟨hit, Nat.zero_le _⟩, Nat.succ_ne_self _⟩, fun b hb => I1.fpOk (two b hb) (I1.hok.fresh (two b hb)), q⟩
def numbered (xs : List D) : List D := pairs ((List.range xs.length).map fun (i : Nat) => .int i) xs
def oEnumA : D → M (List D)
  | .lst xs => ret (numbered xs)
  | .tup xs => ret (numbered xs)
  | .str l => ret (numbered (l.map fun c => .str [c]))
  | _ => bad
def cEnumA (f : Rho → M D) : Rho → M (List D) := fun ρ => bnd (f ρ) oEnumA
theorem numbered_len (xs : List D) : (numbered xs).length = xs.length := by unfold numbered pairs; simp
theorem numbered_at {xs : List D} {i : Nat} {d : D} (h : xs[i]? = some d) : (numbered xs)[i]? = some (.tup [.int (i : Int), d]) := by
  have hi : i < xs.length := (List.getElem?_eq_some_iff.mp h).1
  unfold numbered pairs
  rw [List.getElem?_map, (List.getElem?_zip_eq_some (z := (D.int (i : Int), d))).mpr ⟨by rw [List.getElem?_map, List.getElem?_range hi]; rfl, h⟩] <;> rfl
section
variable {X : Cx} {T : Th X.K}
theorem it_numbered {Γ : Wo} {vals : List V} {xs : List D} (hz : xs.length ≤ sizeLine) (J : It) (hv : ∀ Γ1, Γ.le Γ1 → Paired (Holds T Γ1) vals xs) (hy : J.yld = (Itg vals).yld) (hg : ∀ i Γ1 H1, Γ.le Γ1 → Good T Γ1 H1 → (i < vals.length → J.go i H1) ∧ (vals.length ≤ i → J.stop i H1)) : ItOk T Γ J (numbered xs) := by
  have hl := (hv Γ (Wo.le.refl _)).length
  refine ⟨by rw [numbered_len]; exact hz, fun i Γ1 H1 le g1 => ?_⟩
  rw [numbered_len]
  refine ⟨fun hi => ⟨(hg i Γ1 H1 le g1).1 (by omega), fun y H2 h => ?_⟩, fun hi => (hg i Γ1 H1 le g1).2 (by omega)⟩
  rw [hy] at h
  obtain ⟨t, x, e1, hn, e2, hx⟩ := h
  obtain ⟨d, hd, rx⟩ := Pd.getL (hv Γ1 le) hx
  subst e1 e2
  obtain ⟨x3, h3⟩ := new_pair (T := T) g1 (hint (i : Int)) rx hn
  exact ⟨_, _, x3, numbered_at hd, h3⟩
theorem di_enum {elts : List Expr} {kk : Nat} {tpos : Pos} {a : Expr} {f : Rho → M D} {p pos : Pos} (hm : X.mg "enumerate" = none) (ha : DE X T a f) (hg : Gl X "enumerate" := by rfl) (hs : starEach [a] X.env = [(false, eval a X.env)] := by rfl) :
    DI X T (.Tuple elts kk tpos) (.Call (.Name "enumerate" p) [a] [] pos) (cEnumA f) :=
  PI.imp (pi_enumA hg hm (pa_cons ha pa_nil hs) hs) fun σ H R ⟨Γ, ρ, Q, g, en, h, k⟩ => .mk g en h fun v d Γ1 H1 x1 hv h1 => by
    cases d with
    | lst xs =>
      obtain ⟨a, e1, q⟩ := hv
      obtain ⟨o, ho, vs, eo, r, hz⟩ := x1.good a _ q
      subst e1 eo
      have hlen := numbered_len xs
      refine .inl ⟨a, vs, rfl, SqL.of ho, k _ _ Γ1 H1 x1 ⟨by rw [hlen]; exact hz, fun i Γ2 H2 le g2 => ?_⟩ h1⟩
      obtain ⟨o2, ho2, vs2, eo2, r2, _⟩ := g2 a _ (le a _ q)
      subst eo2
      have hl := r2.length
      rw [hlen]
      refine ⟨fun hi => ?_, fun hi => ⟨vs2, SqL.of ho2, by omega⟩⟩
      obtain ⟨d, hd⟩ : ∃ d, xs[i]? = some d := ⟨xs[i], by simp [hi]⟩
      obtain ⟨w, hw, rw'⟩ := Pd.get r2 hd
      refine ⟨⟨vs2, w, SqL.of ho2, hw⟩, fun y H3 ⟨t, x, e1, hn, e2, hx⟩ => ?_⟩
      have := hx vs2 (SqL.of ho2)
      rw [hw] at this
      cases this
      subst e1 e2
      obtain ⟨x3, h3⟩ := new_pair (T := T) g2 (hint (i : Int)) rw' hn
      exact ⟨_, _, x3, numbered_at hd, h3⟩
    | tup xs =>
      have hz := Holds.tupLe x1.good hv
      obtain ⟨a, vs, e1, ho, r⟩ := Holds.tup x1.good hv
      subst e1
      refine .inr (.inl ⟨a, vs, rfl, ho, k _ _ Γ1 H1 x1 ⟨by rw [numbered_len]; exact hz, fun i Γ2 H2 le g2 => ?_⟩ h1⟩)
      obtain ⟨a', vs2, e2, ho2, r2⟩ := Holds.tup g2 (hv.mono le)
      cases e2
      have hl := r2.length
      rw [numbered_len]
      refine ⟨fun hi => ⟨⟨vs2, ho2, by omega⟩, fun y H3 ⟨t, x, e1, hn, e2, hx⟩ => ?_⟩, fun hi => ⟨vs2, ho2, by omega⟩⟩
      obtain ⟨d, hd, rx⟩ := Pd.getL r2 (hx vs2 ho2)
      subst e1 e2
      obtain ⟨x3, h3⟩ := new_pair (T := T) g2 (hint (i : Int)) rx hn
      exact ⟨_, _, x3, numbered_at hd, h3⟩
    | str l =>
      obtain ⟨e1, o1⟩ := (show v = vS l ∧ okS l from hv)
      refine .inr (.inr ⟨l, by rw [e1], k _ _ Γ1 H1 x1 (it_numbered (by rw [List.length_map]; exact o1.1) (Itg (l.map fun c => vS [c])) (fun Γ2 le => pd_signs o1.2) rfl fun i Γ2 H2 le g2 => ⟨fun hi => hi, fun hi => hi⟩) h1⟩)
    | _ => exact False.elim h1
end
end DL

namespace DL
open PySem PySem.Spec L2 PyProof.Rows
section
variable {X : Cx} {T : Th X.K} {pos : Pos}
theorem de_globU {x : Str} {ds : List D} {pos : Pos} (hm : ∃ a, X.mg x = some (.ref a) ∧ T.ct a = some (.tup ds)) (hg : Gl X x := by rfl) (hd : (x == ("__debug__" : Str)) = false := by decide) : DE X T (.Name x pos) (cst (.tup ds)) := by
  obtain ⟨a, h1, h2⟩ := hm
  exact de_globT h1 h2 hg hd
/-- a, b, c = x, y, z : plain local names -/
def sPar3 (i j l : Nat) (f : Rho → M (List D)) : Rho → M Fl := fun ρ => bnd (f ρ) fun ds => match ds with
  | [a, b, c] => ret (.nx (((ρ.set i (.va a)).set j (.va b)).set l (.va c)))
  | _ => bad
theorem ds_par3 (i j l : Nat) {x y z : Str} {a b c : Expr} {fs : Rho → M (List D)} {px py pz pt pos : Pos} {kt k2 pt2} (hc : X.calm = true) (hN : X.N.Nodup) (ha : DA X T [a, b, c] fs) (hi : X.N[i]? = some x := by rfl) (hj : X.N[j]? = some y := by rfl) (hl : X.N[l]? = some z := by rfl) (hij : i ≠ j := by decide) (hil : i ≠ l := by decide) (hjl : j ≠ l := by decide)
    (hx : X.env.scope.names.lookup x = some .local := by rfl) (hy : X.env.scope.names.lookup y = some .local := by rfl) (hz : X.env.scope.names.lookup z = some .local := by rfl)
    (hw : swappedStores [.Tuple [.Name x px, .Name y py, .Name z pz] kt pt] (.Tuple [a, b, c] k2 pt2) X.env = pure (some [x, y, z]) := by rfl)
    (hs : swapsWithSole [.Tuple [.Name x px, .Name y py, .Name z pz] kt pt] (.Tuple [a, b, c] k2 pt2) pos.line X.env = pure false := by rfl) :
    DS X T (.Assign [.Tuple [.Name x px, .Name y py, .Name z pz] kt pt] (.Tuple [a, b, c] k2 pt2) pos) (sPar3 i j l fs) :=
  PS.imp (ps_par3 hc hN hi hj hl hij hil hjl hx hy hz ha hw hs) fun D σ H ⟨Γ0, H0, Γ, ρ, Q, s, h, k1, k2, k3, k4⟩ => ⟨Γ, ρ, _, s.good, s.e, h, fun vs ds Γ' H' x hv q => by
    cases hv with
    | nil => exact q.elim
    | cons r1 rr =>
      cases rr with
      | nil => exact q.elim
      | cons r2 rr =>
        cases rr with
        | nil => exact q.elim
        | cons r3 rr =>
          cases rr with
          | nil => exact ⟨_, _, _, rfl, k1 _ _ Γ' H' x.le ((s.step x).kp (.refl x.good) ((((s.e.mono x).set r1 i).set r2 j).set r3 l) (((Kp.set i).trans (Kp.set j)).trans (Kp.set l))) q⟩
          | cons _ _ => exact q.elim⟩
/-- a, b = [], [] : two lists of one's own -/
def sParOwn (i j : Nat) : Rho → M Fl := fun ρ => ret (.nx ((ρ.set i (.ow [])).set j (.ow [])))
theorem ds_parOwn (i j : Nat) {x y : Str} {px py pt pa pb pos : Pos} {kt k2 pt2} (hc : X.calm = true) (hN : X.N.Nodup) (hi : X.N[i]? = some x := by rfl) (hj : X.N[j]? = some y := by rfl) (hij : i ≠ j := by decide)
    (hx : X.env.scope.names.lookup x = some .local := by rfl) (hy : X.env.scope.names.lookup y = some .local := by rfl)
    (he : starEach [.List [] pa, .List [] pb] X.env = (false, eval (.List [] pa) X.env) :: starEach [.List [] pb] X.env := by rfl) (he2 : starEach [.List [] pb] X.env = (false, eval (.List [] pb) X.env) :: starEach [] X.env := by rfl)
    (hw : swappedStores [.Tuple [.Name x px, .Name y py] kt pt] (.Tuple [.List [] pa, .List [] pb] k2 pt2) X.env = pure (some [x, y]) := by rfl)
    (hs : swapsWithSole [.Tuple [.Name x px, .Name y py] kt pt] (.Tuple [.List [] pa, .List [] pb] k2 pt2) pos.line X.env = pure false := by rfl) :
    DS X T (.Assign [.Tuple [.Name x px, .Name y py] kt pt] (.Tuple [.List [] pa, .List [] pb] k2 pt2) pos) (sParOwn i j) :=
  PS.imp (ps_par hc hN hi hj hij hx hy (pa_cons (pe_lst pa_nil) (pa_cons (pe_lst pa_nil) pa_nil he2) he) hw hs) fun D σ H ⟨Γ0, H0, Γ, ρ, Q, s, h, k1, k2, k3, k4⟩ => ⟨Nat.zero_le _, fun p hp => ⟨Nat.zero_le _, fun p2 hp2 => ⟨_, _, rfl, by
    have g1 := s.good.free hp
    have x1 : Ext T Γ H Γ (upd H p (.lst [])) := .newOwn s.good hp
    have g2 := x1.good.free hp2
    have x2 : Ext T Γ (upd H p (.lst [])) Γ (upd (upd H p (.lst [])) p2 (.lst [])) := .newOwn x1.good hp2
    have e1 : EnvR T Γ (upd H p (.lst [])) (σ.set i (some (.ref p))) (ρ.set i (.ow [])) := s.e.setOwn (x := .ow []) (H' := upd H p (.lst [])) hp ⟨g1, [], upd_same, .nil, Nat.zero_le _⟩ (fun b o hb => by rw [upd_ne (ne_of_none hb hp)]; exact hb) i
    have e2 : EnvR T Γ (upd (upd H p (.lst [])) p2 (.lst [])) ((σ.set i (some (.ref p))).set j (some (.ref p2))) ((ρ.set i (.ow [])).set j (.ow [])) := e1.setOwn (x := .ow []) (H' := upd (upd H p (.lst [])) p2 (.lst [])) hp2 ⟨g2, [], upd_same, .nil, Nat.zero_le _⟩ (fun b o hb => by rw [upd_ne (ne_of_none hb hp2)]; exact hb) j
    refine k1 _ _ Γ _ (Wo.le.refl _) ⟨(s.x.trans x1).trans x2, e2, fun m z a h1 h2 h3 => ?_⟩ h
    rcases get_set h3 with ⟨rfl, q⟩ | ⟨n, q⟩
    · have ea : a = p2 := by cases q; rfl
      rw [ea]
      exact (s.x.trans x1).freeBack hp2
    · rcases get_set h1 with ⟨q1, _⟩ | ⟨_, q1⟩
      · exact absurd q1 n
      · rcases get_set q with ⟨rfl, r⟩ | ⟨n2, r⟩
        · have ea : a = p := by cases r; rfl
          rw [ea]
          exact s.x.freeBack hp
        · rcases get_set q1 with ⟨q2, _⟩ | ⟨_, q2⟩
          · exact absurd q2 n2
          · exact s.f m z a q2 h2 r⟩⟩⟩
end
/-- the theory of a law with a tape and a constant tuple -/
def T1 (w : World) {K : PySem.W.Frag} (q : Addr) (ds : List D) (h : ∃ vs, ds.length ≤ sizeLine ∧ (∀ H : Hp, SqT K H q vs) ∧ Paired (fun v d => scV d = some v ∧ ∀ l, d = .str l → okS l) vs ds) : Th K :=
  { w := w, ct := fun b => if b = q then some (.tup ds) else none, ctok := fun a d e => (by
      by_cases z : a = q
      · subst z
        rw [if_pos rfl] at e
        cases e
        obtain ⟨vs, h1, h2, h3⟩ := h
        exact ⟨ds, vs, rfl, h1, h2, h3⟩
      · rw [if_neg z] at e
        cases e), ob := fun t xs Γ a o => tapeO (K := K) t xs Γ a o, mono := tapeO_mono }
theorem T1_tp {w : World} {K : PySem.W.Frag} {q : Addr} {ds : List D} {h} : Tp (K := K) (T1 w q ds h) := fun xs Γ a o => Iff.rfl
theorem T1_ct {w : World} {K : PySem.W.Frag} {q : Addr} {ds : List D} {h} : (T1 w (K := K) q ds h).ct q = some (.tup ds) := if_pos rfl
/-- a tuple of texts of the written part -/
theorem kept_strs {K : PySem.W.Frag} {q : Addr} {ls : List (List Nat)} {ts : List Tok} {n : Nat} {dd : Option Addr} {sl : Array (Option Value)} (hl : ls.length = ts.length) (hz : ls.length ≤ 1000) (hc : ∀ l ∈ ls, l.length ≤ 1000 ∧ ∀ c ∈ l, c < 1114112)
    (h : K.lookup q = some ⟨.type "tuple", dd, .seq ((ls.zip ts).map fun p => Value.str ⟨p.1.toArray⟩ p.2).toArray n, sl⟩) :
    ∃ vs, (ls.map D.str).length ≤ sizeLine ∧ (∀ H : Hp, SqT K H q vs) ∧ Paired (fun v d => scV d = some v ∧ ∀ l, d = .str l → okS l) vs (ls.map D.str) := by
  refine ⟨ls.map vS, by rw [List.length_map]; exact Nat.le_trans hz (by decide), fun H => .inr ⟨_, _, n, h, rfl, rfl, ?_, ?_⟩, ?_⟩
  · rw [List.size_toArray, List.length_map, List.length_zip]
    exact Nat.le_trans (Nat.min_le_left _ _) (Nat.le_trans hz (by decide))
  · clear h hz hc
    induction ls generalizing ts with
    | nil => exact .nil
    | cons l ls ih =>
      cases ts with
      | nil => cases hl
      | cons t ts => exact .cons ⟨t, rfl⟩ (ih (by simpa using hl))
  · clear h hz hl
    induction ls with
    | nil => exact .nil
    | cons l ls ih =>
      refine .cons ⟨rfl, fun l2 e => ?_⟩ (ih fun x hx => hc x (List.mem_cons_of_mem _ hx))
      cases e
      obtain ⟨h1, h2⟩ := hc l List.mem_cons_self
      exact ⟨Nat.le_trans h1 (by decide), h2⟩
end DL

namespace DL
open PySem PySem.Spec L2
abbrev c_KINDS : D := .tup [.str [98, 101, 103, 105, 110, 115], .str [101, 110, 100, 115], .str [104, 97, 115], .str [105, 115]]
def nis_integer : List Str := ["value", "low", "high"]
def bis_integer : Rho → M Fl := sRet (vAnd (c1 (oIsi isInt) (rd 0)) (vAnd (c1 oNot (c1 (oIsi isBool) (rd 0))) (c3 oLe oLe (rd 1) (rd 0) (rd 2))))
def dis_integer : List D → M D := fnD 3 0 (bis_integer)
def nis_word : List Str := ["value", "sign"]
def bis_word : Rho → M Fl := sRet (vAnd (c1 (oIsi isStr) (rd 0)) (vAnd (c3 oLe oLe (cst (.int 1)) (cA (on1 oLen1) (aCons (rd 0) (aNil))) (cst (.int 5))) (cA (on1 oAll1) (aCons (cLcL (cIt (rd 0)) (gN 1) (tYesD) (c2 oIn (rd 1) (cst c_DIGITS)) [1]) (aNil)))))
def dis_word : List D → M D := fnD 1 1 (bis_word)
def nis_rule : List Str := ["value"]
def bis_rule (Wis_word : List D → M D) : Rho → M Fl := sSeq (sIf (cOr (cNot (tst (c1 (oIsi isTup) (rd 0)))) (cOr (tst (c2 oNe (cA (on1 oLen1) (aCons (rd 0) (aNil))) (cst (.int 2)))) (cNot (tst (c1 (oIsi isStr) (c2 oIx (rd 0) (cst (.int 0)))))))) (sRet (cst (.bl false))) (sNext)) (sRet (vAnd (c2 oIn (c2 oIx (rd 0) (cst (.int 0))) (cst c_KINDS)) (cA Wis_word (aCons (c2 oIx (rd 0) (cst (.int 1))) (aNil)))))
def dis_rule (Wis_word : List D → M D) : List D → M D := fnD 1 0 (bis_rule Wis_word)
def nare_rules : List Str := ["value", "rule"]
def bare_rules (Wis_rule : List D → M D) : Rho → M Fl := sSeq (sIf (cOr (cNot (tst (c1 (oIsi isTup) (rd 0)))) (cOr (tst (c2 oGt (cA (on1 oLen1) (aCons (rd 0) (aNil))) (cst (.int 5)))) (cNot (tst (cA (on1 oAll1) (aCons (cLcL (cIt (rd 0)) (gN 1) (tYesD) (cA Wis_rule (aCons (rd 1) (aNil))) [1]) (aNil))))))) (sRet (cst (.bl false))) (sNext)) (sRet (c2 oEq (c1 oLenSet (rd 0)) (cA (on1 oLen1) (aCons (rd 0) (aNil)))))
def dare_rules (Wis_rule : List D → M D) : List D → M D := fnD 1 1 (bare_rules Wis_rule)
def nare_extras : List Str := ["value", "pair", "one", "other"]
def bare_extras (Wis_integer : List D → M D) : Rho → M Fl := sSeq (sIf (cOr (cNot (tst (c1 (oIsi isTup) (rd 0)))) (tst (c2 oGt (cA (on1 oLen1) (aCons (rd 0) (aNil))) (cst (.int 3))))) (sRet (cst (.bl false))) (sNext)) (sSeq (sFor (cIt (rd 0)) (gN 1) (sSeq (sIf (cOr (cNot (tst (c1 (oIsi isTup) (rd 1)))) (tst (c2 oNe (cA (on1 oLen1) (aCons (rd 1) (aNil))) (cst (.int 2))))) (sRet (cst (.bl false))) (sNext)) (sIf (cOr (cNot (tst (cA Wis_integer (aCons (c2 oIx (rd 1) (cst (.int 0))) (aCons (cst (.int 1)) (aCons (cst (.int 999)) (aNil))))))) (cNot (tst (cA Wis_integer (aCons (c2 oIx (rd 1) (cst (.int 1))) (aCons (cst (.int 1)) (aCons (cst (.int 3)) (aNil)))))))) (sRet (cst (.bl false))) (sNext)))) (sRet (cA (on1 oAll1) (aCons (cLcL (cZip (rd 0) (cSl (rd 0) (pSome (cst (.int 1))) (pNone))) (gTn 2 (gsCons (gN 2) (gsCons (gN 3) (gsNil)))) (tYesD) (c2 oLt (c2 oIx (rd 2) (cst (.int 0))) (c2 oIx (rd 3) (cst (.int 0)))) [2, 3]) (aNil)))))
def dare_extras (Wis_integer : List D → M D) : List D → M D := fnD 1 3 (bare_extras Wis_integer)
def nis_counter : List Str := ["value"]
def bis_counter (Ware_rules Ware_extras : List D → M D) : Rho → M Fl := sSeq (sIf (cOr (cNot (tst (c1 (oIsi isTup) (rd 0)))) (tst (c2 oNe (cA (on1 oLen1) (aCons (rd 0) (aNil))) (cst (.int 2))))) (sRet (cst (.bl false))) (sNext)) (sRet (vAnd (cA Ware_rules (aCons (c2 oIx (rd 0) (cst (.int 0))) (aNil))) (cA Ware_extras (aCons (c2 oIx (rd 0) (cst (.int 1))) (aNil)))))
def dis_counter (Ware_rules Ware_extras : List D → M D) : List D → M D := fnD 1 0 (bis_counter Ware_rules Ware_extras)
def nrule_text : List Str := ["rule"]
def brule_text : Rho → M Fl := sRet (cJs [c1 oFmt (c2 oIx (rd 0) (cst (.int 0))), cst (.str [32]), c1 oFmt (c2 oIx (rd 0) (cst (.int 1)))])
def drule_text : List D → M D := fnD 1 0 (brule_text)
def ncounter_text : List Str := ["counter", "rules", "extras", "parts", "rule", "number", "many"]
def bcounter_text (Wrule_text : List D → M D) : Rho → M Fl := sSeq (sAsg (rd 0) (gTn 2 (gsCons (gN 1) (gsCons (gN 2) (gsNil))))) (sSeq (sSet 3 (cA oLst (aStar (cLcL (cIt (rd 1)) (gN 4) (tYesD) (cA Wrule_text (aCons (rd 4) (aNil))) [4]) (aStar (cLcL (cIt (rd 2)) (gTn 2 (gsCons (gN 5) (gsCons (gN 6) (gsNil)))) (tYesD) (cJs [c1 oFmt (rd 5), cst (.str [43]), c1 oFmt (rd 6)]) [5, 6]) (aNil))))) (sRet (cIf (tst (c2 oNe (rd 3) (cA oLst (aNil)))) (cMS oJoin (cst (.str [59, 32])) (aCons (rd 3) (aNil))) (cst (.str [97, 108, 108])))))
def dcounter_text (Wrule_text : List D → M D) : List D → M D := fnD 1 6 (bcounter_text Wrule_text)
def nread_number : List Str := ["word", "sign"]
def bread_number : Rho → M Fl := sSeq (sIf (cOr (tst (c2 oEq (rd 0) (cst (.str [])))) (cOr (tst (c2 oGt (cA (on1 oLen1) (aCons (rd 0) (aNil))) (cst (.int 4)))) (cNot (tst (cA (on1 oAll1) (aCons (cLcL (cIt (rd 0)) (gN 1) (tYesD) (c2 oIn (rd 1) (cst (.str [48, 49, 50, 51, 52, 53, 54, 55, 56, 57]))) [1]) (aNil))))))) (sRet (cst .non)) (sNext)) (sRet (cIf (tst (c2 oEq (cA (on1 oStr1) (aCons (cA (on1 oInt1) (aCons (rd 0) (aNil))) (aNil))) (rd 0))) (cA (on1 oInt1) (aCons (rd 0) (aNil))) (cst .non)))
def dread_number : List D → M D := fnD 1 1 (bread_number)
def nread_counter : List Str := ["value", "rules", "extras", "part", "number", "many", "kind", "word", "counter"]
def bread_counter (Wread_number Wis_counter : List D → M D) : Rho → M Fl := sSeq (sIf (cNot (tst (c1 (oIsi isStr) (rd 0)))) (sRet (cst .non)) (sNext)) (sSeq (sParOwn 1 2) (sSeq (sFor (cIt (cIf (tst (c2 oNe (rd 0) (cst (.str [97, 108, 108])))) (cMS oSplit (rd 0) (aCons (cst (.str [59, 32])) (aNil))) (cA oLst (aNil)))) (gN 3) (sIf (cAnd (tst (c2 oEq (cMS oCount (rd 3) (aCons (cst (.str [43])) (aNil))) (cst (.int 1)))) (tst (c2 oEq (cMS oCount (rd 3) (aCons (cst (.str [32])) (aNil))) (cst (.int 0))))) (sSeq (sAsg (cMS oSplit (rd 3) (aCons (cst (.str [43])) (aNil))) (gL 2 (gsCons (gN 4) (gsCons (gN 5) (gsNil))))) (sApp 2 (cA oTup (aCons (cA Wread_number (aCons (rd 4) (aNil))) (aCons (cA Wread_number (aCons (rd 5) (aNil))) (aNil)))))) (sIf (cAnd (tst (c2 oEq (cMS oCount (rd 3) (aCons (cst (.str [32])) (aNil))) (cst (.int 1)))) (tst (oOwnNil false 2))) (sSeq (sAsg (cMS oSplit (rd 3) (aCons (cst (.str [32])) (aNil))) (gL 2 (gsCons (gN 6) (gsCons (gN 7) (gsNil))))) (sApp 1 (cA oTup (aCons (rd 6) (aCons (rd 7) (aNil)))))) (sRet (cst .non))))) (sPub 1 (sPub 2 (sSeq (sSet 8 (cA oTup (aCons (cA (on1 oTuple1) (aCons (rd 1) (aNil))) (aCons (cA (on1 oTuple1) (aCons (rd 2) (aNil))) (aNil))))) (sRet (cIf (tst (cA Wis_counter (aCons (rd 8) (aNil)))) (rd 8) (cst .non))))))))
def dread_counter (Wread_number Wis_counter : List D → M D) : List D → M D := fnD 1 8 (bread_counter Wread_number Wis_counter)
end DL

namespace DL
open PySem PySem.Spec L2
def n_law_near : List Str := ["tape", "counter", "rules", "extras", "way", "at", "rule", "kind", "word", "new"]
def b_law_near (W_law_draw W_law_rule : List D → M D) : Rho → M Fl := sSeq (sAsg (rd 1) (gTn 2 (gsCons (gN 2) (gsCons (gN 3) (gsNil))))) (sSeq (sSet 4 (cA W_law_draw (aCons (rd 0) (aCons (cst (.int 5)) (aNil))))) (sSeq (sIf (tst (c2 oEq (rd 4) (cst (.int 0)))) (sRet (cA oTup (aCons (c1 oRev (rd 2)) (aCons (rd 3) (aNil))))) (sNext)) (sSeq (sSet 5 (cA W_law_draw (aCons (rd 0) (aCons (c2 oAdd (cA (on1 oLen1) (aCons (rd 2) (aNil))) (cst (.int 1))) (aNil))))) (sSeq (sSet 6 (cA W_law_rule (aCons (rd 0) (aNil)))) (sSeq (sIf (cAnd (tst (c2 oEq (rd 4) (cst (.int 1)))) (tst (c2 oNe (rd 2) (cA oTup (aNil))))) (sSeq (sAsg (c2 oIx (rd 2) (cA W_law_draw (aCons (rd 0) (aCons (cA (on1 oLen1) (aCons (rd 2) (aNil))) (aNil))))) (gTn 2 (gsCons (gN 7) (gsCons (gN 8) (gsNil))))) (sSet 6 (cIf (tst (c2 oNe (rd 7) (cst (.str [101, 110, 100, 115])))) (cA oTup (aCons (rd 7) (aCons (cSl (c2 oAdd (rd 8) (cst (.str [48, 55]))) (pNone) (pSome (cst (.int 5)))) (aNil)))) (cA oTup (aCons (rd 7) (aCons (cSl (c2 oAdd (cst (.str [55])) (rd 8)) (pNone) (pSome (cst (.int 5)))) (aNil))))))) (sNext)) (sSeq (sSet 9 (c2 oAdd (c2 oAdd (cSl (rd 2) (pNone) (pSome (rd 5))) (cA oTup (aCons (rd 6) (aNil)))) (cSl (rd 2) (pSome (c2 oAdd (rd 5) (c2 oIx (cA oLst (aCons (cst (.int 0)) (aCons (cst (.int 1)) (aNil)))) (cA (on1 oInt1) (aCons (c2 oGt (rd 4) (cst (.int 2))) (aNil)))))) (pNone)))) (sSeq (sSet 9 (cIf (tst (c2 oLt (rd 4) (cst (.int 4)))) (rd 9) (c2 oAdd (cSl (rd 2) (pNone) (pSome (rd 5))) (cSl (rd 2) (pSome (c2 oAdd (rd 5) (cst (.int 1)))) (pNone))))) (sRet (cIf (cAnd (tst (c2 oLt (cA (on1 oLen1) (aCons (rd 9) (aNil))) (cst (.int 6)))) (tst (c2 oEq (c1 oLenSet (rd 9)) (cA (on1 oLen1) (aCons (rd 9) (aNil)))))) (cA oTup (aCons (rd 9) (aCons (rd 3) (aNil)))) (rd 1))))))))))
def d_law_near (W_law_draw W_law_rule : List D → M D) : List D → M D := fnD 2 8 (b_law_near W_law_draw W_law_rule)
def nfitting : List Str := ["counters", "shown", "missing", "found", "at", "counter", "good", "number"]
def bfitting (Wis_shown : List D → M D) : Rho → M Fl := sSeq (sOwn 3 (aNil)) (sSeq (sFor (cEnumA (rd 0)) (gTn 2 (gsCons (gN 4) (gsCons (gN 5) (gsNil)))) (sSeq (sSet 6 (cA (on1 oAll1) (aCons (cLcL (cIt (rd 1)) (gN 7) (tYesD) (cA Wis_shown (aCons (rd 5) (aCons (rd 7) (aNil)))) [7]) (aNil)))) (sIf (cAnd (tst (rd 6)) (cNot (tst (cA (on1 oAny1) (aCons (cLcL (cIt (rd 2)) (gN 7) (tYesD) (cA Wis_shown (aCons (rd 5) (aCons (rd 7) (aNil)))) [7]) (aNil)))))) (sApp 3 (rd 4)) (sNext)))) (sPub 3 (sRet (rd 3))))
def dfitting (Wis_shown : List D → M D) : List D → M D := fnD 3 5 (bfitting Wis_shown)
end DL

namespace DL
open PySem PySem.Spec L2
def nlawk23 : List Str := ["script", "tape", "turn", "secret", "shown", "missing", "some", "many", "number", "kind", "word", "good", "due", "at", "counter", "wrong"]
def blawk23 (W_law_counter W_law_draw W_law_near W_law_number W_law_shown Wfitting W_law_like : List D → M D) : Rho → M Fl := sSeq (sFor (cRng1 (cst (.int 10))) (gN 2) (sSeq (sPar3 3 4 5 (aCons (cA W_law_counter (aCons (rd 1) (aNil))) (aCons (cA oTup (aNil)) (aCons (cA oTup (aNil)) (aNil))))) (sSeq (sSet 6 (cA oTup (aCons (rd 3) (aNil)))) (sSeq (sFor (cRng1 (cA W_law_draw (aCons (rd 1) (aCons (cst (.int 7)) (aNil))))) (gN 7) (sSet 6 (c2 oAdd (rd 6) (cA oTup (aCons (cA W_law_near (aCons (rd 1) (aCons (c2 oIx (rd 6) (cA W_law_draw (aCons (rd 1) (aCons (cA (on1 oLen1) (aCons (rd 6) (aNil))) (aNil))))) (aNil)))) (aNil)))))) (sSeq (sFor (cRng1 (cA W_law_draw (aCons (rd 1) (aCons (cst (.int 9)) (aNil))))) (gN 7) (sSeq (sSet 8 (c2 oIx (cA oLst (aCons (c2 oAdd (cst (.int 1)) (cA W_law_draw (aCons (rd 1) (aCons (cst (.int 120)) (aNil))))) (aCons (cA W_law_number (aCons (rd 1) (aNil))) (aNil)))) (cA W_law_draw (aCons (rd 1) (aCons (cst (.int 2)) (aNil)))))) (sSeq (sFor (cIt (cSl (c2 oIx (rd 3) (cst (.int 0))) (pNone) (pSome (cst (.int 1))))) (gTn 2 (gsCons (gN 9) (gsCons (gN 10) (gsNil)))) (sSet 8 (cIf (tst (c2 oEq (cA W_law_draw (aCons (rd 1) (aCons (cst (.int 3)) (aNil)))) (cst (.int 0)))) (cA (on1 oInt1) (aCons (c2 oAdd (cst (.str [53])) (rd 10)) (aNil))) (rd 8)))) (sSeq (sSet 11 (c2 oNe (cA W_law_shown (aCons (rd 3) (aCons (rd 8) (aNil)))) (c2 oEq (cA W_law_draw (aCons (rd 1) (aCons (cst (.int 20)) (aNil)))) (cst (.int 0))))) (sPar 4 5 (aCons (c2 oAdd (rd 4) (cIf (tst (rd 11)) (cA oTup (aCons (rd 8) (aNil))) (cA oTup (aNil)))) (aCons (c2 oAdd (rd 5) (cIf (tst (rd 11)) (cA oTup (aNil)) (cA oTup (aCons (rd 8) (aNil))))) (aNil)))))))) (sSeq (sOwn 12 (aNil)) (sSeq (sFor (cEnumA (rd 6)) (gTn 2 (gsCons (gN 13) (gsCons (gN 14) (gsNil)))) (sSeq (sOwnLc 15 (cLc (cIt (rd 4)) (gN 8) (cNot (tst (cA W_law_shown (aCons (rd 14) (aCons (rd 8) (aNil)))))) (rd 8) [8])) (sSeq (sExt 15 (cLcL (cIt (rd 5)) (gN 8) (tst (cA W_law_shown (aCons (rd 14) (aCons (rd 8) (aNil))))) (rd 8) [8])) (sPub 15 (sIf (tst (c2 oEq (rd 15) (cA oLst (aNil)))) (sApp 12 (rd 13)) (sNext)))))) (sPub 12 (sIf (cNot (tst (cA W_law_like (aCons (cA Wfitting (aCons (rd 6) (aCons (rd 4) (aCons (rd 5) (aNil))))) (aCons (rd 12) (aNil)))))) (sRet (cst (.bl false))) (sNext)))))))))) (sRet (vAnd (c2 oEq (cA Wfitting (aCons (cA oTup (aNil)) (aCons (cA oTup (aNil)) (aCons (cA oTup (aNil)) (aNil))))) (cA oLst (aNil))) (c2 oEq (cA Wfitting (aCons (cA oTup (aCons (cA oTup (aCons (cA oTup (aNil)) (aCons (cA oTup (aNil)) (aNil)))) (aNil))) (aCons (cA oTup (aCons (cst (.int 5)) (aNil))) (aCons (cA oTup (aNil)) (aNil))))) (cA oLst (aCons (cst (.int 0)) (aNil))))))
end DL

namespace Tx
open PySem PySem.Spec L2 PyProof.Rows DL
def topS (i : Nat) : Stmt := PySem.Challenge.pw_skiplabels_k23_whole_counters_told_back.main.body.getD i (.Pass ⟨0, 0, 0, 0⟩)
structure Bt (mg : Str → Option Value) : Prop where
  len : mg "len" = none
  int : mg "int" = none
  isinstance : mg "isinstance" = none
  list : mg "list" = none
  tuple : mg "tuple" = none
  range : mg "range" = none
  bool : mg "bool" = none
  sorted : mg "sorted" = none
  set : mg "set" = none
  max : mg "max" = none
  str : mg "str" = none
  any : mg "any" = none
  enumerate : mg "enumerate" = none
  all : mg "all" = none
section
variable {P : Program} {w : World} {K : PySem.W.Frag} {mg : Str → Option Value} {base : Heap} {T : Th K}
abbrev s_law_draw : Stmt := topS 6
theorem sc_law_draw : FnScope n_law_draw ["tape", "many"] (defScope s_law_draw) := ⟨rfl, rfl, rfl, by decide +kernel, rfl, by decide +kernel, by decide +kernel⟩
theorem w_law_draw {k : Nat} (F : Def K mg "_law_draw" s_law_draw ["tape", "many"]) (B : Bt mg) (hT : Tp T) : DFn P w K mg base T (k + 1) "_law_draw" 2 (d_law_draw) := by
  obtain ⟨a, fd, F0, hm, hb⟩ := F
  have nd := sc_law_draw.nd
  exact dfn_of (b := b_law_draw) F0 sc_law_draw rfl rfl hm hb fun cdv A outer s H E hr => dss_cons (ds_set 2 nd (de_int)) (dss_cons (ds_if (dt_cmp op_ltA od_cmp (de_tp2 hT 0) (de_var 1) (nomark _)) (dss_cons (ds_set 3 nd (de_int)) (dss_cons (ds_if (dt_cmp op_gtA od_cmp (de_callB call_len cd_len (B.len) (da_cons (de_tp0 hT 0) (da_nil))) (de_int) (nomark _)) (dss_one (ds_set 3 nd (de_ix ix_seq od_ix (de_tp0 hT 0) (de_op op_mod od_mod (de_callTy cr_intA cd_int (B.int) (da_cons (de_tp1 hT 0) (da_nil))) (de_callB call_len cd_len (B.len) (da_cons (de_tp0 hT 0) (da_nil))))))) (dss_nil)) (dss_cons (ds_if (dw_pt (dw_or (dt_cmp op_geA od_cmp (de_tp1 hT 0) (de_callB call_len cd_len (B.len) (da_cons (de_tp0 hT 0) (da_nil))) (nomark _)) (dw_or1 (dt_cmp op_ltA od_cmp (de_var 3) (de_op op_pow od_pow (de_int) (de_int)) (nomark _))))) (dss_cons (ds_set 3 nd (de_op op_mod od_mod (de_callTy cr_intA cd_int (B.int) (da_cons (de_op op_addA od_add (de_var 3) (de_op op_mulA od_mul (de_int) (de_tp1 hT 0))) (da_nil))) (de_var 2))) (dss_cons (ds_set 3 nd (de_op op_mod od_mod (de_callTy cr_intA cd_int (B.int) (da_cons (de_op op_addA od_add (de_op op_addA od_add (de_op op_mulA od_mul (de_var 3) (de_var 3)) (de_op op_mulA od_mul (de_int) (de_var 3))) (de_int)) (da_nil))) (de_var 2))) (dss_one (ds_set 3 nd (de_op op_mod od_mod (de_callTy cr_intA cd_int (B.int) (da_cons (de_op op_addA od_add (de_op op_mulA od_mul (de_var 3) (de_var 3)) (de_int)) (da_nil))) (de_var 2)))))) (dss_nil)) (dss_cons (ds_tp hT 0 1 (by decide) (de_op op_addA od_add (de_tp1 hT 0) (de_int))) (dss_one (ds_tp hT 0 2 (by decide) (de_var 3))))))) (dss_nil)) (dss_cons (ds_set 4 nd (de_op op_mod od_mod (de_callTy cr_intA cd_int (B.int) (da_cons (de_tp2 hT 0) (da_nil))) (de_var 1))) (dss_cons (ds_tp hT 0 2 (by decide) (de_op op_fdivW od_div (de_tp2 hT 0) (de_var 1))) (dss_one (ds_ret (de_var 4))))))
abbrev s_law_like : Stmt := topS 7
theorem sc_law_like : FnScope n_law_like ["one", "two"] (defScope s_law_like) := ⟨rfl, rfl, rfl, by decide +kernel, rfl, by decide +kernel, by decide +kernel⟩
theorem w_law_like {k : Nat} {W_law_like : List D → M D} (F : Def K mg "_law_like" s_law_like ["one", "two"]) (B : Bt mg) (G_law_like : DFn P w K mg base T k "_law_like" 2 W_law_like) : DFn P w K mg base T (k + 1) "_law_like" 2 (d_law_like W_law_like) := by
  obtain ⟨a, fd, F0, hm, hb⟩ := F
  have nd := sc_law_like.nd
  exact dfn_of (b := b_law_like W_law_like) F0 sc_law_like rfl rfl hm hb fun cdv A outer s H E hr => dss_cons (ds_if (dt_val (de_isiLT (B.isinstance) (B.list) (B.tuple) (de_var 0))) (dss_cons (ds_if (dw_pt (dw_or (dt_cmp (op_neA hr.units) od_ne (de_isi isi_lst (B.isinstance) (B.list) (de_var 0)) (de_isi isi_lst (B.isinstance) (B.list) (de_var 1)) (nomark _)) (dw_or1 (dt_cmp (op_neA hr.units) od_ne (de_isi isi_tup (B.isinstance) (B.tuple) (de_var 0)) (de_isi isi_tup (B.isinstance) (B.tuple) (de_var 1)) (nomark _))))) (dss_one (ds_ret (de_bl))) (dss_nil)) (dss_cons (ds_if (dt_cmp (op_neA hr.units) od_ne (de_callB call_len cd_len (B.len) (da_cons (de_var 0) (da_nil))) (de_callB call_len cd_len (B.len) (da_cons (de_var 1) (da_nil))) (nomark _)) (dss_one (ds_ret (de_bl))) (dss_nil)) (dss_one (ds_ret (de_cmp (op_eqA hr.units) od_eq (de_lc [("k", 2)] rfl nd (di_rng1 (B.range) (de_callB call_len cd_len (B.len) (da_cons (de_var 0) (da_nil)))) (blkOk_by (N := n_law_like) (sc := defScope s_law_like) (by decide +kernel)) (fun _ _ _ _ _ => dg_name 2 nd) (fun _ _ _ _ _ => dts_one (dt_not (dt_val (de_call G_law_like hr (da_cons (de_ix ix_seq od_ix (de_var 0) (de_var 2)) (da_cons (de_ix ix_seq od_ix (de_var 1) (de_var 2)) (da_nil))))))) (fun _ _ _ _ _ => de_var 2)) (de_lst (da_nil)) (nomark _)))))) (dss_nil)) (dss_cons (ds_if (dt_val (de_isiLT (B.isinstance) (B.list) (B.tuple) (de_var 1))) (dss_one (ds_ret (de_bl))) (dss_nil)) (dss_one (ds_ret (de_and (de_cmp (op_eqA hr.units) od_eq (de_isi isi_bool (B.isinstance) (B.bool) (de_var 0)) (de_isi isi_bool (B.isinstance) (B.bool) (de_var 1)) (nomark _)) (de_one (de_cmp (op_eqA hr.units) od_eq (de_var 0) (de_var 1) (nomark _)))))))
abbrev s_law_word : Stmt := topS 8
theorem sc_law_word : FnScope n_law_word ["tape"] (defScope s_law_word) := ⟨rfl, rfl, rfl, by decide +kernel, rfl, by decide +kernel, by decide +kernel⟩
theorem w_law_word {k : Nat} {W_law_draw : List D → M D} (F : Def K mg "_law_word" s_law_word ["tape"]) (B : Bt mg) (G_law_draw : DFn P w K mg base T k "_law_draw" 2 W_law_draw) : DFn P w K mg base T (k + 1) "_law_word" 1 (d_law_word W_law_draw) := by
  obtain ⟨a, fd, F0, hm, hb⟩ := F
  have nd := sc_law_word.nd
  exact dfn_of (b := b_law_word W_law_draw) F0 sc_law_word rfl rfl hm hb fun cdv A outer s H E hr => dss_cons (ds_set 1 nd (de_ix ix_seq od_ix (de_lst (da_cons (de_int) (da_cons (de_int) (da_cons (de_int) (da_cons (de_int) (da_cons (de_int) (da_cons (de_int) (da_cons (de_int) (da_nil))))))))) (de_call G_law_draw hr (da_cons (de_var 0) (da_cons (de_int) (da_nil)))))) (dss_one (ds_ret (de_bmS PySem.F.slot_str_join PySem.F.type_str_join mt_join md_join (de_str) (da_cons (de_lc [("turn", 2)] rfl nd (di_rng1 (B.range) (de_var 1)) (blkOk_by (N := n_law_word) (sc := defScope s_law_word) (by decide +kernel)) (fun _ _ _ _ _ => dg_name 2 nd) (fun _ _ _ _ _ => dts_nil) (fun _ _ _ _ _ => de_ix ix_seq od_ix (de_str) (de_call G_law_draw hr (da_cons (de_var 0) (da_cons (de_int) (da_nil)))))) (da_nil)))))
abbrev s_law_rule : Stmt := topS 9
theorem sc_law_rule : FnScope n_law_rule ["tape"] (defScope s_law_rule) := ⟨rfl, rfl, rfl, by decide +kernel, rfl, by decide +kernel, by decide +kernel⟩
theorem w_law_rule {k : Nat} {W_law_word W_law_draw : List D → M D} (F : Def K mg "_law_rule" s_law_rule ["tape"]) (G_law_word : DFn P w K mg base T k "_law_word" 1 W_law_word) (G_law_draw : DFn P w K mg base T k "_law_draw" 2 W_law_draw) : DFn P w K mg base T (k + 1) "_law_rule" 1 (d_law_rule W_law_word W_law_draw) := by
  obtain ⟨a, fd, F0, hm, hb⟩ := F
  have nd := sc_law_rule.nd
  exact dfn_of (b := b_law_rule W_law_word W_law_draw) F0 sc_law_rule rfl rfl hm hb fun cdv A outer s H E hr => dss_one (ds_ret (de_tup (da_cons (de_ix ix_seq od_ix (de_lst (da_cons (de_str) (da_cons (de_str) (da_cons (de_str) (da_cons (de_str) (da_nil)))))) (de_call G_law_draw hr (da_cons (de_var 0) (da_cons (de_int) (da_nil))))) (da_cons (de_call G_law_word hr (da_cons (de_var 0) (da_nil))) (da_nil)))))
abbrev s_law_counter : Stmt := topS 10
theorem sc_law_counter : FnScope n_law_counter ["tape"] (defScope s_law_counter) := ⟨rfl, rfl, rfl, by decide +kernel, rfl, by decide +kernel, by decide +kernel⟩
theorem w_law_counter {k : Nat} {W_law_draw W_law_rule : List D → M D} (F : Def K mg "_law_counter" s_law_counter ["tape"]) (B : Bt mg) (G_law_draw : DFn P w K mg base T k "_law_draw" 2 W_law_draw) (G_law_rule : DFn P w K mg base T k "_law_rule" 1 W_law_rule) : DFn P w K mg base T (k + 1) "_law_counter" 1 (d_law_counter W_law_draw W_law_rule) := by
  obtain ⟨a, fd, F0, hm, hb⟩ := F
  have nd := sc_law_counter.nd
  exact dfn_of (b := b_law_counter W_law_draw W_law_rule) F0 sc_law_counter rfl rfl hm hb fun cdv A outer s H E hr => dss_cons (ds_asg (de_tup (da_cons (de_tup (da_nil)) (da_cons (de_tup (da_nil)) (da_nil)))) (dg_tup rfl (dgs_cons (dg_name 1 nd) (dgs_cons (dg_name 2 nd) (dgs_nil))))) (dss_cons (ds_for rfl (di_rng1 (B.range) (de_call G_law_draw hr (da_cons (de_var 0) (da_cons (de_int) (da_nil))))) (dg_name 3 nd) (dss_cons (ds_set 4 nd (de_call G_law_rule hr (da_cons (de_var 0) (da_nil)))) (dss_one (ds_set 1 nd (de_if (dt_cmp (op_inA hr.u65) od_in (de_var 4) (de_var 1) (by with_unfolding_all rfl)) (de_var 1) (de_op op_addA od_add (de_var 1) (de_tup (da_cons (de_var 4) (da_nil))))))))) (dss_cons (ds_for rfl (di_seq (de_sortedSet rfl (B.sorted) (B.set) (de_lc [("turn", 3)] rfl nd (di_rng1 (B.range) (de_call G_law_draw hr (da_cons (de_var 0) (da_cons (de_int) (da_nil))))) (blkOk_by (N := n_law_counter) (sc := defScope s_law_counter) (by decide +kernel)) (fun _ _ _ _ _ => dg_name 3 nd) (fun _ _ _ _ _ => dts_nil) (fun _ _ _ _ _ => de_op op_addA od_add (de_int) (de_call G_law_draw hr (da_cons (de_var 0) (da_cons (de_int) (da_nil)))))))) (dg_name 5 nd) (dss_one (ds_set 2 nd (de_op op_addA od_add (de_var 2) (de_tup (da_cons (de_tup (da_cons (de_var 5) (da_cons (de_op op_addA od_add (de_int) (de_call G_law_draw hr (da_cons (de_var 0) (da_cons (de_int) (da_nil))))) (da_nil)))) (da_nil))))))) (dss_one (ds_ret (de_tup (da_cons (de_var 1) (da_cons (de_var 2) (da_nil))))))))
abbrev s_law_near : Stmt := topS 11
theorem sc_law_near : FnScope n_law_near ["tape", "counter"] (defScope s_law_near) := ⟨rfl, rfl, rfl, by decide +kernel, rfl, by decide +kernel, by decide +kernel⟩
theorem w_law_near {k : Nat} {W_law_draw W_law_rule : List D → M D} (F : Def K mg "_law_near" s_law_near ["tape", "counter"]) (B : Bt mg) (G_law_draw : DFn P w K mg base T k "_law_draw" 2 W_law_draw) (G_law_rule : DFn P w K mg base T k "_law_rule" 1 W_law_rule) : DFn P w K mg base T (k + 1) "_law_near" 2 (d_law_near W_law_draw W_law_rule) := by
  obtain ⟨a, fd, F0, hm, hb⟩ := F
  have nd := sc_law_near.nd
  exact dfn_of (b := b_law_near W_law_draw W_law_rule) F0 sc_law_near rfl rfl hm hb fun cdv A outer s H E hr => dss_cons (ds_asg (de_var 1) (dg_tup rfl (dgs_cons (dg_name 2 nd) (dgs_cons (dg_name 3 nd) (dgs_nil))))) (dss_cons (ds_set 4 nd (de_call G_law_draw hr (da_cons (de_var 0) (da_cons (de_int) (da_nil))))) (dss_cons (ds_if (dt_cmp (op_eqA hr.units) od_eq (de_var 4) (de_int) (nomark _)) (dss_one (ds_ret (de_tup (da_cons (de_rev (de_var 2)) (da_cons (de_var 3) (da_nil)))))) (dss_nil)) (dss_cons (ds_set 5 nd (de_call G_law_draw hr (da_cons (de_var 0) (da_cons (de_op op_addA od_add (de_callB call_len cd_len (B.len) (da_cons (de_var 2) (da_nil))) (de_int)) (da_nil))))) (dss_cons (ds_set 6 nd (de_call G_law_rule hr (da_cons (de_var 0) (da_nil)))) (dss_cons (ds_if (dw_pt (dw_and (dt_cmp (op_eqA hr.units) od_eq (de_var 4) (de_int) (nomark _)) (dw_and1 (dt_cmp (op_neA hr.units) od_ne (de_var 2) (de_tup (da_nil)) (nomark _))))) (dss_cons (ds_asg (de_ix ix_seq od_ix (de_var 2) (de_call G_law_draw hr (da_cons (de_var 0) (da_cons (de_callB call_len cd_len (B.len) (da_cons (de_var 2) (da_nil))) (da_nil))))) (dg_tup rfl (dgs_cons (dg_name 7 nd) (dgs_cons (dg_name 8 nd) (dgs_nil))))) (dss_one (ds_set 6 nd (de_if (dt_cmp (op_neA hr.units) od_ne (de_var 7) (de_str) (nomark _)) (de_tup (da_cons (de_var 7) (da_cons (de_sl (de_op op_addA od_add (de_var 8) (de_str)) (do_none) (do_some (de_int))) (da_nil)))) (de_tup (da_cons (de_var 7) (da_cons (de_sl (de_op op_addA od_add (de_str) (de_var 8)) (do_none) (do_some (de_int))) (da_nil)))))))) (dss_nil)) (dss_cons (ds_set 9 nd (de_op op_addA od_add (de_op op_addA od_add (de_sl (de_var 2) (do_none) (do_some (de_var 5))) (de_tup (da_cons (de_var 6) (da_nil)))) (de_sl (de_var 2) (do_some (de_op op_addA od_add (de_var 5) (de_ix ix_seq od_ix (de_lst (da_cons (de_int) (da_cons (de_int) (da_nil)))) (de_callTy cr_intA cd_int (B.int) (da_cons (de_cmp op_gtA od_cmp (de_var 4) (de_int) (nomark _)) (da_nil)))))) (do_none)))) (dss_cons (ds_set 9 nd (de_if (dt_cmp op_ltA od_cmp (de_var 4) (de_int) (nomark _)) (de_var 9) (de_op op_addA od_add (de_sl (de_var 2) (do_none) (do_some (de_var 5))) (de_sl (de_var 2) (do_some (de_op op_addA od_add (de_var 5) (de_int))) (do_none))))) (dss_one (ds_ret (de_if (dw_pt (dw_and (dt_cmp op_ltA od_cmp (de_callB call_len cd_len (B.len) (da_cons (de_var 9) (da_nil))) (de_int) (nomark _)) (dw_and1 (dt_cmp (op_eqA hr.units) od_eq (de_lenSet rfl hr.u65 (B.len) (B.set) (de_var 9)) (de_callB call_len cd_len (B.len) (da_cons (de_var 9) (da_nil))) (nomark _))))) (de_tup (da_cons (de_var 9) (da_cons (de_var 3) (da_nil)))) (de_var 1)))))))))))
abbrev s_law_left_by : Stmt := topS 12
theorem sc_law_left_by : FnScope n_law_left_by ["rule", "digits"] (defScope s_law_left_by) := ⟨rfl, rfl, rfl, by decide +kernel, rfl, by decide +kernel, by decide +kernel⟩
theorem w_law_left_by {k : Nat} (F : Def K mg "_law_left_by" s_law_left_by ["rule", "digits"]) (B : Bt mg) : DFn P w K mg base T (k + 1) "_law_left_by" 2 (d_law_left_by) := by
  obtain ⟨a, fd, F0, hm, hb⟩ := F
  have nd := sc_law_left_by.nd
  exact dfn_of (b := b_law_left_by) F0 sc_law_left_by rfl rfl hm hb fun cdv A outer s H E hr => dss_cons (ds_asg (de_var 0) (dg_tup rfl (dgs_cons (dg_name 2 nd) (dgs_cons (dg_name 3 nd) (dgs_nil))))) (dss_cons (ds_if (dt_cmp (op_eqA hr.units) od_eq (de_var 2) (de_str) (nomark _)) (dss_one (ds_ret (de_cmp (op_eqA hr.units) od_eq (de_var 1) (de_var 3) (nomark _)))) (dss_nil)) (dss_cons (ds_if (dt_cmp (op_eqA hr.units) od_eq (de_var 2) (de_str) (nomark _)) (dss_one (ds_ret (de_cmp (op_eqA hr.units) od_eq (de_sl (de_var 1) (do_none) (do_some (de_callB call_len cd_len (B.len) (da_cons (de_var 3) (da_nil))))) (de_var 3) (nomark _)))) (dss_nil)) (dss_cons (ds_if (dt_cmp (op_eqA hr.units) od_eq (de_var 2) (de_str) (nomark _)) (dss_one (ds_ret (de_cmp (op_eqA hr.units) od_eq (de_sl (de_var 1) (do_some (de_callB (call_max2 rfl) cd_max2 (B.max) (da_cons (de_int) (da_cons (de_op op_sub od_sub (de_callB call_len cd_len (B.len) (da_cons (de_var 1) (da_nil))) (de_callB call_len cd_len (B.len) (da_cons (de_var 3) (da_nil)))) (da_nil))))) (do_none)) (de_var 3) (nomark _)))) (dss_nil)) (dss_one (ds_ret (de_cmp (op_neA hr.units) od_ne (de_lc [("at", 4)] rfl nd (di_rng1 (B.range) (de_callB call_len cd_len (B.len) (da_cons (de_var 1) (da_nil)))) (blkOk_by (N := n_law_left_by) (sc := defScope s_law_left_by) (by decide +kernel)) (fun _ _ _ _ _ => dg_name 4 nd) (fun _ _ _ _ _ => dts_one (dt_cmp (op_eqA hr.units) od_eq (de_sl (de_var 1) (do_some (de_var 4)) (do_some (de_op op_addA od_add (de_var 4) (de_callB call_len cd_len (B.len) (da_cons (de_var 3) (da_nil)))))) (de_var 3) (nomark _))) (fun _ _ _ _ _ => de_var 4)) (de_lst (da_nil)) (nomark _)))))))
abbrev s_law_shown : Stmt := topS 13
theorem sc_law_shown : FnScope n_law_shown ["counter", "number"] (defScope s_law_shown) := ⟨rfl, rfl, rfl, by decide +kernel, rfl, by decide +kernel, by decide +kernel⟩
theorem w_law_shown {k : Nat} {W_law_left_by : List D → M D} (F : Def K mg "_law_shown" s_law_shown ["counter", "number"]) (B : Bt mg) (G_law_left_by : DFn P w K mg base T k "_law_left_by" 2 W_law_left_by) : DFn P w K mg base T (k + 1) "_law_shown" 2 (d_law_shown W_law_left_by) := by
  obtain ⟨a, fd, F0, hm, hb⟩ := F
  have nd := sc_law_shown.nd
  exact dfn_of (b := b_law_shown W_law_left_by) F0 sc_law_shown rfl rfl hm hb fun cdv A outer s H E hr => dss_one (ds_ret (de_cmp (op_eqA hr.units) od_eq (de_lc [("rule", 2)] rfl nd (di_seq (de_ix ix_seq od_ix (de_var 0) (de_int))) (blkOk_by (N := n_law_shown) (sc := defScope s_law_shown) (by decide +kernel)) (fun _ _ _ _ _ => dg_name 2 nd) (fun _ _ _ _ _ => dts_one (dt_val (de_call G_law_left_by hr (da_cons (de_var 2) (da_cons (de_callTy call_str_int cd_str (B.str) (da_cons (de_var 1) (da_nil))) (da_nil)))))) (fun _ _ _ _ _ => de_var 2)) (de_lst (da_nil)) (nomark _)))
abbrev s_law_number : Stmt := topS 14
theorem sc_law_number : FnScope n_law_number ["tape"] (defScope s_law_number) := ⟨rfl, rfl, rfl, by decide +kernel, rfl, by decide +kernel, by decide +kernel⟩
theorem w_law_number {k : Nat} {W_law_draw : List D → M D} (F : Def K mg "_law_number" s_law_number ["tape"]) (B : Bt mg) (G_law_draw : DFn P w K mg base T k "_law_draw" 2 W_law_draw) : DFn P w K mg base T (k + 1) "_law_number" 1 (d_law_number W_law_draw) := by
  obtain ⟨a, fd, F0, hm, hb⟩ := F
  have nd := sc_law_number.nd
  exact dfn_of (b := b_law_number W_law_draw) F0 sc_law_number rfl rfl hm hb fun cdv A outer s H E hr => dss_cons (ds_set 1 nd (de_ix ix_seq od_ix (de_lst (da_cons (de_int) (da_cons (de_int) (da_cons (de_int) (da_cons (de_int) (da_cons (de_int) (da_cons (de_int) (da_cons (de_int) (da_nil))))))))) (de_call G_law_draw hr (da_cons (de_var 0) (da_cons (de_int) (da_nil)))))) (dss_cons (ds_set 2 nd (de_ix ix_seq od_ix (de_str) (de_call G_law_draw hr (da_cons (de_var 0) (da_cons (de_int) (da_nil)))))) (dss_cons (ds_for rfl (di_rng1 (B.range) (de_op op_sub od_sub (de_var 1) (de_int))) (dg_name 3 nd) (dss_one (ds_set 2 nd (de_op op_addA od_add (de_var 2) (de_ix ix_seq od_ix (de_str) (de_call G_law_draw hr (da_cons (de_var 0) (da_cons (de_int) (da_nil))))))))) (dss_one (ds_ret (de_callTy cr_intA cd_int (B.int) (da_cons (de_var 2) (da_nil)))))))
abbrev sfits_rule : Stmt := topS 1
theorem scfits_rule : FnScope nfits_rule ["rule", "number"] (defScope sfits_rule) := ⟨rfl, rfl, rfl, by decide +kernel, rfl, by decide +kernel, by decide +kernel⟩
theorem wfits_rule {k : Nat} (F : Def K mg "fits_rule" sfits_rule ["rule", "number"]) (B : Bt mg) : DFn P w K mg base T (k + 1) "fits_rule" 2 (dfits_rule) := by
  obtain ⟨a, fd, F0, hm, hb⟩ := F
  have nd := scfits_rule.nd
  exact dfn_of (b := bfits_rule) F0 scfits_rule rfl rfl hm hb fun cdv A outer s H E hr => dss_cons (ds_asg (de_var 0) (dg_tup rfl (dgs_cons (dg_name 2 nd) (dgs_cons (dg_name 3 nd) (dgs_nil))))) (dss_cons (ds_set 4 nd (de_callTy call_str_int cd_str (B.str) (da_cons (de_var 1) (da_nil)))) (dss_cons (ds_if (dt_cmp (op_eqA hr.units) od_eq (de_var 2) (de_str) (nomark _)) (dss_one (ds_ret (de_cmp (op_inA hr.u65) od_in (de_var 3) (de_var 4) (by with_unfolding_all rfl)))) (dss_nil)) (dss_cons (ds_if (dt_cmp (op_eqA hr.units) od_eq (de_var 2) (de_str) (nomark _)) (dss_one (ds_ret (de_cmp (op_eqA hr.units) od_eq (de_var 3) (de_var 4) (nomark _)))) (dss_nil)) (dss_one (ds_ret (de_if (dt_cmp (op_eqA hr.units) od_eq (de_var 2) (de_str) (nomark _)) (de_bmS PySem.F.slot_str_startswith PySem.F.type_str_startswith mt_startswith md_starts (de_var 4) (da_cons (de_var 3) (da_nil))) (de_bmS PySem.F.slot_str_endswith PySem.F.type_str_endswith mt_endswith md_ends (de_var 4) (da_cons (de_var 3) (da_nil)))))))))
abbrev sis_shown : Stmt := topS 2
theorem scis_shown : FnScope nis_shown ["counter", "number"] (defScope sis_shown) := ⟨rfl, rfl, rfl, by decide +kernel, rfl, by decide +kernel, by decide +kernel⟩
theorem wis_shown {k : Nat} {Wfits_rule : List D → M D} (F : Def K mg "is_shown" sis_shown ["counter", "number"]) (B : Bt mg) (Gfits_rule : DFn P w K mg base T k "fits_rule" 2 Wfits_rule) : DFn P w K mg base T (k + 1) "is_shown" 2 (dis_shown Wfits_rule) := by
  obtain ⟨a, fd, F0, hm, hb⟩ := F
  have nd := scis_shown.nd
  exact dfn_of (b := bis_shown Wfits_rule) F0 scis_shown rfl rfl hm hb fun cdv A outer s H E hr => dss_one (ds_ret (de_not (de_callB (cr_any rfl) cd_any (B.any) (da_cons (de_lc [("rule", 2)] rfl nd (di_seq (de_ix ix_seq od_ix (de_var 0) (de_int))) (blkOk_by (N := nis_shown) (sc := defScope sis_shown) (by decide +kernel)) (fun _ _ _ _ _ => dg_name 2 nd) (fun _ _ _ _ _ => dts_nil) (fun _ _ _ _ _ => de_call Gfits_rule hr (da_cons (de_var 2) (da_cons (de_var 1) (da_nil))))) (da_nil)))))
abbrev sfitting : Stmt := topS 4
theorem scfitting : FnScope nfitting ["counters", "shown", "missing"] (defScope sfitting) := ⟨rfl, rfl, rfl, by decide +kernel, rfl, by decide +kernel, by decide +kernel⟩
theorem wfitting {k : Nat} {Wis_shown : List D → M D} (F : Def K mg "fitting" sfitting ["counters", "shown", "missing"]) (B : Bt mg) (Gis_shown : DFn P w K mg base T k "is_shown" 2 Wis_shown) : DFn P w K mg base T (k + 1) "fitting" 3 (dfitting Wis_shown) := by
  obtain ⟨a, fd, F0, hm, hb⟩ := F
  have nd := scfitting.nd
  exact dfn_of (b := bfitting Wis_shown) F0 scfitting rfl rfl hm hb fun cdv A outer s H E hr => dss_cons (ds_own 3 nd (da_nil)) (dss_cons (ds_for rfl (di_enum (B.enumerate) (de_var 0)) (dg_tup rfl (dgs_cons (dg_name 4 nd) (dgs_cons (dg_name 5 nd) (dgs_nil)))) (dss_cons (ds_set 6 nd (de_callB (cr_all rfl) cd_all (B.all) (da_cons (de_lc [("number", 7)] rfl nd (di_seq (de_var 1)) (blkOk_by (N := nfitting) (sc := defScope sfitting) (by decide +kernel)) (fun _ _ _ _ _ => dg_name 7 nd) (fun _ _ _ _ _ => dts_nil) (fun _ _ _ _ _ => de_call Gis_shown hr (da_cons (de_var 5) (da_cons (de_var 7) (da_nil))))) (da_nil)))) (dss_one (ds_if (dw_pt (dw_and (dt_val (de_var 6)) (dw_and1 (dt_not (dt_val (de_callB (cr_any rfl) cd_any (B.any) (da_cons (de_lc [("number", 7)] rfl nd (di_seq (de_var 2)) (blkOk_by (N := nfitting) (sc := defScope sfitting) (by decide +kernel)) (fun _ _ _ _ _ => dg_name 7 nd) (fun _ _ _ _ _ => dts_nil) (fun _ _ _ _ _ => de_call Gis_shown hr (da_cons (de_var 5) (da_cons (de_var 7) (da_nil))))) (da_nil)))))))) (dss_one (ds_app 3 (de_var 4))) (dss_nil))))) (dss_pub 3 (dss_one (ds_ret (de_var 3)))))
abbrev slawk23 : Stmt := topS 15
theorem sclawk23 : FnScope nlawk23 ["script"] (defScope slawk23) := ⟨rfl, rfl, rfl, by decide +kernel, rfl, by decide +kernel, by decide +kernel⟩
theorem wlawk23 {k : Nat} {W_law_counter W_law_draw W_law_near W_law_number W_law_shown Wfitting W_law_like : List D → M D} {a : Addr} {fd : FuncData} (F0 : Fun K "law" "law" slawk23 a fd) (B : Bt mg) (hT : Tp T) (G_law_counter : DFn P w K mg base T k "_law_counter" 1 W_law_counter) (G_law_draw : DFn P w K mg base T k "_law_draw" 2 W_law_draw) (G_law_near : DFn P w K mg base T k "_law_near" 2 W_law_near) (G_law_number : DFn P w K mg base T k "_law_number" 1 W_law_number) (G_law_shown : DFn P w K mg base T k "_law_shown" 2 W_law_shown) (Gfitting : DFn P w K mg base T k "fitting" 3 Wfitting) (G_law_like : DFn P w K mg base T k "_law_like" 2 W_law_like) (h : ∀ ns : List Int, lawD 14 (blawk23 W_law_counter W_law_draw W_law_near W_law_number W_law_shown Wfitting W_law_like) ns fun d => d = .bl true) : FnOk P w K mg base CX0 (k + 1) a fd ["script"] (spLaw K) := by
  have nd := sclawk23.nd
  exact law_of (b := blawk23 W_law_counter W_law_draw W_law_near W_law_number W_law_shown Wfitting W_law_like) hT F0 sclawk23 rfl h fun cdv A outer s H E hr => law_start nd rfl rfl (B.list) (dss_cons (ds_for rfl (di_rng1 (B.range) (de_int)) (dg_name 2 nd) (dss_cons (ds_par3 3 4 5 rfl nd (da_cons (de_call G_law_counter hr (da_cons (de_var 1) (da_nil))) (da_cons (de_tup (da_nil)) (da_cons (de_tup (da_nil)) (da_nil))))) (dss_cons (ds_set 6 nd (de_tup (da_cons (de_var 3) (da_nil)))) (dss_cons (ds_for rfl (di_rng1 (B.range) (de_call G_law_draw hr (da_cons (de_var 1) (da_cons (de_int) (da_nil))))) (dg_name 7 nd) (dss_one (ds_set 6 nd (de_op op_addA od_add (de_var 6) (de_tup (da_cons (de_call G_law_near hr (da_cons (de_var 1) (da_cons (de_ix ix_seq od_ix (de_var 6) (de_call G_law_draw hr (da_cons (de_var 1) (da_cons (de_callB call_len cd_len (B.len) (da_cons (de_var 6) (da_nil))) (da_nil))))) (da_nil)))) (da_nil))))))) (dss_cons (ds_for rfl (di_rng1 (B.range) (de_call G_law_draw hr (da_cons (de_var 1) (da_cons (de_int) (da_nil))))) (dg_name 7 nd) (dss_cons (ds_set 8 nd (de_ix ix_seq od_ix (de_lst (da_cons (de_op op_addA od_add (de_int) (de_call G_law_draw hr (da_cons (de_var 1) (da_cons (de_int) (da_nil))))) (da_cons (de_call G_law_number hr (da_cons (de_var 1) (da_nil))) (da_nil)))) (de_call G_law_draw hr (da_cons (de_var 1) (da_cons (de_int) (da_nil)))))) (dss_cons (ds_for rfl (di_seq (de_sl (de_ix ix_seq od_ix (de_var 3) (de_int)) (do_none) (do_some (de_int)))) (dg_tup rfl (dgs_cons (dg_name 9 nd) (dgs_cons (dg_name 10 nd) (dgs_nil)))) (dss_one (ds_set 8 nd (de_if (dt_cmp (op_eqA hr.units) od_eq (de_call G_law_draw hr (da_cons (de_var 1) (da_cons (de_int) (da_nil)))) (de_int) (nomark _)) (de_callTy cr_intA cd_int (B.int) (da_cons (de_op op_addA od_add (de_str) (de_var 10)) (da_nil))) (de_var 8))))) (dss_cons (ds_set 11 nd (de_cmp (op_neA hr.units) od_ne (de_call G_law_shown hr (da_cons (de_var 3) (da_cons (de_var 8) (da_nil)))) (de_cmp (op_eqA hr.units) od_eq (de_call G_law_draw hr (da_cons (de_var 1) (da_cons (de_int) (da_nil)))) (de_int) (nomark _)) (nomark _))) (dss_one (ds_par 4 5 rfl nd (da_cons (de_op op_addA od_add (de_var 4) (de_if (dt_val (de_var 11)) (de_tup (da_cons (de_var 8) (da_nil))) (de_tup (da_nil)))) (da_cons (de_op op_addA od_add (de_var 5) (de_if (dt_val (de_var 11)) (de_tup (da_nil)) (de_tup (da_cons (de_var 8) (da_nil))))) (da_nil))))))))) (dss_cons (ds_own 12 nd (da_nil)) (dss_cons (ds_for rfl (di_enum (B.enumerate) (de_var 6)) (dg_tup rfl (dgs_cons (dg_name 13 nd) (dgs_cons (dg_name 14 nd) (dgs_nil)))) (dss_cons (ds_ownLc 15 [("number", 8)] rfl nd (di_seq (de_var 4)) (blkOk_by (N := nlawk23) (sc := defScope slawk23) (by decide +kernel)) (fun _ _ _ _ _ => dg_name 8 nd) (fun _ _ _ _ _ => dts_one (dt_not (dt_val (de_call G_law_shown hr (da_cons (de_var 14) (da_cons (de_var 8) (da_nil))))))) (fun _ _ _ _ _ => de_var 8)) (dss_cons (ds_ext 15 (de_lc [("number", 8)] rfl nd (di_seq (de_var 5)) (blkOk_by (N := nlawk23) (sc := defScope slawk23) (by decide +kernel)) (fun _ _ _ _ _ => dg_name 8 nd) (fun _ _ _ _ _ => dts_one (dt_val (de_call G_law_shown hr (da_cons (de_var 14) (da_cons (de_var 8) (da_nil)))))) (fun _ _ _ _ _ => de_var 8))) (dss_pub 15 (dss_one (ds_if (dt_cmp (op_eqA hr.units) od_eq (de_var 15) (de_lst (da_nil)) (nomark _)) (dss_one (ds_app 12 (de_var 13))) (dss_nil))))))) (dss_pub 12 (dss_one (ds_if (dt_not (dt_val (de_call G_law_like hr (da_cons (de_call Gfitting hr (da_cons (de_var 6) (da_cons (de_var 4) (da_cons (de_var 5) (da_nil))))) (da_cons (de_var 12) (da_nil)))))) (dss_one (ds_ret (de_bl))) (dss_nil))))))))))) (dss_one (ds_ret (de_and (de_cmp (op_eqA hr.units) od_eq (de_call Gfitting hr (da_cons (de_tup (da_nil)) (da_cons (de_tup (da_nil)) (da_cons (de_tup (da_nil)) (da_nil))))) (de_lst (da_nil)) (nomark _)) (de_one (de_cmp (op_eqA hr.units) od_eq (de_call Gfitting hr (da_cons (de_tup (da_cons (de_tup (da_cons (de_tup (da_nil)) (da_cons (de_tup (da_nil)) (da_nil)))) (da_nil))) (da_cons (de_tup (da_cons (de_int) (da_nil))) (da_cons (de_tup (da_nil)) (da_nil))))) (de_lst (da_cons (de_int) (da_nil))) (nomark _)))))))
end
end Tx

namespace DL
open PySem PySem.Spec L2

/-! ### the worths, read by simp -/
section
variable {f g h : Rho → M D} {ρ : Rho} {a b c : D} {t u : Rho → M Bool} {i : Nat} {p q : Rho → M Fl} {fs : Rho → M (List D)}
@[simp] theorem ev_rd0 {r : Rho} : rd 0 (.va a :: r) = ret a := Eq.trans rfl rfl
@[simp] theorem ev_rdS {r : Rho} {x : Sl} : rd (i + 1) (x :: r) = rd i r := Eq.trans rfl rfl
@[simp] theorem ev_cst : cst a ρ = ret a := Eq.trans rfl rfl
@[simp] theorem ev_c1 {o : D → M D} : c1 o f ρ = bnd (f ρ) o := Eq.trans rfl rfl
@[simp] theorem ev_c2 {o : D → D → M D} : c2 o f g ρ = bnd (f ρ) fun x => bnd (g ρ) (o x) := Eq.trans rfl rfl
@[simp] theorem ev_cA {o : List D → M D} : cA o fs ρ = bnd (fs ρ) o := Eq.trans rfl rfl
@[simp] theorem ev_aNil : aNil ρ = ret [] := Eq.trans rfl rfl
@[simp] theorem ev_aCons : aCons f fs ρ = bnd (f ρ) fun x => bnd (fs ρ) fun xs => ret (x :: xs) := Eq.trans rfl rfl
@[simp] theorem ev_aStar : aStar f fs ρ = bnd (f ρ) fun x => bnd (itemsLT x) fun xs => bnd (fs ρ) fun ys => ret (xs ++ ys) := Eq.trans rfl rfl
@[simp] theorem ev_itL {xs : List D} : itemsLT (.lst xs) = ret xs := Eq.trans rfl rfl
@[simp] theorem ev_itT {xs : List D} : itemsLT (.tup xs) = ret xs := Eq.trans rfl rfl
@[simp] theorem ev_on1 {o : D → M D} : on1 o [a] = o a := Eq.trans rfl rfl
@[simp] theorem ev_on2 {o : D → D → M D} : on2 o [a, b] = o a b := Eq.trans rfl rfl
@[simp] theorem ev_tst : tst f ρ = bnd (f ρ) fun d => match d with
  | .bl b => ret b
  | _ => bad := Eq.trans rfl rfl
@[simp] theorem ev_cAnd : cAnd t u ρ = bnd (t ρ) fun b => if b = true then u ρ else ret false := Eq.trans rfl rfl
@[simp] theorem ev_cOr : cOr t u ρ = bnd (t ρ) fun b => if b = true then ret true else u ρ := Eq.trans rfl rfl
@[simp] theorem ev_cNot : cNot t ρ = bnd (t ρ) fun b => ret (!b) := Eq.trans rfl rfl
@[simp] theorem ev_vAnd : vAnd f g ρ = bnd (f ρ) fun x => match x with
  | .bl true => g ρ
  | .bl false => ret (.bl false)
  | _ => bad := Eq.trans rfl rfl
@[simp] theorem ev_vOr : vOr f g ρ = bnd (f ρ) fun x => match x with
  | .bl true => ret (.bl true)
  | .bl false => g ρ
  | _ => bad := Eq.trans rfl rfl
@[simp] theorem ev_oNot {b : Bool} : oNot (.bl b) = ret (.bl (!b)) := Eq.trans rfl rfl
@[simp] theorem ev_cIf : cIf t f g ρ = bnd (t ρ) fun b => if b = true then f ρ else g ρ := Eq.trans rfl rfl
@[simp] theorem ev_oTup {xs : List D} : oTup xs = asrt (xs.length ≤ sizeLine) (ret (.tup xs)) := Eq.trans rfl rfl
@[simp] theorem ev_oLst {xs : List D} : oLst xs = asrt (xs.length ≤ sizeLine) (ret (.lst xs)) := Eq.trans rfl rfl
@[simp] theorem ev_cMS {o : List Nat → List D → M D} {l : List Nat} : (bnd (ret (D.str l)) fun x => match x with
  | .str l => bnd (fs ρ) fun xs => o l xs
  | _ => bad) = bnd (fs ρ) fun xs => o l xs := Eq.trans rfl rfl
@[simp] theorem ev_cMS0 {o : List Nat → List D → M D} : cMS o f fs ρ = bnd (f ρ) fun x => match x with
  | .str l => bnd (fs ρ) fun xs => o l xs
  | _ => bad := Eq.trans rfl rfl
@[simp] theorem ev_sNext : sNext ρ = ret (.nx ρ) := Eq.trans rfl rfl
@[simp] theorem ev_fnx : fthen p (.nx ρ) = p ρ := Eq.trans rfl rfl
@[simp] theorem ev_frt : fthen p (.rt a) = ret (.rt a) := Eq.trans rfl rfl
@[simp] theorem ev_fbk : fthen p (.bk ρ) = ret (.bk ρ) := Eq.trans rfl rfl
@[simp] theorem ev_fct : fthen p (.ct ρ) = ret (.ct ρ) := Eq.trans rfl rfl
@[simp] theorem ev_sSeq : sSeq p q ρ = bnd (p ρ) (fthen q) := Eq.trans rfl rfl
@[simp] theorem ev_sRet : sRet f ρ = bnd (f ρ) fun d => ret (.rt d) := Eq.trans rfl rfl
@[simp] theorem ev_sRetN : sRetN ρ = ret (.rt .non) := Eq.trans rfl rfl
@[simp] theorem ev_sDrop : sDrop f ρ = bnd (f ρ) fun _ => ret (.nx ρ) := Eq.trans rfl rfl
@[simp] theorem ev_sIf : sIf t p q ρ = bnd (t ρ) fun b => if b = true then p ρ else q ρ := Eq.trans rfl rfl
@[simp] theorem ev_sBrk : sBrk ρ = ret (.bk ρ) := Eq.trans rfl rfl
@[simp] theorem ev_sCont : sCont ρ = ret (.ct ρ) := Eq.trans rfl rfl
@[simp] theorem ev_sAsg {g : D → Rho → M Rho} : sAsg f g ρ = bnd (f ρ) fun d => bnd (g d ρ) sNext := Eq.trans rfl rfl
@[simp] theorem ev_sSet : sSet i f ρ = bnd (f ρ) fun d => ret (.nx (ρ.set i (.va d))) := Eq.trans rfl rfl
@[simp] theorem ev_gN : gN i a ρ = ret (ρ.set i (.va a)) := Eq.trans rfl rfl
@[simp] theorem ev_gsNil : gsNil [] ρ = ret ρ := Eq.trans rfl rfl
@[simp] theorem ev_gsCons {g : D → Rho → M Rho} {k : List D → Rho → M Rho} {r : List D} : gsCons g k (a :: r) ρ = bnd (g a ρ) (k r) := Eq.trans rfl rfl
@[simp] theorem ev_gT {k : List D → Rho → M Rho} {xs : List D} : gT k (.tup xs) ρ = k xs ρ := Eq.trans rfl rfl
@[simp] theorem ev_sPar {j : Nat} : sPar i j fs ρ = bnd (fs ρ) fun ds => match ds with
  | [a, b] => ret (.nx ((ρ.set i (.va a)).set j (.va b)))
  | _ => bad := Eq.trans rfl rfl
@[simp] theorem ev_sAug {o : D → D → M D} : sAug i o f ρ = bnd (rd i ρ) fun x => bnd (f ρ) fun y => bnd (o x y) fun z => ret (.nx (ρ.set i (.va z))) := Eq.trans rfl rfl
@[simp] theorem ev_oAugI {k : Int → Int → Int} {x y : Int} : oAugI k (.int x) (.int y) = ret (.int (k x y)) := Eq.trans rfl rfl
@[simp] theorem ev_sFor {it : Rho → M (List D)} {g : D → Rho → M Rho} : sFor it g p ρ = bnd (it ρ) fun xs => forD g p xs ρ := Eq.trans rfl rfl
@[simp] theorem ev_forN {g : D → Rho → M Rho} : forD g p [] ρ = ret (.nx ρ) := Eq.trans rfl rfl
@[simp] theorem ev_flR : flRet (.rt a) = ret a := Eq.trans rfl rfl
@[simp] theorem ev_flN : flRet (.nx ρ) = ret .non := Eq.trans rfl rfl
@[simp] theorem ev_cLcL {it : Rho → M (List D)} {g : D → Rho → M Rho} {vs : List Nat} : cLcL it g t f vs ρ = bnd (it ρ) fun xs => bnd (lcD (lcStep g t f (wipeS ρ vs)) xs) fun ds => ret (.lst ds) := Eq.trans rfl rfl
@[simp] theorem ev_lcStep {g : D → Rho → M Rho} {x : D} : lcStep g t f ρ x = bnd (g x ρ) fun ρ1 => bnd (t ρ1) fun b => if b = true then bnd (f ρ1) fun d => ret (some d) else ret none := Eq.trans rfl rfl
@[simp] theorem ev_wipN : wipeS ρ [] = ρ := Eq.trans rfl rfl
@[simp] theorem ev_wipC {v : Nat} {vs : List Nat} : wipeS ρ (v :: vs) = (wipeS ρ vs).set v .no := Eq.trans rfl rfl
@[simp] theorem ev_yes : tYesD ρ = ret true := Eq.trans rfl rfl
@[simp] theorem ev_fnD {n m : Nat} {ds : List D} : fnD n m p ds = asrt (ds.length = n) (bnd (p (ds.map Sl.va ++ List.replicate m .no)) flRet) := Eq.trans rfl rfl
@[simp] theorem ev_lawD {m : Nat} {ns : List Int} : lawD m p ns = bnd (p (.no :: .va (.obj 0 (ns.map .int)) :: List.replicate m .no)) flRet := Eq.trans rfl rfl
@[simp] theorem ev_cIt : cIt f ρ = bnd (f ρ) itemsOf := Eq.trans rfl rfl
@[simp] theorem ev_ioL {xs : List D} : itemsOf (.lst xs) = ret xs := Eq.trans rfl rfl
@[simp] theorem ev_ioT {xs : List D} : itemsOf (.tup xs) = ret xs := Eq.trans rfl rfl
@[simp] theorem ev_ioS {xs : List Nat} : itemsOf (.str xs) = ret (xs.map fun c => .str [c]) := Eq.trans rfl rfl
@[simp] theorem ev_cRng1 : cRng1 f ρ = bnd (f ρ) oRng1 := Eq.trans rfl rfl
@[simp] theorem ev_cRng2 : cRng2 f g ρ = bnd (f ρ) fun x => bnd (g ρ) (oRng2 x) := Eq.trans rfl rfl
@[simp] theorem ev_oRng1 {n : Int} : oRng1 (.int n) = asrt (okRng 0 n) (ret (rngD 0 n)) := Eq.trans rfl rfl
@[simp] theorem ev_oRng2 {n m : Int} : oRng2 (.int n) (.int m) = asrt (okRng n m) (ret (rngD n m)) := Eq.trans rfl rfl
@[simp] theorem ev_cEnum : cEnum f ρ = bnd (f ρ) oEnum := Eq.trans rfl rfl
@[simp] theorem ev_pN : pNone ρ = ret none := Eq.trans rfl rfl
@[simp] theorem ev_pS : pSome f ρ = bnd (f ρ) fun d => match d with
  | .int i => ret (some i)
  | _ => bad := Eq.trans rfl rfl
@[simp] theorem ev_cSl {lo hi : Rho → M (Option Int)} : cSl f lo hi ρ = bnd (f ρ) fun x => bnd (lo ρ) fun l => bnd (hi ρ) fun u => oSl x l u := Eq.trans rfl rfl
@[simp] theorem ev_oSlS {l : List Nat} {x y : Option Int} : oSl (.str l) x y = ret (.str (cut l x y)) := Eq.trans rfl rfl
@[simp] theorem ev_oSlL {l : List D} {x y : Option Int} : oSl (.lst l) x y = ret (.lst (cut l x y)) := Eq.trans rfl rfl
@[simp] theorem ev_oSlT {l : List D} {x y : Option Int} : oSl (.tup l) x y = ret (.tup (cut l x y)) := Eq.trans rfl rfl
@[simp] theorem ev_ixL {l : List D} {x : Int} : oIx (.lst l) (.int x) = ofO (atI l x) ret := Eq.trans rfl rfl
@[simp] theorem ev_ixT {l : List D} {x : Int} : oIx (.tup l) (.int x) = ofO (atI l x) ret := Eq.trans rfl rfl
@[simp] theorem ev_ixS {l : List Nat} {x : Int} : oIx (.str l) (.int x) = ofO (atI l x) fun c => ret (.str [c]) := Eq.trans rfl rfl
@[simp] theorem ev_adI {x y : Int} : oAdd (.int x) (.int y) = ret (.int (x + y)) := Eq.trans rfl rfl
@[simp] theorem ev_adS {x y : List Nat} : oAdd (.str x) (.str y) = asrt (x.length + y.length ≤ sizeLine) (ret (.str (x ++ y))) := Eq.trans rfl rfl
@[simp] theorem ev_adL {x y : List D} : oAdd (.lst x) (.lst y) = asrt (x.length + y.length ≤ sizeLine) (ret (.lst (x ++ y))) := Eq.trans rfl rfl
@[simp] theorem ev_adT {x y : List D} : oAdd (.tup x) (.tup y) = asrt (x.length + y.length ≤ sizeLine) (ret (.tup (x ++ y))) := Eq.trans rfl rfl
@[simp] theorem ev_I0 {k : Int → Int → Int} {x y : Int} : oI0 k (.int x) (.int y) = ret (.int (k x y)) := Eq.trans rfl rfl
@[simp] theorem ev_I2 {C : Int → Int → Prop} {k : Int → Int → Int} {x y : Int} : oI2 C k (.int x) (.int y) = asrt (C x y) (ret (.int (k x y))) := Eq.trans rfl rfl
@[simp] theorem ev_mul {x y : Int} : oMul (.int x) (.int y) = asrt (okMul x y) (ret (.int (x * y))) := Eq.trans rfl rfl
@[simp] theorem ev_cpI {k : Int → Int → Bool} {l : List Nat → List Nat → Bool} {x y : Int} : oCmp k l (.int x) (.int y) = ret (.bl (k x y)) := Eq.trans rfl rfl
@[simp] theorem ev_cpS {k : Int → Int → Bool} {l : List Nat → List Nat → Bool} {x y : List Nat} : oCmp k l (.str x) (.str y) = ret (.bl (l x y)) := Eq.trans rfl rfl
@[simp] theorem ev_isN {d : D} : oIs d .non = ret (.bl (isNon d)) := by cases d <;> rfl
@[simp] theorem ev_isB {x y : Bool} : oIs (.bl x) (.bl y) = ret (.bl (decide (x = y))) := Eq.trans rfl rfl
@[simp] theorem ev_ntN {d : D} : oNotN d .non = ret (.bl (!isNon d)) := by cases d <;> rfl
@[simp] theorem ev_inS {x y : List Nat} : oIn (.str x) (.str y) = ret (.bl (hasSub x y)) := Eq.trans rfl rfl
@[simp] theorem ev_inL {x : D} {y : List D} : oIn x (.lst y) = asrt (okD x 50 = true ∧ okDs y 50 = true) (ret (.bl (y.any fun z => eqD z x))) := by cases x <;> rfl
@[simp] theorem ev_inT {x : D} {y : List D} : oIn x (.tup y) = asrt (okD x 50 = true ∧ okDs y 50 = true) (ret (.bl (y.any fun z => eqD z x))) := by cases x <;> rfl
@[simp] theorem ev_niS {x y : List Nat} : oNotIn (.str x) (.str y) = ret (.bl (!hasSub x y)) := Eq.trans rfl rfl
@[simp] theorem ev_niL {x : D} {y : List D} : oNotIn x (.lst y) = asrt (okD x 50 = true ∧ okDs y 50 = true) (ret (.bl (!y.any fun z => eqD z x))) := by cases x <;> rfl
@[simp] theorem ev_niT {x : D} {y : List D} : oNotIn x (.tup y) = asrt (okD x 50 = true ∧ okDs y 50 = true) (ret (.bl (!y.any fun z => eqD z x))) := by cases x <;> rfl
@[simp] theorem ev_eq : oEq a b = asrt (scEq a b = true ∨ (okD a 60 = true ∧ okD b 60 = true)) (ret (.bl (eqD a b))) := Eq.trans rfl rfl
@[simp] theorem ev_ne : oNe a b = asrt (scEq a b = true ∨ (okD a 60 = true ∧ okD b 60 = true)) (ret (.bl (!eqD a b))) := Eq.trans rfl rfl
@[simp] theorem ev_scS {x y : List Nat} : scEq (.str x) (.str y) = true := Eq.trans rfl rfl
@[simp] theorem ev_scI {x y : Int} : scEq (.int x) (.int y) = true := Eq.trans rfl rfl
@[simp] theorem ev_scB {x y : Bool} : scEq (.bl x) (.bl y) = true := Eq.trans rfl rfl
@[simp] theorem ev_eqS {x y : List Nat} : eqD (.str x) (.str y) = (x == y) := by simp [eqD]
@[simp] theorem ev_eqI {x y : Int} : eqD (.int x) (.int y) = (x == y) := by simp [eqD]
@[simp] theorem ev_eqB {x y : Bool} : eqD (.bl x) (.bl y) = (x == y) := by simp [eqD]
@[simp] theorem ev_lnS {x : List Nat} : oLen1 (.str x) = ret (.int x.length) := Eq.trans rfl rfl
@[simp] theorem ev_lnL {x : List D} : oLen1 (.lst x) = ret (.int x.length) := Eq.trans rfl rfl
@[simp] theorem ev_lnT {x : List D} : oLen1 (.tup x) = ret (.int x.length) := Eq.trans rfl rfl
@[simp] theorem ev_st {x : Int} : oStr1 (.int x) = asrt (0 ≤ x ∧ x < strMost) (ret (.str (TL.numL x.toNat))) := Eq.trans rfl rfl
@[simp] theorem ev_inI {x : Int} : oInt1 (.int x) = ret (.int x) := Eq.trans rfl rfl
@[simp] theorem ev_inB {x : Bool} : oInt1 (.bl x) = ret (.int (if x then 1 else 0)) := Eq.trans rfl rfl
@[simp] theorem ev_inStr {x : List Nat} : oInt1 (.str x) = asrt (PySem.NumText.AllDigits x ∧ x ≠ [] ∧ x.length ≤ 640) (ret (.int (PySem.NumText.digitsVal x : Nat))) := Eq.trans rfl rfl
@[simp] theorem ev_tuL {x : List D} : oTuple1 (.lst x) = ret (.tup x) := Eq.trans rfl rfl
@[simp] theorem ev_tuT {x : List D} : oTuple1 (.tup x) = ret (.tup x) := Eq.trans rfl rfl
@[simp] theorem ev_liL {x : List D} : oList1 (.lst x) = ret (.lst x) := Eq.trans rfl rfl
@[simp] theorem ev_liT {x : List D} : oList1 (.tup x) = ret (.lst x) := Eq.trans rfl rfl
@[simp] theorem ev_sum {x : List D} : oSum1 (.lst x) = ofO (intsOf x) fun ns => ret (.int ns.sum) := Eq.trans rfl rfl
@[simp] theorem ev_any {x : List D} : oAny1 (.lst x) = ofO (boolsOf x) fun ns => ret (.bl (ns.any id)) := Eq.trans rfl rfl
@[simp] theorem ev_all {x : List D} : oAll1 (.lst x) = ofO (boolsOf x) fun ns => ret (.bl (ns.all id)) := Eq.trans rfl rfl
@[simp] theorem ev_max {x y : Int} : oMax2 (.int x) (.int y) = ret (.int (if y > x then y else x)) := Eq.trans rfl rfl
@[simp] theorem ev_min {x y : Int} : oMin2 (.int x) (.int y) = ret (.int (if y < x then y else x)) := Eq.trans rfl rfl
@[simp] theorem ev_st1 {k : List Nat → List Nat → D} {x y : List Nat} : oSt1 k x [.str y] = ret (k x y) := Eq.trans rfl rfl
@[simp] theorem ev_neg {x : Int} : oNeg (.int x) = ret (.int (-x)) := Eq.trans rfl rfl
@[simp] theorem ev_srt {x : List D} : oSortedSet (.lst x) = ofO (intsOf x) fun ns => asrt (ns.length < 64) (ret (.lst ((usortI ns).map .int))) := Eq.trans rfl rfl
@[simp] theorem ev_joL {s : List Nat} {ys : List D} : oJoin s [.lst ys] = ofO (strsOf ys) fun ps => asrt (okJoin s ps) (ret (.str (TL.joinL s ps))) := Eq.trans rfl rfl
@[simp] theorem ev_joT {s : List Nat} {ys : List D} : oJoin s [.tup ys] = ofO (strsOf ys) fun ps => asrt (okJoin s ps) (ret (.str (TL.joinL s ps))) := Eq.trans rfl rfl
@[simp] theorem ev_isi {k : D → Option Bool} : oIsi k a = ofO (k a) fun b => ret (.bl b) := Eq.trans rfl rfl
@[simp] theorem ev_tp0 {r : Rho} {xs : List D} : tp0 0 (.va (.obj 0 xs) :: r) = fun Q => ∀ ns : List Int, xs = ns.map .int → Q (.lst xs) := Eq.trans rfl rfl
@[simp] theorem ev_tp1 {r : Rho} {xs : List D} : tp1 0 (.va (.obj 0 xs) :: r) = fun Q => ∀ c, Q (.int c) := Eq.trans rfl rfl
end
end DL

namespace DL
open PySem PySem.Spec L2

/-! ### counters -/
inductive Kd where
  | has | ends | begins | is
  deriving DecidableEq
def kdL : Kd → List Nat
  | .has => [104, 97, 115]
  | .ends => [101, 110, 100, 115]
  | .begins => [98, 101, 103, 105, 110, 115]
  | .is => [105, 115]
structure Rule where
  kd : Kd
  w : List Nat
  deriving DecidableEq
structure Ctr where
  rules : List Rule
  ext : List (Int × Int)
def encR (r : Rule) : D := .tup [.str (kdL r.kd), .str r.w]
def encE (e : Int × Int) : D := .tup [.int e.1, .int e.2]
def encC (c : Ctr) : D := .tup [.tup (c.rules.map encR), .tup (c.ext.map encE)]
def decK (l : List Nat) : Option Kd := if l = kdL .has then some .has else if l = kdL .ends then some .ends else if l = kdL .begins then some .begins else if l = kdL .is then some .is else none
theorem decK_enc (k : Kd) : decK (kdL k) = some k := by cases k <;> decide
theorem decK_inv {l : List Nat} {k : Kd} (h : decK l = some k) : l = kdL k := by
  unfold decK at h
  repeat' split at h
  all_goals first | (cases h; assumption) | cases h
def decR : D → Option Rule
  | .tup [.str k, .str w] => (decK k).map fun k => ⟨k, w⟩
  | _ => none
@[simp] theorem decR_enc (r : Rule) : decR (encR r) = some r := by
  show (decK (kdL r.kd)).map _ = _
  rw [decK_enc]
  rfl
theorem decR_inv {d : D} {r : Rule} (h : decR d = some r) : d = encR r := by
  unfold decR at h
  split at h
  · rename_i k w
    cases e : decK k with
    | none => rw [e] at h; cases h
    | some z =>
      rw [e] at h
      cases h
      rw [decK_inv e]
      rfl
  · cases h
def decE : D → Option (Int × Int)
  | .tup [.int n, .int m] => some (n, m)
  | _ => none
@[simp] theorem decE_enc (e : Int × Int) : decE (encE e) = some e := rfl
theorem decE_inv {d : D} {e : Int × Int} (h : decE d = some e) : d = encE e := by
  unfold decE at h
  split at h
  · cases h; rfl
  · cases h
def decs {α : Type} (f : D → Option α) : List D → Option (List α)
  | [] => some []
  | d :: ds => match f d, decs f ds with
    | some x, some xs => some (x :: xs)
    | _, _ => none
theorem decs_enc {α : Type} {f : D → Option α} {g : α → D} (h : ∀ x, f (g x) = some x) : ∀ xs : List α, decs f (xs.map g) = some xs
  | [] => rfl
  | x :: xs => by simp only [List.map_cons, decs, h x, decs_enc h xs]
theorem decs_inv {α : Type} {f : D → Option α} {g : α → D} (h : ∀ {d x}, f d = some x → d = g x) : ∀ {ds : List D} {xs : List α}, decs f ds = some xs → ds = xs.map g
  | [], xs, e => by cases e; rfl
  | d :: ds, xs, e => by
    unfold decs at e
    cases e1 : f d with
    | none => rw [e1] at e; cases e
    | some x =>
      cases e2 : decs f ds with
      | none => rw [e1, e2] at e; cases e
      | some ys =>
        rw [e1, e2] at e
        cases e
        rw [List.map_cons, h e1, decs_inv h e2]
def decC : D → Option Ctr
  | .tup [.tup rs, .tup es] => match decs decR rs, decs decE es with
    | some r, some e => some ⟨r, e⟩
    | _, _ => none
  | _ => none
@[simp] theorem decC_enc (c : Ctr) : decC (encC c) = some c := by
  show (match decs decR (c.rules.map encR), decs decE (c.ext.map encE) with
    | some r, some e => some (⟨r, e⟩ : Ctr)
    | _, _ => none) = _
  rw [decs_enc decR_enc, decs_enc decE_enc]
theorem decC_inv {d : D} {c : Ctr} (h : decC d = some c) : d = encC c := by
  unfold decC at h
  split at h
  · rename_i rs es
    cases e1 : decs decR rs with
    | none => rw [e1] at h; cases h
    | some r =>
      cases e2 : decs decE es with
      | none => rw [e1, e2] at h; cases h
      | some e =>
        rw [e1, e2] at h
        cases h
        rw [decs_inv decR_inv e1, decs_inv decE_inv e2]
        rfl
  · cases h
/-- a rule leaves out what is written so -/
def fits (r : Rule) (l : List Nat) : Bool := match r.kd with
  | .has => hasSub r.w l
  | .is => r.w == l
  | .begins => r.w.isPrefixOf l
  | .ends => r.w.isSuffixOf l
def shownL (c : Ctr) (l : List Nat) : Bool := !c.rules.any fun r => fits r l
/-! ### fits_rule, is_shown -/
def P_fits : List D → M D := fun ds => match ds with
  | [d, .int n] => ofO (decR d) fun r => asrt (0 ≤ n ∧ n < strMost) (ret (.bl (fits r (TL.numL n.toNat))))
  | _ => bad
def P_shown : List D → M D := fun ds => match ds with
  | [d, .int n] => ofO (decC d) fun c => asrt (0 ≤ n ∧ n < strMost) (ret (.bl (shownL c (TL.numL n.toNat))))
  | _ => bad
theorem fits_ev (r : Rule) (n : Int) (h : 0 ≤ n ∧ n < strMost) : dfits_rule [encR r, .int n] = ret (.bl (fits r (TL.numL n.toNat))) := by
  obtain ⟨k, w⟩ := r
  cases k <;> simp [dfits_rule, bfits_rule, encR, kdL, fits, asrt_pos h]
theorem P_fits_eq (r : Rule) (n : Int) (h : 0 ≤ n ∧ n < strMost) : P_fits [encR r, .int n] = ret (.bl (fits r (TL.numL n.toNat))) := by
  show ofO (decR (encR r)) _ = _
  rw [decR_enc, ofO_some, asrt_pos h]
theorem P_shown_eq (c : Ctr) (n : Int) (h : 0 ≤ n ∧ n < strMost) : P_shown [encC c, .int n] = ret (.bl (shownL c (TL.numL n.toNat))) := by
  show ofO (decC (encC c)) _ = _
  rw [decC_enc, ofO_some, asrt_pos h]
theorem le_fits : ∀ ds Q, P_fits ds Q → dfits_rule ds Q := fun ds Q h => by
  unfold P_fits at h
  split at h
  · rename_i d n
    obtain ⟨r, e, hn, q⟩ := ofO_get h
    rw [decR_inv e, fits_ev r n hn]
    exact q
  · exact h.elim
theorem boolsOf_map' {α : Type} (f : α → Bool) (xs : List α) : boolsOf (xs.map fun x => .bl (f x)) = some (xs.map f) := by
  rw [show (xs.map fun x => D.bl (f x)) = (xs.map f).map .bl by rw [List.map_map]; rfl]
  exact boolsOf_map _
@[simp] theorem at0 {α : Type} (x : α) (r : List α) : atI (x :: r) 0 = some x := by simp [atI, ixN]
@[simp] theorem at1 {α : Type} (x y : α) (r : List α) : atI (x :: y :: r) 1 = some y := by
  unfold atI ixN
  rw [if_pos (by decide), if_pos (by simp; omega)]
  rfl
theorem lcD_E {α : Type} {s : D → M (Option D)} {e : α → D} {f : α → Option D} : ∀ {xs : List α}, (∀ x ∈ xs, s (e x) = ret (f x)) → lcD s (xs.map e) = ret (xs.filterMap f)
  | [], _ => rfl
  | x :: xs, h => by
    rw [List.map_cons]
    unfold lcD
    rw [h x List.mem_cons_self, ret_bnd, lcD_E fun y hy => h y (List.mem_cons_of_mem _ hy), ret_bnd, List.filterMap_cons]
    cases f x <;> rfl
theorem lcD_mapE {α : Type} {s : D → M (Option D)} {e : α → D} {f : α → D} {xs : List α} (h : ∀ x ∈ xs, s (e x) = ret (some (f x))) : lcD s (xs.map e) = ret (xs.map f) := by
  rw [lcD_E (f := fun x => some (f x)) h, show (fun x => some (f x)) = some ∘ f from rfl, List.filterMap_eq_map]
theorem lcD_filtE {α : Type} {s : D → M (Option D)} {e : α → D} {f : α → D} {p : α → Bool} {xs : List α} (h : ∀ x ∈ xs, s (e x) = ret (if p x = true then some (f x) else none)) : lcD s (xs.map e) = ret ((xs.filter p).map f) := by
  rw [lcD_E (f := fun x => if p x = true then some (f x) else none) h]
  congr 1
  clear h
  induction xs with
  | nil => rfl
  | cons x xs ih =>
    rw [List.filterMap_cons, List.filter_cons]
    cases p x <;> simp [ih]
theorem shown_ev {W : List D → M D} (hW : ∀ r n, 0 ≤ n ∧ n < (strMost : Int) → W [encR r, .int n] = ret (.bl (fits r (TL.numL n.toNat)))) (c : Ctr) (n : Int) (h : 0 ≤ n ∧ n < strMost) : dis_shown W [encC c, .int n] = ret (.bl (shownL c (TL.numL n.toNat))) := by
  simp [dis_shown, bis_shown, encC]
  rw [lcD_mapE (f := fun r => .bl (fits r (TL.numL n.toNat))) fun r _ => by simp [hW r n h]]
  simp [boolsOf_map', shownL, List.any_map]
theorem le_shown : ∀ ds Q, P_shown ds Q → dis_shown P_fits ds Q := fun ds Q h => by
  unfold P_shown at h
  split at h
  · rename_i d n
    obtain ⟨c, e, hn, q⟩ := ofO_get h
    rw [decC_inv e, shown_ev P_fits_eq c n hn]
    exact q
  · exact h.elim
/-! ### the law's own reading of a rule -/
theorem sIx_nat (n k d : Nat) : HT.sIx n d (some (k : Int)) = min k n := HT.sIx_nat n d k
theorem sIx_none (n d : Nat) : HT.sIx n d none = d := HT.sIx_none n d
theorem cut_none {α : Type} (xs : List α) (k : Nat) : cut xs none (some (k : Int)) = xs.take k := by
  unfold cut
  rw [sIx_none, sIx_nat, List.drop_zero, Nat.sub_zero]
  rcases Nat.le_total k xs.length with h | h
  · rw [Nat.min_eq_left h]
  · rw [Nat.min_eq_right h, List.take_of_length_le h, List.take_of_length_le (Nat.le_refl _)]
theorem cut_from {α : Type} (xs : List α) (k : Nat) : cut xs (some (k : Int)) none = xs.drop k := by
  unfold cut
  rw [sIx_none, sIx_nat]
  rcases Nat.le_total k xs.length with h | h
  · rw [Nat.min_eq_left h, List.take_of_length_le (by rw [List.length_drop]; omega)]
  · rw [Nat.min_eq_right h, Nat.sub_self, List.take_zero, List.drop_of_length_le h]
theorem cut_mid {α : Type} (xs : List α) (i k : Nat) (hi : i ≤ xs.length) : cut xs (some (i : Int)) (some ((i : Int) + k)) = (xs.drop i).take k := by
  unfold cut
  rw [show (i : Int) + k = ((i + k : Nat) : Int) by omega, sIx_nat, sIx_nat, Nat.min_eq_left hi]
  rcases Nat.le_total (i + k) xs.length with h | h
  · rw [Nat.min_eq_left h, Nat.add_sub_cancel_left]
  · rw [Nat.min_eq_right h, List.take_of_length_le (by rw [List.length_drop]; exact Nat.le_refl _), List.take_of_length_le (by rw [List.length_drop]; omega)]
theorem suff_drop (w l : List Nat) : (l.drop (l.length - w.length) == w) = w.isSuffixOf l := by
  rw [Bool.eq_iff_iff, List.isSuffixOf_iff_suffix, beq_iff_eq]
  exact ⟨fun h => ⟨l.take (l.length - w.length), by rw [← h, List.length_drop] <;> (first | exact List.take_append_drop _ _ | (rw [show l.length - (l.length - (l.length - w.length)) = l.length - w.length by omega]; exact List.take_append_drop _ _))⟩, fun ⟨r, e⟩ => by
    subst e
    rw [List.length_append, Nat.add_sub_cancel, List.drop_left]⟩
theorem suff_cut (w l : List Nat) : (cut l (some (if w.length < l.length then (l.length : Int) - w.length else 0)) none == w) = w.isSuffixOf l := by
  have e : (if w.length < l.length then (l.length : Int) - w.length else 0) = ((l.length - w.length : Nat) : Int) := by
    split <;> omega
  rw [e, cut_from, suff_drop]
theorem pre_cut (w l : List Nat) : (cut l none (some (w.length : Int)) == w) = w.isPrefixOf l := by
  rw [cut_none, pre_take]
theorem at_cut (w l : List Nat) (i : Nat) (hi : i ≤ l.length) : (cut l (some (i : Int)) (some ((i : Int) + w.length)) == w) = w.isPrefixOf (l.drop i) := by
  rw [cut_mid _ _ _ hi, pre_take]
theorem rngD0 (n : Nat) : rngD 0 (n : Int) = (List.range n).map fun i => .int (i : Int) := by
  unfold rngD
  rw [show ((n : Int) - 0).toNat = n by omega]
  apply List.map_congr_left
  intro i _
  rw [Int.zero_add]
theorem okRng0 {n : Nat} (h : n ≤ sizeLine) : okRng 0 (n : Int) := by
  have h2 : n ≤ 16777216 := h
  refine ⟨by omega, by omega, by omega, by omega, ?_⟩
  rw [show ((n : Int) - 0).toNat = n by omega]
  exact h
theorem hasSub_nil (w : List Nat) (h : w ≠ []) (l : List Nat) : hasSub w l = (List.range l.length).any fun i => w.isPrefixOf (l.drop i) := by
  unfold hasSub
  rw [List.range_succ, List.any_append, List.any_cons, List.any_nil, List.drop_length]
  cases w with
  | nil => exact absurd rfl h
  | cons a r => simp
def isNilD : List D → Bool
  | [] => true
  | _ :: _ => false
theorem eq_nilL (xs : List D) : eqD (.lst xs) (.lst []) = isNilD xs := by
  cases xs <;> simp [eqD, eqDs, isNilD]
theorem okD_ints {α : Type} (f : α → Int) (n : Nat) : ∀ xs : List α, okDs (xs.map fun x => .int (f x)) n = true
  | [] => rfl
  | x :: xs => by
    rw [List.map_cons]
    unfold okDs
    rw [okD_ints f n xs]
    rfl
def P_left : List D → M D := fun ds => match ds with
  | [d, .str l] => ofO (decR d) fun r => asrt (l.length ≤ 1000 ∧ r.w ≠ []) (ret (.bl (fits r l)))
  | _ => bad
theorem isNil_filt {α : Type} (p : α → Bool) (f : α → D) (xs : List α) : isNilD ((xs.filter p).map f) = !xs.any p := by
  induction xs with
  | nil => rfl
  | cons x xs ih =>
    rw [List.filter_cons, List.any_cons]
    cases h : p x
    · simpa using ih
    · rfl
theorem left_ev (r : Rule) (l : List Nat) (h : l.length ≤ 1000 ∧ r.w ≠ []) : d_law_left_by [encR r, .str l] = ret (.bl (fits r l)) := by
  obtain ⟨k, w⟩ := r
  have hz : l.length ≤ sizeLine := Nat.le_trans h.1 (by decide)
  cases k
  · simp only [d_law_left_by, b_law_left_by, encR, kdL, fits]
    simp [asrt_pos (okRng0 hz), rngD0]
    rw [lcD_filtE (f := fun i : Nat => .int (i : Int)) (p := fun i => w.isPrefixOf (l.drop i)) fun i hi => ?_]
    · rw [ret_bnd, asrt_pos (.inr ⟨okD_ints _ _ _, rfl⟩), eq_nilL, isNil_filt, Bool.not_not, hasSub_nil w h.2]
    · have hl : i ≤ l.length := Nat.le_of_lt (List.mem_range.mp hi)
      simp [at_cut w l i hl]
      split <;> rfl
  · simp [d_law_left_by, b_law_left_by, encR, kdL, fits, suff_cut]
  · simp [d_law_left_by, b_law_left_by, encR, kdL, fits, pre_cut]
  · simp [d_law_left_by, b_law_left_by, encR, kdL, fits, Bool.beq_comm]
theorem P_left_eq (r : Rule) (l : List Nat) (h : l.length ≤ 1000 ∧ r.w ≠ []) : P_left [encR r, .str l] = ret (.bl (fits r l)) := by
  show ofO (decR (encR r)) _ = _
  rw [decR_enc, ofO_some, asrt_pos h]
theorem le_left : ∀ ds Q, P_left ds Q → d_law_left_by ds Q := fun ds Q h => by
  unfold P_left at h
  split at h
  · obtain ⟨r, e, hn, q⟩ := ofO_get h
    rw [decR_inv e, left_ev r _ hn]
    exact q
  · exact h.elim
/-- the words of a counter's rules are texts of digits -/
def okW (w : List Nat) : Prop := w ≠ [] ∧ w.length ≤ 5 ∧ PySem.NumText.AllDigits w
def okC (c : Ctr) : Prop := c.rules.length ≤ 5 ∧ (∀ r ∈ c.rules, okW r.w) ∧ c.ext.length ≤ 3
theorem numL_len1000 {n : Nat} (h : n < strMost) : (TL.numL n).length ≤ 1000 := Nat.le_trans (TL.numL_len (k := 250) (by decide) h) (by decide)
theorem okD_rules (n : Nat) : ∀ rs : List Rule, okDs (rs.map encR) (n + 1) = true
  | [] => rfl
  | r :: rs => by
    rw [List.map_cons]
    unfold okDs
    rw [okD_rules n rs]
    rfl
def P_lawShown : List D → M D := fun ds => match ds with
  | [d, .int n] => ofO (decC d) fun c => asrt ((0 ≤ n ∧ n < strMost) ∧ ∀ r ∈ c.rules, r.w ≠ []) (ret (.bl (shownL c (TL.numL n.toNat))))
  | _ => bad
theorem P_lawShown_eq (c : Ctr) (n : Int) (h : (0 ≤ n ∧ n < strMost) ∧ ∀ r ∈ c.rules, r.w ≠ []) : P_lawShown [encC c, .int n] = ret (.bl (shownL c (TL.numL n.toNat))) := by
  show ofO (decC (encC c)) _ = _
  rw [decC_enc, ofO_some, asrt_pos h]
theorem lawShown_ev (c : Ctr) (n : Int) (h : (0 ≤ n ∧ n < strMost) ∧ ∀ r ∈ c.rules, r.w ≠ []) : d_law_shown P_left [encC c, .int n] = ret (.bl (shownL c (TL.numL n.toNat))) := by
  have hn : n.toNat < strMost := by omega
  simp [d_law_shown, b_law_shown, encC]
  rw [lcD_filtE (f := encR) (p := fun r => fits r (TL.numL n.toNat)) fun r hr => by
    simp [asrt_pos h.1, P_left_eq r _ ⟨numL_len1000 hn, h.2 r hr⟩]
    split <;> rfl]
  rw [ret_bnd, asrt_pos (.inr ⟨okD_rules 58 _, rfl⟩), eq_nilL, isNil_filt]
  rfl
theorem le_lawShown : ∀ ds Q, P_lawShown ds Q → d_law_shown P_left ds Q := fun ds Q h => by
  unfold P_lawShown at h
  split at h
  · obtain ⟨c, e, hn, q⟩ := ofO_get h
    rw [decC_inv e, lawShown_ev c _ hn]
    exact q
  · exact h.elim
end DL

namespace DL
open PySem PySem.Spec L2

/-! ### the draws -/
theorem ev_sTp {i : Nat} {f : Rho → M D} {ρ : Rho} : sTp i f ρ = bnd (f ρ) fun x => match x with
  | .int _ => bnd (rd i ρ) fun d => match d with
    | .obj 0 _ => ret (.nx ρ)
    | _ => bad
  | _ => bad := Eq.trans rfl rfl
theorem mul_small {a b : Int} (h : -(2 ^ 64) < a ∧ a < 2 ^ 64) : okMul a b := .inl (.inl h)
theorem ite_go {α : Type} {b : Bool} {m m' : M α} {Q : α → Prop} (h1 : b = true → m Q) (h2 : b = false → m' Q) : (if b = true then m else m') Q := by
  cases b with
  | true => exact h1 rfl
  | false => exact h2 rfl
theorem draw_ev (xs : List D) (n : Int) (h : 0 < n ∧ n.natAbs < 2 ^ 4000) (Q : D → Prop) (q : ∀ r, 0 ≤ r → r < n → Q (.int r)) : d_law_draw [.obj 0 xs, .int n] Q := by
  have fin : ∀ p c f : Sl, (sSeq (sSet 4 (c2 oMod (cA (on1 oInt1) (aCons (tp1 0) (aNil))) (rd 1))) (sSeq (sTp 0 (c2 oDiv (tp1 0) (rd 1))) (sRet (rd 4)))) [.va (.obj 0 xs), .va (.int n), p, c, f] fun fl => flRet fl Q := by
    intro p c f
    intro c1
    refine ⟨h.1, ?_⟩
    intro c2
    refine ⟨⟨h.1, h.2⟩, ?_⟩
    exact q _ (Int.emod_nonneg _ (by omega)) (Int.emod_lt_of_pos _ h.1)
  refine ⟨rfl, ?_⟩
  intro c1
  refine ite_go (fun _ => ?_) fun _ => fin _ _ _
  -- the cell
  intro ns hns
  have rest : ∀ c : Int, (sSeq (sIf (cOr (tst (c2 oGe (tp1 0) (cA (on1 oLen1) (aCons (tp0 0) (aNil))))) (tst (c2 oLt (rd 3) (c2 oPow (cst (.int 10)) (cst (.int 18)))))) (sSeq (sSet 3 (c2 oMod (cA (on1 oInt1) (aCons (c2 oAdd (rd 3) (c2 oMul (cst (.int 1000003)) (tp1 0))) (aNil))) (rd 2))) (sSeq (sSet 3 (c2 oMod (cA (on1 oInt1) (aCons (c2 oAdd (c2 oAdd (c2 oMul (rd 3) (rd 3)) (c2 oMul (cst (.int 1181783497276652981)) (rd 3))) (cst (.int 2049848353892358983))) (aNil))) (rd 2))) (sSet 3 (c2 oMod (cA (on1 oInt1) (aCons (c2 oAdd (c2 oMul (rd 3) (rd 3)) (cst (.int 1442695040888963407))) (aNil))) (rd 2))))) (sNext)) (sSeq (sTp 0 (c2 oAdd (tp1 0) (cst (.int 1)))) (sTp 0 (rd 3)))) [.va (.obj 0 xs), .va (.int n), .va (.int 2305843009213693951), .va (.int c), .no]
      fun fl => fthen (sSeq (sSet 4 (c2 oMod (cA (on1 oInt1) (aCons (tp1 0) (aNil))) (rd 1))) (sSeq (sTp 0 (c2 oDiv (tp1 0) (rd 1))) (sRet (rd 4)))) fl fun fl => flRet fl Q := by
    intro c
    have out : ∀ c : Int, (sSeq (sTp 0 (c2 oAdd (tp1 0) (cst (.int 1)))) (sTp 0 (rd 3))) [.va (.obj 0 xs), .va (.int n), .va (.int 2305843009213693951), .va (.int c), .no]
        fun fl => fthen (sSeq (sSet 4 (c2 oMod (cA (on1 oInt1) (aCons (tp1 0) (aNil))) (rd 1))) (sSeq (sTp 0 (c2 oDiv (tp1 0) (rd 1))) (sRet (rd 4)))) fl fun fl => flRet fl Q := by
      intro c
      intro c5
      exact fin _ _ _
    have mixed : ∀ c : Int, (sSeq (sSet 3 (c2 oMod (cA (on1 oInt1) (aCons (c2 oAdd (rd 3) (c2 oMul (cst (.int 1000003)) (tp1 0))) (aNil))) (rd 2))) (sSeq (sSet 3 (c2 oMod (cA (on1 oInt1) (aCons (c2 oAdd (c2 oAdd (c2 oMul (rd 3) (rd 3)) (c2 oMul (cst (.int 1181783497276652981)) (rd 3))) (cst (.int 2049848353892358983))) (aNil))) (rd 2))) (sSet 3 (c2 oMod (cA (on1 oInt1) (aCons (c2 oAdd (c2 oMul (rd 3) (rd 3)) (cst (.int 1442695040888963407))) (aNil))) (rd 2))))) [.va (.obj 0 xs), .va (.int n), .va (.int 2305843009213693951), .va (.int c), .no]
        fun fl => fthen (sSeq (sTp 0 (c2 oAdd (tp1 0) (cst (.int 1)))) (sTp 0 (rd 3))) fl fun fl => fthen (sSeq (sSet 4 (c2 oMod (cA (on1 oInt1) (aCons (tp1 0) (aNil))) (rd 1))) (sSeq (sTp 0 (c2 oDiv (tp1 0) (rd 1))) (sRet (rd 4)))) fl fun fl => flRet fl Q := by
      intro c
      intro c6
      refine ⟨mul_small (by decide), (show (0 : Int) < 2305843009213693951 by decide), ?_⟩
      dsimp only
      have b1 := Int.emod_nonneg (c + 1000003 * c6) (show (2305843009213693951 : Int) ≠ 0 by decide)
      have b2 := Int.emod_lt_of_pos (c + 1000003 * c6) (show (0 : Int) < 2305843009213693951 by decide)
      generalize (c + 1000003 * c6) % 2305843009213693951 = z at b1 b2
      have z1 : -(2 ^ 64) < z ∧ z < 2 ^ 64 := by omega
      refine ⟨mul_small z1, mul_small (by decide), (show (0 : Int) < 2305843009213693951 by decide), ?_⟩
      dsimp only
      have b3 := Int.emod_nonneg (z * z + 1181783497276652981 * z + 2049848353892358983) (show (2305843009213693951 : Int) ≠ 0 by decide)
      have b4 := Int.emod_lt_of_pos (z * z + 1181783497276652981 * z + 2049848353892358983) (show (0 : Int) < 2305843009213693951 by decide)
      generalize (z * z + 1181783497276652981 * z + 2049848353892358983) % 2305843009213693951 = y at b3 b4
      have y1 : -(2 ^ 64) < y ∧ y < 2 ^ 64 := by omega
      refine ⟨mul_small y1, (show (0 : Int) < 2305843009213693951 by decide), ?_⟩
      exact out _
    intro c2
    intro ns2 hns2
    refine ite_go (fun _ => mixed c) fun _ => ?_
    refine ⟨(show (0 : Int) ≤ 18 ∧ (18 : Int) ≤ 1000 ∧ (-1000 : Int) ≤ 10 ∧ (10 : Int) ≤ 1000 by decide), ?_⟩
    exact ite_go (fun _ => mixed c) fun _ => out c
  refine ite_go (fun hl => ?_) fun _ => rest 0
  intro ns3 hns3
  intro c4
  intro ns4 hns4
  have pos : (0 : Int) < ((xs.length : Nat) : Int) := of_decide_eq_true hl
  refine ⟨pos, ?_⟩
  have b1 := Int.emod_nonneg c4 (show ((xs.length : Nat) : Int) ≠ 0 by omega)
  have b2 := Int.emod_lt_of_pos c4 pos
  obtain ⟨j, hj⟩ := Int.eq_ofNat_of_zero_le b1
  have hj2 : j < xs.length := by omega
  have hj3 : j < ns.length := by rw [hns, List.length_map] at hj2; exact hj2
  have ea : atI xs (c4 % ((xs.length : Nat) : Int)) = some (.int ns[j]) := by
    unfold atI ixN
    rw [if_pos b1, if_pos b2, hj]
    show xs[j]? = _
    rw [hns, List.getElem?_map, List.getElem?_eq_getElem hj3]
    rfl
  show ofO (atI xs (c4 % ((xs.length : Nat) : Int))) ret _
  rw [ea]
  exact rest _
theorem le_draw : ∀ ds Q, P_draw ds Q → d_law_draw ds Q := fun ds Q h => by
  unfold P_draw at h
  split at h
  · obtain ⟨h1, h2⟩ := h
    exact draw_ev _ _ ⟨h1.1, Nat.lt_trans (show Int.natAbs _ < 1000000000000000000000000000000 by omega) (by decide +kernel)⟩ Q h2
  · exact h.elim
theorem P_draw_go {xs : List D} {n : Int} {Q : D → Prop} (h : 0 < n ∧ n < 1000000000000000000000000000000) (q : ∀ r, 0 ≤ r → r < n → Q (.int r)) : P_draw [.obj 0 xs, .int n] Q := ⟨h, q⟩
theorem pick {α : Type} {xs : List α} {r : Int} (h0 : 0 ≤ r) (h1 : r < xs.length) : ∃ x, x ∈ xs ∧ atI xs r = some x := by
  obtain ⟨j, rfl⟩ := Int.eq_ofNat_of_zero_le h0
  have hj : j < xs.length := by omega
  refine ⟨xs[j], List.getElem_mem hj, ?_⟩
  unfold atI ixN
  rw [if_pos (by omega), if_pos (by omega)]
  show xs[((j : Nat) : Int).toNat]? = _
  rw [Int.toNat_natCast, List.getElem?_eq_getElem hj]
theorem ofO_go {α β : Type} {o : Option α} {k : α → M β} {a : α} {Q : β → Prop} (h : o = some a) (q : k a Q) : ofO o k Q := by
  subst h
  exact q
def digL : List Nat := [48, 49, 50, 51, 52, 53, 54, 55, 56, 57]
theorem digL_mem {c : Nat} (h : c ∈ digL) : 48 ≤ c ∧ c ≤ 57 := by
  simp [digL] at h
  omega
theorem join1 : ∀ cs : List Nat, TL.joinL [] (cs.map fun c => [c]) = cs
  | [] => rfl
  | [c] => rfl
  | c :: d :: r => by
    show [c] ++ ([] ++ TL.joinL [] ((d :: r).map fun c => [c])) = _
    rw [join1 (d :: r)]
    rfl
theorem sgl_list : ∀ {r : List D}, (∀ d ∈ r, ∃ c, c ∈ digL ∧ d = .str [c]) → ∃ cs : List Nat, r = (cs.map fun c => [c]).map .str ∧ ∀ c ∈ cs, c ∈ digL
  | [], _ => ⟨[], rfl, fun _ h => by cases h⟩
  | d :: r, h => by
    obtain ⟨c, hc, rfl⟩ := h d List.mem_cons_self
    obtain ⟨cs, e, hcs⟩ := sgl_list (r := r) fun x hx => h x (List.mem_cons_of_mem _ hx)
    exact ⟨c :: cs, by rw [e]; rfl, fun x hx => by
      rcases List.mem_cons.mp hx with e1 | e1
      · rw [e1]; exact hc
      · exact hcs x e1⟩
theorem sum_ones : ∀ cs : List Nat, ((cs.map fun c => [c]).map List.length).sum = cs.length
  | [] => rfl
  | c :: cs => by
    rw [List.map_cons, List.map_cons, List.sum_cons, sum_ones cs]; simp; omega
def P_word : List D → M D := fun ds => match ds with
  | [.obj 0 _] => fun Q => ∀ w, okW w → Q (.str w)
  | _ => bad
theorem word_ev (xs : List D) (Q : D → Prop) (q : ∀ w, okW w → Q (.str w)) : d_law_word P_draw [.obj 0 xs] Q := by
  refine ⟨rfl, by decide, P_draw_go (xs := xs) ⟨by decide, by decide⟩ fun r h0 h1 => ?_⟩
  obtain ⟨x, hx, ex⟩ := pick (xs := [D.int 1, .int 1, .int 2, .int 2, .int 2, .int 3, .int 5]) h0 h1
  refine ofO_go ex ?_
  have hm : ∃ m : Nat, x = .int (m : Int) ∧ 1 ≤ m ∧ m ≤ 5 := by
    simp only [List.mem_cons, List.not_mem_nil, or_false] at hx
    rcases hx with h | h | h | h | h | h | h <;> rw [h]
    · exact ⟨1, rfl, by omega⟩
    · exact ⟨1, rfl, by omega⟩
    · exact ⟨2, rfl, by omega⟩
    · exact ⟨2, rfl, by omega⟩
    · exact ⟨2, rfl, by omega⟩
    · exact ⟨3, rfl, by omega⟩
    · exact ⟨5, rfl, by omega⟩
  obtain ⟨m, rfl, m1, m2⟩ := hm
  refine ⟨okRng0 (Nat.le_trans m2 (by decide)), ?_⟩
  refine lcD_any (P := fun d => ∃ c, c ∈ digL ∧ d = .str [c]) (fun x hx K k => ?_) fun rs hl hp => ?_
  · refine P_draw_go (xs := xs) ⟨by decide, by decide⟩ fun r h0 h1 => ?_
    obtain ⟨c, hc, ec⟩ := pick (xs := digL) h0 h1
    exact ofO_go ec (k _ ⟨c, hc, rfl⟩)
  · obtain ⟨cs, rfl, hcs⟩ := sgl_list hp
    have lcs : cs.length = m := by
      rw [rngD0, List.length_map, List.length_map, List.length_map, List.length_range] at hl
      exact hl
    refine ofO_go (strsOf_map _) ⟨?_, ?_⟩
    · show ((cs.map fun c => [c]).map List.length).sum + (cs.map fun c => [c]).length * 0 ≤ 16777216
      rw [sum_ones]
      omega
    · show Q (.str (TL.joinL [] (cs.map fun c => [c])))
      rw [join1]
      refine q cs ⟨fun e => by subst e; simp at lcs; omega, by omega, fun c hc => ?_⟩
      have := digL_mem (hcs c hc)
      omega
theorem le_word : ∀ ds Q, P_word ds Q → d_law_word P_draw ds Q := fun ds Q h => by
  unfold P_word at h
  split at h
  · exact word_ev _ Q h
  · exact h.elim
def P_rule : List D → M D := fun ds => match ds with
  | [.obj 0 _] => fun Q => ∀ r : Rule, okW r.w → Q (encR r)
  | _ => bad
theorem rule_ev (xs : List D) (Q : D → Prop) (q : ∀ r : Rule, okW r.w → Q (encR r)) : d_law_rule P_word P_draw [.obj 0 xs] Q := by
  refine ⟨rfl, by decide, P_draw_go (xs := xs) ⟨by decide, by decide⟩ fun r h0 h1 => ?_⟩
  obtain ⟨x, hx, ex⟩ := pick (xs := [D.str (kdL .has), .str (kdL .ends), .str (kdL .begins), .str (kdL .is)]) h0 h1
  refine ofO_go ex ?_
  have hk : ∃ k : Kd, x = .str (kdL k) := by
    simp only [List.mem_cons, List.not_mem_nil, or_false] at hx
    rcases hx with h | h | h | h <;> exact ⟨_, h⟩
  obtain ⟨k, rfl⟩ := hk
  intro w hw
  exact ⟨(show 2 ≤ sizeLine by decide), q ⟨k, w⟩ hw⟩
theorem le_rule : ∀ ds Q, P_rule ds Q → d_law_rule P_word P_draw ds Q := fun ds Q h => by
  unfold P_rule at h
  split at h
  · exact rule_ev _ Q h
  · exact h.elim
/-- any number of few or many digits -/
def P_number : List D → M D := fun ds => match ds with
  | [.obj 0 _] => fun Q => ∀ n : Nat, 1 ≤ n → n < 10 ^ 40 → Q (.int (n : Int))
  | _ => bad
/-! ### texts of digits -/
abbrev dv : List Nat → Nat := PySem.NumText.digitsVal
abbrev AD : List Nat → Prop := PySem.NumText.AllDigits
theorem dv_go : ∀ (l : List Nat) (acc : Nat), AD l → l.foldl (fun acc c => acc * 10 + (c - 48)) acc < (acc + 1) * 10 ^ l.length ∧ acc * 10 ^ l.length ≤ l.foldl (fun acc c => acc * 10 + (c - 48)) acc
  | [], acc, _ => by simp
  | c :: l, acc, h => by
    obtain ⟨h1, h2⟩ := dv_go l (acc * 10 + (c - 48)) fun x hx => h x (List.mem_cons_of_mem _ hx)
    have hc := h c List.mem_cons_self
    rw [List.foldl_cons, List.length_cons, Nat.pow_succ]
    refine ⟨Nat.lt_of_lt_of_le h1 ?_, Nat.le_trans ?_ h2⟩
    · calc (acc * 10 + (c - 48) + 1) * 10 ^ l.length ≤ (acc * 10 + 10) * 10 ^ l.length := Nat.mul_le_mul_right _ (by omega)
        _ = (acc + 1) * (10 ^ l.length * 10) := by rw [show acc * 10 + 10 = (acc + 1) * 10 by omega, Nat.mul_assoc, Nat.mul_comm 10]
    · calc acc * (10 ^ l.length * 10) = acc * 10 * 10 ^ l.length := by rw [Nat.mul_comm _ 10, ← Nat.mul_assoc]
        _ ≤ (acc * 10 + (c - 48)) * 10 ^ l.length := Nat.mul_le_mul_right _ (by omega)
theorem dv_lt {l : List Nat} (h : AD l) : dv l < 10 ^ l.length := by
  have := (dv_go l 0 h).1
  rw [Nat.zero_add, Nat.one_mul] at this
  exact this
theorem dv_ge {c : Nat} {l : List Nat} (h : AD (c :: l)) (hc : c ≠ 48) : 10 ^ l.length ≤ dv (c :: l) := by
  have h1 := h c List.mem_cons_self
  have := (dv_go l (0 * 10 + (c - 48)) fun x hx => h x (List.mem_cons_of_mem _ hx)).2
  refine Nat.le_trans ?_ this
  calc 10 ^ l.length = 1 * 10 ^ l.length := (Nat.one_mul _).symm
    _ ≤ _ := Nat.mul_le_mul_right _ (by omega)
theorem number_ev (xs : List D) (Q : D → Prop) (q : ∀ n : Nat, 1 ≤ n → n < 10 ^ 40 → Q (.int (n : Int))) : d_law_number P_draw [.obj 0 xs] Q := by
  refine ⟨rfl, by decide, P_draw_go (xs := xs) ⟨by decide, by decide⟩ fun r h0 h1 => ?_⟩
  obtain ⟨x, hx, ex⟩ := pick (xs := [D.int 1, .int 2, .int 3, .int 5, .int 9, .int 20, .int 40]) h0 h1
  refine ofO_go ex ?_
  have hm : ∃ m : Nat, x = .int ((m + 1 : Nat) : Int) ∧ m + 1 ≤ 40 := by
    simp only [List.mem_cons, List.not_mem_nil, or_false] at hx
    rcases hx with h | h | h | h | h | h | h <;> rw [h]
    · exact ⟨0, rfl, by omega⟩
    · exact ⟨1, rfl, by omega⟩
    · exact ⟨2, rfl, by omega⟩
    · exact ⟨4, rfl, by omega⟩
    · exact ⟨8, rfl, by omega⟩
    · exact ⟨19, rfl, by omega⟩
    · exact ⟨39, rfl, by omega⟩
  obtain ⟨m, rfl, m2⟩ := hm
  refine P_draw_go (xs := xs) ⟨by decide, by decide⟩ fun r h0 h1 => ?_
  obtain ⟨c, hc, ec⟩ := pick (xs := [49, 50, 51, 52, 53, 54, 55, 56, 57]) h0 h1
  refine ofO_go ec ?_
  have hc2 : 49 ≤ c ∧ c ≤ 57 := by
    simp at hc
    omega
  have e1 : ((m + 1 : Nat) : Int) - 1 = (m : Int) := by omega
  show (asrt (okRng 0 (((m + 1 : Nat) : Int) - 1)) (ret (rngD 0 (((m + 1 : Nat) : Int) - 1)))) _
  rw [e1]
  refine ⟨okRng0 (Nat.le_trans (show m ≤ 40 by omega) (by decide)), ?_⟩
  have len : (rngD 0 (m : Int)).length = m := by rw [rngD0, List.length_map, List.length_range]
  refine forD_inv (fun i ρ => ∃ (l : List Nat) (z : Sl), ρ = [.va (.obj 0 xs), .va (.int ((m + 1 : Nat) : Int)), .va (.str l), z] ∧ l.length = i + 1 ∧ (∀ x ∈ l, x ∈ digL) ∧ l.head? = some c) (fun _ => False) _ _ 0 ⟨[c], .no, rfl, rfl, fun x hx => ?_, rfl⟩ (fun j x hj ρ K ⟨l, z, hρ, hl, hd, hh⟩ k1 k2 k3 k4 => ?_) (fun ρ' ⟨l, z, hρ, hl, hd, hh⟩ => ?_) fun d h => h.elim
  · have e : x = c := by simpa using hx
    subst e
    simp [digL]
    omega
  · subst hρ
    have hjm : j < m := by
      have := (List.getElem?_eq_some_iff.mp hj).1
      rw [len] at this
      exact this
    refine P_draw_go (xs := xs) ⟨by decide, by decide⟩ fun r h0 h1 => ?_
    obtain ⟨d, hd2, ed⟩ := pick (xs := digL) h0 h1
    refine ofO_go ed ⟨Nat.le_trans (show l.length + [d].length ≤ 100 by rw [hl, List.length_singleton]; omega) (by decide), ?_⟩
    exact k1 _ ⟨l ++ [d], .va x, rfl, by rw [List.length_append, hl]; rfl, fun y hy => by
      rcases List.mem_append.mp hy with h | h
      · exact hd y h
      · have e : y = d := by simpa using h
        rw [e]; exact hd2, by
      cases l with
      | nil => cases hh
      | cons a b => exact hh⟩
  · subst hρ
    rw [len] at hl
    have ad : PySem.NumText.AllDigits l := fun x hx => by
      have := digL_mem (hd x hx)
      omega
    cases l with
    | nil => cases hh
    | cons c' t =>
      have ec : c' = c := Option.some.inj hh
      subst ec
      refine ⟨⟨ad, List.cons_ne_nil _ _, by omega⟩, ?_⟩
      have b1 := dv_lt ad
      have b2 := dv_ge ad (by omega)
      exact q _ (Nat.le_trans (Nat.one_le_pow _ _ (by omega)) b2) (Nat.lt_of_lt_of_le b1 (Nat.pow_le_pow_right (by omega) (by omega)))
theorem le_number : ∀ ds Q, P_number ds Q → d_law_number P_draw ds Q := fun ds Q h => by
  unfold P_number at h
  split at h
  · exact number_ev _ Q h
  · exact h.elim
end DL

namespace DL
open PySem PySem.Spec L2

theorem kdL_inj {a b : Kd} (h : kdL a = kdL b) : a = b := by
  have := congrArg decK h
  rw [decK_enc, decK_enc] at this
  exact Option.some.inj this
theorem eqD_R (a b : Rule) : eqD (encR a) (encR b) = decide (a = b) := by
  obtain ⟨k, w⟩ := a
  obtain ⟨j, v⟩ := b
  simp only [encR, eqD, eqDs, Bool.and_true]
  rw [Bool.eq_iff_iff]
  simp only [Bool.and_eq_true, beq_iff_eq, decide_eq_true_eq, Rule.mk.injEq]
  exact ⟨fun h => ⟨kdL_inj h.1, h.2⟩, fun h => ⟨by rw [h.1], h.2⟩⟩
theorem any_R (rs : List Rule) (r : Rule) : ((rs.map encR).any fun z => eqD z (encR r)) = decide (r ∈ rs) := by
  induction rs with
  | nil => rfl
  | cons x xs ih =>
    rw [List.map_cons, List.any_cons, ih, eqD_R]
    rw [Bool.eq_iff_iff, Bool.or_eq_true, decide_eq_true_eq, decide_eq_true_eq, decide_eq_true_eq, List.mem_cons]
    exact ⟨fun h => h.elim (fun h => .inl h.symm) .inr, fun h => h.elim (fun h => .inl h.symm) .inr⟩
structure OkC (c : Ctr) : Prop where
  nr : c.rules.length ≤ 5
  nd : c.rules.Nodup
  wd : ∀ r ∈ c.rules, okW r.w
  ne : c.ext.length ≤ 3
  up : (c.ext.map (·.1)).Pairwise (· < ·)
  rg : ∀ e ∈ c.ext, (1 ≤ e.1 ∧ e.1 ≤ 999) ∧ 1 ≤ e.2 ∧ e.2 ≤ 3
def P_counter : List D → M D := fun ds => match ds with
  | [.obj 0 _] => fun Q => ∀ c : Ctr, OkC c → Q (encC c)
  | _ => bad
theorem ints_list : ∀ {r : List D} {P : Int → Prop}, (∀ d ∈ r, ∃ n, P n ∧ d = .int n) → ∃ ns : List Int, r = ns.map .int ∧ ∀ n ∈ ns, P n
  | [], _, _ => ⟨[], rfl, fun _ h => by cases h⟩
  | d :: r, P, h => by
    obtain ⟨c, hc, rfl⟩ := h d List.mem_cons_self
    obtain ⟨cs, e, hcs⟩ := ints_list (r := r) (P := P) fun x hx => h x (List.mem_cons_of_mem _ hx)
    exact ⟨c :: cs, by rw [e]; rfl, fun x hx => by
      rcases List.mem_cons.mp hx with e1 | e1
      · rw [e1]; exact hc
      · exact hcs x e1⟩
theorem rng_len (n : Nat) : (rngD 0 (n : Int)).length = n := by rw [rngD0, List.length_map, List.length_range]
theorem counter_ev (xs : List D) (Q : D → Prop) (q : ∀ c : Ctr, OkC c → Q (encC c)) : d_law_counter P_draw P_rule [.obj 0 xs] Q := by
  refine ⟨rfl, by decide, by decide, by decide, rfl, ?_⟩
  refine P_draw_go (xs := xs) ⟨by decide, by decide⟩ fun r h0 h1 => ?_
  obtain ⟨m, rfl⟩ := Int.eq_ofNat_of_zero_le h0
  have hm : m ≤ 5 := by omega
  refine ⟨okRng0 (Nat.le_trans hm (by decide)), ?_⟩
  refine forD_inv (fun i ρ => ∃ (rs : List Rule) (z y x : Sl), ρ = [.va (.obj 0 xs), .va (.tup (rs.map encR)), .va (.tup []), z, y, x] ∧ rs.length ≤ i ∧ rs.Nodup ∧ ∀ r ∈ rs, okW r.w) (fun _ => False) _ _ 0
    ⟨[], .no, .no, .no, rfl, Nat.le_refl _, List.nodup_nil, fun _ h => by cases h⟩ (fun j x hj ρ K ⟨rs, z, y, u, hρ, hl, hd, hw⟩ k1 k2 k3 k4 => ?_) (fun ρ' ⟨rs, z, y, u, hρ, hl, hd, hw⟩ => ?_) fun d h => h.elim
  · subst hρ
    intro r hr
    refine ⟨⟨rfl, okD_rules 49 rs⟩, ?_⟩
    have hj5 : j < 5 := by
      have := (List.getElem?_eq_some_iff.mp hj).1
      rw [rng_len] at this
      omega
    refine ite_go (fun _ => k1 _ ⟨rs, _, _, _, rfl, by omega, hd, hw⟩) fun hn => ?_
    have hn' : r ∉ rs := fun hm => by
      have e : ((rs.map encR).any fun z => eqD z (encR r)) = false := hn
      rw [any_R, decide_eq_false_iff_not] at e
      exact e hm
    refine ⟨(show 1 ≤ sizeLine by decide), Nat.le_trans (show (rs.map encR).length + [encR r].length ≤ 100 by rw [List.length_map]; simp; omega) (by decide), ?_⟩
    refine k1 _ ⟨rs ++ [r], _, _, _, by rw [List.map_append]; rfl, by rw [List.length_append]; simp; omega, ?_, fun s hs => ?_⟩
    · rw [List.nodup_append]
      exact ⟨hd, by simp, fun a ha b hb => by
        have e : b = r := by simpa using hb
        subst e
        exact fun e2 => hn' (e2 ▸ ha)⟩
    · rcases List.mem_append.mp hs with h | h
      · exact hw s h
      · have e : s = r := by simpa using h
        rw [e]; exact hr
  · subst hρ
    rw [rng_len] at hl
    refine P_draw_go (xs := xs) ⟨by decide, by decide⟩ fun r h0 h1 => ?_
    obtain ⟨e, rfl⟩ := Int.eq_ofNat_of_zero_le h0
    have he : e ≤ 3 := by omega
    refine ⟨okRng0 (Nat.le_trans he (by decide)), ?_⟩
    refine lcD_any (P := fun d => ∃ n, (1 ≤ n ∧ n ≤ 40) ∧ d = .int n) (fun x hx K k => ?_) fun ds hl2 hp => ?_
    · exact P_draw_go (xs := xs) ⟨by decide, by decide⟩ fun r h0 h1 => k _ ⟨1 + r, by omega, rfl⟩
    · obtain ⟨ns, rfl, hns⟩ := ints_list hp
      rw [rng_len, List.length_map] at hl2
      refine ofO_go (intsOf_map ns) ⟨by omega, ?_⟩
      have hul : (usortI ns).length ≤ 3 := by
        have : (usortI ns).length ≤ ns.length := usort_len ns
        omega
      have hup : (usortI ns).Pairwise (· < ·) := usort_up linI ns
      have hum : ∀ n ∈ usortI ns, 1 ≤ n ∧ n ≤ 40 := fun n hn => hns n ((mem_usort linI).mp hn)
      refine forD_inv (fun i ρ => ∃ (es : List (Int × Int)) (z y x : Sl), ρ = [.va (.obj 0 xs), .va (.tup (rs.map encR)), .va (.tup (es.map encE)), z, y, x] ∧ es.map (·.1) = (usortI ns).take i ∧ ∀ e ∈ es, 1 ≤ e.2 ∧ e.2 ≤ 3) (fun _ => False) _ _ 0
        ⟨[], _, _, _, rfl, by simp, fun _ h => by cases h⟩ (fun j x hj ρ K ⟨es, z, y, u, hρ, hes, he3⟩ k1 k2 k3 k4 => ?_) (fun ρ' ⟨es, z, y, u, hρ, hes, he3⟩ => ?_) fun d h => h.elim
      · subst hρ
        rw [List.getElem?_map] at hj
        cases hq : (usortI ns)[j]? with
        | none => rw [hq] at hj; cases hj
        | some n =>
          rw [hq] at hj
          cases hj
          have hj3 : j < (usortI ns).length := (List.getElem?_eq_some_iff.mp hq).1
          have hel : es.length ≤ j := by
            have := congrArg List.length hes
            rw [List.length_map, List.length_take] at this
            omega
          refine P_draw_go (xs := xs) ⟨by decide, by decide⟩ fun r h0 h1 => ?_
          refine ⟨(show 2 ≤ sizeLine by decide), (show 1 ≤ sizeLine by decide), Nat.le_trans (show (es.map encE).length + 1 ≤ 100 by rw [List.length_map]; omega) (by decide), ?_⟩
          refine k1 _ ⟨es ++ [(n, 1 + r)], _, _, _, by rw [List.map_append]; rfl, ?_, fun e he => ?_⟩
          · rw [List.map_append, hes, show 0 + j + 1 = j + 1 by omega, List.take_add_one, hq, Nat.zero_add]
            rfl
          · rcases List.mem_append.mp he with h | h
            · exact he3 e h
            · have e1 : e = (n, 1 + r) := by simpa using h
              subst e1
              show 1 ≤ 1 + r ∧ 1 + r ≤ 3
              omega
      · subst hρ
        have hes' : es.map (·.1) = usortI ns := by
          rw [hes, List.length_map, Nat.zero_add, List.take_length]
        refine ⟨(show 2 ≤ sizeLine by decide), q ⟨rs, es⟩ ⟨(show rs.length ≤ 5 by omega), hd, hw, ?_, by rw [hes']; exact hup, fun e he => ⟨?_, he3 e he⟩⟩⟩
        · have := congrArg List.length hes'
          rw [List.length_map] at this
          show es.length ≤ 3
          omega
        · have hm : e.1 ∈ es.map (·.1) := List.mem_map.mpr ⟨e, he, rfl⟩
          rw [hes'] at hm
          have := hum _ hm
          omega
theorem le_counter : ∀ ds Q, P_counter ds Q → d_law_counter P_draw P_rule ds Q := fun ds Q h => by
  unfold P_counter at h
  split at h
  · exact counter_ev _ Q h
  · exact h.elim
end DL

namespace DL
open PySem PySem.Spec L2

/-! ### equal, of the same kinds -/
def isBl : D → Bool
  | .bl _ => true
  | _ => false
mutual
def likeD : D → D → Bool
  | .lst a, e => match e with
    | .lst b => likeDs a b
    | _ => false
  | .tup a, e => match e with
    | .tup b => likeDs a b
    | _ => false
  | d, e => match e with
    | .lst _ => false
    | .tup _ => false
    | e => (isBl d == isBl e) && eqD d e
def likeDs : List D → List D → Bool
  | [], e => match e with
    | [] => true
    | _ :: _ => false
  | x :: xs, e => match e with
    | [] => false
    | y :: ys => likeD x y && likeDs xs ys
end
mutual
/-- data of at most this depth, no list too long, no object in it -/
def okL : D → Nat → Bool
  | .lst xs, n => match n with
    | 0 => false
    | n + 1 => decide (xs.length ≤ 1000000) && okLs xs n
  | .tup xs, n => match n with
    | 0 => false
    | n + 1 => decide (xs.length ≤ 1000000) && okLs xs n
  | .obj _ _, _ => false
  | _, _ => true
def okLs : List D → Nat → Bool
  | [], _ => true
  | d :: ds, n => okL d n && okLs ds n
end
mutual
theorem okL_okD : ∀ (d : D) (n : Nat), okL d n = true → okD d n = true
  | .lst xs, n, h => by
    cases n with
    | zero => cases h
    | succ n =>
      simp only [okL, Bool.and_eq_true] at h
      exact okLs_okDs xs n h.2
  | .tup xs, n, h => by
    cases n with
    | zero => cases h
    | succ n =>
      simp only [okL, Bool.and_eq_true] at h
      exact okLs_okDs xs n h.2
  | .obj _ _, _, h => by cases h
  | .non, _, _ => rfl
  | .bl _, _, _ => rfl
  | .int _, _, _ => rfl
  | .str _, _, _ => rfl
theorem okLs_okDs : ∀ (ds : List D) (n : Nat), okLs ds n = true → okDs ds n = true
  | [], _, _ => rfl
  | d :: ds, n, h => by
    simp only [okLs, Bool.and_eq_true] at h
    simp only [okDs, okL_okD d n h.1, okLs_okDs ds n h.2, Bool.and_self]
end
theorem okLs_mem {n : Nat} : ∀ {ds : List D}, okLs ds n = true → ∀ d ∈ ds, okL d n = true
  | d :: ds, h, x, hx => by
    simp only [okLs, Bool.and_eq_true] at h
    rcases List.mem_cons.mp hx with e | e
    · rw [e]; exact h.1
    · exact okLs_mem h.2 x e
theorem likeDs_ne : ∀ {xs ys : List D}, xs.length ≠ ys.length → likeDs xs ys = false
  | [], [], h => absurd rfl h
  | [], _ :: _, _ => rfl
  | _ :: _, [], _ => rfl
  | x :: xs, y :: ys, h => by
    show (likeD x y && likeDs xs ys) = false
    rw [likeDs_ne fun e => h (by rw [List.length_cons, List.length_cons, e]), Bool.and_false]
theorem likeDs_rng : ∀ {xs ys : List D}, xs.length = ys.length → likeDs xs ys = !(List.range xs.length).any fun i => !likeD (xs.getD i .non) (ys.getD i .non)
  | [], [], _ => rfl
  | [], _ :: _, h => by cases h
  | _ :: _, [], h => by cases h
  | x :: xs, y :: ys, h => by
    show (likeD x y && likeDs xs ys) = _
    rw [likeDs_rng (by simpa using h), List.length_cons, List.range_succ_eq_map, List.any_cons, List.any_map]
    simp only [Function.comp_def, List.getD_cons_zero, List.getD_cons_succ, Bool.not_or, Bool.not_not]
def likeN : Nat → List D → M D
  | 0 => fun _ => bad
  | k + 1 => d_law_like (likeN k)
theorem atI_getD {xs : List D} {i : Nat} (h : i < xs.length) : atI xs (i : Int) = some (xs.getD i .non) := by
  unfold atI ixN
  rw [if_pos (by omega), if_pos (by omega)]
  show xs[i]? = _
  rw [List.getElem?_eq_getElem h, List.getD_eq_getElem?_getD, List.getElem?_eq_getElem h]
  rfl
theorem getD_mem {xs : List D} {i : Nat} (h : i < xs.length) : xs.getD i .non ∈ xs := by
  rw [List.getD_eq_getElem?_getD, List.getElem?_eq_getElem h]
  exact List.getElem_mem h
theorem sIf_t {t : Rho → M Bool} {p q : Rho → M Fl} {ρ : Rho} (h : t ρ = ret true) : sIf t p q ρ = p ρ := by
  rw [ev_sIf, h, ret_bnd, if_pos rfl]
theorem sIf_f {t : Rho → M Bool} {p q : Rho → M Fl} {ρ : Rho} (h : t ρ = ret false) : sIf t p q ρ = q ρ := by
  rw [ev_sIf, h, ret_bnd, if_neg (by decide)]
theorem sSeq_nx {p q : Rho → M Fl} {ρ ρ' : Rho} (h : p ρ = ret (.nx ρ')) : sSeq p q ρ = q ρ' := by
  rw [ev_sSeq, h, ret_bnd, ev_fnx]
theorem sSeq_rt {p q : Rho → M Fl} {ρ : Rho} {d : D} (h : p ρ = ret (.rt d)) : sSeq p q ρ = ret (.rt d) := by
  rw [ev_sSeq, h, ret_bnd, ev_frt]
theorem fnD_rt {n m : Nat} {b : Rho → M Fl} {ds : List D} {d : D} (hn : ds.length = n) (h : b (ds.map Sl.va ++ List.replicate m .no) = ret (.rt d)) : fnD n m b ds = ret d := by
  rw [ev_fnD, asrt_pos hn, h, ret_bnd, ev_flR]
theorem like_ev : ∀ (k : Nat) (d e : D), k ≤ 50 → okL d k = true → okL e k = true → likeN (k + 1) [d, e] = ret (.bl (likeD d e)) := by
  have seqs : ∀ (k : Nat), (∀ d e : D, okL d k = true → okL e k = true → likeN (k + 1) [d, e] = ret (.bl (likeD d e))) → ∀ (xs ys : List D) (d e : D), d = .lst xs ∨ d = .tup xs → e = .lst ys ∨ e = .tup ys → xs.length = ys.length → xs.length ≤ 1000000 → okLs xs k = true → okLs ys k = true → ∀ ρ : Rho, ρ = [.va d, .va e, .no] →
      (sRet (c2 oEq (cLcL (cRng1 (cA (on1 oLen1) (aCons (rd 0) (aNil)))) (gN 2) (cNot (tst (cA (likeN (k + 1)) (aCons (c2 oIx (rd 0) (rd 2)) (aCons (c2 oIx (rd 1) (rd 2)) (aNil)))))) (rd 2) [2]) (cA oLst (aNil)))) ρ = ret (.rt (.bl (likeDs xs ys))) := by
    intro k ih xs ys d e hd he hl hz hx hy ρ hρ
    subst hρ
    have core : lcD (lcStep (gN 2) (cNot (tst (cA (likeN (k + 1)) (aCons (c2 oIx (rd 0) (rd 2)) (aCons (c2 oIx (rd 1) (rd 2)) (aNil)))))) (rd 2) [.va d, .va e, .no]) ((List.range xs.length).map fun (i : Nat) => .int (i : Int)) = ret (((List.range xs.length).filter fun i => !likeD (xs.getD i .non) (ys.getD i .non)).map fun (i : Nat) => .int (i : Int)) := by
      refine lcD_filtE fun i hi => ?_
      have h1 : i < xs.length := List.mem_range.mp hi
      have h2 : i < ys.length := by omega
      have g1 : oIx d (.int (i : Int)) = ret (xs.getD i .non) := by
        rcases hd with e | e <;> subst e <;> simp only [ev_ixL, ev_ixT, atI_getD h1, ofO_some]
      have g2 : oIx e (.int (i : Int)) = ret (ys.getD i .non) := by
        rcases he with e | e <;> subst e <;> simp only [ev_ixL, ev_ixT, atI_getD h2, ofO_some]
      have ihe := ih _ _ (okLs_mem hx _ (getD_mem h1)) (okLs_mem hy _ (getD_mem h2))
      generalize xs.getD i .non = a at *
      generalize ys.getD i .non = b at *
      simp [g1, g2, ihe]
      cases likeD a b <;> rfl
    have g0 : oLen1 d = ret (.int xs.length) := by rcases hd with e | e <;> subst e <;> simp
    have z : xs.length ≤ sizeLine := Nat.le_trans hz (by decide)
    simp [g0, asrt_pos (okRng0 z), rngD0]
    rw [core, ret_bnd, asrt_pos (.inr ⟨okD_ints _ _ _, rfl⟩), eq_nilL, isNil_filt, likeDs_rng hl]
  have sc : ∀ (k : Nat) (d e : D), okL d k = true → okL e k = true → isLT d = some false → isLT e = some false → k ≤ 50 → d_law_like (likeN k) [d, e] = ret (.bl ((isBl d == isBl e) && eqD d e)) := by
    intro k d e hd he h1 h2 hk
    have b1 : isBool d = some (isBl d) := by cases d <;> first | rfl | cases hd
    have b2 : isBool e = some (isBl e) := by cases e <;> first | rfl | cases he
    have o1 : okD d 60 = true := okD_up (by omega) (okL_okD d k hd)
    have o2 : okD e 60 = true := okD_up (by omega) (okL_okD e k he)
    simp [d_law_like, b_law_like, h1, h2, b1, b2]
    cases hb : (isBl d == isBl e)
    · simp
    · simp [asrt_pos (show scEq d e = true ∨ okD d 60 = true ∧ okD e 60 = true from .inr ⟨o1, o2⟩)]
  intro k
  induction k with
  | zero =>
    intro d e _ hd he
    have h1 : isLT d = some false := by cases d <;> first | rfl | cases hd
    have h2 : isLT e = some false := by cases e <;> first | rfl | cases he
    show d_law_like (likeN 0) [d, e] = _
    rw [sc 0 d e hd he h1 h2 (by omega)]
    cases d <;> first | (cases hd; done) | (cases e <;> first | rfl | cases he)
  | succ k ih =>
    intro d e hk hd he
    show d_law_like (likeN (k + 1)) [d, e] = _
    have ih' := fun d e h1 h2 => ih d e (by omega) h1 h2
    cases d with
    | lst xs =>
      cases e with
      | lst ys =>
        simp only [okL, Bool.and_eq_true, decide_eq_true_eq] at hd he
        by_cases hl : xs.length = ys.length
        · have q := seqs k ih' xs ys (.lst xs) (.lst ys) (.inl rfl) (.inl rfl) hl hd.1 hd.2 he.2 _ rfl
          refine fnD_rt rfl (sSeq_rt ((sIf_t (by simp [isLT])).trans ((sSeq_nx (sIf_f (by simp [isLst, isTup]))).trans ((sSeq_nx (sIf_f (by simp [hl]))).trans q))))
        · have hl2 : ¬ ((xs.length : Int) = ys.length) := by omega
          simp [d_law_like, b_law_like, isLT, isLst, isTup, hl2, likeD, likeDs_ne hl]
      | _ => first | (cases he; done) | (simp [d_law_like, b_law_like, isLT, isLst, isTup, likeD])
    | tup xs =>
      cases e with
      | tup ys =>
        simp only [okL, Bool.and_eq_true, decide_eq_true_eq] at hd he
        by_cases hl : xs.length = ys.length
        · have q := seqs k ih' xs ys (.tup xs) (.tup ys) (.inr rfl) (.inr rfl) hl hd.1 hd.2 he.2 _ rfl
          refine fnD_rt rfl (sSeq_rt ((sIf_t (by simp [isLT])).trans ((sSeq_nx (sIf_f (by simp [isLst, isTup]))).trans ((sSeq_nx (sIf_f (by simp [hl]))).trans q))))
        · have hl2 : ¬ ((xs.length : Int) = ys.length) := by omega
          simp [d_law_like, b_law_like, isLT, isLst, isTup, hl2, likeD, likeDs_ne hl]
      | _ => first | (cases he; done) | (simp [d_law_like, b_law_like, isLT, isLst, isTup, likeD])
    | obj _ _ => cases hd
    | _ =>
      cases e with
      | obj _ _ => cases he
      | lst ys => simp [d_law_like, b_law_like, isLT, likeD]
      | tup ys => simp [d_law_like, b_law_like, isLT, likeD]
      | _ => rw [sc _ _ _ hd he rfl rfl hk]; rfl
end DL

namespace DL
open PySem PySem.Spec L2

/-! ### wishes, applied -/
section
variable {α β : Type} {Q : α → Prop}
@[simp] theorem ap_ret {a : α} : ret a Q = Q a := Eq.trans rfl rfl
@[simp] theorem ap_bnd {m : M β} {f : β → M α} : bnd m f Q = m fun a => f a Q := Eq.trans rfl rfl
@[simp] theorem ap_bad : (bad : M α) Q = False := Eq.trans rfl rfl
@[simp] theorem ap_asrt {p : Prop} {m : M α} : asrt p m Q = (p ∧ m Q) := Eq.trans rfl rfl
@[simp] theorem ap_ite {c : Prop} [Decidable c] {m m' : M α} : (if c then m else m') Q = if c then m Q else m' Q := by split <;> rfl
theorem ap_ofO {o : Option β} {k : β → M α} {a : β} (h : o = some a) : ofO o k Q = k a Q := by rw [h]; rfl
end
@[simp] theorem ap_draw {xs : List D} {n : Int} {Q : D → Prop} : P_draw [.obj 0 xs, .int n] Q = ((0 < n ∧ n < 1000000000000000000000000000000) ∧ ∀ r : Int, 0 ≤ r → r < n → Q (.int r)) := Eq.trans rfl rfl
@[simp] theorem ap_word {xs : List D} {Q : D → Prop} : P_word [.obj 0 xs] Q = ∀ w, okW w → Q (.str w) := Eq.trans rfl rfl
@[simp] theorem ap_rule {xs : List D} {Q : D → Prop} : P_rule [.obj 0 xs] Q = ∀ r : Rule, okW r.w → Q (encR r) := Eq.trans rfl rfl
@[simp] theorem ap_number {xs : List D} {Q : D → Prop} : P_number [.obj 0 xs] Q = ∀ n : Nat, 1 ≤ n → n < 10 ^ 40 → Q (.int (n : Int)) := Eq.trans rfl rfl
@[simp] theorem ap_counter {xs : List D} {Q : D → Prop} : P_counter [.obj 0 xs] Q = ∀ c : Ctr, OkC c → Q (encC c) := Eq.trans rfl rfl
@[simp] theorem ev_szl : sizeLine = 16777216 := sizeLine_eq
@[simp] theorem ix_C0 (c : Ctr) : oIx (encC c) (.int 0) = ret (.tup (c.rules.map encR)) := Eq.trans rfl rfl
@[simp] theorem ix_C1 (c : Ctr) : oIx (encC c) (.int 1) = ret (.tup (c.ext.map encE)) := Eq.trans rfl rfl
theorem most40 : (10 : Nat) ^ 40 < strMost := by unfold strMost; decide +kernel
theorem AD_app {a b : List Nat} (h : AD a) (k : AD b) : AD (a ++ b) := fun c hc => (List.mem_append.mp hc).elim (h c) (k c)
theorem int_small {l : List Nat} (h : AD l) (hl : l.length ≤ 40) : (0 : Int) ≤ (dv l : Nat) ∧ ((dv l : Nat) : Int) < strMost := by
  have h1 := dv_lt h
  have h2 : 10 ^ l.length ≤ 10 ^ 40 := Nat.pow_le_pow_right (by omega) hl
  have h3 := most40
  omega
theorem seq_go {p q : Rho → M Fl} {ρ : Rho} {Q : Fl → Prop} (h : p ρ fun fl => fthen q fl Q) : sSeq p q ρ Q := h
theorem for_go {it : Rho → M (List D)} {g : D → Rho → M Rho} {b : Rho → M Fl} {ρ : Rho} {Q : Fl → Prop} (xs : List D) (hi : ∀ K : List D → Prop, K xs → it ρ K) (h : forD g b xs ρ Q) : sFor it g b ρ Q := hi _ h
theorem law_go {m : Nat} {b : Rho → M Fl} {ns : List Int} {Q : D → Prop} (h : b (.no :: .va (.obj 0 (ns.map .int)) :: List.replicate m .no) fun fl => flRet fl Q) : lawD m b ns Q := h
theorem rng_go {f : Rho → M D} {ρ : Rho} {n : Nat} (h : ∀ K : D → Prop, K (.int (n : Int)) → f ρ K) (hn : n ≤ sizeLine) : ∀ K : List D → Prop, K (rngD 0 (n : Int)) → cRng1 f ρ K := fun K k => h _ ⟨okRng0 hn, k⟩
theorem like_bl (a b : Bool) : likeN 8 [.bl a, .bl b] = ret (.bl (a == b)) := by
  rw [like_ev 7 (.bl a) (.bl b) (by decide) rfl rfl]
  cases a <;> cases b <;> rfl
end DL

namespace DL
open PySem PySem.Spec L2
@[simp] theorem ev_rvL {x : List D} : oRev (.lst x) = ret (.lst x.reverse) := Eq.trans rfl rfl
@[simp] theorem ev_rvT {x : List D} : oRev (.tup x) = ret (.tup x.reverse) := Eq.trans rfl rfl
@[simp] theorem ev_rvS {x : List Nat} : oRev (.str x) = ret (.str x.reverse) := Eq.trans rfl rfl
@[simp] theorem ev_lsS {x : List Nat} : oListS (.str x) = ret (.lst (x.map fun c => .str [c])) := Eq.trans rfl rfl
@[simp] theorem ev_mxI {i j : Int} : oMulX (.int i) (.int j) = asrt (okMul i j) (ret (.int (i * j))) := Eq.trans rfl rfl
@[simp] theorem ev_mxS {l : List Nat} {k : Int} : oMulX (.str l) (.int k) = asrt (okRep l.length k) (ret (.str (List.replicate k.toNat l).flatten)) := Eq.trans rfl rfl
@[simp] theorem ev_mxT {xs : List D} {k : Int} : oMulX (.tup xs) (.int k) = asrt (xs ≠ [] ∧ xs.length ≤ 1000 ∧ 2 ≤ k ∧ k ≤ 1000) (ret (.tup (List.replicate k.toNat xs).flatten)) := Eq.trans rfl rfl
@[simp] theorem ev_c3 {o o' : D → D → M D} {f g h : Rho → M D} {ρ : Rho} : c3 o o' f g h ρ = bnd (f ρ) fun x => bnd (g ρ) fun y => bnd (o x y) fun z => match z with
  | .bl true => bnd (h ρ) (o' y)
  | .bl false => ret (.bl false)
  | _ => bad := Eq.trans rfl rfl
theorem atI_last {α : Type} (xs : List α) (x : α) : atI (xs ++ [x]) (-1) = some x := by
  unfold atI ixN
  rw [if_neg (by decide), if_pos (by simp; omega)]
  have e : (-1 + ((xs ++ [x]).length : Nat) : Int).toNat = xs.length := by simp; omega
  show (xs ++ [x])[(-1 + ((xs ++ [x]).length : Nat) : Int).toNat]? = _
  rw [e, List.getElem?_append_right (Nat.le_refl _)]
  simp
theorem cut_butLast {α : Type} (xs : List α) (x : α) : cut (xs ++ [x]) none (some (-1)) = xs := by
  unfold cut
  rw [sIx_none]
  have e : HT.sIx (xs ++ [x]).length (xs ++ [x]).length (some (-1)) = xs.length := by
    unfold HT.sIx
    simp
    omega
  rw [e, List.drop_zero, Nat.sub_zero, List.take_left]
end DL

namespace DL
open PySem PySem.Spec L2
section
variable {f g : Rho → M D} {ρ : Rho} {a b : D} {i j : Nat} {fs : Rho → M (List D)}
@[simp] theorem ev_lenSet {xs : List D} : oLenSet (.tup xs) = ofO (keysOf xs) fun ks => asrt (ks.length < 64) (ret (.int (uniq ks).length)) := Eq.trans rfl rfl
@[simp] theorem ev_cZip : cZip f g ρ = bnd (f ρ) fun x => bnd (g ρ) (oZip x) := Eq.trans rfl rfl
@[simp] theorem ev_zipL {xs ys : List D} : oZip (.lst xs) (.lst ys) = ret (pairs xs ys) := Eq.trans rfl rfl
@[simp] theorem ev_zipT {xs ys : List D} : oZip (.tup xs) (.tup ys) = ret (pairs xs ys) := Eq.trans rfl rfl
@[simp] theorem ev_fmtS {l : List Nat} : oFmt (.str l) = ret (.str l) := Eq.trans rfl rfl
@[simp] theorem ev_fmtI {n : Int} : oFmt (.int n) = asrt (0 ≤ n ∧ n < strMost) (ret (.str (TL.numL n.toNat))) := Eq.trans rfl rfl
@[simp] theorem ev_cJs {l : List (Rho → M D)} : cJs l ρ = jsGo l [] ρ := Eq.trans rfl rfl
@[simp] theorem ev_jsN {acc : List Nat} : jsGo [] acc ρ = ret (.str acc) := Eq.trans rfl rfl
@[simp] theorem ev_jsC {acc : List Nat} {l : List (Rho → M D)} : jsGo (f :: l) acc ρ = bnd (f ρ) fun d => match d with
  | .str x => asrt (acc.length + x.length ≤ sizeLine) (jsGo l (acc ++ x) ρ)
  | _ => bad := Eq.trans rfl rfl
@[simp] theorem ev_split {l w : List Nat} : oSplit l [.str w] = asrt (w ≠ [] ∧ (∀ c ∈ w, c < 256) ∧ l.length + 2 ≤ sizeLine) (ret (.lst ((TL.spl w 0 [] l).map .str))) := Eq.trans rfl rfl
@[simp] theorem ev_count {l : List Nat} {c : Nat} : oCount l [.str [c]] = ret (.int (l.count c : Nat)) := Eq.trans rfl rfl
@[simp] theorem ev_gL {n : Nat} {k : List D → Rho → M Rho} {xs : List D} : gL n k (.lst xs) ρ = asrt (xs.length = n) (k xs ρ) := Eq.trans rfl rfl
@[simp] theorem ev_cEnA : cEnumA f ρ = bnd (f ρ) oEnumA := Eq.trans rfl rfl
@[simp] theorem ev_enL {xs : List D} : oEnumA (.lst xs) = ret (numbered xs) := Eq.trans rfl rfl
@[simp] theorem ev_enT {xs : List D} : oEnumA (.tup xs) = ret (numbered xs) := Eq.trans rfl rfl
@[simp] theorem ev_enS {xs : List Nat} : oEnumA (.str xs) = ret (numbered (xs.map fun c => .str [c])) := Eq.trans rfl rfl
@[simp] theorem ev_par3 {l : Nat} : sPar3 i j l fs ρ = bnd (fs ρ) fun ds => match ds with
  | [a, b, c] => ret (.nx (((ρ.set i (.va a)).set j (.va b)).set l (.va c)))
  | _ => bad := Eq.trans rfl rfl
@[simp] theorem ev_parOwn : sParOwn i j ρ = ret (.nx ((ρ.set i (.ow [])).set j (.ow []))) := Eq.trans rfl rfl
theorem ev_sOwn : sOwn i fs ρ = bnd (fs ρ) fun ds => asrt (ds.length ≤ sizeLine) (ret (.nx (ρ.set i (.ow ds)))) := Eq.trans rfl rfl
theorem ev_sOwnLc {h : Rho → M (List D)} : sOwnLc i h ρ = bnd (h ρ) fun ds => ret (.nx (ρ.set i (.ow ds))) := Eq.trans rfl rfl
theorem ev_app {xs : List D} (h : ρ[i]? = some (.ow xs)) : sApp i f ρ = bnd (f ρ) fun d => asrt (xs.length < sizeLine) (ret (.nx (ρ.set i (.ow (xs ++ [d]))))) := by unfold sApp; rw [h]
theorem ev_ext {xs : List D} (h : ρ[i]? = some (.ow xs)) : sExt i f ρ = bnd (f ρ) fun d => match d with
    | .lst zs => asrt (xs.length + zs.length ≤ sizeLine) (ret (.nx (ρ.set i (.ow (xs ++ zs)))))
    | _ => bad := by
  unfold sExt
  rw [h] <;> exact congrArg (bnd (f ρ)) (funext fun d => by cases d <;> rfl)
theorem ev_pub {xs : List D} {k : Rho → M Fl} (h : ρ[i]? = some (.ow xs)) : sPub i k ρ = k (ρ.set i (.va (.lst xs))) := by unfold sPub; rw [h]
theorem ev_ownNil {xs : List D} (h : ρ[i]? = some (.ow xs)) : oOwnNil false i ρ = asrt (okDs xs 50 = true) (ret (.bl (isNilD xs))) := by
  unfold oOwnNil
  rw [h]
  cases xs <;> rfl
theorem ev_cLc {it : Rho → M (List D)} {g : D → Rho → M Rho} {t : Rho → M Bool} {vs : List Nat} : cLc it g t f vs ρ = bnd (it ρ) fun xs => lcD (lcStep g t f (wipeS ρ vs)) xs := Eq.trans rfl rfl
end
end DL

namespace DL
open PySem PySem.Spec L2

/-! ### labels -/
def isLet (c : Nat) : Bool := c == 97 || c == 98 || c == 99
def isDig (c : Nat) : Bool := decide (48 ≤ c) && decide (c ≤ 57)
/-- the digits of a text of a label -/
def labCut (l : List Nat) : List Nat := match l.getLast? with
  | some c => if isLet c then l.dropLast else l
  | none => l
def labL (l : List Nat) : Bool := match labCut l with
  | [] => false
  | c :: r => !(c == 48) && ((c :: r).all isDig && decide ((c :: r).length ≤ 40))
def labD : D → M D
  | .str l => ret (.bl (labL l))
  | .obj _ _ => bad
  | _ => ret (.bl false)
def P_lab : List D → M D := on1 labD
theorem sub_one (c : Nat) : ∀ l : List Nat, hasSub [c] l = l.contains c := fun l => by
  rw [hasSub_nil _ (by simp)]
  rw [Bool.eq_iff_iff, List.any_eq_true, List.contains_iff_mem]
  constructor
  · rintro ⟨i, hi, h⟩
    obtain ⟨r, e⟩ := List.isPrefixOf_iff_prefix.mp h
    have : c ∈ l.drop i := by rw [← e]; simp
    exact List.mem_of_mem_drop this
  · intro h
    obtain ⟨i, hi, e⟩ := List.getElem_of_mem h
    refine ⟨i, List.mem_range.mpr hi, ?_⟩
    rw [List.isPrefixOf_iff_prefix, List.drop_eq_getElem_cons hi, e]
    exact ⟨_, rfl⟩
theorem sub_let (c : Nat) : hasSub [c] [97, 98, 99] = isLet c := by
  rw [sub_one, Bool.eq_iff_iff]
  simp [isLet, or_assoc]
theorem sub_dig (c : Nat) : hasSub [c] [48, 49, 50, 51, 52, 53, 54, 55, 56, 57] = isDig c := by
  rw [sub_one, Bool.eq_iff_iff]
  simp [isDig]
  omega
theorem lcD_chars {s : D → M (Option D)} {f : Nat → D} (l : List Nat) (h : ∀ c ∈ l, s (.str [c]) = ret (some (f c))) : lcD s (l.map fun c => .str [c]) = ret (l.map f) := lcD_mapE (e := fun c : Nat => D.str [c]) h
theorem sgl_beq (a b : Nat) : (([a] : List Nat) == [b]) = (b == a) := by
  rw [Bool.eq_iff_iff, beq_iff_eq, beq_iff_eq]
  exact ⟨fun h => (List.cons.inj h).1.symm, fun h => by rw [h]⟩
theorem any_let (c : Nat) : ([D.str [97], .str [98], .str [99]].any fun z => eqD z (.str [c])) = isLet c := by
  simp only [List.any_cons, List.any_nil, ev_eqS, Bool.or_false, sgl_beq, isLet, Bool.or_assoc]
theorem any_sgl (ds : List Nat) (c : Nat) : ((ds.map fun c => D.str [c]).any fun z => eqD z (.str [c])) = ds.contains c := by
  induction ds with
  | nil => rfl
  | cons d ds ih => rw [List.map_cons, List.any_cons, ih, ev_eqS, sgl_beq, List.contains_cons]
theorem any_dig (c : Nat) : (((digL.map fun c => D.str [c])).any fun z => eqD z (.str [c])) = isDig c := by
  rw [any_sgl, ← sub_one]
  exact sub_dig c
theorem lab_split (l : List Nat) (h : l ≠ []) : ∃ r c, l = r ++ [c] := ⟨l.dropLast, l.getLast h, (List.dropLast_concat_getLast h).symm⟩
/-- behind the cut -/
theorem is_label_tail (ds : List Nat) (v : Sl) (z : Sl) : (sSeq (sIf (cOr (tst (c2 oEq (rd 1) (cst (.str [])))) (cOr (tst (c2 oEq (c2 oIx (rd 1) (cst (.int 0))) (cst (.str [48])))) (cNot (tst (cA (on1 oAll1) (aCons (cLcL (cIt (rd 1)) (gN 2) (tYesD) (c2 oIn (rd 2) (cst c_DIGITS)) [2]) (aNil))))))) (sRet (cst (.bl false))) (sNext)) (sRet (c2 oLe (cA (on1 oLen1) (aCons (rd 1) (aNil))) (cst (.int 40))))) [v, .va (.str ds), z] = ret (.rt (.bl (match ds with
  | [] => false
  | c :: r => !(c == 48) && ((c :: r).all isDig && decide ((c :: r).length ≤ 40))))) := by
  cases ds with
  | nil => simp
  | cons c r =>
    obtain ⟨bs, hb, e⟩ : ∃ bs : List Bool, bs.all id = (c :: r).all isDig ∧ lcD (lcStep (gN 2) tYesD (c2 oIn (rd 2) (cst c_DIGITS)) [v, .va (.str (c :: r)), .no]) ((c :: r).map fun c => .str [c]) = ret (bs.map .bl) :=
      ⟨(c :: r).map isDig, by rw [List.all_map]; rfl, by
        rw [lcD_chars (f := fun c => .bl (isDig c)) (c :: r) fun x _ => by simp [sub_dig], List.map_map]
        rfl⟩
    rw [List.map_cons] at e
    by_cases h0 : c = 48
    · subst h0
      simp
    · have h1 : (c == 48) = false := by simp [h0]
      simp only [h1, ← hb]
      by_cases hf : false ∈ bs
      · have h2 : bs.all id = false := by simp [hf]
        simp [h0, e, hf, h2]
      · have h2 : bs.all id = true := by simp [hf]
        have h3 : ((r.length : Int) + 1 ≤ 40) ↔ r.length ≤ 39 := by omega
        simp [h0, e, hf, h2, h3]
theorem lab_ev (l : List Nat) : dis_label [.str l] = ret (.bl (labL l)) := by
  refine fnD_rt rfl (sSeq_nx (ρ' := [.va (.str l), .no, .no]) (by simp [isStr]) |>.trans ?_)
  refine (sSeq_nx (ρ' := [.va (.str l), .va (.str (labCut l)), .no]) ?_).trans (is_label_tail (labCut l) _ _)
  rcases Classical.em (l = []) with h | h
  · subst h
    simp [labCut]
  · obtain ⟨r, c, rfl⟩ := lab_split l h
    have e1 : labCut (r ++ [c]) = if isLet c then r else r ++ [c] := by
      unfold labCut
      rw [List.getLast?_concat, List.dropLast_concat]
    simp [h, atI_last, sub_let, cut_butLast, e1]
    split <;> rfl
theorem lab_other {d : D} (h : isStr d = some false) : dis_label [d] = ret (.bl false) := by simp [dis_label, bis_label, h]
theorem P_lab_cases {W : List D → M D} (h1 : ∀ l, W [.str l] = ret (.bl (labL l))) (h2 : ∀ d, isStr d = some false → W [d] = ret (.bl false)) : ∀ ds Q, P_lab ds Q → W ds Q := fun ds Q h => by
  obtain ⟨d, rfl, h⟩ := on1_get h
  cases d with
  | str l => rw [h1]; exact h
  | obj _ _ => exact h.elim
  | non => rw [h2 _ rfl]; exact h
  | bl _ => rw [h2 _ rfl]; exact h
  | int _ => rw [h2 _ rfl]; exact h
  | lst _ => rw [h2 _ rfl]; exact h
  | tup _ => rw [h2 _ rfl]; exact h
theorem le_lab : ∀ ds Q, P_lab ds Q → dis_label ds Q := P_lab_cases lab_ev fun _ => lab_other
theorem lab_ev2 (l : List Nat) : d_law_is_label [.str l] = ret (.bl (labL l)) := by
  rcases Classical.em (l = []) with h | h
  · subst h
    simp [d_law_is_label, b_law_is_label, isStr, labL, labCut]
  · refine fnD_rt rfl (sSeq_nx (ρ' := [.va (.str l), .no, .no]) (by simp [isStr, h]) |>.trans ?_)
    refine (sSeq_nx (ρ' := [.va (.str l), .va (.str (labCut l)), .no]) ?_).trans ?_
    · obtain ⟨r, c, rfl⟩ := lab_split l h
      have e1 : labCut (r ++ [c]) = if isLet c then r else r ++ [c] := by
        unfold labCut
        rw [List.getLast?_concat, List.dropLast_concat]
      simp only [ev_sSet, ev_cIf, ev_tst, ev_c2, ev_rd0, ev_rdS, ret_bnd, ev_c1, ev_cst, ev_neg, ev_ixS, atI_last, ofO_some, ev_cA, ev_aCons, ev_aNil, ev_oLst]
      rw [asrt_pos (by simp), ret_bnd, ev_inL, asrt_pos ⟨rfl, rfl⟩, ret_bnd, any_let, e1]
      simp [cut_butLast]
      cases isLet c <;> simp
    · unfold labL
      generalize labCut l = ds
      cases ds with
      | nil => simp
      | cons c r =>
        have e : lcD (lcStep (gN 2) (tst (c2 oNotIn (rd 2) (c1 oListS (cst (.str [48, 49, 50, 51, 52, 53, 54, 55, 56, 57]))))) (rd 2) [.va (.str l), .va (.str (c :: r)), .no]) ((c :: r).map fun c => .str [c]) = ret (((c :: r).filter fun c => !isDig c).map fun c => .str [c]) :=
          lcD_filtE (e := fun c : Nat => D.str [c]) fun x _ => by
            simp only [ev_lcStep, ev_gN, ret_bnd, ev_tst, ev_c2, List.set_cons_succ, List.set_cons_zero, ev_rd0, ev_rdS, ev_c1, ev_cst, ev_lsS, ev_niL]
            rw [asrt_pos ⟨rfl, by decide⟩, ret_bnd, any_sgl, ← sub_one, sub_dig]
            cases isDig x <;> simp
        obtain ⟨fs, hf, ho, e⟩ : ∃ fs : List D, isNilD fs = (c :: r).all isDig ∧ okDs fs 59 = true ∧ lcD (lcStep (gN 2) (tst (c2 oNotIn (rd 2) (c1 oListS (cst (.str [48, 49, 50, 51, 52, 53, 54, 55, 56, 57]))))) (rd 2) [.va (.str l), .va (.str (c :: r)), .no]) ((c :: r).map fun c => .str [c]) = ret fs :=
          ⟨_, by rw [isNil_filt, List.all_eq_not_any_not], by
            generalize (c :: r).filter (fun c => !isDig c) = l2
            induction l2 with
            | nil => rfl
            | cons a b ih => simpa [okDs, okD] using ih, e⟩
        rw [List.map_cons] at e
        have a1 : (1 : Int) ≤ (r.length : Int) + 1 := by omega
        have a2 : ((r.length : Int) + 1 ≤ 40) ↔ r.length ≤ 39 := by omega
        by_cases h0 : c = 48
        · subst h0
          by_cases hl : r.length ≤ 39 <;> simp [a1, a2, hl]
        · by_cases hl : r.length ≤ 39
          · have ok : scEq (.lst fs) (.lst []) = true ∨ okD (.lst fs) 60 = true ∧ okD (.lst []) 60 = true := .inr ⟨ho, rfl⟩
            have h1 : (c == 48) = false := by simp [h0]
            simp only [← hf, h1]
            simp [h0, e, hl, a1, a2, asrt_pos ok, eq_nilL]
          · simp [h0, e, hl, a1, a2]
theorem le_lab2 : ∀ ds Q, P_lab ds Q → d_law_is_label ds Q := P_lab_cases lab_ev2 fun d h => by simp [d_law_is_label, b_law_is_label, h]
end DL

namespace DL
open PySem PySem.Spec L2

/-! ### what is a counter -/
def intD (lo hi : Int) : D → Bool
  | .int i => decide (lo ≤ i) && decide (i ≤ hi)
  | _ => false
def wordD : D → Bool
  | .str l => decide (1 ≤ l.length) && (decide (l.length ≤ 5) && l.all isDig)
  | _ => false
def kindD : D → Bool
  | .str k => (decK k).isSome
  | _ => false
/-- a tuple of two, by its parts -/
def two (f : D → D → Bool) : D → Bool
  | .tup xs => match xs with
    | [] => false
    | x :: r => match r with
      | [] => false
      | y :: r2 => match r2 with
        | [] => f x y
        | _ :: _ => false
  | _ => false
def ruleD : D → Bool := two fun x y => kindD x && wordD y
def nodupD (xs : List D) : Bool := match keysOf xs with
  | some ks => decide ks.Nodup
  | none => false
def rulesD : D → Bool
  | .tup xs => decide (xs.length ≤ 5) && (xs.all ruleD && nodupD xs)
  | _ => false
def pairD : D → Bool := two fun a b => intD 1 999 a && intD 1 3 b
def fstD : D → Int
  | .tup (.int i :: _) => i
  | _ => 0
def riseD : List D → Bool
  | x :: y :: r => decide (fstD x < fstD y) && riseD (y :: r)
  | _ => true
def extrasD : D → Bool
  | .tup xs => decide (xs.length ≤ 3) && (xs.all pairD && riseD xs)
  | _ => false
def ctrD : D → Bool := two fun a b => rulesD a && extrasD b
/-- of any datum -/
def onD (f : D → Bool) : List D → M D := fun ds => match ds with
  | [d] => asrt (okL d 40 = true) (ret (.bl (f d)))
  | _ => bad
def P_integer : List D → M D := fun ds => match ds with
  | [d, .int lo, .int hi] => asrt (okL d 40 = true) (ret (.bl (intD lo hi d)))
  | _ => bad
theorem integer_ev {d : D} (h : okL d 40 = true) (lo hi : Int) : dis_integer [d, .int lo, .int hi] = ret (.bl (intD lo hi d)) := by
  cases d <;> first | (cases h; done) | simp [dis_integer, bis_integer, isInt, isBool, intD]
  rename_i i
  by_cases h1 : lo ≤ i <;> simp [h1]
theorem word_isD {d : D} (h : okL d 40 = true) : dis_word [d] = ret (.bl (wordD d)) := by
  cases d with
  | str l =>
    obtain ⟨bs, hb, e⟩ : ∃ bs : List Bool, bs.all id = l.all isDig ∧ lcD (lcStep (gN 1) (tYesD) (c2 oIn (rd 1) (cst c_DIGITS)) [.va (.str l), .no]) (l.map fun c => .str [c]) = ret (bs.map .bl) :=
      ⟨l.map isDig, by rw [List.all_map]; rfl, by
        rw [lcD_chars (f := fun c => .bl (isDig c)) l fun x _ => by simp [sub_dig], List.map_map]
        rfl⟩
    simp only [wordD, ← hb]
    by_cases h1 : 1 ≤ l.length
    · have h1' : (1 : Int) ≤ (l.length : Int) := by omega
      by_cases h2 : l.length ≤ 5
      · have h2' : (l.length : Int) ≤ 5 := by omega
        simp [dis_word, bis_word, isStr, e, h1, h2, h1', h2']
      · have h2' : ¬ (l.length : Int) ≤ 5 := by omega
        simp [dis_word, bis_word, isStr, e, h1, h2, h1', h2']
    · have h1' : ¬ (1 : Int) ≤ (l.length : Int) := by omega
      simp [dis_word, bis_word, isStr, e, h1, h1']
  | obj _ _ => cases h
  | _ => simp [dis_word, bis_word, isStr, wordD]
mutual
theorem okL_up : ∀ (d : D) (n m : Nat), n ≤ m → okL d n = true → okL d m = true
  | .lst xs, n, m, hm, h => by
    cases n with
    | zero => cases h
    | succ n =>
      cases m with
      | zero => omega
      | succ m =>
        simp only [okL, Bool.and_eq_true] at h ⊢
        exact ⟨h.1, okLs_up xs n m (by omega) h.2⟩
  | .tup xs, n, m, hm, h => by
    cases n with
    | zero => cases h
    | succ n =>
      cases m with
      | zero => omega
      | succ m =>
        simp only [okL, Bool.and_eq_true] at h ⊢
        exact ⟨h.1, okLs_up xs n m (by omega) h.2⟩
  | .obj _ _, _, _, _, h => by cases h
  | .non, _, _, _, _ => rfl
  | .bl _, _, _, _, _ => rfl
  | .int _, _, _, _, _ => rfl
  | .str _, _, _, _, _ => rfl
theorem okLs_up : ∀ (ds : List D) (n m : Nat), n ≤ m → okLs ds n = true → okLs ds m = true
  | [], _, _, _, _ => rfl
  | d :: ds, n, m, hm, h => by
    simp only [okLs, Bool.and_eq_true] at h ⊢
    exact ⟨okL_up d n m hm h.1, okLs_up ds n m hm h.2⟩
end
theorem okL_in {xs : List D} {d : D} (h : okL (.tup xs) 40 = true) (hd : d ∈ xs) : okL d 40 = true := by
  simp only [okL, Bool.and_eq_true] at h
  exact okL_up d 39 40 (by omega) (okLs_mem h.2 d hd)
theorem okL_len {xs : List D} (h : okL (.tup xs) 40 = true) : xs.length ≤ 1000000 := by
  simp only [okL, Bool.and_eq_true, decide_eq_true_eq] at h
  exact h.1
theorem isTup_of {d : D} (h : okL d 40 = true) : isTup d = some (match d with
    | .tup _ => true
    | _ => false) := by cases d <;> first | rfl | cases h
theorem isStr_of {d : D} (h : okL d 40 = true) : isStr d = some (match d with
    | .str _ => true
    | _ => false) := by cases d <;> first | rfl | cases h
theorem kinds_any (k : List Nat) : ([D.str [98, 101, 103, 105, 110, 115], .str [101, 110, 100, 115], .str [104, 97, 115], .str [105, 115]].any fun z => eqD z (.str k)) = (decK k).isSome := by
  simp only [List.any_cons, List.any_nil, ev_eqS, Bool.or_false]
  unfold decK kdL
  simp only []
  by_cases h1 : k = [104, 97, 115]
  · subst h1; decide
  · by_cases h2 : k = [101, 110, 100, 115]
    · subst h2; decide
    · by_cases h3 : k = [98, 101, 103, 105, 110, 115]
      · subst h3; decide
      · by_cases h4 : k = [105, 115]
        · subst h4; decide
        · rw [if_neg h1, if_neg h2, if_neg h3, if_neg h4, beq_false_of_ne (Ne.symm h1), beq_false_of_ne (Ne.symm h2), beq_false_of_ne (Ne.symm h3), beq_false_of_ne (Ne.symm h4)]
          rfl
theorem two_len {f : D → D → Bool} {xs : List D} (h : xs.length ≠ 2) : two f (.tup xs) = false := by
  cases xs with
  | nil => rfl
  | cons x r => cases r with
    | nil => rfl
    | cons y r => cases r with
      | nil => exact absurd rfl h
      | cons _ _ => rfl
theorem two_get {xs : List D} (h : xs.length = 2) : ∃ x y, xs = [x, y] := by
  cases xs with
  | nil => cases h
  | cons x r => cases r with
    | nil => cases h
    | cons y r => cases r with
      | nil => exact ⟨x, y, rfl⟩
      | cons _ _ => simp at h
theorem rule_isD {W : List D → M D} (hW : ∀ d, okL d 40 = true → W [d] = ret (.bl (wordD d))) {d : D} (h : okL d 40 = true) : dis_rule W [d] = ret (.bl (ruleD d)) := by
  cases d with
  | tup xs =>
    by_cases hl : xs.length = 2
    · obtain ⟨x, y, rfl⟩ := two_get hl
      have okx := okL_in h (d := x) (by simp)
      have oky := okL_in h (d := y) (by simp)
      cases x with
      | str k =>
        have ka := kinds_any k
        have hy := hW y oky
        show dis_rule W [.tup [.str k, y]] = ret (.bl ((decK k).isSome && wordD y))
        refine fnD_rt rfl ((sSeq_nx (sIf_f (by simp [isTup, isStr]))).trans ?_)
        simp only [ev_sRet, ev_vAnd, ev_c2, ev_rd0, ret_bnd, ev_cst, ev_ixT, List.map_cons, List.map_nil, List.cons_append, List.nil_append, at0, ofO_some, ev_inT]
        rw [asrt_pos ⟨rfl, rfl⟩, ka]
        cases (decK k).isSome
        · simp
        · simp [hy]
      | obj _ _ => cases okx
      | _ => simp [dis_rule, bis_rule, isTup, isStr, ruleD, two, kindD]
    · have h2 : ¬ ((xs.length : Int) = 2) := by omega
      simp [dis_rule, bis_rule, isTup, ruleD, two_len hl, h2]
  | obj _ _ => cases h
  | _ => simp [dis_rule, bis_rule, isTup, ruleD, two]
theorem keys_of_rules : ∀ {xs : List D}, xs.all ruleD = true → ∃ ks, keysOf xs = some ks
  | [], _ => ⟨[], rfl⟩
  | d :: ds, h => by
    rw [List.all_cons, Bool.and_eq_true] at h
    obtain ⟨ks, e⟩ := keys_of_rules h.2
    cases d with
    | tup xs =>
      by_cases hl : xs.length = 2
      · obtain ⟨x, y, rfl⟩ := two_get hl
        have h1 : (kindD x && wordD y) = true := h.1
        rw [Bool.and_eq_true] at h1
        cases x with
        | str k => cases y with
          | str w => exact ⟨[k, w] :: ks, by unfold keysOf; rw [e]; rfl⟩
          | _ => cases h1.2
        | _ => cases h1.1
      · rw [show ruleD (.tup xs) = false from two_len hl] at h
        cases h.1
    | _ => cases h.1
theorem rules_isD {W : List D → M D} (hW : ∀ d, okL d 40 = true → W [d] = ret (.bl (ruleD d))) {d : D} (h : okL d 40 = true) : dare_rules W [d] = ret (.bl (rulesD d)) := by
  cases d with
  | tup xs =>
    by_cases hl : xs.length ≤ 5
    · have h1 : ¬ (5 : Int) < (xs.length : Int) := by omega
      obtain ⟨bs, hb, e⟩ : ∃ bs : List Bool, bs.all id = xs.all ruleD ∧ lcD (lcStep (gN 1) (tYesD) (cA W (aCons (rd 1) (aNil))) [.va (.tup xs), .no]) xs = ret (bs.map .bl) :=
        ⟨xs.map ruleD, by rw [List.all_map]; rfl, by
          have := lcD_mapE (s := lcStep (gN 1) (tYesD) (cA W (aCons (rd 1) (aNil))) [.va (.tup xs), .no]) (e := id) (f := fun d => .bl (ruleD d)) (xs := xs) fun x hx => by simp [hW x (okL_in h hx)]
          rw [List.map_id] at this
          rw [this, List.map_map]
          rfl⟩
      by_cases hf : false ∈ bs
      · have h2 : xs.all ruleD = false := by rw [← hb]; simp [hf]
        simp [dare_rules, bare_rules, isTup, h1, e, hf, rulesD, h2]
      · have h2 : xs.all ruleD = true := by rw [← hb]; simp [hf]
        obtain ⟨ks, ek⟩ := keys_of_rules h2
        have lk : ks.length = xs.length := by rw [keysOf_inv ek, List.length_map]
        have h3 : (((uniq ks).length : Int) == (xs.length : Int)) = decide ks.Nodup := by
          rw [Bool.eq_iff_iff, beq_iff_eq, decide_eq_true_eq, ← uniq_eq_len, lk]
          omega
        have h4 : ks.length < 64 := by omega
        simp only [rulesD, h2, nodupD, ek, hl, decide_true, Bool.true_and]
        simp [dare_rules, bare_rules, isTup, h1, e, hf, ek, h4, ← h3]
    · have h1 : (5 : Int) < (xs.length : Int) := by omega
      simp [dare_rules, bare_rules, isTup, h1, rulesD, hl]
  | obj _ _ => cases h
  | _ => simp [dare_rules, bare_rules, isTup, rulesD]
end DL

namespace DL
open PySem PySem.Spec L2

theorem le_integer : ∀ ds Q, P_integer ds Q → dis_integer ds Q := fun ds Q h => by
  unfold P_integer at h
  split at h
  · obtain ⟨h1, q⟩ := h
    rw [integer_ev h1]
    exact q
  · exact h.elim
theorem le_on {f : D → Bool} {W : List D → M D} (h : ∀ d, okL d 40 = true → W [d] = ret (.bl (f d))) : ∀ ds Q, onD f ds Q → W ds Q := fun ds Q q => by
  unfold onD at q
  split at q
  · obtain ⟨h1, q⟩ := q
    rw [h _ h1]
    exact q
  · exact q.elim
theorem onD_eq {f : D → Bool} {d : D} (h : okL d 40 = true) : onD f [d] = ret (.bl (f d)) := asrt_pos h _
theorem le_isword : ∀ ds Q, onD wordD ds Q → dis_word ds Q := le_on fun d h => word_isD h
theorem le_isrule : ∀ ds Q, onD ruleD ds Q → dis_rule (onD wordD) ds Q := le_on fun d h => rule_isD (fun _ => onD_eq) h
theorem le_rules : ∀ ds Q, onD rulesD ds Q → dare_rules (onD ruleD) ds Q := le_on fun d h => rules_isD (fun _ => onD_eq) h
theorem int_enc {lo hi : Int} {d : D} (h : intD lo hi d = true) : ∃ i, d = .int i := by
  cases d <;> first | exact ⟨_, rfl⟩ | cases h
theorem pair_enc {d : D} (h : pairD d = true) : ∃ e : Int × Int, d = encE e := by
  cases d with
  | tup xs =>
    by_cases hl : xs.length = 2
    · obtain ⟨x, y, rfl⟩ := two_get hl
      have h1 : (intD 1 999 x && intD 1 3 y) = true := h
      rw [Bool.and_eq_true] at h1
      obtain ⟨i, rfl⟩ := int_enc h1.1
      obtain ⟨j, rfl⟩ := int_enc h1.2
      exact ⟨(i, j), rfl⟩
    · rw [show pairD (.tup xs) = false from two_len hl] at h
      cases h
  | _ => cases h
theorem pairs_enc : ∀ {xs : List D}, xs.all pairD = true → ∃ es : List (Int × Int), xs = es.map encE
  | [], _ => ⟨[], rfl⟩
  | d :: ds, h => by
    rw [List.all_cons, Bool.and_eq_true] at h
    obtain ⟨e, rfl⟩ := pair_enc h.1
    obtain ⟨es, rfl⟩ := pairs_enc h.2
    exact ⟨e :: es, rfl⟩
def riseL (es : List (Int × Int)) : List Bool := (es.zip (es.drop 1)).map fun p => decide (p.1.1 < p.2.1)
theorem rise_enc : ∀ es : List (Int × Int), riseD (es.map encE) = (riseL es).all id
  | [] => rfl
  | [_] => rfl
  | x :: y :: r => by
    show (decide (x.1 < y.1) && riseD ((y :: r).map encE)) = _
    rw [rise_enc (y :: r)]
    rfl
theorem rise_zip (es : List (Int × Int)) : pairs (es.map encE) ((es.map encE).drop 1) = (es.zip (es.drop 1)).map fun p => .tup [encE p.1, encE p.2] := by
  unfold pairs
  rw [← List.map_drop, List.zip_map, List.map_map]
  rfl
theorem extras_ev {d : D} (h : okL d 40 = true) (Q : D → Prop) (q : Q (.bl (extrasD d))) : dare_extras P_integer [d] Q := by
  cases d with
  | tup xs =>
    by_cases hl : xs.length ≤ 3
    · have h1 : ¬ (3 : Int) < (xs.length : Int) := by omega
      show dare_extras P_integer [.tup xs] Q
      simp only [extrasD, hl, decide_true, Bool.true_and] at q
      refine ⟨rfl, ?_⟩
      simp only [bare_extras, List.map_cons, List.map_nil, List.replicate, List.cons_append, List.nil_append]
      refine seq_go ?_
      simp [isTup, h1]
      refine forD_inv (fun i ρ => ∃ z, ρ = [.va (.tup xs), z, .no, .no] ∧ (xs.take i).all pairD = true) (fun d => d = .bl false ∧ xs.all pairD = false) xs _ 0 ⟨_, rfl, by simp⟩ ?_ ?_ ?_
      · rintro j x hj ρ K ⟨z, rfl, ha⟩ k1 k2 k3 k4
        have hx : x ∈ xs := List.mem_of_getElem? hj
        have okx := okL_in h hx
        have bad : pairD x = false → xs.all pairD = false := fun e => by
          rw [List.all_eq_false]
          exact ⟨x, hx, by rw [e]; decide⟩
        have good : pairD x = true → (xs.take (0 + j + 1)).all pairD = true := fun e => by
          rw [Nat.zero_add, List.take_add_one, hj, List.all_append]
          rw [Nat.zero_add] at ha
          simp [ha, e]
        cases x with
        | tup ys =>
          by_cases h2 : ys.length = 2
          · obtain ⟨x, y, rfl⟩ := two_get h2
            have e : pairD (.tup [x, y]) = (intD 1 999 x && intD 1 3 y) := rfl
            have okx' := okL_in okx (d := x) (by simp)
            have oky' := okL_in okx (d := y) (by simp)
            have e1 : P_integer [x, .int 1, .int 999] = ret (.bl (intD 1 999 x)) := asrt_pos okx' _
            have e2 : P_integer [y, .int 1, .int 3] = ret (.bl (intD 1 3 y)) := asrt_pos oky' _
            rw [e] at bad good
            cases b1 : intD 1 999 x with
            | false => simp [isTup, e1, b1]; exact k4 _ ⟨rfl, bad (by rw [b1]; rfl)⟩
            | true =>
              cases b2 : intD 1 3 y with
              | false => simp [isTup, e1, b1, e2, b2]; exact k4 _ ⟨rfl, bad (by rw [b1, b2]; rfl)⟩
              | true => simp [isTup, e1, b1, e2, b2]; exact k1 _ ⟨_, rfl, good (by rw [b1, b2]; rfl)⟩
          · have h3 : ¬ ((ys.length : Int) = 2) := by omega
            simp [isTup, h3]
            exact k4 _ ⟨rfl, bad (two_len h2)⟩
        | obj _ _ => cases okx
        | _ => simp [isTup]; exact k4 _ ⟨rfl, bad rfl⟩
      · rintro ρ' ⟨z, rfl, ha⟩
        rw [Nat.zero_add, List.take_length] at ha
        obtain ⟨es, rfl⟩ := pairs_enc ha
        rw [ha, Bool.true_and, rise_enc] at q
        have e : lcD (lcStep (gTn 2 (gsCons (gN 2) (gsCons (gN 3) gsNil))) tYesD (c2 oLt (c2 oIx (rd 2) (cst (.int 0))) (c2 oIx (rd 3) (cst (.int 0)))) [.va (.tup (es.map encE)), z, .no, .no]) ((es.zip (es.drop 1)).map fun p => .tup [encE p.1, encE p.2]) = ret ((riseL es).map .bl) := by
          rw [lcD_mapE (e := fun p : (Int × Int) × (Int × Int) => .tup [encE p.1, encE p.2]) (f := fun p => .bl (decide (p.1.1 < p.2.1))) fun p _ => by simp [encE]]
          unfold riseL
          rw [List.map_map]
          rfl
        have e2 : pairs (es.map encE) (cut (es.map encE) (some 1) none) = _ := (congrArg (pairs (es.map encE)) (cut_from _ 1)).trans (rise_zip es)
        rw [List.drop_one] at e
        simp [e2, e]
        exact q
      · rintro d ⟨rfl, hb⟩
        rw [hb] at q
        exact q
    · have h1 : (3 : Int) < (xs.length : Int) := by omega
      simp only [extrasD, hl, decide_false, Bool.false_and] at q
      simp [dare_extras, bare_extras, isTup, h1]
      exact q
  | obj _ _ => cases h
  | _ => simp [dare_extras, bare_extras, isTup]; exact q
theorem le_extras : ∀ ds Q, onD extrasD ds Q → dare_extras P_integer ds Q := fun ds Q q => by
  unfold onD at q
  split at q
  · obtain ⟨h1, q⟩ := q
    exact extras_ev h1 Q q
  · exact q.elim
theorem ctr_isD {d : D} (h : okL d 40 = true) : dis_counter (onD rulesD) (onD extrasD) [d] = ret (.bl (ctrD d)) := by
  cases d with
  | tup xs =>
    by_cases hl : xs.length = 2
    · obtain ⟨x, y, rfl⟩ := two_get hl
      have e1 := onD_eq (f := rulesD) (okL_in h (d := x) (by simp))
      have e2 := onD_eq (f := extrasD) (okL_in h (d := y) (by simp))
      show dis_counter _ _ [.tup [x, y]] = ret (.bl (rulesD x && extrasD y))
      cases b : rulesD x <;> simp [dis_counter, bis_counter, isTup, e1, e2, b]
    · have h2 : ¬ ((xs.length : Int) = 2) := by omega
      simp [dis_counter, bis_counter, isTup, ctrD, two_len hl, h2]
  | obj _ _ => cases h
  | _ => simp [dis_counter, bis_counter, isTup, ctrD, two]
theorem le_isctr : ∀ ds Q, onD ctrD ds Q → dis_counter (onD rulesD) (onD extrasD) ds Q := le_on fun d h => ctr_isD h
end DL

namespace DL
open PySem PySem.Spec L2

/-! ### the texts of counters -/
def ruleT (r : Rule) : List Nat := kdL r.kd ++ (32 :: r.w)
def pairT (e : Int × Int) : List Nat := TL.numL e.1.toNat ++ (43 :: TL.numL e.2.toNat)
def partsT (c : Ctr) : List (List Nat) := c.rules.map ruleT ++ c.ext.map pairT
def allL : List Nat := [97, 108, 108]
def ctrT (c : Ctr) : List Nat := if partsT c = [] then allL else TL.joinL [59, 32] (partsT c)
theorem kdL_len (k : Kd) : (kdL k).length ≤ 6 := by cases k <;> decide
theorem ruleT_len {r : Rule} (h : okW r.w) : (ruleT r).length ≤ 12 := by
  unfold ruleT
  rw [List.length_append, List.length_cons]
  have := kdL_len r.kd
  have := h.2.1
  omega
theorem num_len4 {n : Int} (h : 0 ≤ n ∧ n ≤ 999) : (TL.numL n.toNat).length ≤ 3 := TL.numL_len (k := 3) (by decide) (by omega)
theorem pairT_len {e : Int × Int} (h : (1 ≤ e.1 ∧ e.1 ≤ 999) ∧ 1 ≤ e.2 ∧ e.2 ≤ 3) : (pairT e).length ≤ 12 := by
  unfold pairT
  rw [List.length_append, List.length_cons]
  have := num_len4 (n := e.1) (by omega)
  have := num_len4 (n := e.2) (by omega)
  omega
theorem sum_le {m : Nat} : ∀ {ps : List (List Nat)}, (∀ p ∈ ps, p.length ≤ m) → (ps.map List.length).sum ≤ ps.length * m
  | [], _ => by simp
  | p :: ps, h => by
    have h1 := h p List.mem_cons_self
    have h2 := sum_le fun q hq => h q (List.mem_cons_of_mem p hq)
    rw [List.map_cons, List.sum_cons, List.length_cons, Nat.succ_mul]
    omega
theorem parts_len {c : Ctr} (h : OkC c) : (partsT c).length ≤ 8 := by
  have h1 := h.nr
  have h2 := h.ne
  simp [partsT]
  omega
theorem parts_le {c : Ctr} (h : OkC c) : ∀ p ∈ partsT c, p.length ≤ 12 := fun p hp => by
  rcases List.mem_append.mp hp with h1 | h1
  · obtain ⟨r, hr, rfl⟩ := List.mem_map.mp h1
    exact ruleT_len (h.wd r hr)
  · obtain ⟨e, he, rfl⟩ := List.mem_map.mp h1
    exact pairT_len (h.rg e he)
theorem ctrT_len {c : Ctr} (h : OkC c) : (ctrT c).length ≤ 200 := by
  unfold ctrT
  split
  · decide
  · have h1 := joinL_len (S := [59, 32]) (partsT c)
    have h2 := sum_le (parts_le h)
    have h3 := parts_len h
    simp only [List.length_cons, List.length_nil] at h1
    omega
def P_rtext : List D → M D := fun ds => match ds with
  | [d] => ofO (decR d) fun r => asrt (okW r.w) (ret (.str (ruleT r)))
  | _ => bad
theorem rtext_ev (r : Rule) (h : okW r.w) : drule_text [encR r] = ret (.str (ruleT r)) := by
  have h1 := kdL_len r.kd
  have h2 := h.2.1
  have a1 : (kdL r.kd).length ≤ 16777216 := by omega
  have a2 : (kdL r.kd).length ≤ 16777215 := by omega
  have a3 : (kdL r.kd).length + 1 + r.w.length ≤ 16777216 := by omega
  simp [drule_text, brule_text, encR, asrt_pos a1, asrt_pos a2, asrt_pos a3, ruleT]
theorem P_rtext_eq (r : Rule) (h : okW r.w) : P_rtext [encR r] = ret (.str (ruleT r)) := by
  show ofO (decR (encR r)) _ = _
  rw [decR_enc, ofO_some, asrt_pos h]
theorem le_rtext : ∀ ds Q, P_rtext ds Q → drule_text ds Q := fun ds Q h => by
  unfold P_rtext at h
  split at h
  · obtain ⟨r, e, hn, q⟩ := ofO_get h
    rw [decR_inv e, rtext_ev r hn]
    exact q
  · exact h.elim
def P_text : List D → M D := fun ds => match ds with
  | [d] => ofO (decC d) fun c => asrt (OkC c) (ret (.str (ctrT c)))
  | _ => bad
theorem text_ev (c : Ctr) (h : OkC c) : dcounter_text P_rtext [encC c] = ret (.str (ctrT c)) := by
  have e1 : lcD (lcStep (gN 4) tYesD (cA P_rtext (aCons (rd 4) aNil)) [.va (encC c), .va (.tup (c.rules.map encR)), .va (.tup (c.ext.map encE)), .no, .no, .no, .no]) (c.rules.map encR) = ret ((c.rules.map ruleT).map .str) := by
    rw [lcD_mapE (e := encR) (f := fun r => .str (ruleT r)) fun r hr => by simp [P_rtext_eq r (h.wd r hr)], List.map_map]
    rfl
  have e2 : lcD (lcStep (gTn 2 (gsCons (gN 5) (gsCons (gN 6) gsNil))) tYesD (cJs [c1 oFmt (rd 5), cst (.str [43]), c1 oFmt (rd 6)]) [.va (encC c), .va (.tup (c.rules.map encR)), .va (.tup (c.ext.map encE)), .no, .no, .no, .no]) (c.ext.map encE) = ret ((c.ext.map pairT).map .str) := by
    rw [lcD_mapE (e := encE) (f := fun e => .str (pairT e)) fun e he => ?_, List.map_map]
    · rfl
    · have h1 := h.rg e he
      have b1 : 0 ≤ e.1 ∧ e.1 < strMost := ⟨by omega, Int.lt_of_le_of_lt h1.1.2 (by decide)⟩
      have b2 : 0 ≤ e.2 ∧ e.2 < strMost := ⟨by omega, Int.lt_of_le_of_lt h1.2.2 (by decide)⟩
      have h2 := num_len4 (n := e.1) (by omega)
      have h3 := num_len4 (n := e.2) (by omega)
      have a1 : (TL.numL e.1.toNat).length ≤ 16777216 := by omega
      have a2 : (TL.numL e.1.toNat).length ≤ 16777215 := by omega
      have a3 : (TL.numL e.1.toNat).length + 1 + (TL.numL e.2.toNat).length ≤ 16777216 := by omega
      simp [encE, asrt_pos b1, asrt_pos b2, asrt_pos a1, asrt_pos a2, asrt_pos a3, pairT]
  have hj : okJoin [59, 32] (partsT c) := by
    have h2 := sum_le (parts_le h)
    have h3 := parts_len h
    show (((partsT c).map List.length).sum + (partsT c).length * 2 ≤ 16777216)
    omega
  have hp : (c.rules.map ruleT).map D.str ++ (c.ext.map pairT).map D.str = (partsT c).map .str := (List.map_append ..).symm
  unfold encC at e1 e2 ⊢
  have hz : (partsT c).length ≤ 16777216 := Nat.le_trans (parts_len h) (by decide)
  generalize hrs : c.rules.map ruleT = rs at e1 hp
  generalize hes : c.ext.map pairT = es at e2 hp
  have hps : partsT c = rs ++ es := by rw [← hrs, ← hes]; rfl
  unfold ctrT
  generalize partsT c = ps at hp hz hj hps ⊢
  have hz' : rs.length + es.length ≤ 16777216 := by rw [hps] at hz; simpa using hz
  have hn : isNilD (ps.map D.str) = decide (ps = []) := by cases ps <;> simp [isNilD]
  have ok : scEq (.lst (ps.map D.str)) (.lst []) = true ∨ okD (.lst (ps.map D.str)) 60 = true ∧ okD (.lst []) 60 = true := .inr ⟨by
    clear hp hz hj hn hps
    show okDs (ps.map D.str) 59 = true
    induction ps with
    | nil => rfl
    | cons p ps ih => rw [List.map_cons]; unfold okDs; rw [ih]; rfl, rfl⟩
  simp [dcounter_text, bcounter_text, e1, e2, hp, asrt_pos hz', asrt_pos ok, eq_nilL, hn]
  by_cases hnil : ps = []
  · simp [hnil, allL]
  · simp [hnil, asrt_pos hj, asrt_pos hz]
theorem P_text_eq (c : Ctr) (h : OkC c) : P_text [encC c] = ret (.str (ctrT c)) := by
  show ofO (decC (encC c)) _ = _
  rw [decC_enc, ofO_some, asrt_pos h]
theorem le_text : ∀ ds Q, P_text ds Q → dcounter_text P_rtext ds Q := fun ds Q h => by
  unfold P_text at h
  split at h
  · obtain ⟨c, e, hn, q⟩ := ofO_get h
    rw [decC_inv e, text_ev c hn]
    exact q
  · exact h.elim
end DL

namespace DL
open PySem PySem.Spec L2

theorem all_dig {w : List Nat} : w.all isDig = true ↔ PySem.NumText.AllDigits w := by
  rw [List.all_eq_true]
  exact ⟨fun h c hc => by simpa [isDig] using h c hc, fun h c hc => by simpa [isDig] using h c hc⟩
theorem okW_word {w : List Nat} : wordD (.str w) = true ↔ okW w := by
  simp only [wordD, Bool.and_eq_true, decide_eq_true_eq, all_dig, okW]
  exact ⟨fun h => ⟨fun e => by rw [e] at h; exact absurd h.1 (by decide), h.2.1, h.2.2⟩, fun h => ⟨List.length_pos_iff.mpr h.1, h.2.1, h.2.2⟩⟩
/-! ### a counter, by its parts -/
theorem rule_dec {d : D} (h : ruleD d = true) : ∃ r : Rule, okW r.w ∧ d = encR r := by
  cases d with
  | tup xs =>
    by_cases hl : xs.length = 2
    · obtain ⟨x, y, rfl⟩ := two_get hl
      have h1 : (kindD x && wordD y) = true := h
      rw [Bool.and_eq_true] at h1
      cases x with
      | str k => cases y with
        | str w =>
          obtain ⟨kd, e⟩ := Option.isSome_iff_exists.mp (show (decK k).isSome = true from h1.1)
          exact ⟨⟨kd, w⟩, okW_word.mp h1.2, by rw [decK_inv e]; rfl⟩
        | _ => cases h1.2
      | _ => cases h1.1
    · rw [show ruleD (.tup xs) = false from two_len hl] at h
      cases h
  | _ => cases h
theorem rules_dec : ∀ {xs : List D}, xs.all ruleD = true → ∃ rs : List Rule, (∀ r ∈ rs, okW r.w) ∧ xs = rs.map encR
  | [], _ => ⟨[], (fun _ h => by cases h), rfl⟩
  | d :: ds, h => by
    rw [List.all_cons, Bool.and_eq_true] at h
    obtain ⟨r, hr, rfl⟩ := rule_dec h.1
    obtain ⟨rs, hrs, rfl⟩ := rules_dec h.2
    exact ⟨r :: rs, (fun x hx => by
      rcases List.mem_cons.mp hx with e | e
      · rw [e]; exact hr
      · exact hrs x e), rfl⟩
theorem keys_enc : ∀ rs : List Rule, keysOf (rs.map encR) = some (rs.map fun r => [kdL r.kd, r.w])
  | [] => rfl
  | r :: rs => by
    rw [List.map_cons]
    show (keysOf (.tup [.str (kdL r.kd), .str r.w] :: rs.map encR)) = _
    unfold keysOf
    rw [keys_enc rs]
    rfl
theorem nodup_map {α β : Type} {f : α → β} (hf : ∀ a b, f a = f b → a = b) {l : List α} : (l.map f).Nodup ↔ l.Nodup := by
  induction l with
  | nil => simp
  | cons a l ih =>
    rw [List.map_cons, List.nodup_cons, List.nodup_cons, ih, List.mem_map]
    exact ⟨fun h => ⟨fun hm => h.1 ⟨a, hm, rfl⟩, h.2⟩, fun h => ⟨fun ⟨b, hb, e⟩ => h.1 (hf _ _ e ▸ hb), h.2⟩⟩
theorem nodup_enc (rs : List Rule) : nodupD (rs.map encR) = decide rs.Nodup := by
  unfold nodupD
  rw [keys_enc]
  show decide _ = decide _
  congr 1
  rw [nodup_map]
  intro a b h
  obtain ⟨k, w⟩ := a
  obtain ⟨j, v⟩ := b
  simp only [List.cons.injEq, and_true] at h
  rw [kdL_inj h.1, h.2]
theorem rise_pw : ∀ es : List (Int × Int), riseD (es.map encE) = true ↔ (es.map (·.1)).Pairwise (· < ·)
  | [] => by simp [riseD]
  | [_] => by simp [riseD]
  | x :: y :: r => by
    show (decide (x.1 < y.1) && riseD ((y :: r).map encE)) = true ↔ _
    rw [Bool.and_eq_true, decide_eq_true_eq, rise_pw (y :: r)]
    simp only [List.map_cons, List.pairwise_cons]
    constructor
    · rintro ⟨h1, h2, h3⟩
      exact ⟨fun a ha => by
        rcases List.mem_cons.mp ha with e | e
        · rw [e]; exact h1
        · exact Int.lt_trans h1 (h2 a e), h2, h3⟩
    · rintro ⟨h1, h2, h3⟩
      exact ⟨h1 _ List.mem_cons_self, h2, h3⟩
theorem pair_rg (e : Int × Int) : pairD (encE e) = true ↔ (1 ≤ e.1 ∧ e.1 ≤ 999) ∧ 1 ≤ e.2 ∧ e.2 ≤ 3 := by
  show (intD 1 999 (.int e.1) && intD 1 3 (.int e.2)) = true ↔ _
  simp [intD]
theorem ctr_iff (c : Ctr) : ctrD (encC c) = true ↔ OkC c := by
  show (rulesD (.tup (c.rules.map encR)) && extrasD (.tup (c.ext.map encE))) = true ↔ _
  simp only [rulesD, extrasD, Bool.and_eq_true, decide_eq_true_eq, List.length_map, nodup_enc, rise_pw, List.all_map, List.all_eq_true, Function.comp_apply, pair_rg]
  constructor
  · rintro ⟨⟨h1, h2, h3⟩, h4, h5, h6⟩
    exact ⟨h1, h3, fun r hr => by
      have := h2 r hr
      have h7 : (kindD (.str (kdL r.kd)) && wordD (.str r.w)) = true := this
      rw [Bool.and_eq_true] at h7
      exact okW_word.mp h7.2, h4, h6, h5⟩
  · intro h
    exact ⟨⟨h.nr, fun r hr => by
      show (kindD (.str (kdL r.kd)) && wordD (.str r.w)) = true
      rw [okW_word.mpr (h.wd r hr)]
      show ((decK (kdL r.kd)).isSome && true) = true
      rw [decK_enc]
      rfl, h.nd⟩, h.ne, h.rg, h.up⟩
theorem ctr_dec {d : D} (h : ctrD d = true) : ∃ c : Ctr, OkC c ∧ d = encC c := by
  cases d with
  | tup xs =>
    by_cases hl : xs.length = 2
    · obtain ⟨x, y, rfl⟩ := two_get hl
      have h1 : (rulesD x && extrasD y) = true := h
      rw [Bool.and_eq_true] at h1
      cases x with
      | tup rs => cases y with
        | tup es =>
          have h2 := h1.1
          have h3 := h1.2
          simp only [rulesD, extrasD, Bool.and_eq_true] at h2 h3
          obtain ⟨rs, _, rfl⟩ := rules_dec h2.2.1
          obtain ⟨es, rfl⟩ := pairs_enc h3.2.1
          exact ⟨⟨rs, es⟩, (ctr_iff _).mp h, rfl⟩
        | _ => cases h1.2
      | _ => cases h1.1
    · rw [show ctrD (.tup xs) = false from two_len hl] at h
      cases h
  | _ => cases h
theorem okL_ctr {c : Ctr} (h : OkC c) : okL (encC c) 40 = true := by
  have h1 := h.nr
  have h2 := h.ne
  have e1 : ∀ rs : List Rule, okLs (rs.map encR) 38 = true := fun rs => by
    induction rs with
    | nil => rfl
    | cons r rs ih => rw [List.map_cons]; unfold okLs; rw [ih]; rfl
  have e2 : ∀ es : List (Int × Int), okLs (es.map encE) 38 = true := fun es => by
    induction es with
    | nil => rfl
    | cons r rs ih => rw [List.map_cons]; unfold okLs; rw [ih]; rfl
  simp [encC, okL, okLs, e1, e2]
  omega
/-! ### reading a number -/
def numR (w : List Nat) : D := if w ≠ [] ∧ w.length ≤ 4 ∧ w.all isDig = true ∧ TL.numL (PySem.NumText.digitsVal w) = w then .int (PySem.NumText.digitsVal w : Nat) else .non
theorem dv_lt4 {w : List Nat} (h : PySem.NumText.AllDigits w) (hl : w.length ≤ 4) : PySem.NumText.digitsVal w < 10 ^ 4 := by
  have := (dv_go w 0 h).1
  rw [Nat.zero_add, Nat.one_mul] at this
  exact Nat.lt_of_lt_of_le this (Nat.pow_le_pow_right (by decide) hl)
theorem num_ev (w : List Nat) : dread_number [.str w] = ret (numR w) := by
  obtain ⟨bs, hb, e⟩ : ∃ bs : List Bool, bs.all id = w.all isDig ∧ lcD (lcStep (gN 1) (tYesD) (c2 oIn (rd 1) (cst (.str [48, 49, 50, 51, 52, 53, 54, 55, 56, 57]))) [.va (.str w), .no]) (w.map fun c => .str [c]) = ret (bs.map .bl) :=
    ⟨w.map isDig, by rw [List.all_map]; rfl, by
      rw [lcD_chars (f := fun c => .bl (isDig c)) w fun x _ => by simp [sub_dig], List.map_map]
      rfl⟩
  by_cases h1 : w = []
  · subst h1
    simp [dread_number, bread_number, numR]
  · by_cases h2 : w.length ≤ 4
    · have h2' : ¬ (4 : Int) < (w.length : Int) := by omega
      by_cases hf : false ∈ bs
      · have h3 : w.all isDig = false := by rw [← hb]; simp [hf]
        simp [dread_number, bread_number, numR, h1, h2, h2', e, hf, h3]
      · have h3 : w.all isDig = true := by rw [← hb]; simp [hf]
        have hd := all_dig.mp h3
        have hv := dv_lt4 hd h2
        have a1 : PySem.NumText.AllDigits w ∧ w.length ≤ 640 := ⟨hd, by omega⟩
        have a2 : PySem.NumText.digitsVal w < strMost := Nat.lt_trans hv (by decide)
        by_cases h4 : TL.numL (PySem.NumText.digitsVal w) = w
        · simp [dread_number, bread_number, numR, h1, h2, h2', e, hf, h3, asrt_pos a1, asrt_pos a2, h4]
        · simp [dread_number, bread_number, numR, h1, h2, h2', e, hf, h3, asrt_pos a1, asrt_pos a2, h4]
    · have h2' : (4 : Int) < (w.length : Int) := by omega
      simp [dread_number, bread_number, numR, h1, h2, h2']
theorem numR_num {n : Int} (h : 0 ≤ n ∧ n ≤ 999) : numR (TL.numL n.toNat) = .int n := by
  unfold numR
  rw [TL.numL_val, if_pos ⟨TL.numL_ne _, Nat.le_trans (num_len4 h) (by decide), all_dig.mpr (TL.numL_digits _), rfl⟩]
  congr 1
  omega
theorem numR_inv {w : List Nat} {n : Int} (h : numR w = .int n) : w = TL.numL n.toNat := by
  unfold numR at h
  split at h
  · rename_i h1
    cases h
    exact h1.2.2.2.symm
  · cases h
def P_num : List D → M D := fun ds => match ds with
  | [.str w] => ret (numR w)
  | _ => bad
theorem le_num : ∀ ds Q, P_num ds Q → dread_number ds Q := fun ds Q h => by
  unfold P_num at h
  split at h
  · rw [num_ev]; exact h
  · exact h.elim
end DL

namespace DL
open PySem PySem.Spec L2

/-! ### cut at one sign -/
theorem count0 {c : Nat} {l : List Nat} (h : c ∉ l) : l.count c = 0 := List.count_eq_zero.mpr h
theorem spl_two {c : Nat} {a b : List Nat} (ha : c ∉ a) (hb : c ∉ b) : TL.spl [c] 0 [] (a ++ c :: b) = [a, b] := by
  have e := TL.spl_part1 (s := c) (S := []) (p := a) (rest := b) (acc := []) ha
  rw [show a ++ ([c] ++ b) = a ++ c :: b from rfl] at e
  rw [e, TL.spl_last1 hb]
  rfl
theorem count_two {c : Nat} {l : List Nat} (h : l.count c = 1) : ∃ a b, c ∉ a ∧ c ∉ b ∧ l = a ++ c :: b := by
  have hm : c ∈ l := List.count_pos_iff.mp (by omega)
  obtain ⟨a, b, e, ha⟩ : ∃ a b, l = a ++ c :: b ∧ c ∉ a := by
    clear h
    induction l with
    | nil => cases hm
    | cons x l ih =>
      by_cases hx : x = c
      · exact ⟨[], l, by rw [hx]; rfl, by simp⟩
      · obtain ⟨a, b, e, ha⟩ := ih (by
          rcases List.mem_cons.mp hm with h | h
          · exact absurd h.symm hx
          · exact h)
        exact ⟨x :: a, b, by rw [e]; rfl, by
          intro hc
          rcases List.mem_cons.mp hc with h | h
          · exact hx h.symm
          · exact ha h⟩
  refine ⟨a, b, ha, ?_, e⟩
  intro hb
  rw [e, List.count_append, List.count_cons_self] at h
  have := List.count_pos_iff.mpr hb
  omega
/-! ### reading a counter -/
abbrev RS := List D × List D
def strTwo (a b : List Nat) : D := .tup [.str a, .str b]
def numTwo (a b : List Nat) : D := .tup [numR a, numR b]
def stepR (s : RS) (p : List Nat) : Option RS :=
  if p.count 43 = 1 ∧ p.count 32 = 0 then
    match TL.spl [43] 0 [] p with
    | [a, b] => some (s.1, s.2 ++ [numTwo a b])
    | _ => none
  else if p.count 32 = 1 ∧ s.2 = [] then
    match TL.spl [32] 0 [] p with
    | [a, b] => some (s.1 ++ [strTwo a b], s.2)
    | _ => none
  else none
def foldR (ps : List (List Nat)) (s : RS) : Option RS := ps.foldlM stepR s
def partsOf (l : List Nat) : List (List Nat) := if l = allL then [] else TL.spl [59, 32] 0 [] l
def finR : Option RS → D
  | some s => if ctrD (.tup [.tup s.1, .tup s.2]) = true then .tup [.tup s.1, .tup s.2] else .non
  | none => .non
theorem finR_some (s : RS) : finR (some s) = if ctrD (.tup [.tup s.1, .tup s.2]) = true then .tup [.tup s.1, .tup s.2] else .non := rfl
def readD : D → D
  | .str l => finR (foldR (partsOf l) ([], []))
  | _ => .non
theorem step_num {s : RS} {a b : List Nat} (a1 : 43 ∉ a) (a2 : 32 ∉ a) (b1 : 43 ∉ b) (b2 : 32 ∉ b) : stepR s (a ++ 43 :: b) = some (s.1, s.2 ++ [numTwo a b]) := by
  unfold stepR
  rw [if_pos ⟨by rw [List.count_append, List.count_cons_self, count0 a1, count0 b1], by rw [List.count_append, List.count_cons_of_ne (by decide), count0 a2, count0 b2]⟩, spl_two a1 b1]
theorem step_str {s : RS} {a b : List Nat} (hs : s.2 = []) (a1 : 43 ∉ a) (a2 : 32 ∉ a) (b1 : 43 ∉ b) (b2 : 32 ∉ b) : stepR s (a ++ 32 :: b) = some (s.1 ++ [strTwo a b], s.2) := by
  unfold stepR
  rw [if_neg, if_pos ⟨by rw [List.count_append, List.count_cons_self, count0 a2, count0 b2], hs⟩, spl_two a2 b2]
  rintro ⟨h, _⟩
  rw [List.count_append, List.count_cons_of_ne (by decide), count0 a1, count0 b1] at h
  exact absurd h (by decide)
theorem step_inv {s t : RS} {p : List Nat} (h : stepR s p = some t) : (∃ a b, p = a ++ 43 :: b ∧ t = (s.1, s.2 ++ [numTwo a b])) ∨ (s.2 = [] ∧ ∃ a b, p = a ++ 32 :: b ∧ t = (s.1 ++ [strTwo a b], s.2)) := by
  unfold stepR at h
  split at h
  · rename_i hc
    obtain ⟨a, b, ha, hb, rfl⟩ := count_two hc.1
    rw [spl_two ha hb] at h
    cases h
    exact .inl ⟨a, b, rfl, rfl⟩
  · split at h
    · rename_i hc
      obtain ⟨a, b, ha, hb, rfl⟩ := count_two hc.1
      rw [spl_two ha hb] at h
      cases h
      exact .inr ⟨hc.2, a, b, rfl, rfl⟩
    · cases h
abbrev TT := List Nat × List Nat
def sT (p : TT) : D := strTwo p.1 p.2
def nT (p : TT) : D := numTwo p.1 p.2
theorem fold_inv : ∀ {ps : List (List Nat)} {s t : RS}, foldR ps s = some t → ∃ ks ns : List TT, t.1 = s.1 ++ ks.map sT ∧ t.2 = s.2 ++ ns.map nT ∧ ps = (ks.map fun p => p.1 ++ 32 :: p.2) ++ (ns.map fun p => p.1 ++ 43 :: p.2) ∧ (ks ≠ [] → s.2 = [])
  | [], s, t, h => by
    have e : s = t := Option.some.inj h
    subst e
    exact ⟨[], [], by simp, by simp, rfl, fun h => absurd rfl h⟩
  | p :: ps, s, t, h => by
    unfold foldR at h
    rw [List.foldlM_cons] at h
    cases e : stepR s p with
    | none => rw [e] at h; cases h
    | some u =>
      rw [e] at h
      obtain ⟨ks, ns, h1, h2, h3, h4⟩ := fold_inv (ps := ps) (s := u) (t := t) h
      rcases step_inv e with ⟨a, b, rfl, rfl⟩ | ⟨hs, a, b, rfl, rfl⟩
      · have hk : ks = [] := by
          cases ks with
          | nil => rfl
          | cons k ks => exact absurd (h4 (by simp)) (by simp)
        subst hk
        refine ⟨[], (a, b) :: ns, by simpa using h1, ?_, ?_, fun h => absurd rfl h⟩
        · rw [h2, List.map_cons]; simp [nT]
        · rw [h3]; rfl
      · refine ⟨(a, b) :: ks, ns, ?_, h2, ?_, fun _ => hs⟩
        · rw [h1, List.map_cons]; simp [sT]
        · rw [h3]; rfl
theorem map_two_R : ∀ {ks : List TT} {rs : List Rule}, ks.map sT = rs.map encR → (ks.map fun p => p.1 ++ 32 :: p.2) = rs.map ruleT
  | [], [], _ => rfl
  | [], _ :: _, h => by cases h
  | _ :: _, [], h => by cases h
  | k :: ks, r :: rs, h => by
    rw [List.map_cons, List.map_cons] at h
    injection h with h1 h2
    rw [List.map_cons, List.map_cons, map_two_R h2]
    simp only [sT, strTwo, encR, D.tup.injEq, List.cons.injEq, D.str.injEq, and_true] at h1
    rw [h1.1, h1.2]
    rfl
theorem map_two_E : ∀ {ks : List TT} {es : List (Int × Int)}, ks.map nT = es.map encE → (ks.map fun p => p.1 ++ 43 :: p.2) = es.map pairT
  | [], [], _ => rfl
  | [], _ :: _, h => by cases h
  | _ :: _, [], h => by cases h
  | k :: ks, r :: rs, h => by
    rw [List.map_cons, List.map_cons] at h
    injection h with h1 h2
    rw [List.map_cons, List.map_cons, map_two_E h2]
    simp only [nT, numTwo, encE, D.tup.injEq, List.cons.injEq, and_true] at h1
    rw [numR_inv h1.1, numR_inv h1.2]
    rfl
theorem join_spl {s : Nat} {S : List Nat} : ∀ (l : List Nat), TL.joinL (s :: S) (TL.spl (s :: S) 0 [] l) = l := by
  have ne : ∀ (l : List Nat) (k : Nat) (acc : List Nat), TL.spl (s :: S) k acc l ≠ [] := by
    intro l
    induction l with
    | nil => intro k acc; rw [TL.spl_nil]; simp
    | cons c r ih =>
      intro k acc
      cases k with
      | succ k => exact ih k acc
      | zero =>
        cases hp : TL.pre (s :: S) (c :: r) with
        | true => rw [TL.spl_hit hp]; simp
        | false => rw [TL.spl_miss hp]; exact ih 0 _
  have main : ∀ (n : Nat) (l acc : List Nat), l.length ≤ n → TL.joinL (s :: S) (TL.spl (s :: S) 0 acc l) = acc ++ l := by
    intro n
    induction n with
    | zero =>
      intro l acc h
      have : l = [] := List.length_eq_zero_iff.mp (by omega)
      subst this
      rw [TL.spl_nil]
      simp [TL.joinL]
    | succ n ih =>
      intro l acc h
      cases l with
      | nil => rw [TL.spl_nil]; simp [TL.joinL]
      | cons c r =>
        cases hp : TL.pre (s :: S) (c :: r) with
        | false =>
          rw [TL.spl_miss hp, ih r _ (by simpa using h)]
          simp
        | true =>
          rw [TL.spl_hit hp, TL.spl_pass]
          have e1 : (c :: r).take (s :: S).length = s :: S := eq_of_beq hp
          have e2 : (c :: r).drop (s :: S).length = r.drop ((s :: S).length - 1) := by rw [List.length_cons, List.drop_succ_cons, Nat.add_sub_cancel]
          have e3 : (s :: S) ++ r.drop ((s :: S).length - 1) = c :: r := by
            rw [← e2]
            conv => lhs; lhs; rw [← e1]
            exact List.take_append_drop _ _
          cases hq : TL.spl (s :: S) 0 [] (r.drop ((s :: S).length - 1)) with
          | nil => exact absurd hq (ne _ _ _)
          | cons q qs =>
            show acc ++ ((s :: S) ++ TL.joinL (s :: S) (q :: qs)) = _
            rw [← hq, ih _ [] (by simp at h ⊢; omega), List.nil_append, e3]
  exact fun l => main l.length l [] (Nat.le_refl _)
theorem spl_nn {s : Nat} {S : List Nat} (l : List Nat) : TL.spl (s :: S) 0 [] l ≠ [] := fun e => by
  have h := join_spl (s := s) (S := S) l
  rw [e] at h
  have : l = [] := h.symm
  subst this
  rw [TL.spl_nil] at e
  cases e
theorem partsOf_T {l : List Nat} {ps : List (List Nat)} (h : partsOf l = ps) : l = if ps = [] then allL else TL.joinL [59, 32] ps := by
  unfold partsOf at h
  split at h
  · rename_i e
    rw [if_pos h.symm, e]
  · rw [if_neg (fun e => spl_nn l (h.trans e)), ← h, join_spl]
/-- what is read has this text -/
theorem read_back {d : D} : readD d = .non ∨ ∃ c, OkC c ∧ readD d = encC c ∧ d = .str (ctrT c) := by
  cases d with
  | str l =>
    show finR (foldR (partsOf l) ([], [])) = .non ∨ ∃ c, OkC c ∧ finR (foldR (partsOf l) ([], [])) = encC c ∧ D.str l = .str (ctrT c)
    cases e : foldR (partsOf l) ([], []) with
    | none => exact .inl rfl
    | some s =>
      rw [finR_some]
      by_cases h : ctrD (.tup [.tup s.1, .tup s.2]) = true
      · rw [if_pos h]
        obtain ⟨c, hc, ec⟩ := ctr_dec h
        refine .inr ⟨c, hc, ec, ?_⟩
        obtain ⟨ks, ns, h1, h2, h3, _⟩ := fold_inv e
        rw [List.nil_append] at h1 h2
        simp only [encC, D.tup.injEq, List.cons.injEq, and_true] at ec
        have h4 : partsOf l = partsT c := by
          rw [h3, map_two_R (h1.symm.trans ec.1), map_two_E (h2.symm.trans ec.2)]
          rfl
        rw [partsOf_T h4]
        rfl
      · rw [if_neg h]
        exact .inl rfl
  | _ => exact .inl rfl
theorem dig_free {w : List Nat} (h : PySem.NumText.AllDigits w) {c : Nat} (hc : c < 48 ∨ 57 < c) : c ∉ w := fun hm => by
  have := h c hm
  omega
theorem kd_free (k : Kd) {c : Nat} (hc : c < 97) : c ∉ kdL k := by
  cases k <;> simp [kdL] <;> omega
theorem fold_rules : ∀ (rs : List Rule) (s : RS), s.2 = [] → (∀ r ∈ rs, okW r.w) → foldR (rs.map ruleT) s = some (s.1 ++ rs.map encR, [])
  | [], s, hs, _ => by
    show some s = _
    rw [List.map_nil, List.append_nil, ← hs]
  | r :: rs, s, hs, h => by
    have hr := (h r List.mem_cons_self).2.2
    unfold foldR
    rw [List.map_cons, List.foldlM_cons]
    have e : stepR s (ruleT r) = some (s.1 ++ [encR r], s.2) := step_str hs (kd_free r.kd (by decide)) (kd_free r.kd (by decide)) (dig_free hr (by decide)) (dig_free hr (by decide))
    rw [e]
    show foldR (rs.map ruleT) (s.1 ++ [encR r], s.2) = _
    rw [fold_rules rs (s.1 ++ [encR r], s.2) hs fun x hx => h x (List.mem_cons_of_mem _ hx)]
    simp
theorem fold_pairs : ∀ (es : List (Int × Int)) (s : RS), (∀ e ∈ es, (1 ≤ e.1 ∧ e.1 ≤ 999) ∧ 1 ≤ e.2 ∧ e.2 ≤ 3) → foldR (es.map pairT) s = some (s.1, s.2 ++ es.map encE)
  | [], s, _ => by
    show some s = _
    rw [List.map_nil, List.append_nil]
  | e :: es, s, h => by
    have hr := h e List.mem_cons_self
    unfold foldR
    rw [List.map_cons, List.foldlM_cons]
    have e1 : stepR s (pairT e) = some (s.1, s.2 ++ [encE e]) := by
      unfold pairT
      rw [step_num (TL.numL_free (by decide)) (TL.numL_free (by decide)) (TL.numL_free (by decide)) (TL.numL_free (by decide))]
      unfold numTwo
      rw [numR_num (by omega), numR_num (by omega)]
      rfl
    rw [e1]
    show foldR (es.map pairT) (s.1, s.2 ++ [encE e]) = _
    rw [fold_pairs es (s.1, s.2 ++ [encE e]) fun x hx => h x (List.mem_cons_of_mem _ hx)]
    simp
theorem parts_free {c : Ctr} (h : OkC c) : ∀ p ∈ partsT c, 59 ∉ p := fun p hp => by
  rcases List.mem_append.mp hp with h1 | h1
  · obtain ⟨r, hr, rfl⟩ := List.mem_map.mp h1
    intro hm
    rcases List.mem_append.mp hm with h2 | h2
    · exact kd_free r.kd (by decide) h2
    · rcases List.mem_cons.mp h2 with h3 | h3
      · cases h3
      · exact dig_free (h.wd r hr).2.2 (by decide) h3
  · obtain ⟨e, he, rfl⟩ := List.mem_map.mp h1
    intro hm
    rcases List.mem_append.mp hm with h2 | h2
    · exact TL.numL_free (by decide) h2
    · rcases List.mem_cons.mp h2 with h3 | h3
      · cases h3
      · exact TL.numL_free (by decide) h3
theorem partsOf_ctr {c : Ctr} (h : OkC c) : partsOf (ctrT c) = partsT c := by
  unfold ctrT
  by_cases e : partsT c = []
  · rw [if_pos e, e]; rfl
  · rw [if_neg e]
    have hs := TL.spl_join (s := 59) (S := [32]) e (parts_free h)
    unfold partsOf
    rw [if_neg, hs]
    intro ea
    rw [ea] at hs
    have h1 : partsT c = [allL] := hs.symm.trans rfl
    have hm : allL ∈ partsT c := by rw [h1]; simp
    rcases List.mem_append.mp hm with h2 | h2
    · obtain ⟨r, _, e2⟩ := List.mem_map.mp h2
      have : 32 ∈ allL := by rw [← e2]; simp [ruleT]
      exact absurd this (by decide)
    · obtain ⟨r, _, e2⟩ := List.mem_map.mp h2
      have : 43 ∈ allL := by rw [← e2]; simp [pairT]
      exact absurd this (by decide)
/-- a text of a counter is read back -/
theorem read_text {c : Ctr} (h : OkC c) : readD (.str (ctrT c)) = encC c := by
  show finR (foldR (partsOf (ctrT c)) ([], [])) = encC c
  have e : foldR (partsOf (ctrT c)) ([], []) = some (c.rules.map encR, c.ext.map encE) := by
    rw [partsOf_ctr h]
    unfold partsT foldR
    rw [List.foldlM_append]
    show (foldR (c.rules.map ruleT) ([], []) >>= fun s => foldR (c.ext.map pairT) s) = _
    rw [fold_rules _ _ rfl h.wd]
    show foldR (c.ext.map pairT) ([] ++ c.rules.map encR, []) = _
    rw [fold_pairs _ _ h.rg]
    rfl
  rw [e]
  exact if_pos ((ctr_iff c).mpr h)
end DL

namespace DL
open PySem PySem.Spec L2

section
variable {f : Rho → M D} {a b c : Sl} {xs : List D} {r : Rho} {k : Rho → M Fl}
@[simp] theorem ev_app0 : sApp 0 f (.ow xs :: r) = bnd (f (.ow xs :: r)) fun d => asrt (xs.length < sizeLine) (ret (.nx (.ow (xs ++ [d]) :: r))) := ev_app rfl
@[simp] theorem ev_app1 : sApp 1 f (a :: .ow xs :: r) = bnd (f (a :: .ow xs :: r)) fun d => asrt (xs.length < sizeLine) (ret (.nx (a :: .ow (xs ++ [d]) :: r))) := ev_app rfl
@[simp] theorem ev_app2 : sApp 2 f (a :: b :: .ow xs :: r) = bnd (f (a :: b :: .ow xs :: r)) fun d => asrt (xs.length < sizeLine) (ret (.nx (a :: b :: .ow (xs ++ [d]) :: r))) := ev_app rfl
@[simp] theorem ev_pub1 : sPub 1 k (a :: .ow xs :: r) = k (a :: .va (.lst xs) :: r) := ev_pub rfl
@[simp] theorem ev_pub2 : sPub 2 k (a :: b :: .ow xs :: r) = k (a :: b :: .va (.lst xs) :: r) := ev_pub rfl
@[simp] theorem ev_pub4 {d : Sl} : sPub 4 k (a :: b :: c :: d :: .ow xs :: r) = k (a :: b :: c :: d :: .va (.lst xs) :: r) := ev_pub rfl
@[simp] theorem ev_own2 : oOwnNil false 2 (a :: b :: .ow xs :: r) = asrt (okDs xs 50 = true) (ret (.bl (isNilD xs))) := ev_ownNil rfl
end
def goodX : D → Prop
  | .tup [.str _, .str _] => True
  | _ => False
theorem okDs_app (n : Nat) : ∀ (xs ys : List D), okDs (xs ++ ys) n = (okDs xs n && okDs ys n)
  | [], ys => by simp [okDs]
  | x :: xs, ys => by
    show (okD x n && okDs (xs ++ ys) n) = _
    rw [okDs_app n xs ys]
    show _ = ((okD x n && okDs xs n) && okDs ys n)
    rw [Bool.and_assoc]
theorem okLs_app (n : Nat) : ∀ (xs ys : List D), okLs (xs ++ ys) n = (okLs xs n && okLs ys n)
  | [], ys => by simp [okLs]
  | x :: xs, ys => by
    show (okL x n && okLs (xs ++ ys) n) = _
    rw [okLs_app n xs ys]
    show _ = ((okL x n && okLs xs n) && okLs ys n)
    rw [Bool.and_assoc]
theorem okL_num (w : List Nat) (n : Nat) : okL (numR w) n = true := by
  unfold numR
  split <;> (unfold okL; rfl)
theorem okL_nT (n : Nat) : ∀ ks : List TT, okLs (ks.map nT) (n + 1) = true
  | [] => rfl
  | k :: ks => by
    rw [List.map_cons]
    unfold okLs
    rw [okL_nT n ks, Bool.and_true]
    show (decide (2 ≤ 1000000) && (okL (numR k.1) n && (okL (numR k.2) n && true))) = true
    rw [okL_num, okL_num]
    rfl
theorem okL_sT (n : Nat) : ∀ ks : List TT, okLs (ks.map sT) (n + 1) = true
  | [] => rfl
  | k :: ks => by
    rw [List.map_cons]
    unfold okLs
    rw [okL_sT n ks, Bool.and_true]
    rfl
theorem foldR_snoc {ps : List (List Nat)} {s t : RS} (p : List Nat) (h : foldR ps s = some t) : foldR (ps ++ [p]) s = stepR t p := by
  unfold foldR at h ⊢
  rw [List.foldlM_append, h]
  show (List.foldlM stepR t [p]) = _
  rw [List.foldlM_cons]
  cases stepR t p <;> rfl
theorem foldR_none {ps qs : List (List Nat)} {s : RS} (h : foldR ps s = none) : foldR (ps ++ qs) s = none := by
  unfold foldR at h ⊢
  rw [List.foldlM_append, h]
  rfl
theorem read_ev {l : List Nat} (hl : l.length ≤ 100000) (Q : D → Prop) (q : Q (readD (.str l))) : dread_counter P_num (onD ctrD) [.str l] Q := by
  refine ⟨rfl, ?_⟩
  simp only [bread_counter, List.map_cons, List.map_nil, List.replicate, List.cons_append, List.nil_append]
  simp [isStr]
  have hp : ∀ p ∈ TL.spl [59, 32] 0 [] l, p.length ≤ 100000 := fun p hp => by
    have := ((spl_in [59, 32] l 0 []).2 p hp).1
    simp at this
    omega
  have hn : (TL.spl [59, 32] 0 [] l).length ≤ 100001 := by
    have := (spl_in [59, 32] l 0 []).1
    omega
  by_cases hall : l = [97, 108, 108]
  · rw [if_pos hall]
    subst hall
    rw [onD_eq (f := ctrD) (show okL (.tup [.tup [], .tup []]) 40 = true by rfl)]
    exact q
  · rw [if_neg hall]
    refine ⟨by omega, ?_⟩
    have ep : partsOf l = TL.spl [59, 32] 0 [] l := if_neg hall
    have q' : Q (finR (foldR (TL.spl [59, 32] 0 [] l) ([], []))) := by rw [← ep]; exact q
    clear q ep
    generalize TL.spl [59, 32] 0 [] l = ps at hp hn q' ⊢
    have key : ∀ {i : Nat} {rs es : List D}, foldR (ps.take i) ([], []) = some (rs, es) → rs.length ≤ 100001 ∧ es.length ≤ 100001 ∧ okLs rs 38 = true ∧ okLs es 38 = true := by
      intro i rs es h
      obtain ⟨ks, ns, h1, h2, h3, _⟩ := fold_inv h
      simp only [List.nil_append] at h1 h2
      have hlen : (ps.take i).length = ks.length + ns.length := by rw [h3]; simp
      have := List.length_take_le i ps
      have h4 : (ps.take i).length ≤ ps.length := by rw [List.length_take]; omega
      rw [h1, h2, List.length_map, List.length_map]
      exact ⟨by omega, by omega, okL_sT 37 ks, okL_nT 37 ns⟩
    refine forD_inv (fun i ρ => ∃ (rs es : List D) (z3 z4 z5 z6 z7 : Sl), ρ = [.va (.str l), .ow rs, .ow es, z3, z4, z5, z6, z7, .no] ∧ foldR (ps.take i) ([], []) = some (rs, es)) (fun d => d = .non ∧ foldR ps ([], []) = none) _ _ 0 ⟨[], [], _, _, _, _, _, rfl, by simp; rfl⟩ ?_ ?_ ?_
    · rintro j x hj ρ K ⟨rs, es, z3, z4, z5, z6, z7, rfl, hf⟩ k1 k2 k3 k4
      rw [Nat.zero_add] at hf
      rw [List.getElem?_map] at hj
      cases hq : ps[j]? with
      | none => rw [hq] at hj; cases hj
      | some p =>
        rw [hq] at hj
        cases hj
        have hpl := hp p (List.mem_of_getElem? hq)
        obtain ⟨s1, s2, s3, s4⟩ := key hf
        have ht : ps.take (0 + j + 1) = ps.take j ++ [p] := by rw [Nat.zero_add, List.take_add_one, hq]; rfl
        have next : ∀ {rs' es' : List D} {y3 y4 y5 y6 y7 : Sl}, stepR (rs, es) p = some (rs', es') → K (.nx [.va (.str l), .ow rs', .ow es', y3, y4, y5, y6, y7, .no]) := fun h => k1 _ ⟨_, _, _, _, _, _, _, rfl, by rw [ht, foldR_snoc p hf]; exact h⟩
        have stop : stepR (rs, es) p = none → K (.rt .non) := fun h => k4 _ ⟨rfl, by
          have h1 : foldR (ps.take j ++ [p]) ([], []) = none := by rw [foldR_snoc p hf]; exact h
          rw [Nat.zero_add] at ht
          rw [← ht] at h1
          have := foldR_none (qs := ps.drop (j + 1)) h1
          rwa [List.take_append_drop] at this⟩
        have ok2 : okDs es 50 = true := okLs_okDs es 50 (okLs_up es 38 50 (by omega) s4)
        unfold stepR at next stop
        by_cases c1 : p.count 43 = 1
        · obtain ⟨a, b, ha, hb, e⟩ := count_two c1
          by_cases c2 : p.count 32 = 0
          · have et : TL.spl [43] 0 [] p = [a, b] := by rw [e, spl_two ha hb]
            have c2' : 32 ∉ p := List.count_eq_zero.mp c2
            rw [if_pos ⟨c1, c2⟩, et] at next
            have hz : p.length ≤ 16777214 := by omega
            have hz2 : es.length < 16777216 := by omega
            simp [c1, c2, c2', et, hz, hz2, P_num]
            exact next rfl
          · rw [if_neg (fun h => c2 h.2)] at next stop
            have c2' : 32 ∈ p := Classical.byContradiction fun h => c2 (count0 h)
            by_cases c3 : p.count 32 = 1
            · obtain ⟨a, b, ha, hb, e⟩ := count_two c3
              have et : TL.spl [32] 0 [] p = [a, b] := by rw [e, spl_two ha hb]
              have hz : p.length ≤ 16777214 := by omega
              have hz2 : rs.length < 16777216 := by omega
              cases es with
              | nil =>
                rw [if_pos ⟨c3, rfl⟩, et] at next
                simp [c1, c2, c2', c3, et, hz, hz2, okDs, isNilD]
                exact next rfl
              | cons x xs =>
                rw [if_neg (by simp)] at stop
                simp [c1, c2, c2', c3, et, hz, hz2, ok2, isNilD]
                exact stop rfl
            · rw [if_neg (fun h => c3 h.1)] at stop
              have c3i : ¬ ((p.count 32 : Int) = 1) := by omega
              simp [c1, c2, c2', c3i]
              exact stop rfl
        · rw [if_neg (fun h => c1 h.1)] at next stop
          by_cases c3 : p.count 32 = 1
          · obtain ⟨a, b, ha, hb, e⟩ := count_two c3
            have et : TL.spl [32] 0 [] p = [a, b] := by rw [e, spl_two ha hb]
            have hz : p.length ≤ 16777214 := by omega
            have hz2 : rs.length < 16777216 := by omega
            cases es with
            | nil =>
              rw [if_pos ⟨c3, rfl⟩, et] at next
              simp [c1, c3, et, hz, hz2, okDs, isNilD]
              exact next rfl
            | cons x xs =>
              rw [if_neg (by simp)] at stop
              simp [c1, c3, et, hz, hz2, ok2, isNilD]
              exact stop rfl
          · rw [if_neg (fun h => c3 h.1)] at stop
            have c3i : ¬ ((p.count 32 : Int) = 1) := by omega
            have c1i : ¬ ((p.count 43 : Int) = 1) := by omega
            simp [c1i, c3i]
            exact stop rfl
    · rintro ρ' ⟨rs, es, z3, z4, z5, z6, z7, rfl, hf⟩
      obtain ⟨s1, s2, s3, s4⟩ := key hf
      rw [List.length_map, Nat.zero_add, List.take_length] at hf
      rw [hf, finR_some] at q'
      have ok : okL (.tup [.tup rs, .tup es]) 40 = true := by
        simp [okL, okLs, s3, s4]
        omega
      have e := onD_eq (f := ctrD) ok
      simp [e]
      cases hb : ctrD (.tup [.tup rs, .tup es]) with
      | true => simpa [hb] using q'
      | false => simpa [hb] using q'
    · rintro d ⟨rfl, h⟩
      rw [h] at q'
      exact q'
def shortT : D → Prop
  | .str l => l.length ≤ 100000
  | _ => True
def P_read : List D → M D := fun ds => match ds with
  | [d] => asrt (okL d 40 = true ∧ shortT d) (ret (readD d))
  | _ => bad
theorem le_read : ∀ ds Q, P_read ds Q → dread_counter P_num (onD ctrD) ds Q := fun ds Q h => by
  unfold P_read at h
  split at h
  · rename_i d
    obtain ⟨⟨h1, h2⟩, q⟩ := h
    cases d with
    | str l => exact read_ev h2 Q q
    | obj _ _ => cases h1
    | _ => simp [dread_counter, bread_counter, isStr]; exact q
  · exact h.elim
end DL

namespace DL
open PySem PySem.Spec L2

theorem ret_go2 {α : Type} {a : α} {Q : α → Prop} : ret a Q = Q a := rfl
/-! ### a near counter -/
def P_near : List D → M D := fun ds => match ds with
  | [.obj 0 _, d] => ofO (decC d) fun c Q => OkC c ∧ ∀ c' : Ctr, OkC c' → Q (encC c')
  | _ => bad
theorem okW_cut {w : List Nat} (h1 : w ≠ []) (h2 : PySem.NumText.AllDigits w) : okW (w.take 5) := ⟨by
  intro e
  have := List.take_eq_nil_iff.mp e
  rcases this with h | h
  · exact absurd h (by decide)
  · exact h1 h, by rw [List.length_take]; omega, fun c hc => h2 c (List.mem_of_mem_take hc)⟩
theorem uniq_rules (rs : List Rule) : keysOf (rs.map encR) = some (rs.map fun r => [kdL r.kd, r.w]) ∧ ((((uniq (rs.map fun r => [kdL r.kd, r.w])).length : Int) = rs.length) ↔ rs.Nodup) := by
  refine ⟨keys_enc rs, ?_⟩
  have h := uniq_eq_len (l := rs.map fun r => [kdL r.kd, r.w])
  rw [List.length_map] at h
  have e : (rs.map fun r => [kdL r.kd, r.w]).Nodup ↔ rs.Nodup := by
    rw [nodup_map]
    intro a b h
    obtain ⟨k, w⟩ := a
    obtain ⟨j, v⟩ := b
    simp only [List.cons.injEq, and_true] at h
    rw [kdL_inj h.1, h.2]
  rw [← e, ← h]
  omega
theorem near_fin (c : Ctr) (hc : OkC c) (Q : D → Prop) (q : ∀ c' : Ctr, OkC c' → Q (encC c')) (rs : List Rule) (hw : ∀ s ∈ rs, okW s.w) (a0 a2 a4 a5 a6 a7 a8 : Sl) :
    (sRet (cIf (cAnd (tst (c2 oLt (cA (on1 oLen1) (aCons (rd 9) (aNil))) (cst (.int 6)))) (tst (c2 oEq (c1 oLenSet (rd 9)) (cA (on1 oLen1) (aCons (rd 9) (aNil)))))) (cA oTup (aCons (rd 9) (aCons (rd 3) (aNil)))) (rd 1))) [a0, .va (encC c), a2, .va (.tup (c.ext.map encE)), a4, a5, a6, a7, a8, .va (.tup (rs.map encR))] fun fl => flRet fl Q := by
  have hu := uniq_rules rs
  by_cases h6 : rs.length < 6
  · have h6' : (rs.length : Int) < 6 := by omega
    have h64 : rs.length < 64 := by omega
    by_cases hn : rs.Nodup
    · have e := hu.2.mpr hn
      simp [h6', hu.1, h64, e]
      exact q ⟨rs, c.ext⟩ ⟨by show rs.length ≤ 5; omega, hn, hw, hc.ne, hc.up, hc.rg⟩
    · have e : ¬ (((uniq (rs.map fun r => [kdL r.kd, r.w])).length : Int) = rs.length) := fun h => hn (hu.2.mp h)
      simp [h6', hu.1, h64, e]
      exact q c hc
  · have h6' : ¬ (rs.length : Int) < 6 := by omega
    simp [h6']
    exact q c hc
theorem near_tail (c : Ctr) (hc : OkC c) (Q : D → Prop) (q : ∀ c' : Ctr, OkC c' → Q (encC c')) (way r : Int) (w0 : 1 ≤ way) (w1 : way < 5) (r0 : 0 ≤ r) (r1 : r < c.rules.length + 1) (s : Rule) (hs : okW s.w) (a0 a7 a8 a9 : Sl) :
    (sSeq (sSet 9 (c2 oAdd (c2 oAdd (cSl (rd 2) (pNone) (pSome (rd 5))) (cA oTup (aCons (rd 6) (aNil)))) (cSl (rd 2) (pSome (c2 oAdd (rd 5) (c2 oIx (cA oLst (aCons (cst (.int 0)) (aCons (cst (.int 1)) (aNil)))) (cA (on1 oInt1) (aCons (c2 oGt (rd 4) (cst (.int 2))) (aNil)))))) (pNone)))) (sSeq (sSet 9 (cIf (tst (c2 oLt (rd 4) (cst (.int 4)))) (rd 9) (c2 oAdd (cSl (rd 2) (pNone) (pSome (rd 5))) (cSl (rd 2) (pSome (c2 oAdd (rd 5) (cst (.int 1)))) (pNone))))) (sRet (cIf (cAnd (tst (c2 oLt (cA (on1 oLen1) (aCons (rd 9) (aNil))) (cst (.int 6)))) (tst (c2 oEq (c1 oLenSet (rd 9)) (cA (on1 oLen1) (aCons (rd 9) (aNil)))))) (cA oTup (aCons (rd 9) (aCons (rd 3) (aNil)))) (rd 1))))) [a0, .va (encC c), .va (.tup (c.rules.map encR)), .va (.tup (c.ext.map encE)), .va (.int way), .va (.int r), .va (encR s), a7, a8, a9] fun fl => flRet fl Q := by
  obtain ⟨n, rfl⟩ := Int.eq_ofNat_of_zero_le r0
  have h5 := hc.nr
  have e1 : cut (c.rules.map encR) none (some (n : Int)) = (c.rules.take n).map encR := by rw [cut_none, List.map_take]
  have e2 : cut (c.rules.map encR) (some (n : Int)) none = (c.rules.drop n).map encR := by rw [cut_from, List.map_drop]
  have e3 : cut (c.rules.map encR) (some ((n : Int) + 1)) none = (c.rules.drop (n + 1)).map encR := by rw [show (n : Int) + 1 = ((n + 1 : Nat) : Int) by omega, cut_from, List.map_drop]
  have l1 := List.length_take_le n c.rules
  have l2 : (c.rules.take n).length ≤ 5 := by rw [List.length_take]; omega
  have l3 : (c.rules.drop n).length ≤ 5 := by rw [List.length_drop]; omega
  have l4 : (c.rules.drop (n + 1)).length ≤ 5 := by rw [List.length_drop]; omega
  have m1 : ∀ (b : Nat), ∀ t ∈ c.rules.take n ++ s :: c.rules.drop b, okW t.w := fun b t ht => by
    rcases List.mem_append.mp ht with h | h
    · exact hc.wd t (List.mem_of_mem_take h)
    · rcases List.mem_cons.mp h with h | h
      · rw [h]; exact hs
      · exact hc.wd t (List.mem_of_mem_drop h)
  have m2 : ∀ t ∈ c.rules.take n ++ c.rules.drop (n + 1), okW t.w := fun t ht => by
    rcases List.mem_append.mp ht with h | h
    · exact hc.wd t (List.mem_of_mem_take h)
    · exact hc.wd t (List.mem_of_mem_drop h)
  have f1 := near_fin c hc Q q _ (m1 n)
  have f2 := near_fin c hc Q q _ (m1 (n + 1))
  have f3 := near_fin c hc Q q _ m2
  simp only [List.map_append, List.map_cons] at f1 f2 f3
  generalize hf : (sRet (cIf (cAnd (tst (c2 oLt (cA (on1 oLen1) (aCons (rd 9) (aNil))) (cst (.int 6)))) (tst (c2 oEq (c1 oLenSet (rd 9)) (cA (on1 oLen1) (aCons (rd 9) (aNil)))))) (cA oTup (aCons (rd 9) (aCons (rd 3) (aNil)))) (rd 1))) = fin at f1 f2 f3 ⊢
  generalize (c.rules.take n) = ta at *
  generalize (c.rules.drop n) = dr at *
  generalize (c.rules.drop (n + 1)) = dr1 at *
  have z1 : ta.length ≤ 16777215 := by omega
  have z2 : ta.length + 1 + dr.length ≤ 16777216 := by omega
  have z3 : ta.length + 1 + dr1.length ≤ 16777216 := by omega
  have z4 : ta.length + dr1.length ≤ 16777216 := by omega
  rcases (by omega : way = 1 ∨ way = 2 ∨ way = 3 ∨ way = 4) with h | h | h | h <;> subst h <;> simp [e1, e2, e3, z1, z2, z3, z4]
  · exact f1 ..
  · exact f1 ..
  · exact f2 ..
  · exact f3 ..
theorem near_ev (xs : List D) (c : Ctr) (hc : OkC c) (Q : D → Prop) (q : ∀ c' : Ctr, OkC c' → Q (encC c')) : d_law_near P_draw P_rule [.obj 0 xs, encC c] Q := by
  have tail := near_tail c hc Q q
  have h5 := hc.nr
  refine ⟨rfl, ?_⟩
  simp only [b_law_near, List.map_cons, List.map_nil, List.replicate, List.cons_append, List.nil_append]
  generalize hT : (sSeq (sSet 9 _) _ : Rho → M Fl) = tl
  rw [hT] at tail
  have erev : (c.rules.map encR).reverse = c.rules.reverse.map encR := by rw [List.map_reverse]
  have qrev : Q (.tup [.tup (c.rules.map encR).reverse, .tup (c.ext.map encE)]) := by
    rw [erev]
    exact q ⟨c.rules.reverse, c.ext⟩ ⟨by simpa using h5, List.pairwise_reverse.mpr (hc.nd.imp fun h => Ne.symm h), fun s hs => hc.wd s (by simpa using hs), hc.ne, hc.up, hc.rg⟩
  unfold encC at tail ⊢
  simp
  intro way w0 w1
  split
  · exact qrev
  · rename_i hw
    refine ⟨by omega, fun r r0 r1 s hs => ?_⟩
    split
    · refine ⟨.inr ⟨okD_rules 58 _, rfl⟩, ?_⟩
      split
      · exact tail way r (by omega) w1 r0 r1 s hs _ _ _ _
      · rename_i hne
        have hpos : 0 < c.rules.length := by
          cases hr : c.rules with
          | nil => rw [hr] at hne; exact absurd rfl hne
          | cons a b => simp
        refine ⟨⟨hpos, by omega⟩, fun r2 a0 a1 => ?_⟩
        obtain ⟨x, hx, ex⟩ := pick (xs := c.rules.map encR) a0 (by simpa using a1)
        obtain ⟨t, ht, rfl⟩ := List.mem_map.mp hx
        have hwt := hc.wd t ht
        have l5 := hwt.2.1
        refine ofO_go ex ?_
        have c5 : ∀ l : List Nat, cut l none (some 5) = l.take 5 := fun l => cut_none l 5
        have t1 := tail way r (by omega) w1 r0 r1 ⟨t.kd, (55 :: t.w).take 5⟩ (okW_cut (by simp) fun d hd => by
          rcases List.mem_cons.mp hd with h | h
          · rw [h]; decide
          · exact hwt.2.2 d h)
        have t2 := tail way r (by omega) w1 r0 r1 ⟨t.kd, (t.w ++ [48, 55]).take 5⟩ (okW_cut (by simp) fun d hd => by
          rcases List.mem_append.mp hd with h | h
          · exact hwt.2.2 d h
          · simp only [List.mem_cons, List.not_mem_nil, or_false] at h
            rcases h with h | h <;> rw [h] <;> decide)
        unfold encR at t1 t2 ⊢
        have g1 : t.w.length ≤ 16777215 := by omega
        have g2 : t.w.length ≤ 16777214 := by omega
        simp [c5, g1, g2]
        split
        · exact ⟨by omega, t1 _ _ _ _⟩
        · exact t2 _ _ _ _
    · exact tail way r (by omega) w1 r0 r1 s hs _ _ _ _
theorem le_near : ∀ ds Q, P_near ds Q → d_law_near P_draw P_rule ds Q := fun ds Q h => by
  unfold P_near at h
  split at h
  · obtain ⟨c, e, hc, q⟩ := ofO_get h
    rw [decC_inv e]
    exact near_ev _ c hc Q q
  · exact h.elim
end DL

namespace DL
open PySem PySem.Spec L2

@[simp] theorem ev_app3 {f : Rho → M D} {a b c : Sl} {xs : List D} {r : Rho} : sApp 3 f (a :: b :: c :: .ow xs :: r) = bnd (f (a :: b :: c :: .ow xs :: r)) fun d => asrt (xs.length < sizeLine) (ret (.nx (a :: b :: c :: .ow (xs ++ [d]) :: r))) := ev_app rfl
/-! ### fitting -/
def fitsC (c : Ctr) (ns ms : List Int) : Bool := (ns.all fun n => shownL c (TL.numL n.toNat)) && !(ms.any fun n => shownL c (TL.numL n.toNat))
def posA (ns ms : List Int) : List Ctr → Nat → List Int
  | [], _ => []
  | c :: cs, i => (if fitsC c ns ms = true then [(i : Int)] else []) ++ posA ns ms cs (i + 1)
theorem posA_app (ns ms : List Int) (c : Ctr) : ∀ (cs : List Ctr) (i : Nat), posA ns ms (cs ++ [c]) i = posA ns ms cs i ++ if fitsC c ns ms = true then [((i + cs.length : Nat) : Int)] else []
  | [], i => by
    show (if _ then _ else _) ++ posA ns ms [] (i + 1) = _
    simp [posA]
  | x :: cs, i => by
    show (if _ then _ else _) ++ posA ns ms (cs ++ [c]) (i + 1) = ((if _ then _ else _) ++ posA ns ms cs (i + 1)) ++ _
    rw [posA_app ns ms c cs (i + 1), List.append_assoc, List.length_cons, show i + 1 + cs.length = i + (cs.length + 1) by omega]
theorem posA_len (ns ms : List Int) : ∀ (cs : List Ctr) (i : Nat), (posA ns ms cs i).length ≤ cs.length
  | [], _ => Nat.le_refl _
  | x :: cs, i => by
    have := posA_len ns ms cs (i + 1)
    unfold posA
    rw [List.length_append, List.length_cons]
    split <;> simp <;> omega
def posL (cs : List Ctr) (ns ms : List Int) : List Int := posA ns ms cs 0
theorem posL_take {cs : List Ctr} {ns ms : List Int} {j : Nat} {c : Ctr} (h : cs[j]? = some c) : posL (cs.take (j + 1)) ns ms = posL (cs.take j) ns ms ++ if fitsC c ns ms = true then [(j : Int)] else [] := by
  have hj := (List.getElem?_eq_some_iff.mp h).1
  have l1 : (cs.take j).length = j := by rw [List.length_take]; omega
  unfold posL
  rw [List.take_add_one, h]
  show posA ns ms (cs.take j ++ [c]) 0 = _
  rw [posA_app, l1, Nat.zero_add]
def numsOf : List D → Option (List Int) := intsOf
def okN (n : Int) : Prop := 0 ≤ n ∧ n < strMost
def P_fitting : List D → M D := fun ds => match ds with
  | [.tup cs, .tup ns, .tup ms] => ofO (decs decC cs) fun c => ofO (intsOf ns) fun n => ofO (intsOf ms) fun m => asrt (c.length ≤ 1000 ∧ (∀ x ∈ n, okN x) ∧ ∀ x ∈ m, okN x) (ret (.lst ((posL c n m).map .int)))
  | _ => bad
theorem posL_len (cs : List Ctr) (ns ms : List Int) : (posL cs ns ms).length ≤ cs.length := posA_len ns ms cs 0
theorem shown_lc {c : Ctr} {a b e z f g : Sl} {ns : List Int} (h : ∀ x ∈ ns, okN x) : lcD (lcStep (gN 7) tYesD (cA P_shown (aCons (rd 5) (aCons (rd 7) aNil))) [a, b, e, z, f, .va (encC c), g, .no]) (ns.map .int) = ret (ns.map fun n => .bl (shownL c (TL.numL n.toNat))) :=
  lcD_mapE (e := D.int) fun n hn => by simp [P_shown_eq c n (h n hn)]
theorem fitting_ev (cs : List Ctr) (ns ms : List Int) (hc : cs.length ≤ 1000) (hn : ∀ x ∈ ns, okN x) (hm : ∀ x ∈ ms, okN x) (Q : D → Prop) (q : Q (.lst ((posL cs ns ms).map .int))) : dfitting P_shown [.tup (cs.map encC), .tup (ns.map .int), .tup (ms.map .int)] Q := by
  refine ⟨rfl, ?_⟩
  simp only [bfitting, List.map_cons, List.map_nil, List.replicate, List.cons_append, List.nil_append]
  simp [ev_sOwn]
  have hl : (numbered (cs.map encC)).length = cs.length := by rw [numbered_len, List.length_map]
  refine forD_inv (fun i ρ => ∃ z4 z5 z6 : Sl, ρ = [.va (.tup (cs.map encC)), .va (.tup (ns.map .int)), .va (.tup (ms.map .int)), .ow ((posL (cs.take i) ns ms).map .int), z4, z5, z6, .no]) (fun _ => False) _ _ 0 ⟨_, _, _, rfl⟩ ?_ ?_ fun d h => h.elim
  · rintro j x hj ρ K ⟨z4, z5, z6, rfl⟩ k1 k2 k3 k4
    have hjl : j < cs.length := by
      have := (List.getElem?_eq_some_iff.mp hj).1
      omega
    obtain ⟨c, ec⟩ : ∃ c, cs[j]? = some c := ⟨_, List.getElem?_eq_getElem hjl⟩
    rw [numbered_at (d := encC c) (by rw [List.getElem?_map, ec]; rfl)] at hj
    cases hj
    have ep := posL_take (ns := ns) (ms := ms) ec
    have lp : (posL (cs.take (0 + j)) ns ms).length < 16777216 := by
      have := posL_len (cs.take (0 + j)) ns ms
      have := List.length_take_le (0 + j) cs
      omega
    simp only [Nat.zero_add] at *
    obtain ⟨bs, hb, e1⟩ : ∃ bs : List Bool, bs.all id = (ns.all fun n => shownL c (TL.numL n.toNat)) ∧ ∀ (a b e z f g : Sl), lcD (lcStep (gN 7) tYesD (cA P_shown (aCons (rd 5) (aCons (rd 7) aNil))) [a, b, e, z, f, .va (encC c), g, .no]) (ns.map .int) = ret (bs.map .bl) :=
      ⟨ns.map fun n => shownL c (TL.numL n.toNat), by rw [List.all_map]; rfl, fun a b e z f g => by rw [shown_lc hn, List.map_map]; rfl⟩
    obtain ⟨bs2, hb2, e2⟩ : ∃ bs : List Bool, bs.any id = (ms.any fun n => shownL c (TL.numL n.toNat)) ∧ ∀ (a b e z f g : Sl), lcD (lcStep (gN 7) tYesD (cA P_shown (aCons (rd 5) (aCons (rd 7) aNil))) [a, b, e, z, f, .va (encC c), g, .no]) (ms.map .int) = ret (bs.map .bl) :=
      ⟨ms.map fun n => shownL c (TL.numL n.toNat), by rw [List.any_map]; rfl, fun a b e z f g => by rw [shown_lc hm, List.map_map]; rfl⟩
    have ef : fitsC c ns ms = (bs.all id && !bs2.any id) := by rw [hb, hb2]; rfl
    rw [ef] at ep
    simp only [ep] at k1
    have k0 : ∀ z4 z5 z6 : Sl, (bs.all id && !bs2.any id) = false → K (.nx [.va (.tup (cs.map encC)), .va (.tup (ns.map .int)), .va (.tup (ms.map .int)), .ow ((posL (cs.take j) ns ms).map .int), z4, z5, z6, .no]) := fun z4 z5 z6 h => by
      have := k1 _ ⟨z4, z5, z6, rfl⟩
      rw [if_neg (by rw [h]; decide), List.append_nil] at this
      exact this
    have k9 : ∀ z4 z5 z6 : Sl, (bs.all id && !bs2.any id) = true → K (.nx [.va (.tup (cs.map encC)), .va (.tup (ns.map .int)), .va (.tup (ms.map .int)), .ow ((posL (cs.take j) ns ms).map .int ++ [.int j]), z4, z5, z6, .no]) := fun z4 z5 z6 h => by
      have := k1 _ ⟨z4, z5, z6, rfl⟩
      rw [if_pos h, List.map_append] at this
      exact this
    generalize (posL (cs.take j) ns ms) = ps at *
    simp [e1]
    by_cases h1 : false ∈ bs
    · have h2 : bs.all id = false := by simp [h1]
      simp [h1]
      exact k0 _ _ _ (by rw [h2]; rfl)
    · have h2 : bs.all id = true := by simp [h1]
      simp [h1, e2]
      by_cases h3 : true ∈ bs2
      · have h4 : bs2.any id = true := by simp [h3]
        simp [h3]
        exact k0 _ _ _ (by rw [h2, h4]; rfl)
      · have h4 : bs2.any id = false := by simp [h3]
        simp [h3, lp]
        exact k9 _ _ _ (by rw [h2, h4]; rfl)
  · rintro ρ' ⟨z4, z5, z6, rfl⟩
    rw [hl, Nat.zero_add, List.take_length]
    simp
    exact q
theorem le_fitting : ∀ ds Q, P_fitting ds Q → dfitting P_shown ds Q := fun ds Q h => by
  unfold P_fitting at h
  split at h
  · obtain ⟨c, e1, h⟩ := ofO_get h
    obtain ⟨n, e2, h⟩ := ofO_get h
    obtain ⟨m, e3, ⟨h1, h2, h3⟩, q⟩ := ofO_get h
    rw [decs_inv decC_inv e1, intsOf_inv e2, intsOf_inv e3]
    exact fitting_ev c n m h1 h2 h3 Q q
  · exact h.elim
end DL

namespace DL
open PySem PySem.Spec L2
/-! ### likeness of plain data -/
theorem rt_go {α : Type} {a : α} {Q : α → Prop} : ret a Q = Q a := rfl
theorem lkDs_map {α : Type} {f : α → D} (h : ∀ x, likeD (f x) (f x) = true) : ∀ xs : List α, likeDs (xs.map f) (xs.map f) = true
  | [] => rfl
  | x :: xs => by
    show (likeD (f x) (f x) && likeDs (xs.map f) (xs.map f)) = true
    rw [h x, lkDs_map h xs]
    rfl
theorem lk_int (n : Int) : likeD (.int n) (.int n) = true := by
  show (true && (n == n)) = true
  rw [beq_self_eq_true]
  rfl
theorem lk_str (l : List Nat) : likeD (.str l) (.str l) = true := by
  show (true && (l == l)) = true
  rw [beq_self_eq_true]
  rfl
theorem okLs_all {n : Nat} : ∀ {ds : List D}, (∀ d ∈ ds, okL d n = true) → okLs ds n = true
  | [], _ => rfl
  | d :: ds, h => by
    unfold okLs
    rw [h d List.mem_cons_self, okLs_all fun x hx => h x (List.mem_cons_of_mem _ hx)]
    rfl
theorem like_intL {ns : List Int} (h : ns.length ≤ 1000000) : likeN 8 [.lst (ns.map .int), .lst (ns.map .int)] = ret (.bl true) := by
  have e1 : okL (.lst (ns.map .int)) 7 = true := by
    have : okLs (ns.map .int) 6 = true := okLs_all fun d hd => by
      obtain ⟨n, _, rfl⟩ := List.mem_map.mp hd
      rfl
    simp [okL, this]
    omega
  rw [like_ev 7 _ _ (by decide) e1 e1]
  have e2 : likeD (.lst (ns.map .int)) (.lst (ns.map .int)) = true := lkDs_map lk_int ns
  rw [e2]
theorem like_intI (n m : Int) : likeN 8 [.int n, .int m] = ret (.bl (n == m)) := by
  rw [like_ev 7 _ _ (by decide) rfl rfl]
  show ret (D.bl (true && (n == m))) = _
  rw [Bool.true_and]
end DL

namespace DL
open PySem PySem.Spec L2

@[simp] theorem ev_app12 {f : Rho → M D} {a b c d e g h i j k l m : Sl} {xs : List D} {r : Rho} : sApp 12 f (a :: b :: c :: d :: e :: g :: h :: i :: j :: k :: l :: m :: .ow xs :: r) = bnd (f (a :: b :: c :: d :: e :: g :: h :: i :: j :: k :: l :: m :: .ow xs :: r)) fun d' => asrt (xs.length < sizeLine) (ret (.nx (a :: b :: c :: d :: e :: g :: h :: i :: j :: k :: l :: m :: .ow (xs ++ [d']) :: r))) := ev_app rfl
@[simp] theorem ev_ext15 {f : Rho → M D} {a b c d e g h i j k l m n o p : Sl} {xs : List D} {r : Rho} : sExt 15 f (a :: b :: c :: d :: e :: g :: h :: i :: j :: k :: l :: m :: n :: o :: p :: .ow xs :: r) = bnd (f (a :: b :: c :: d :: e :: g :: h :: i :: j :: k :: l :: m :: n :: o :: p :: .ow xs :: r)) fun e' => match e' with
    | .lst zs => asrt (xs.length + zs.length ≤ sizeLine) (ret (.nx (a :: b :: c :: d :: e :: g :: h :: i :: j :: k :: l :: m :: n :: o :: p :: .ow (xs ++ zs) :: r)))
    | _ => bad := ev_ext rfl
theorem P_fitting_eq {cs : List Ctr} {ns ms : List Int} (hc : cs.length ≤ 1000) (hn : ∀ x ∈ ns, okN x) (hm : ∀ x ∈ ms, okN x) : P_fitting [.tup (cs.map encC), .tup (ns.map .int), .tup (ms.map .int)] = ret (.lst ((posL cs ns ms).map .int)) := by
  show ofO (decs decC (cs.map encC)) _ = _
  rw [decs_enc decC_enc, ofO_some]
  show ofO (intsOf (ns.map .int)) _ = _
  rw [intsOf_map, ofO_some]
  show ofO (intsOf (ms.map .int)) _ = _
  rw [intsOf_map, ofO_some, asrt_pos ⟨hc, hn, hm⟩]
theorem sc_num {n : Nat} (h : n < 10 ^ 40) : (0 : Int) ≤ (n : Int) ∧ (n : Int) < strMost := by have := most40; omega
theorem ne_words {c : Ctr} (h : OkC c) : ∀ r ∈ c.rules, r.w ≠ [] := fun r hr => (h.wd r hr).1
theorem AD_cons5 {w : List Nat} (h : okW w) : okN ((PySem.NumText.digitsVal (53 :: w) : Nat) : Int) ∧ PySem.NumText.AllDigits (53 :: w) := by
  have ad : PySem.NumText.AllDigits (53 :: w) := fun c hc => by
    rcases List.mem_cons.mp hc with e | e
    · rw [e]; decide
    · exact h.2.2 c e
  exact ⟨int_small ad (by rw [List.length_cons]; have := h.2.1; omega), ad⟩
theorem filt_ints (p : Int → Bool) (ns : List Int) : lcD (fun d => match d with
  | .int n => ret (if p n = true then some (.int n) else none)
  | _ => bad) (ns.map .int) = ret ((ns.filter p).map .int) := lcD_filtE fun n _ => rfl
theorem wrong_nil {c : Ctr} {ns ms : List Int} : isNilD (((ns.filter fun n => !shownL c (TL.numL n.toNat)).map D.int) ++ ((ms.filter fun n => shownL c (TL.numL n.toNat)).map D.int)) = fitsC c ns ms := by
  unfold fitsC
  have e1 : ∀ (p : Int → Bool) (l : List Int), (l.filter p = []) ↔ l.any p = false := fun p l => by simp
  cases h1 : (ns.filter fun n => !shownL c (TL.numL n.toNat)) with
  | nil =>
    have h1' : (ns.all fun n => shownL c (TL.numL n.toNat)) = true := by
      rw [List.filter_eq_nil_iff] at h1
      rw [List.all_eq_true]
      intro n hn
      have := h1 n hn
      simpa using this
    rw [h1']
    cases h2 : (ms.filter fun n => shownL c (TL.numL n.toNat)) with
    | nil =>
      rw [(e1 _ _).mp h2]
      rfl
    | cons a b =>
      have : (ms.any fun n => shownL c (TL.numL n.toNat)) = true := by
        cases h3 : (ms.any fun n => shownL c (TL.numL n.toNat)) with
        | true => rfl
        | false => rw [(e1 _ _).mpr h3] at h2; cases h2
      rw [this]
      rfl
  | cons a b =>
    have : (ns.all fun n => shownL c (TL.numL n.toNat)) = false := by
      cases h3 : (ns.all fun n => shownL c (TL.numL n.toNat)) with
      | false => rfl
      | true =>
        rw [List.all_eq_true] at h3
        have hm : a ∈ (ns.filter fun n => !shownL c (TL.numL n.toNat)) := by rw [h1]; exact List.mem_cons_self
        obtain ⟨m1, m2⟩ := List.mem_filter.mp hm
        rw [h3 a m1] at m2
        cases m2
    rw [this]
    rfl
theorem law23 (ns : List Int) : lawD 14 (blawk23 P_counter P_draw P_near P_number P_lawShown P_fitting (likeN 8)) ns fun d => d = .bl true := by
  refine law_go (seq_go (for_go (rngD 0 10) (rng_go (n := 10) (fun K k => k) (by decide)) ?_))
  generalize rngD 0 10 = xs
  refine forD_keep (fun ρ => ∃ a2 a3 a4 a5 a6 a7 a8 a9 a10 a11 a12 a13 a14 a15 : Sl, ρ = [.no, .va (.obj 0 (ns.map .int)), a2, a3, a4, a5, a6, a7, a8, a9, a10, a11, a12, a13, a14, a15]) (fun _ => False) _ _ ⟨.no, .no, .no, .no, .no, .no, .no, .no, .no, .no, .no, .no, .no, .no, rfl⟩ (fun x hx ρ K ⟨a2, a3, a4, a5, a6, a7, a8, a9, a10, a11, a12, a13, a14, a15, hρ⟩ k1 k2 k3 k4 => ?_) (fun ρ' ⟨a2, a3, a4, a5, a6, a7, a8, a9, a10, a11, a12, a13, a14, a15, hρ⟩ => ?_) fun d h => h.elim
  · subst hρ
    simp
    intro c hc r r0 r1
    obtain ⟨m, rfl⟩ := Int.eq_ofNat_of_zero_le r0
    have hm : m ≤ 6 := by omega
    refine ⟨okRng0 (Nat.le_trans hm (by decide)), ?_⟩
    have start : ∃ (cs : List Ctr) (z7 : Sl), [Sl.no, Sl.va (.obj 0 (ns.map .int)), Sl.va x, Sl.va (encC c), Sl.va (.tup []), Sl.va (.tup []), Sl.va (.tup [encC c]), a7, a8, a9, a10, a11, a12, a13, a14, a15] = [Sl.no, Sl.va (.obj 0 (ns.map .int)), Sl.va x, Sl.va (encC c), Sl.va (.tup []), Sl.va (.tup []), Sl.va (.tup (cs.map encC)), z7, a8, a9, a10, a11, a12, a13, a14, a15] ∧ cs.length = 1 + 0 ∧ ∀ c ∈ cs, OkC c :=
      ⟨[c], _, rfl, rfl, fun d hd => by rw [List.mem_singleton.mp hd]; exact hc⟩
    refine forD_inv (fun i ρ => ∃ (cs : List Ctr) (z7 : Sl), ρ = [Sl.no, Sl.va (.obj 0 (ns.map .int)), Sl.va x, Sl.va (encC c), Sl.va (.tup []), Sl.va (.tup []), Sl.va (.tup (cs.map encC)), z7, a8, a9, a10, a11, a12, a13, a14, a15] ∧ cs.length = 1 + i ∧ ∀ c ∈ cs, OkC c) (fun _ => False) _ _ 0 start ?_ ?_ fun d h => h.elim
    · rintro j y hj ρ K2 ⟨cs, z7, rfl, hl, hok⟩ q1 q2 q3 q4
      have hj6 : j < 6 := by
        have := (List.getElem?_eq_some_iff.mp hj).1
        rw [rng_len] at this
        omega
      simp
      refine ⟨by omega, fun r r0 r1 => ?_⟩
      obtain ⟨w, hw, ew⟩ := pick (xs := cs.map encC) r0 (by simpa using r1)
      obtain ⟨c1, hc1, rfl⟩ := List.mem_map.mp hw
      refine ofO_go ew ?_
      show ofO (decC (encC c1)) _ _
      rw [decC_enc]
      refine ⟨hok c1 hc1, fun c' hc' => ?_⟩
      refine ⟨by omega, ?_⟩
      refine q1 _ ⟨cs ++ [c'], _, by rw [List.map_append]; rfl, by rw [List.length_append]; simp; omega, fun d hd => ?_⟩
      rcases List.mem_append.mp hd with h | h
      · exact hok d h
      · rw [List.mem_singleton.mp h]; exact hc'
    · rintro ρ' ⟨cs, z7, rfl, hl, hok⟩
      rw [rng_len] at hl
      simp
      intro r r0 r1
      obtain ⟨m2, rfl⟩ := Int.eq_ofNat_of_zero_le r0
      have hm2 : m2 ≤ 8 := by omega
      refine ⟨okRng0 (Nat.le_trans hm2 (by decide)), ?_⟩
      have start : ∃ (as bs : List Int) (y7 z8 z9 z10 z11 : Sl), [Sl.no, Sl.va (.obj 0 (ns.map .int)), Sl.va x, Sl.va (encC c), Sl.va (.tup []), Sl.va (.tup []), Sl.va (.tup (cs.map encC)), z7, a8, a9, a10, a11, a12, a13, a14, a15] = [Sl.no, Sl.va (.obj 0 (ns.map .int)), Sl.va x, Sl.va (encC c), Sl.va (.tup (as.map .int)), Sl.va (.tup (bs.map .int)), Sl.va (.tup (cs.map encC)), y7, z8, z9, z10, z11, a12, a13, a14, a15] ∧ as.length ≤ 0 ∧ bs.length ≤ 0 ∧ (∀ n ∈ as, okN n) ∧ ∀ n ∈ bs, okN n :=
        ⟨[], [], _, _, _, _, _, rfl, Nat.le_refl _, Nat.le_refl _, (fun _ h => by cases h), (fun _ h => by cases h)⟩
      refine forD_inv (fun i ρ => ∃ (as bs : List Int) (z7 z8 z9 z10 z11 : Sl), ρ = [Sl.no, Sl.va (.obj 0 (ns.map .int)), Sl.va x, Sl.va (encC c), Sl.va (.tup (as.map .int)), Sl.va (.tup (bs.map .int)), Sl.va (.tup (cs.map encC)), z7, z8, z9, z10, z11, a12, a13, a14, a15] ∧ as.length ≤ i ∧ bs.length ≤ i ∧ (∀ n ∈ as, okN n) ∧ ∀ n ∈ bs, okN n) (fun _ => False) _ _ 0 start ?_ ?_ fun d h => h.elim
      · rintro j y hj ρ K2 ⟨as, bs, z7, z8, z9, z10, z11, rfl, hla, hlb, hoa, hob⟩ q1 q2 q3 q4
        have hj8 : j < 8 := by
          have := (List.getElem?_eq_some_iff.mp hj).1
          rw [rng_len] at this
          omega
        simp
        intro v1 v10 v11 n hn1 hn2 v2 v20 v21
        have fin : ∀ (n : Int) (w7 w9 w10 : Sl), okN n → bnd (ret (Fl.nx [Sl.no, Sl.va (.obj 0 (ns.map .int)), Sl.va x, Sl.va (encC c), Sl.va (.tup (as.map .int)), Sl.va (.tup (bs.map .int)), Sl.va (.tup (cs.map encC)), w7, Sl.va (.int n), w9, w10, z11, a12, a13, a14, a15])) (fthen (sSeq
                            (sSet 11
                              (c2 oNe (cA P_lawShown (aCons (rd 3) (aCons (rd 8) aNil)))
                                (c2 oEq (cA P_draw (aCons (rd 1) (aCons (cst (D.int 20)) aNil))) (cst (D.int 0)))))
                            (sPar 4 5
                              (aCons (c2 oAdd (rd 4) (cIf (tst (rd 11)) (cA oTup (aCons (rd 8) aNil)) (cA oTup aNil)))
                                (aCons (c2 oAdd (rd 5) (cIf (tst (rd 11)) (cA oTup aNil) (cA oTup (aCons (rd 8) aNil))))
                                  aNil))))) K2 := by
          intro n w7 w9 w10 hn
          have eS := P_lawShown_eq c n ⟨hn, ne_words hc⟩
          have z1 : as.length ≤ 16777215 := by omega
          have z2 : bs.length ≤ 16777215 := by omega
          have z3 : as.length ≤ 16777216 := by omega
          have z4 : bs.length ≤ 16777216 := by omega
          have g1 : ∀ w11 : Sl, K2 (.nx [Sl.no, Sl.va (.obj 0 (ns.map .int)), Sl.va x, Sl.va (encC c), Sl.va (.tup (as.map .int ++ [.int n])), Sl.va (.tup (bs.map .int)), Sl.va (.tup (cs.map encC)), w7, Sl.va (.int n), w9, w10, w11, a12, a13, a14, a15]) := fun w11 => q1 _ ⟨as ++ [n], bs, _, _, _, _, _, by rw [List.map_append]; rfl, by rw [List.length_append]; simp; omega, by omega, fun m hm => by
            rcases List.mem_append.mp hm with h | h
            · exact hoa m h
            · rw [List.mem_singleton.mp h]; exact hn, hob⟩
          have g2 : ∀ w11 : Sl, K2 (.nx [Sl.no, Sl.va (.obj 0 (ns.map .int)), Sl.va x, Sl.va (encC c), Sl.va (.tup (as.map .int)), Sl.va (.tup (bs.map .int ++ [.int n])), Sl.va (.tup (cs.map encC)), w7, Sl.va (.int n), w9, w10, w11, a12, a13, a14, a15]) := fun w11 => q1 _ ⟨as, bs ++ [n], _, _, _, _, _, by rw [List.map_append]; rfl, by omega, by rw [List.length_append]; simp; omega, hoa, fun m hm => by
            rcases List.mem_append.mp hm with h | h
            · exact hob m h
            · rw [List.mem_singleton.mp h]; exact hn⟩
          generalize shownL c (TL.numL n.toNat) = sh at eS
          simp [eS]
          intro r r0 r1
          generalize (r == 0) = rb
          cases sh <;> cases rb <;> simp [z1, z2, z3, z4]
          · exact g2 _
          · exact g1 _
          · exact g1 _
          · exact g2 _
        have hn40 := sc_num hn2
        have go : ∀ (n0 : Int) (y7 : Sl), okN n0 → forD (gTn 2 (gsCons (gN 9) (gsCons (gN 10) gsNil)))
            (sSet 8
              (cIf (tst (c2 oEq (cA P_draw (aCons (rd 1) (aCons (cst (D.int 3)) aNil))) (cst (D.int 0))))
                (cA (on1 oInt1) (aCons (c2 oAdd (cst (D.str [53])) (rd 10)) aNil)) (rd 8)))
            (cut (List.map encR c.rules) none (some 1)) [Sl.no, Sl.va (.obj 0 (ns.map .int)), Sl.va x, Sl.va (encC c), Sl.va (.tup (as.map .int)), Sl.va (.tup (bs.map .int)), Sl.va (.tup (cs.map encC)), y7, Sl.va (.int n0), z9, z10, z11, a12, a13, a14, a15] (fun a => fthen (sSeq
                            (sSet 11
                              (c2 oNe (cA P_lawShown (aCons (rd 3) (aCons (rd 8) aNil)))
                                (c2 oEq (cA P_draw (aCons (rd 1) (aCons (cst (D.int 20)) aNil))) (cst (D.int 0)))))
                            (sPar 4 5
                              (aCons (c2 oAdd (rd 4) (cIf (tst (rd 11)) (cA oTup (aCons (rd 8) aNil)) (cA oTup aNil)))
                                (aCons (c2 oAdd (rd 5) (cIf (tst (rd 11)) (cA oTup aNil) (cA oTup (aCons (rd 8) aNil))))
                                  aNil)))) a K2) := by
          intro n0 y7 h0
          have e1 : cut (List.map encR c.rules) none (some 1) = (c.rules.take 1).map encR := by rw [List.map_take]; exact cut_none _ 1
          rw [e1]
          have hw : ∀ r ∈ c.rules, okW r.w := hc.wd
          cases hr : c.rules with
          | nil => exact fin n0 _ _ _ h0
          | cons r rs =>
            have hwr := hw r (by rw [hr]; exact List.mem_cons_self)
            obtain ⟨f1, f2⟩ := AD_cons5 hwr
            have f3 := hwr.2.1
            show forD _ _ [encR r] _ _
            generalize hg : (fthen _ : Fl → M Fl) = gg at fin ⊢
            unfold encR
            show (bnd (_ : M Rho) _ : M Fl) _
            simp
            intro u u0 u1
            split
            · refine ⟨by omega, ⟨f2, by omega⟩, ?_⟩
              rw [← hg] at *
              exact fin _ _ _ _ f1
            · rw [← hg] at *
              exact fin _ _ _ _ h0
        rcases (by omega : v2 = 0 ∨ v2 = 1) with h | h <;> subst h
        · exact ofO_go (at0 _ _) (go _ _ ⟨by omega, by have := most40; omega⟩)
        · exact ofO_go (at1 _ _ _) (go _ _ hn40)
      · rintro ρ' ⟨as, bs, z7, z8, z9, z10, z11, rfl, hla, hlb, hoa, hob⟩
        rw [rng_len] at hla hlb
        simp [ev_sOwn]
        have hlc : cs.length ≤ 7 := by omega
        have hl : (numbered (cs.map encC)).length = cs.length := by rw [numbered_len, List.length_map]
        refine forD_inv (fun i ρ => ∃ z8 z13 z14 z15 : Sl, ρ = [Sl.no, Sl.va (.obj 0 (ns.map .int)), Sl.va x, Sl.va (encC c), Sl.va (.tup (as.map .int)), Sl.va (.tup (bs.map .int)), Sl.va (.tup (cs.map encC)), z7, z8, z9, z10, z11, .ow ((posL (cs.take i) as bs).map .int), z13, z14, z15]) (fun _ => False) _ _ 0 ⟨_, _, _, _, rfl⟩ ?_ ?_ fun d h => h.elim
        · rintro j y hj ρ K2 ⟨z8, z13, z14, z15, rfl⟩ q1 q2 q3 q4
          have hjl : j < cs.length := by
            have := (List.getElem?_eq_some_iff.mp hj).1
            omega
          obtain ⟨c1, ec⟩ : ∃ c, cs[j]? = some c := ⟨_, List.getElem?_eq_getElem hjl⟩
          have hc1 : OkC c1 := hok c1 (List.mem_of_getElem? ec)
          rw [numbered_at (d := encC c1) (by rw [List.getElem?_map, ec]; rfl)] at hj
          cases hj
          have ep := posL_take (ns := as) (ms := bs) ec
          have lp : (posL (cs.take (0 + j)) as bs).length < 16777216 := by
            have := posL_len (cs.take (0 + j)) as bs
            have := List.length_take_le (0 + j) cs
            omega
          simp only [Nat.zero_add] at *
          have e1 : ∀ (z0 z1 z2 z3 z4 z5 z6 z7 z9 z10 z11 z12 z13 z15 : Sl), lcD (lcStep (gN 8) (cNot (tst (cA P_lawShown (aCons (rd 14) (aCons (rd 8) aNil))))) (rd 8) [z0, z1, z2, z3, z4, z5, z6, z7, .no, z9, z10, z11, z12, z13, .va (encC c1), z15]) (as.map .int) = ret ((as.filter fun n => !shownL c1 (TL.numL n.toNat)).map .int) := fun z0 z1 z2 z3 z4 z5 z6 z7 z9 z10 z11 z12 z13 z15 =>
            lcD_filtE (e := D.int) fun n hn => by
              simp [P_lawShown_eq c1 n ⟨hoa n hn, ne_words hc1⟩]
              split <;> rfl
          have e2 : ∀ (z0 z1 z2 z3 z4 z5 z6 z7 z9 z10 z11 z12 z13 z15 : Sl), lcD (lcStep (gN 8) (tst (cA P_lawShown (aCons (rd 14) (aCons (rd 8) aNil)))) (rd 8) [z0, z1, z2, z3, z4, z5, z6, z7, .no, z9, z10, z11, z12, z13, .va (encC c1), z15]) (bs.map .int) = ret ((bs.filter fun n => shownL c1 (TL.numL n.toNat)).map .int) := fun z0 z1 z2 z3 z4 z5 z6 z7 z9 z10 z11 z12 z13 z15 =>
            lcD_filtE (e := D.int) fun n hn => by
              simp [P_lawShown_eq c1 n ⟨hob n hn, ne_words hc1⟩]
              split <;> rfl
          have ew := wrong_nil (c := c1) (ns := as) (ms := bs)
          have l1 := List.length_filter_le (fun n => !shownL c1 (TL.numL n.toNat)) as
          have l2 := List.length_filter_le (fun n => shownL c1 (TL.numL n.toNat)) bs
          generalize (as.filter fun n => !shownL c1 (TL.numL n.toNat)) = fa at *
          generalize (bs.filter fun n => shownL c1 (TL.numL n.toNat)) = fb at *
          have l3 : fa.length + fb.length ≤ 16777216 := by omega
          simp [ev_sOwnLc, ev_cLc, e1, e2, l3]
          rw [ev_pub (xs := fa.map D.int ++ fb.map D.int) rfl]
          simp only [ep] at q1
          have k0 : fitsC c1 as bs = false → ∀ z8 z13 z14 z15 : Sl, K2 (.nx [Sl.no, Sl.va (.obj 0 (ns.map .int)), Sl.va x, Sl.va (encC c), Sl.va (.tup (as.map .int)), Sl.va (.tup (bs.map .int)), Sl.va (.tup (cs.map encC)), z7, z8, z9, z10, z11, .ow ((posL (cs.take j) as bs).map .int), z13, z14, z15]) := fun h z8 z13 z14 z15 => by
            have := q1 _ ⟨z8, z13, z14, z15, rfl⟩
            rw [if_neg (by rw [h]; decide), List.append_nil] at this
            exact this
          have k9 : fitsC c1 as bs = true → ∀ z8 z13 z14 z15 : Sl, K2 (.nx [Sl.no, Sl.va (.obj 0 (ns.map .int)), Sl.va x, Sl.va (encC c), Sl.va (.tup (as.map .int)), Sl.va (.tup (bs.map .int)), Sl.va (.tup (cs.map encC)), z7, z8, z9, z10, z11, .ow ((posL (cs.take j) as bs).map .int ++ [.int j]), z13, z14, z15]) := fun h z8 z13 z14 z15 => by
            have := q1 _ ⟨z8, z13, z14, z15, rfl⟩
            rw [if_pos h, List.map_append] at this
            exact this
          have okw : okDs (fa.map D.int ++ fb.map D.int) 59 = true := by
            rw [← List.map_append]
            exact okD_ints (fun n => n) _ _
          generalize fa.map D.int ++ fb.map D.int = ww at *
          generalize (posL (cs.take j) as bs) = ps at *
          have ok60 : okD (.lst ww) 60 = true := okw
          have okn : okD (.lst []) 60 = true := rfl
          simp [ok60, okn, eq_nilL, ew, lp]
          split
          · rename_i h; exact k9 h _ _ _ _
          · rename_i h; exact k0 (by simpa using h) _ _ _ _
        · rintro ρ' ⟨z8, z13, z14, z15, rfl⟩
          rw [hl, Nat.zero_add, List.take_length]
          have e1 := P_fitting_eq (cs := cs) (ns := as) (ms := bs) (by omega) hoa hob
          have e2 := like_intL (ns := posL cs as bs) (by have := posL_len cs as bs; omega)
          generalize (posL cs as bs).map D.int = ps at *
          simp [ev_pub, e1, e2]
          exact k1 _ ⟨_, _, _, _, _, _, _, _, _, _, _, _, _, _, rfl⟩
  · subst hρ
    have e1 := P_fitting_eq (cs := []) (ns := []) (ms := []) (by simp) (fun _ h => by cases h) (fun _ h => by cases h)
    have e2 := P_fitting_eq (cs := [⟨[], []⟩]) (ns := [5]) (ms := []) (by simp) (fun n h => by rw [List.mem_singleton.mp h]; exact sc_num (n := 5) (by decide)) (fun _ h => by cases h)
    simp only [List.map_nil, List.map_cons, show encC ⟨[], []⟩ = D.tup [D.tup [], D.tup []] from rfl, show (posL [] [] []).map D.int = [] from rfl, show (posL [⟨[], []⟩] [5] []).map D.int = [D.int 0] from rfl] at e1 e2
    simp [e1, e2]
    constructor
    · exact .inr rfl
    · exact ⟨.inr rfl, rfl⟩
end DL

namespace Tx
open PySem PySem.Spec L2 PyProof.Rows DL
section
variable {P : Program} {w : World} {K : PySem.W.Frag} {mg : Str → Option Value} {base : Heap}
theorem joined {T : Th K} {a : Addr} {fd : FuncData} (hT : Tp T) (F0 : Fun K "law" "law" slawk23 a fd) (B : Bt mg) (D_law_draw : Def K mg "_law_draw" s_law_draw ["tape", "many"]) (D_law_like : Def K mg "_law_like" s_law_like ["one", "two"]) (D_law_word : Def K mg "_law_word" s_law_word ["tape"]) (D_law_rule : Def K mg "_law_rule" s_law_rule ["tape"]) (D_law_counter : Def K mg "_law_counter" s_law_counter ["tape"]) (D_law_near : Def K mg "_law_near" s_law_near ["tape", "counter"]) (D_law_left_by : Def K mg "_law_left_by" s_law_left_by ["rule", "digits"]) (D_law_shown : Def K mg "_law_shown" s_law_shown ["counter", "number"]) (D_law_number : Def K mg "_law_number" s_law_number ["tape"]) (Dfits_rule : Def K mg "fits_rule" sfits_rule ["rule", "number"]) (Dis_shown : Def K mg "is_shown" sis_shown ["counter", "number"]) (Dfitting : Def K mg "fitting" sfitting ["counters", "shown", "missing"]) : FnOk P w K mg base CX0 9 a fd ["script"] (spLaw K) := by
  have g_law_draw : DFn P w K mg base T 1 "_law_draw" 2 P_draw := (w_law_draw (k := 0) (T := T) D_law_draw B hT).imp le_draw
  have g_law_like : ∀ n, DFn P w K mg base T (n + 0) "_law_like" 2 (likeN n) := fun n => by
    induction n with
    | zero => exact (dfn_bad D_law_like rfl).mono (by decide)
    | succ n ih =>
      rw [show n + 1 + 0 = n + 0 + 1 by omega]
      exact w_law_like (k := n + 0) D_law_like B ih
  have g_law_word : DFn P w K mg base T 2 "_law_word" 1 P_word := (w_law_word (k := 1) (T := T) D_law_word B (g_law_draw.mono (by decide))).imp le_word
  have g_law_rule : DFn P w K mg base T 3 "_law_rule" 1 P_rule := (w_law_rule (k := 2) (T := T) D_law_rule (g_law_word.mono (by decide)) (g_law_draw.mono (by decide))).imp le_rule
  have g_law_counter : DFn P w K mg base T 4 "_law_counter" 1 P_counter := (w_law_counter (k := 3) (T := T) D_law_counter B (g_law_draw.mono (by decide)) (g_law_rule.mono (by decide))).imp le_counter
  have g_law_near : DFn P w K mg base T 4 "_law_near" 2 P_near := (w_law_near (k := 3) (T := T) D_law_near B (g_law_draw.mono (by decide)) (g_law_rule.mono (by decide))).imp le_near
  have g_law_left_by : DFn P w K mg base T 1 "_law_left_by" 2 P_left := (w_law_left_by (k := 0) (T := T) D_law_left_by B).imp le_left
  have g_law_shown : DFn P w K mg base T 2 "_law_shown" 2 P_lawShown := (w_law_shown (k := 1) (T := T) D_law_shown B (g_law_left_by.mono (by decide))).imp le_lawShown
  have g_law_number : DFn P w K mg base T 2 "_law_number" 1 P_number := (w_law_number (k := 1) (T := T) D_law_number B (g_law_draw.mono (by decide))).imp le_number
  have gfits_rule : DFn P w K mg base T 1 "fits_rule" 2 P_fits := (wfits_rule (k := 0) (T := T) Dfits_rule B).imp le_fits
  have gis_shown : DFn P w K mg base T 2 "is_shown" 2 P_shown := (wis_shown (k := 1) (T := T) Dis_shown B (gfits_rule.mono (by decide))).imp le_shown
  have gfitting : DFn P w K mg base T 3 "fitting" 3 P_fitting := (wfitting (k := 2) (T := T) Dfitting B (gis_shown.mono (by decide))).imp le_fitting
  exact wlawk23 (k := 8) (T := T) F0 B hT (g_law_counter.mono (by decide)) (g_law_draw.mono (by decide)) (g_law_near.mono (by decide)) (g_law_number.mono (by decide)) (g_law_shown.mono (by decide)) (gfitting.mono (by decide)) ((g_law_like 8).mono (by decide)) law23
end
theorem all_mk {l : PySem.W.OpenLaw} {w : World} {K : PySem.W.Frag} {h : Heap} {mg : Str → Option Value} {fa : Addr} (X : K.In h) (G : h.Ns mainGlobals mg) (hfa : mg "law" = some (.ref fa))
    {o0 z0 : Option Addr} {l0 : Array (Option Value)} {c0 k0 d0 p0 e0 t0 : Value} {f0 : Addr}
    {o1 z1 : Option Addr} {l1 : Array (Option Value)} {c1 k1 d1 p1 e1 t1 : Value} {f1 : Addr}
    {o2 z2 : Option Addr} {l2 : Array (Option Value)} {c2 k2 d2 p2 e2 t2 : Value} {f2 : Addr}
    {o3 z3 : Option Addr} {l3 : Array (Option Value)} {c3 k3 d3 p3 e3 t3 : Value} {f3 : Addr}
    {o4 z4 : Option Addr} {l4 : Array (Option Value)} {c4 k4 d4 p4 e4 t4 : Value} {f4 : Addr}
    {o5 z5 : Option Addr} {l5 : Array (Option Value)} {c5 k5 d5 p5 e5 t5 : Value} {f5 : Addr}
    {o6 z6 : Option Addr} {l6 : Array (Option Value)} {c6 k6 d6 p6 e6 t6 : Value} {f6 : Addr}
    {o7 z7 : Option Addr} {l7 : Array (Option Value)} {c7 k7 d7 p7 e7 t7 : Value} {f7 : Addr}
    {o8 z8 : Option Addr} {l8 : Array (Option Value)} {c8 k8 d8 p8 e8 t8 : Value} {f8 : Addr}
    {o9 z9 : Option Addr} {l9 : Array (Option Value)} {c9 k9 d9 p9 e9 t9 : Value} {f9 : Addr}
    {o10 z10 : Option Addr} {l10 : Array (Option Value)} {c10 k10 d10 p10 e10 t10 : Value} {f10 : Addr}
    {o11 z11 : Option Addr} {l11 : Array (Option Value)} {c11 k11 d11 p11 e11 t11 : Value} {f11 : Addr}
    {o12 z12 : Option Addr} {l12 : Array (Option Value)} {c12 k12 d12 p12 e12 t12 : Value} {f12 : Addr}
    (ha0 : PySem.W.nsIn K mainGlobals "_law_draw" = some (some (.ref f0))) (hl0 : K.lookup f0 = some ⟨c0, o0, .func (PySem.W.fnOf "_law_draw" "_law_draw" (defArgs s_law_draw) (defBody s_law_draw) (defScope s_law_draw) .none k0 d0 p0 z0 e0 t0), l0⟩) (hc0 : PySem.W.codeIn K e0 "_law_draw" = true) (hk0 : PySem.W.keepIn K (.ref f0) = true)
    (ha1 : PySem.W.nsIn K mainGlobals "_law_like" = some (some (.ref f1))) (hl1 : K.lookup f1 = some ⟨c1, o1, .func (PySem.W.fnOf "_law_like" "_law_like" (defArgs s_law_like) (defBody s_law_like) (defScope s_law_like) .none k1 d1 p1 z1 e1 t1), l1⟩) (hc1 : PySem.W.codeIn K e1 "_law_like" = true) (hk1 : PySem.W.keepIn K (.ref f1) = true)
    (ha2 : PySem.W.nsIn K mainGlobals "_law_word" = some (some (.ref f2))) (hl2 : K.lookup f2 = some ⟨c2, o2, .func (PySem.W.fnOf "_law_word" "_law_word" (defArgs s_law_word) (defBody s_law_word) (defScope s_law_word) .none k2 d2 p2 z2 e2 t2), l2⟩) (hc2 : PySem.W.codeIn K e2 "_law_word" = true) (hk2 : PySem.W.keepIn K (.ref f2) = true)
    (ha3 : PySem.W.nsIn K mainGlobals "_law_rule" = some (some (.ref f3))) (hl3 : K.lookup f3 = some ⟨c3, o3, .func (PySem.W.fnOf "_law_rule" "_law_rule" (defArgs s_law_rule) (defBody s_law_rule) (defScope s_law_rule) .none k3 d3 p3 z3 e3 t3), l3⟩) (hc3 : PySem.W.codeIn K e3 "_law_rule" = true) (hk3 : PySem.W.keepIn K (.ref f3) = true)
    (ha4 : PySem.W.nsIn K mainGlobals "_law_counter" = some (some (.ref f4))) (hl4 : K.lookup f4 = some ⟨c4, o4, .func (PySem.W.fnOf "_law_counter" "_law_counter" (defArgs s_law_counter) (defBody s_law_counter) (defScope s_law_counter) .none k4 d4 p4 z4 e4 t4), l4⟩) (hc4 : PySem.W.codeIn K e4 "_law_counter" = true) (hk4 : PySem.W.keepIn K (.ref f4) = true)
    (ha5 : PySem.W.nsIn K mainGlobals "_law_near" = some (some (.ref f5))) (hl5 : K.lookup f5 = some ⟨c5, o5, .func (PySem.W.fnOf "_law_near" "_law_near" (defArgs s_law_near) (defBody s_law_near) (defScope s_law_near) .none k5 d5 p5 z5 e5 t5), l5⟩) (hc5 : PySem.W.codeIn K e5 "_law_near" = true) (hk5 : PySem.W.keepIn K (.ref f5) = true)
    (ha6 : PySem.W.nsIn K mainGlobals "_law_left_by" = some (some (.ref f6))) (hl6 : K.lookup f6 = some ⟨c6, o6, .func (PySem.W.fnOf "_law_left_by" "_law_left_by" (defArgs s_law_left_by) (defBody s_law_left_by) (defScope s_law_left_by) .none k6 d6 p6 z6 e6 t6), l6⟩) (hc6 : PySem.W.codeIn K e6 "_law_left_by" = true) (hk6 : PySem.W.keepIn K (.ref f6) = true)
    (ha7 : PySem.W.nsIn K mainGlobals "_law_shown" = some (some (.ref f7))) (hl7 : K.lookup f7 = some ⟨c7, o7, .func (PySem.W.fnOf "_law_shown" "_law_shown" (defArgs s_law_shown) (defBody s_law_shown) (defScope s_law_shown) .none k7 d7 p7 z7 e7 t7), l7⟩) (hc7 : PySem.W.codeIn K e7 "_law_shown" = true) (hk7 : PySem.W.keepIn K (.ref f7) = true)
    (ha8 : PySem.W.nsIn K mainGlobals "_law_number" = some (some (.ref f8))) (hl8 : K.lookup f8 = some ⟨c8, o8, .func (PySem.W.fnOf "_law_number" "_law_number" (defArgs s_law_number) (defBody s_law_number) (defScope s_law_number) .none k8 d8 p8 z8 e8 t8), l8⟩) (hc8 : PySem.W.codeIn K e8 "_law_number" = true) (hk8 : PySem.W.keepIn K (.ref f8) = true)
    (ha9 : PySem.W.nsIn K mainGlobals "fits_rule" = some (some (.ref f9))) (hl9 : K.lookup f9 = some ⟨c9, o9, .func (PySem.W.fnOf "fits_rule" "fits_rule" (defArgs sfits_rule) (defBody sfits_rule) (defScope sfits_rule) .none k9 d9 p9 z9 e9 t9), l9⟩) (hc9 : PySem.W.codeIn K e9 "fits_rule" = true) (hk9 : PySem.W.keepIn K (.ref f9) = true)
    (ha10 : PySem.W.nsIn K mainGlobals "is_shown" = some (some (.ref f10))) (hl10 : K.lookup f10 = some ⟨c10, o10, .func (PySem.W.fnOf "is_shown" "is_shown" (defArgs sis_shown) (defBody sis_shown) (defScope sis_shown) .none k10 d10 p10 z10 e10 t10), l10⟩) (hc10 : PySem.W.codeIn K e10 "is_shown" = true) (hk10 : PySem.W.keepIn K (.ref f10) = true)
    (ha11 : PySem.W.nsIn K mainGlobals "fitting" = some (some (.ref f11))) (hl11 : K.lookup f11 = some ⟨c11, o11, .func (PySem.W.fnOf "fitting" "fitting" (defArgs sfitting) (defBody sfitting) (defScope sfitting) .none k11 d11 p11 z11 e11 t11), l11⟩) (hc11 : PySem.W.codeIn K e11 "fitting" = true) (hk11 : PySem.W.keepIn K (.ref f11) = true)
    (ha12 : PySem.W.nsIn K mainGlobals "law" = some (some (.ref f12))) (hl12 : K.lookup f12 = some ⟨c12, o12, .func (PySem.W.fnOf "law" "law" (defArgs slawk23) (defBody slawk23) (defScope slawk23) .none k12 d12 p12 z12 e12 t12), l12⟩) (hc12 : PySem.W.codeIn K e12 "law" = true) (hk12 : PySem.W.keepIn K (.ref f12) = true)
    (hz0 : PySem.W.nsIn K mainGlobals "len" = some none)
    (hz1 : PySem.W.nsIn K mainGlobals "int" = some none)
    (hz2 : PySem.W.nsIn K mainGlobals "isinstance" = some none)
    (hz3 : PySem.W.nsIn K mainGlobals "list" = some none)
    (hz4 : PySem.W.nsIn K mainGlobals "tuple" = some none)
    (hz5 : PySem.W.nsIn K mainGlobals "range" = some none)
    (hz6 : PySem.W.nsIn K mainGlobals "bool" = some none)
    (hz7 : PySem.W.nsIn K mainGlobals "sorted" = some none)
    (hz8 : PySem.W.nsIn K mainGlobals "set" = some none)
    (hz9 : PySem.W.nsIn K mainGlobals "max" = some none)
    (hz10 : PySem.W.nsIn K mainGlobals "str" = some none)
    (hz11 : PySem.W.nsIn K mainGlobals "any" = some none)
    (hz12 : PySem.W.nsIn K mainGlobals "enumerate" = some none)
    (hz13 : PySem.W.nsIn K mainGlobals "all" = some none) :
    ∃ fd : FuncData, (∀ (s : Shared) (v : Value), BindsTo s fd ⟨[v], []⟩ [("script", v)]) ∧ ∀ base : Heap, K.In base → base.Ns mainGlobals mg → FnOk l.prog w K mg base CX0 9 fa fd ["script"] (spLaw K) := by
  have e := hfa.symm.trans (PySem.W.mg_of X G ha12)
  cases e
  refine ⟨_, fun s v => .of_eq rfl, fun base _ _ => joined (T := T0 w) T0_tp (fun_mk (st := slawk23) hl12 hc12 hk12) ⟨PySem.W.mg_none_of X G hz0, PySem.W.mg_none_of X G hz1, PySem.W.mg_none_of X G hz2, PySem.W.mg_none_of X G hz3, PySem.W.mg_none_of X G hz4, PySem.W.mg_none_of X G hz5, PySem.W.mg_none_of X G hz6, PySem.W.mg_none_of X G hz7, PySem.W.mg_none_of X G hz8, PySem.W.mg_none_of X G hz9, PySem.W.mg_none_of X G hz10, PySem.W.mg_none_of X G hz11, PySem.W.mg_none_of X G hz12, PySem.W.mg_none_of X G hz13⟩ ⟨_, _, fun_mk (st := s_law_draw) hl0 hc0 hk0, PySem.W.mg_of X G ha0, (fun_mk (st := s_law_draw) hl0 hc0 hk0).binds fun _ _ _ _ _ _ us hu => match us, hu with | [_, _], _ => rfl⟩ ⟨_, _, fun_mk (st := s_law_like) hl1 hc1 hk1, PySem.W.mg_of X G ha1, (fun_mk (st := s_law_like) hl1 hc1 hk1).binds fun _ _ _ _ _ _ us hu => match us, hu with | [_, _], _ => rfl⟩ ⟨_, _, fun_mk (st := s_law_word) hl2 hc2 hk2, PySem.W.mg_of X G ha2, (fun_mk (st := s_law_word) hl2 hc2 hk2).binds fun _ _ _ _ _ _ us hu => match us, hu with | [_], _ => rfl⟩ ⟨_, _, fun_mk (st := s_law_rule) hl3 hc3 hk3, PySem.W.mg_of X G ha3, (fun_mk (st := s_law_rule) hl3 hc3 hk3).binds fun _ _ _ _ _ _ us hu => match us, hu with | [_], _ => rfl⟩ ⟨_, _, fun_mk (st := s_law_counter) hl4 hc4 hk4, PySem.W.mg_of X G ha4, (fun_mk (st := s_law_counter) hl4 hc4 hk4).binds fun _ _ _ _ _ _ us hu => match us, hu with | [_], _ => rfl⟩ ⟨_, _, fun_mk (st := s_law_near) hl5 hc5 hk5, PySem.W.mg_of X G ha5, (fun_mk (st := s_law_near) hl5 hc5 hk5).binds fun _ _ _ _ _ _ us hu => match us, hu with | [_, _], _ => rfl⟩ ⟨_, _, fun_mk (st := s_law_left_by) hl6 hc6 hk6, PySem.W.mg_of X G ha6, (fun_mk (st := s_law_left_by) hl6 hc6 hk6).binds fun _ _ _ _ _ _ us hu => match us, hu with | [_, _], _ => rfl⟩ ⟨_, _, fun_mk (st := s_law_shown) hl7 hc7 hk7, PySem.W.mg_of X G ha7, (fun_mk (st := s_law_shown) hl7 hc7 hk7).binds fun _ _ _ _ _ _ us hu => match us, hu with | [_, _], _ => rfl⟩ ⟨_, _, fun_mk (st := s_law_number) hl8 hc8 hk8, PySem.W.mg_of X G ha8, (fun_mk (st := s_law_number) hl8 hc8 hk8).binds fun _ _ _ _ _ _ us hu => match us, hu with | [_], _ => rfl⟩ ⟨_, _, fun_mk (st := sfits_rule) hl9 hc9 hk9, PySem.W.mg_of X G ha9, (fun_mk (st := sfits_rule) hl9 hc9 hk9).binds fun _ _ _ _ _ _ us hu => match us, hu with | [_, _], _ => rfl⟩ ⟨_, _, fun_mk (st := sis_shown) hl10 hc10 hk10, PySem.W.mg_of X G ha10, (fun_mk (st := sis_shown) hl10 hc10 hk10).binds fun _ _ _ _ _ _ us hu => match us, hu with | [_, _], _ => rfl⟩ ⟨_, _, fun_mk (st := sfitting) hl11 hc11 hk11, PySem.W.mg_of X G ha11, (fun_mk (st := sfitting) hl11 hc11 hk11).binds fun _ _ _ _ _ _ us hu => match us, hu with | [_, _, _], _ => rfl⟩⟩
theorem walked {l : PySem.W.OpenLaw} {q : Program} {loose : List Str} {XP : (Str → Option Value) → Heap → Prop} {YP : World → Heap → Prop} {d : DefRec} {K : Params → PySem.W.Frag} (hn : l.most = some 63) (hdf : d.params.defaults = [])
    (hY : ∀ (w : World) (h : Heap), YP w h → (K w.params).In h)
    (F : ∀ (w : World) (mg : Str → Option Value) (fa : Addr) (h : Heap), (K w.params).In h → h.Ns mainGlobals mg → mg d.name = some (.ref fa) →
      ∃ fd : FuncData, (∀ (s : Shared) (u : Value), BindsTo s fd ⟨[u], []⟩ [("script", u)]) ∧ ∀ base : Heap, (K w.params).In base → base.Ns mainGlobals mg → FnOk l.prog w (K w.params) mg base CX0 9 fa fd ["script"] (spLaw (K w.params))) :
    PySem.W.WalkO q loose XP YP l.row.toRowW d [] (fun f vs => PySem.call f vs) :=
  L2.walk_of (n := 63) (k := 9) (x := "script") (CX := fun _ => CX0) (sp := fun w => spLaw (K w.params)) hn (by decide) hdf ⟨rfl, by decide, by decide⟩ hY F (fun _ _ a ns hl _ hS => ⟨a, ns, rfl, hS, hl, fun _ => rfl⟩) fun _ _ _ _ _ z => z
end Tx
open PySem PySem.W PyProof.Rows
set_option maxRecDepth 100000 in
set_option maxHeartbeats 0 in
theorem PySem.Challenge.cw_skiplabels_k23_whole_counters_told_back_holds : PySem.Challenge.rw_skiplabels_k23_whole_counters_told_back.Holds := by
  w_on; o_law; k_head; (case hw => w_witness2)
  k_fill
  refine Tx.walked (l := PySem.Challenge.rw_skiplabels_k23_whole_counters_told_back) rfl rfl (fun w h Y => PySem.W.kIn_of Y) ?F
  case F =>
    intro w mg fa h KX G hmg
    refine' Tx.all_mk KX G hmg ?ha0 ?hl0 ?hc0 ?hk0 ?ha1 ?hl1 ?hc1 ?hk1 ?ha2 ?hl2 ?hc2 ?hk2 ?ha3 ?hl3 ?hc3 ?hk3 ?ha4 ?hl4 ?hc4 ?hk4 ?ha5 ?hl5 ?hc5 ?hk5 ?ha6 ?hl6 ?hc6 ?hk6 ?ha7 ?hl7 ?hc7 ?hk7 ?ha8 ?hl8 ?hc8 ?hk8 ?ha9 ?hl9 ?hc9 ?hk9 ?ha10 ?hl10 ?hc10 ?hk10 ?ha11 ?hl11 ?hc11 ?hk11 ?ha12 ?hl12 ?hc12 ?hk12 ?hz0 ?hz1 ?hz2 ?hz3 ?hz4 ?hz5 ?hz6 ?hz7 ?hz8 ?hz9 ?hz10 ?hz11 ?hz12 ?hz13
    (case ha0 => k_is)
    (case hl0 => k_is)
    (case hc0 => k_is)
    (case hk0 => k_is)
    (case ha1 => k_is)
    (case hl1 => k_is)
    (case hc1 => k_is)
    (case hk1 => k_is)
    (case ha2 => k_is)
    (case hl2 => k_is)
    (case hc2 => k_is)
    (case hk2 => k_is)
    (case ha3 => k_is)
    (case hl3 => k_is)
    (case hc3 => k_is)
    (case hk3 => k_is)
    (case ha4 => k_is)
    (case hl4 => k_is)
    (case hc4 => k_is)
    (case hk4 => k_is)
    (case ha5 => k_is)
    (case hl5 => k_is)
    (case hc5 => k_is)
    (case hk5 => k_is)
    (case ha6 => k_is)
    (case hl6 => k_is)
    (case hc6 => k_is)
    (case hk6 => k_is)
    (case ha7 => k_is)
    (case hl7 => k_is)
    (case hc7 => k_is)
    (case hk7 => k_is)
    (case ha8 => k_is)
    (case hl8 => k_is)
    (case hc8 => k_is)
    (case hk8 => k_is)
    (case ha9 => k_is)
    (case hl9 => k_is)
    (case hc9 => k_is)
    (case hk9 => k_is)
    (case ha10 => k_is)
    (case hl10 => k_is)
    (case hc10 => k_is)
    (case hk10 => k_is)
    (case ha11 => k_is)
    (case hl11 => k_is)
    (case hc11 => k_is)
    (case hk11 => k_is)
    (case ha12 => k_is)
    (case hl12 => k_is)
    (case hc12 => k_is)
    (case hk12 => k_is)
    (case hz0 => k_is)
    (case hz1 => k_is)
    (case hz2 => k_is)
    (case hz3 => k_is)
    (case hz4 => k_is)
    (case hz5 => k_is)
    (case hz6 => k_is)
    (case hz7 => k_is)
    (case hz8 => k_is)
    (case hz9 => k_is)
    (case hz10 => k_is)
    (case hz11 => k_is)
    (case hz12 => k_is)
    (case hz13 => k_is)
