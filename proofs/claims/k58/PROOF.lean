import PyProof.Rows.All
import Wide.All
import OpenK.AllK
import Wide.FinOn
import HandS.ForMost
import HandS.Wide
import HandS.TupAny
import HandS.IsInst
import HandS.SortInts
import HandS.SortRule
import HandS.More
import PySem.Challenge.RW_rotakeep_k58_whole_majorities
import HandS.Strs
import HandS.SetFor
import HandS.Conv
import HandS.Iter
import HandS.Deep
import HandS.Style
import HandS.TupMul
section
set_option Elab.async false
set_option linter.all false
set_option maxRecDepth 100000
set_option maxHeartbeats 4000000
/-! tuples whose object is known: no dict of its own stands at them, so that a method of theirs is looked up at the type -/
namespace FL
open PySem PySem.Spec PyProof.Rows L2
/-- the object of a new tuple -/
def tob (its : List Value) : Obj := { cls := .type "tuple", data := .seq its.toArray }
def SqX (K : PySem.W.Frag) (H : Hp) (a : Addr) (vs : List V) : Prop :=
  (∃ o : Obj, H a = some (.frz o (.tup vs)) ∧ o.dict = none) ∨
  ∃ (o : Obj) (its : Array Value) (n : Nat), K.lookup a = some o ∧ o.cls = .type "tuple" ∧ o.dict = none ∧ o.data = .seq its n ∧ its.size ≤ sizeLine ∧ Vals vs its.toList
theorem SqX.sq {K : PySem.W.Frag} {H : Hp} {a : Addr} {vs : List V} (h : SqX K H a vs) : SqT K H a vs := by
  rcases h with ⟨o, h, _⟩ | ⟨o, its, n, h1, h2, _, h3, h4, h5⟩
  · exact .inl (.inr ⟨o, h⟩)
  · exact .inr ⟨o, its, n, h1, h2, h3, h4, h5⟩
section
variable {X : Cx} {es : List Expr} {e o : Expr} {t : TA} {te to : TE} {pos : Pos}
/-- a new tuple laid down, its object kept in mind -/
theorem laidX {pins : List (Addr × Obj)} {σ : L2.St} {H : Hp} {s : Shared} {ys : List V} {its : List Value} (I : Inv X pins σ H s) (r : Vals ys its) (z : ys.length ≤ sizeLine) :
    Inv X pins σ (upd H s.heap.objs.size (.frz (tob its) (.tup ys))) { s with heap := s.heap.push (tob its), toks := s.toks } :=
  I.laid (fun _ _ q => Heap.get?_push_of_some _ q) (Nat.le_refl _)
    ⟨Heap.get?_push_size _ rfl, z, its, r, tob its, Heap.get?_push_size _ rfl, rfl, 0, rfl⟩
/-- what is to be shown of a new tuple -/
def NewT (H : Hp) (ys : List V) (Q : VK) : Prop := ∀ (p : Addr) (o : Obj), H p = none → o.dict = none → Q (.ref p) (upd H p (.frz o (.tup ys)))
def tTupX (t : TA) : TE := fun σ H Q => t σ H fun ys H1 => ys.length ≤ sizeLine ∧ NewT H1 ys Q
theorem pe_tupX {x1} (h : PA X es t) : PE X (.Tuple es x1 pos) (tTupX t) := by
  constructor
  intro pins s σ H Q I hq
  apply wpAny_Tuple_spliced
  refine thn (h.run pos pins s σ H _ I hq) ?_
  rintro us s1 ⟨ys, H1, I1, r, z, q⟩
  exact ⟨by rw [← r.length]; exact z, .ref s1.heap.objs.size, _, laidX I1 r z, rfl, q _ _ (I1.hok.fresh (Nat.le_refl _)) rfl⟩
/-- tuple(xs) -/
def rTupleX (K : PySem.W.Frag) : List V → Hp → VK → Prop := fun xs H Q => ∃ p ys, xs = [.ref p] ∧ ((SqL K H p ys ∧ NewT H ys Q) ∨ (SqT K H p ys ∧ Q (.ref p) H))
theorem call_tupleX : CallR X (.type "tuple") (rTupleX X.K) := by
  rintro pins s σ H xs us Q I r ⟨p, ys, rfl, h⟩
  obtain ⟨u, rfl, rx⟩ := vals1 r
  cases rx
  rcases h with ⟨hq, q⟩ | ⟨hq, q⟩
  · obtain ⟨its, r', pl, hz⟩ := I.list hq
    have hlen := r'.length
    apply call_tuple_list pl.isList
    · intro h' kp
      have I1 : Inv X pins σ H { s with heap := h' } := I.kept (t' := s.toks) kp
      exact ⟨.ref h'.objs.size, _, laidX I1 r' hz, rfl, q _ _ (I1.hok.fresh (Nat.le_refl _)) rfl⟩
  · obtain ⟨its, r', pl, hz⟩ := I.tuple hq
    exact call_tuple_same pl ⟨.ref p, _, I, rfl, q⟩
/-- t + u -/
def rCatX (K : PySem.W.Frag) : R2 := fun x y H Q => ∃ a b xs ys, x = .ref a ∧ y = .ref b ∧ SqT K H a xs ∧ SqT K H b ys ∧ xs.length + ys.length ≤ sizeLine ∧
  (xs = [] → Q y H) ∧ (xs ≠ [] → ys = [] → Q x H) ∧ (xs ≠ [] → ys ≠ [] → NewT H (xs ++ ys) Q)
theorem op_catX : OpR X (binaryOp .Add) (rCatX X.K) := by
  rintro pins s σ H x y v u Q I rx ry ⟨a, b, xs, ys, rfl, rfl, ha, hb, hz, q0, q1, q2⟩
  cases rx
  cases ry
  obtain ⟨its, r1, p1, z1⟩ := I.tuple ha
  obtain ⟨its2, r2, p2, z2⟩ := I.tuple hb
  by_cases hx : xs = []
  · subst hx
    cases r1
    exact cat_tup0 p1 p2 ⟨.ref b, _, I, rfl, q0 rfl⟩
  · apply HT.cat_tup p1 p2
    · exact fun z => hx (r1.nil_iff.mp z)
    · exact fun z => ⟨.ref a, _, I, rfl, q1 hx (r2.nil_iff.mp z)⟩
    · intro z
      exact ⟨.ref s.heap.objs.size, _, laidX I (r1.append r2) (by rw [List.length_append]; exact hz), rfl, q2 hx (fun w => z (r2.nil_iff.mpr w)) _ _ (I.hok.fresh (Nat.le_refl _)) rfl⟩
    · rw [← r1.length, ← r2.length]; exact hz
/-- t[lo:hi] -/
def rSlX (K : PySem.W.Frag) : V → Option Int → Option Int → Hp → VK → Prop := fun x lo hi H Q => ∃ a xs, x = .ref a ∧ SqT K H a xs ∧
  (HT.sIx xs.length 0 lo = 0 ∧ HT.sIx xs.length xs.length hi = xs.length → Q x H) ∧ (¬ (HT.sIx xs.length 0 lo = 0 ∧ HT.sIx xs.length xs.length hi = xs.length) → NewT H (cutV xs lo hi) Q)
theorem sl_tupX : SlR X (rSlX X.K) := by
  rintro pins s σ H x v vl vu lo hi sl Q I rx hs pl pu ⟨a, xs, rfl, hx, q1, q2⟩
  cases rx
  obtain ⟨its, r, ht, hz⟩ := I.tuple hx
  have hlen : its.toArray.size = xs.length := by rw [List.size_toArray]; exact r.length.symm
  refine ⟨"tuple", _, PyProof.Rows.slot_tuple_getitem.lookup, ht.typeIs, ?_⟩
  by_cases hw : HT.sIx xs.length 0 lo = 0 ∧ HT.sIx xs.length xs.length hi = xs.length
  · exact getItem_tuple_whole ht hs pl pu (hlen.symm ▸ hw) ⟨.ref a, _, I, rfl, q1 hw⟩
  · apply HT.getItem_tuple_cut ht hs pl pu
    · rw [hlen]; exact hw
    · rw [hlen]
      exact ⟨.ref s.heap.objs.size, _, laidX I ((r.drop _).take _) (Nat.le_trans (cutV_length xs lo hi) hz), rfl, q2 hw _ _ (I.hok.fresh (Nat.le_refl _)) rfl⟩
    · rw [hlen]; exact hz
end
end FL

end

section
set_option Elab.async false
set_option linter.all false
set_option maxRecDepth 100000
set_option maxHeartbeats 4000000
/-! FL: a functional layer over HandS. Values as data (D), lists by value with ownership. -/
namespace FL
open PySem L2

inductive D where
  | non | bl (b : Bool) | int (i : Int) | str (s : Str)
  | tup (xs : List D) | lst (xs : List D) | frz (xs : List D) | shr (xs : List D)

/-- a list of the module's own -/
def KL (K : PySem.W.Frag) (a : Addr) (xs : List V) : Prop := ∃ (o : Obj) (its : Array Value) (n : Nat), K.lookup a = some o ∧ o.cls = .type "list" ∧ o.dict = none ∧ o.data = .seq its n ∧ its.size ≤ sizeLine ∧ Vals xs its.toList
mutual
def Rep (K : PySem.W.Frag) (Wr : Addr → Prop) (H : Hp) : D → V → List Addr → Prop
  | .non, v, F => v = .non ∧ F = []
  | .bl b, v, F => v = .bl b ∧ F = []
  | .int i, v, F => v = .int i ∧ F = []
  | .str s, v, F => v = .str s ∧ F = []
  | .tup ds, v, F => ∃ a vs, v = .ref a ∧ SqX K H a vs ∧ Reps K Wr H ds vs F
  | .lst ds, v, F => ∃ a vs G, v = .ref a ∧ H a = some (.lst vs) ∧ Wr a ∧ Reps K Wr H ds vs G ∧ F = a :: G
  | .frz ds, v, F => ∃ a vs G, v = .ref a ∧ H a = some (.lst vs) ∧ Wr a ∧ Reps K Wr H ds vs G ∧ F = a :: G
  | .shr ds, v, F => ∃ a vs, v = .ref a ∧ SqL K H a vs ∧ (¬ Wr a ∨ KL K a vs) ∧ Reps K Wr H ds vs F
def Reps (K : PySem.W.Frag) (Wr : Addr → Prop) (H : Hp) : List D → List V → List Addr → Prop
  | [], vs, F => vs = [] ∧ F = []
  | d :: ds, vs, F => ∃ v r F1 F2, vs = v :: r ∧ Rep K Wr H d v F1 ∧ Reps K Wr H ds r F2 ∧ F = F1 ++ F2
end

mutual
/-- no list of one's own in it -/
def D.free : D → Bool
  | .tup ds => D.frees ds
  | .lst _ => false
  | .frz _ => false
  | .shr ds => D.frees ds
  | _ => true
def D.frees : List D → Bool
  | [] => true
  | d :: ds => d.free && D.frees ds
end
mutual
/-- no list of the caller's in it -/
def D.own : D → Bool
  | .tup ds => D.owns ds
  | .lst ds => D.owns ds
  | .frz ds => D.owns ds
  | .shr _ => false
  | _ => true
def D.owns : List D → Bool
  | [] => true
  | d :: ds => d.own && D.owns ds
end
mutual
/-- as a callee sees it that may not change it -/
def D.share : D → D
  | .tup ds => .tup (D.shares ds)
  | .lst ds => .shr (D.shares ds)
  | .frz ds => .shr (D.shares ds)
  | .shr ds => .shr (D.shares ds)
  | .non => .non
  | .bl b => .bl b
  | .int i => .int i
  | .str s => .str s
def D.shares : List D → List D
  | [] => []
  | d :: ds => d.share :: D.shares ds
end

section
variable {K : PySem.W.Frag} {Wr Wr' : Addr → Prop} {H H' : Hp}

def Ext (H H' : Hp) : Prop := ∀ a o, H a = some o → H' a = some o
/-- what is not at F stays; F' are of F or new -/
structure Step (F : Addr → Prop) (H : Hp) (F' : Addr → Prop) (H' : Hp) : Prop where
  keep : ∀ a o, ¬ F a → H a = some o → H' a = some o
  new : ∀ a, F' a → F a ∨ H a = none
/-- all of F are lists that one may write -/
def Owned (Wr : Addr → Prop) (H : Hp) (F : Addr → Prop) : Prop := ∀ a, F a → Wr a ∧ ∃ vs, H a = some (.lst vs)

theorem Ext.refl (H : Hp) : Ext H H := fun _ _ h => h
theorem Ext.trans {H1 H2 H3 : Hp} (a : Ext H1 H2) (b : Ext H2 H3) : Ext H1 H3 := fun c o h => b c o (a c o h)
theorem Ext.new {p : Addr} {o : HO} (h : H p = none) : Ext H (upd H p o) := fun b u e => by rw [upd_ne (ne_of_none e h)]; exact e
theorem Ext.back {a : Addr} (e : Ext H H') (h : H' a = none) : H a = none := by
  cases q : H a with
  | none => rfl
  | some o => rw [e a o q] at h; cases h
theorem Step.refl (F : Addr → Prop) (H : Hp) : Step F H F H := ⟨fun _ _ _ h => h, fun _ h => .inl h⟩
theorem Step.of_ext {F G : Addr → Prop} (e : Ext H H') (h : ∀ a, G a → F a ∨ H a = none) : Step F H G H' := ⟨fun a o _ q => e a o q, h⟩
theorem Step.trans {F F1 F2 : Addr → Prop} {H1 H2 : Hp} (a : Step F H F1 H1) (b : Step F1 H1 F2 H2) : Step F H F2 H2 where
  keep := fun c o hc e => b.keep c o (fun h => by
    rcases a.new c h with q | q
    · exact hc q
    · rw [e] at q; cases q) (a.keep c o hc e)
  new := fun c hc => by
    rcases b.new c hc with q | q
    · exact a.new c q
    · by_cases hF : F c
      · exact .inl hF
      · refine .inr ?_
        cases e : H c with
        | none => rfl
        | some o => rw [a.keep c o hF e] at q; cases q
theorem Step.mono {F G G' : Addr → Prop} (a : Step F H G H') (h : ∀ x, G' x → G x) : Step F H G' H' := ⟨a.keep, fun c hc => a.new c (h c hc)⟩

mutual
theorem Rep.owned : ∀ {d : D} {v : V} {F : List Addr}, Rep K Wr H d v F → Owned Wr H (· ∈ F)
  | .non, v, F, h => by rw [Rep] at h; obtain ⟨_, rfl⟩ := h; intro a q; cases q
  | .bl _, v, F, h => by rw [Rep] at h; obtain ⟨_, rfl⟩ := h; intro a q; cases q
  | .int _, v, F, h => by rw [Rep] at h; obtain ⟨_, rfl⟩ := h; intro a q; cases q
  | .str _, v, F, h => by rw [Rep] at h; obtain ⟨_, rfl⟩ := h; intro a q; cases q
  | .tup ds, v, F, h => by rw [Rep] at h; obtain ⟨a, vs, _, _, q⟩ := h; exact Reps.owned q
  | .lst ds, v, F, h => by
    rw [Rep] at h; obtain ⟨a, vs, G, _, e, w, q, rfl⟩ := h
    intro b hb
    rcases List.mem_cons.mp hb with rfl | hb
    · exact ⟨w, _, e⟩
    · exact Reps.owned q b hb
  | .frz ds, v, F, h => by
    rw [Rep] at h; obtain ⟨a, vs, G, _, e, w, q, rfl⟩ := h
    intro b hb
    rcases List.mem_cons.mp hb with rfl | hb
    · exact ⟨w, _, e⟩
    · exact Reps.owned q b hb
  | .shr ds, v, F, h => by rw [Rep] at h; obtain ⟨a, vs, _, _, _, q⟩ := h; exact Reps.owned q
theorem Reps.owned : ∀ {ds : List D} {vs : List V} {F : List Addr}, Reps K Wr H ds vs F → Owned Wr H (· ∈ F)
  | [], vs, F, h => by rw [Reps] at h; obtain ⟨_, rfl⟩ := h; intro a q; cases q
  | d :: ds, vs, F, h => by
    rw [Reps] at h; obtain ⟨v, r, F1, F2, _, h1, h2, rfl⟩ := h
    intro b hb
    rcases List.mem_append.mp hb with hb | hb
    · exact Rep.owned h1 b hb
    · exact Reps.owned h2 b hb
end

theorem sqt_keep {F0 : Addr → Prop} {a : Addr} {vs : List V} (o : Owned Wr H F0) (k : ∀ a o, ¬ F0 a → H a = some o → H' a = some o) (h : SqX K H a vs) : SqX K H' a vs := by
  have nn : ∀ b u, H b = some u → (∀ vs, u ≠ .lst vs) → ¬ F0 b := fun b u e n hb => by
    obtain ⟨_, vs, q⟩ := o b hb
    rw [e] at q; exact n vs (Option.some.inj q)
  rcases h with ⟨u, h, hd⟩ | h
  · exact .inl ⟨u, k _ _ (nn _ _ h fun _ z => by cases z) h, hd⟩
  · exact .inr h
theorem sql_keep {F0 : Addr → Prop} {a : Addr} {vs : List V} (k : ∀ a o, ¬ F0 a → H a = some o → H' a = some o) (n : ¬ F0 a) (h : SqL K H a vs) : SqL K H' a vs := by
  rcases h with (h | ⟨u, h⟩) | h
  · exact .inl (.inl (k _ _ n h))
  · exact .inl (.inr ⟨u, k _ _ n h⟩)
  · exact .inr h

mutual
/-- what is apart from F0 stays -/
theorem Rep.keep {F0 : Addr → Prop} (o : Owned Wr H F0) (k : ∀ a o, ¬ F0 a → H a = some o → H' a = some o) : ∀ {d : D} {v : V} {F : List Addr}, Rep K Wr H d v F → (∀ a, a ∈ F → ¬ F0 a) → Rep K Wr H' d v F
  | .non, v, F, h, _ => by rw [Rep] at h ⊢; exact h
  | .bl _, v, F, h, _ => by rw [Rep] at h ⊢; exact h
  | .int _, v, F, h, _ => by rw [Rep] at h ⊢; exact h
  | .str _, v, F, h, _ => by rw [Rep] at h ⊢; exact h
  | .tup ds, v, F, h, n => by
    rw [Rep] at h ⊢; obtain ⟨a, vs, e, s, q⟩ := h
    exact ⟨a, vs, e, sqt_keep o k s, Reps.keep o k q n⟩
  | .lst ds, v, F, h, n => by
    rw [Rep] at h ⊢; obtain ⟨a, vs, G, e, s, w, q, rfl⟩ := h
    exact ⟨a, vs, G, e, k _ _ (n a List.mem_cons_self) s, w, Reps.keep o k q fun b hb => n b (List.mem_cons_of_mem _ hb), rfl⟩
  | .frz ds, v, F, h, n => by
    rw [Rep] at h ⊢; obtain ⟨a, vs, G, e, s, w, q, rfl⟩ := h
    exact ⟨a, vs, G, e, k _ _ (n a List.mem_cons_self) s, w, Reps.keep o k q fun b hb => n b (List.mem_cons_of_mem _ hb), rfl⟩
  | .shr ds, v, F, h, n => by
    rw [Rep] at h ⊢; obtain ⟨a, vs, e, s, w, q⟩ := h
    exact ⟨a, vs, e, w.elim (fun w => sql_keep k (fun z => w (o a z).1) s) fun w => .inr w, w, Reps.keep o k q n⟩
theorem Reps.keep {F0 : Addr → Prop} (o : Owned Wr H F0) (k : ∀ a o, ¬ F0 a → H a = some o → H' a = some o) : ∀ {ds : List D} {vs : List V} {F : List Addr}, Reps K Wr H ds vs F → (∀ a, a ∈ F → ¬ F0 a) → Reps K Wr H' ds vs F
  | [], vs, F, h, _ => by rw [Reps] at h ⊢; exact h
  | d :: ds, vs, F, h, n => by
    rw [Reps] at h ⊢; obtain ⟨v, r, F1, F2, e, h1, h2, rfl⟩ := h
    exact ⟨v, r, F1, F2, e, Rep.keep o k h1 fun b hb => n b (List.mem_append_left _ hb), Reps.keep o k h2 fun b hb => n b (List.mem_append_right _ hb), rfl⟩
end
theorem owned_nil : Owned Wr H (fun _ => False) := fun _ h => h.elim
theorem Rep.ext {d : D} {v : V} {F : List Addr} (e : Ext H H') (h : Rep K Wr H d v F) : Rep K Wr H' d v F :=
  Rep.keep (F0 := fun _ => False) owned_nil (fun a o _ q => e a o q) h fun _ _ z => z
theorem Reps.ext {d : List D} {v : List V} {F : List Addr} (e : Ext H H') (h : Reps K Wr H d v F) : Reps K Wr H' d v F :=
  Reps.keep (F0 := fun _ => False) owned_nil (fun a o _ q => e a o q) h fun _ _ z => z

mutual
theorem Rep.free : ∀ {d : D} {v : V} {F : List Addr}, Rep K Wr H d v F → d.free = true → F = []
  | .non, v, F, h, _ => by rw [Rep] at h; exact h.2
  | .bl _, v, F, h, _ => by rw [Rep] at h; exact h.2
  | .int _, v, F, h, _ => by rw [Rep] at h; exact h.2
  | .str _, v, F, h, _ => by rw [Rep] at h; exact h.2
  | .tup ds, v, F, h, n => by rw [Rep] at h; obtain ⟨a, vs, _, _, q⟩ := h; rw [D.free] at n; exact Reps.free q n
  | .lst ds, v, F, h, n => by rw [D.free] at n; cases n
  | .frz ds, v, F, h, n => by rw [D.free] at n; cases n
  | .shr ds, v, F, h, n => by rw [Rep] at h; obtain ⟨a, vs, _, _, _, q⟩ := h; rw [D.free] at n; exact Reps.free q n
theorem Reps.free : ∀ {ds : List D} {vs : List V} {F : List Addr}, Reps K Wr H ds vs F → D.frees ds = true → F = []
  | [], vs, F, h, _ => by rw [Reps] at h; exact h.2
  | d :: ds, vs, F, h, n => by
    rw [Reps] at h; obtain ⟨v, r, F1, F2, e, h1, h2, rfl⟩ := h
    rw [D.frees, Bool.and_eq_true] at n
    rw [Rep.free h1 n.1, Reps.free h2 n.2]; rfl
end
mutual
/-- without lists of the caller's, Wr plays no part -/
theorem Rep.own (wr : ∀ a, Wr a → Wr' a) : ∀ {d : D} {v : V} {F : List Addr}, Rep K Wr H d v F → d.own = true → Rep K Wr' H d v F
  | .non, v, F, h, _ => by rw [Rep] at h ⊢; exact h
  | .bl _, v, F, h, _ => by rw [Rep] at h ⊢; exact h
  | .int _, v, F, h, _ => by rw [Rep] at h ⊢; exact h
  | .str _, v, F, h, _ => by rw [Rep] at h ⊢; exact h
  | .tup ds, v, F, h, n => by rw [Rep] at h ⊢; obtain ⟨a, vs, e, s, q⟩ := h; rw [D.own] at n; exact ⟨a, vs, e, s, Reps.own wr q n⟩
  | .lst ds, v, F, h, n => by rw [Rep] at h ⊢; obtain ⟨a, vs, G, e, s, w, q, z⟩ := h; rw [D.own] at n; exact ⟨a, vs, G, e, s, wr a w, Reps.own wr q n, z⟩
  | .frz ds, v, F, h, n => by rw [Rep] at h ⊢; obtain ⟨a, vs, G, e, s, w, q, z⟩ := h; rw [D.own] at n; exact ⟨a, vs, G, e, s, wr a w, Reps.own wr q n, z⟩
  | .shr ds, v, F, h, n => by rw [D.own] at n; cases n
theorem Reps.own (wr : ∀ a, Wr a → Wr' a) : ∀ {ds : List D} {vs : List V} {F : List Addr}, Reps K Wr H ds vs F → D.owns ds = true → Reps K Wr' H ds vs F
  | [], vs, F, h, _ => by rw [Reps] at h ⊢; exact h
  | d :: ds, vs, F, h, n => by
    rw [Reps] at h ⊢; obtain ⟨v, r, F1, F2, e, h1, h2, z⟩ := h
    rw [D.owns, Bool.and_eq_true] at n
    exact ⟨v, r, F1, F2, e, Rep.own wr h1 n.1, Reps.own wr h2 n.2, z⟩
end
mutual
/-- shared: Wr' is false of all that stands in F and of what the caller has shared -/
theorem Rep.share (wr : ∀ a, ¬ Wr a → ¬ Wr' a) : ∀ {d : D} {v : V} {F : List Addr}, Rep K Wr H d v F → (∀ a, a ∈ F → ¬ Wr' a) → Rep K Wr' H d.share v []
  | .non, v, F, h, _ => by rw [D.share]; rw [Rep] at h ⊢; exact ⟨h.1, rfl⟩
  | .bl _, v, F, h, _ => by rw [D.share]; rw [Rep] at h ⊢; exact ⟨h.1, rfl⟩
  | .int _, v, F, h, _ => by rw [D.share]; rw [Rep] at h ⊢; exact ⟨h.1, rfl⟩
  | .str _, v, F, h, _ => by rw [D.share]; rw [Rep] at h ⊢; exact ⟨h.1, rfl⟩
  | .tup ds, v, F, h, n => by rw [D.share]; rw [Rep] at h ⊢; obtain ⟨a, vs, e, s, q⟩ := h; exact ⟨a, vs, e, s, Reps.share wr q n⟩
  | .lst ds, v, F, h, n => by
    rw [D.share, Rep]; rw [Rep] at h; obtain ⟨a, vs, G, e, s, w, q, rfl⟩ := h
    exact ⟨a, vs, e, .inl (.inl s), .inl (n a List.mem_cons_self), Reps.share wr q fun b hb => n b (List.mem_cons_of_mem _ hb)⟩
  | .frz ds, v, F, h, n => by
    rw [D.share, Rep]; rw [Rep] at h; obtain ⟨a, vs, G, e, s, w, q, rfl⟩ := h
    exact ⟨a, vs, e, .inl (.inl s), .inl (n a List.mem_cons_self), Reps.share wr q fun b hb => n b (List.mem_cons_of_mem _ hb)⟩
  | .shr ds, v, F, h, n => by rw [D.share]; rw [Rep] at h ⊢; obtain ⟨a, vs, e, s, w, q⟩ := h; exact ⟨a, vs, e, s, w.imp (wr a) id, Reps.share wr q n⟩
theorem Reps.share (wr : ∀ a, ¬ Wr a → ¬ Wr' a) : ∀ {ds : List D} {vs : List V} {F : List Addr}, Reps K Wr H ds vs F → (∀ a, a ∈ F → ¬ Wr' a) → Reps K Wr' H (D.shares ds) vs []
  | [], vs, F, h, _ => by rw [D.shares]; rw [Reps] at h ⊢; exact ⟨h.1, rfl⟩
  | d :: ds, vs, F, h, n => by
    rw [D.shares]; rw [Reps] at h ⊢; obtain ⟨v, r, F1, F2, e, h1, h2, rfl⟩ := h
    exact ⟨v, r, [], [], e, Rep.share wr h1 fun b hb => n b (List.mem_append_left _ hb), Reps.share wr h2 fun b hb => n b (List.mem_append_right _ hb), rfl⟩
end
theorem Reps.length : ∀ {ds : List D} {vs : List V} {F : List Addr}, Reps K Wr H ds vs F → ds.length = vs.length
  | [], vs, F, h => by rw [Reps] at h; obtain ⟨rfl, _⟩ := h; rfl
  | d :: ds, vs, F, h => by
    rw [Reps] at h; obtain ⟨v, r, F1, F2, rfl, h1, h2, rfl⟩ := h
    rw [List.length_cons, List.length_cons, h2.length]
/-- the i-th item -/
theorem Reps.get : ∀ {ds : List D} {vs : List V} {F : List Addr} {i : Nat} {d : D}, Reps K Wr H ds vs F → ds[i]? = some d → ∃ v G, vs[i]? = some v ∧ Rep K Wr H d v G ∧ ∀ a, a ∈ G → a ∈ F
  | [], vs, F, i, d, h, e => by simp at e
  | x :: ds, vs, F, 0, d, h, e => by
    rw [Reps] at h; obtain ⟨v, r, F1, F2, rfl, h1, h2, rfl⟩ := h
    simp at e; subst e
    exact ⟨v, F1, rfl, h1, fun a q => List.mem_append_left _ q⟩
  | x :: ds, vs, F, i + 1, d, h, e => by
    rw [Reps] at h; obtain ⟨v, r, F1, F2, rfl, h1, h2, rfl⟩ := h
    obtain ⟨u, G, e1, e2, e3⟩ := Reps.get (i := i) (d := d) h2 (by simpa using e)
    exact ⟨u, G, by simpa using e1, e2, fun a q => List.mem_append_right _ (e3 a q)⟩
theorem Reps.append : ∀ {ds es : List D} {vs ws : List V} {F G : List Addr}, Reps K Wr H ds vs F → Reps K Wr H es ws G → Reps K Wr H (ds ++ es) (vs ++ ws) (F ++ G)
  | [], es, vs, ws, F, G, h, h' => by rw [Reps] at h; obtain ⟨rfl, rfl⟩ := h; exact h'
  | d :: ds, es, vs, ws, F, G, h, h' => by
    rw [Reps] at h; obtain ⟨v, r, F1, F2, rfl, h1, h2, rfl⟩ := h
    rw [List.cons_append, List.cons_append, Reps]
    exact ⟨v, r ++ ws, F1, F2 ++ G, rfl, h1, Reps.append h2 h', List.append_assoc ..⟩
theorem Reps.one {d : D} {v : V} {F : List Addr} (h : Rep K Wr H d v F) : Reps K Wr H [d] [v] F := by
  rw [Reps]; exact ⟨v, [], F, [], rfl, h, by rw [Reps]; exact ⟨rfl, rfl⟩, (List.append_nil F).symm⟩
theorem Reps.nil : Reps K Wr H [] [] [] := by rw [Reps]; exact ⟨rfl, rfl⟩
theorem Reps.cons {d : D} {ds : List D} {v : V} {vs : List V} {F G : List Addr} (h : Rep K Wr H d v F) (h' : Reps K Wr H ds vs G) : Reps K Wr H (d :: ds) (v :: vs) (F ++ G) := by
  rw [Reps]; exact ⟨v, vs, F, G, rfl, h, h', rfl⟩
/-- free items: any sublist, any order -/
theorem Reps.of_free : ∀ {ds : List D} {vs : List V}, ds.length = vs.length → (∀ (i : Nat) d, ds[i]? = some d → ∃ v, vs[i]? = some v ∧ Rep K Wr H d v []) → Reps K Wr H ds vs []
  | [], [], _, _ => Reps.nil
  | d :: ds, v :: vs, hl, h => by
    obtain ⟨u, e, r⟩ := h 0 d rfl
    simp at e; subst e
    refine Reps.cons (G := []) r (Reps.of_free (by simpa using hl) fun i x e => ?_)
    obtain ⟨u, e2, r2⟩ := h (i + 1) x (by simpa using e)
    exact ⟨u, by simpa using e2, r2⟩
theorem D.frees_all : ∀ {ds : List D}, D.frees ds = true ↔ ∀ d, d ∈ ds → d.free = true
  | [] => by simp [D.frees]
  | d :: ds => by rw [D.frees, Bool.and_eq_true, D.frees_all]; simp
theorem D.owns_all : ∀ {ds : List D}, D.owns ds = true ↔ ∀ d, d ∈ ds → d.own = true
  | [] => by simp [D.owns]
  | d :: ds => by rw [D.owns, Bool.and_eq_true, D.owns_all]; simp
theorem D.shares_map : ∀ (ds : List D), D.shares ds = ds.map D.share
  | [] => rfl
  | d :: ds => by rw [D.shares, D.shares_map]; rfl
/-- a free item of free items, kept by any growth -/
theorem Reps.get_free {ds : List D} {vs : List V} {F : List Addr} {i : Nat} {d : D} (h : Reps K Wr H ds vs F) (e : ds[i]? = some d) (f : d.free = true) : ∃ v, vs[i]? = some v ∧ Rep K Wr H d v [] := by
  obtain ⟨v, G, e1, e2, _⟩ := h.get e
  obtain rfl := e2.free f
  exact ⟨v, e1, e2⟩
end
end FL

end

section
set_option Elab.async false
set_option linter.all false
set_option maxRecDepth 100000
set_option maxHeartbeats 4000000
namespace FL
open PySem L2

abbrev Env := List (Option D)
def lk (ρ : Env) (i : Nat) : Option D := (ρ[i]?).join
abbrev Fs := Nat → List Addr
def Fs.set (fs : Fs) (i : Nat) (F : List Addr) : Fs := fun j => if j = i then F else fs j
def Fs.has (fs : Fs) : Addr → Prop := fun a => ∃ i, a ∈ fs i
theorem Fs.set_same {fs : Fs} {i : Nat} {F : List Addr} : fs.set i F i = F := by unfold Fs.set; rw [if_pos rfl]
theorem Fs.set_ne {fs : Fs} {i j : Nat} {F : List Addr} (h : j ≠ i) : fs.set i F j = fs j := by unfold Fs.set; rw [if_neg h]
theorem Fs.set_has {fs : Fs} {i : Nat} {F : List Addr} {a : Addr} (h : (fs.set i F).has a) : fs.has a ∨ a ∈ F := by
  obtain ⟨j, h⟩ := h
  by_cases e : j = i
  · subst e; rw [Fs.set_same] at h; exact .inr h
  · rw [Fs.set_ne e] at h; exact .inl ⟨j, h⟩

structure Wc where
  Wr : Addr → Prop
  lk : List (Nat × V)

structure ER (K : PySem.W.Frag) (W : Wc) (σ : L2.St) (H : Hp) (ρ : Env) (fs : Fs) : Prop where
  len : σ.length = ρ.length
  rep : ∀ i d, ρ[i]? = some (some d) → ∃ v, σ[i]? = some (some v) ∧ Rep K W.Wr H d v (fs i)
  out : ∀ i, (∀ d, ρ[i]? ≠ some (some d)) → fs i = []
  nd : ∀ i, (fs i).Nodup
  dj : ∀ i j, i ≠ j → ∀ a, a ∈ fs i → a ∉ fs j
  free : ∀ a, H a = none → W.Wr a
  lock : ∀ p, p ∈ W.lk → σ[p.1]? = some (some p.2)

section
variable {K : PySem.W.Frag} {W : Wc} {σ : L2.St} {H H' : Hp} {ρ : Env} {fs : Fs}
theorem ER.owned (h : ER K W σ H ρ fs) : Owned W.Wr H fs.has := by
  rintro a ⟨i, hi⟩
  cases e : ρ[i]? with
  | none => rw [h.out i (by rw [e]; intro d z; cases z)] at hi; cases hi
  | some o => cases o with
    | none => rw [h.out i (by rw [e]; intro d z; cases z)] at hi; cases hi
    | some d => obtain ⟨v, _, r⟩ := h.rep i d e; exact r.owned a hi
theorem ER.ext (h : ER K W σ H ρ fs) (e : Ext H H') : ER K W σ H' ρ fs :=
  ⟨h.len, fun i d q => let ⟨v, a, b⟩ := h.rep i d q; ⟨v, a, b.ext e⟩, h.out, h.nd, h.dj, fun a q => h.free a (e.back q), h.lock⟩
theorem lk_some {i : Nat} {d : D} : lk ρ i = some d ↔ ρ[i]? = some (some d) := by
  unfold lk
  cases ρ[i]? with
  | none => simp
  | some o => cases o <;> simp
theorem ER.get (h : ER K W σ H ρ fs) {i : Nat} {d : D} (e : lk ρ i = some d) : ∃ v, σ[i]? = some (some v) ∧ Rep K W.Wr H d v (fs i) := h.rep i d (lk_some.mp e)
theorem set_get {α : Type} {l : List α} {i j : Nat} {x y : α} (h : (l.set i x)[j]? = some y) : (j = i ∧ x = y ∧ i < l.length) ∨ (j ≠ i ∧ l[j]? = some y) := by
  by_cases e : i = j
  · subst e
    by_cases hl : i < l.length
    · rw [List.getElem?_set_self hl] at h; exact .inl ⟨rfl, Option.some.inj h, hl⟩
    · rw [List.getElem?_eq_none (by simpa using hl)] at h; cases h
  · rw [List.getElem?_set_ne e] at h; exact .inr ⟨Ne.symm e, h⟩
/-- slot i is stored anew -/
theorem ER.put {i : Nat} {d : D} {v : V} {F : List Addr} (h : ER K W σ H ρ fs) (r : Rep K W.Wr H d v F) (nd : F.Nodup) (ap : ∀ a, a ∈ F → ¬ fs.has a) (hl : ∀ p, p ∈ W.lk → p.1 ≠ i) (hi : i < ρ.length) : ER K W (σ.set i (some v)) H (ρ.set i (some d)) (fs.set i F) where
  len := by rw [List.length_set, List.length_set, h.len]
  rep := fun j e q => by
    rcases set_get q with ⟨rfl, e1, hj⟩ | ⟨n, q⟩
    · cases e1
      exact ⟨v, by rw [List.getElem?_set_self (by rw [h.len]; exact hi)], by rw [Fs.set_same]; exact r⟩
    · obtain ⟨u, e1, e2⟩ := h.rep j e q
      exact ⟨u, by rw [List.getElem?_set_ne (Ne.symm n)]; exact e1, by rw [Fs.set_ne n]; exact e2⟩
  out := fun j q => by
    by_cases n : j = i
    · subst n; exact absurd (List.getElem?_set_self hi) (q d)
    · rw [Fs.set_ne n]
      exact h.out j fun e z => q e (by rw [List.getElem?_set_ne (Ne.symm n)]; exact z)
  nd := fun j => by
    by_cases n : j = i
    · subst n; rw [Fs.set_same]; exact nd
    · rw [Fs.set_ne n]; exact h.nd j
  dj := fun j k n a ha hb => by
    by_cases n1 : j = i
    · subst n1
      rw [Fs.set_same] at ha; rw [Fs.set_ne (Ne.symm n)] at hb
      exact ap a ha ⟨k, hb⟩
    · rw [Fs.set_ne n1] at ha
      by_cases n2 : k = i
      · subst n2; rw [Fs.set_same] at hb; exact ap a hb ⟨j, ha⟩
      · rw [Fs.set_ne n2] at hb; exact h.dj j k n a ha hb
  free := h.free
  lock := fun p hp => by rw [List.getElem?_set_ne (Ne.symm (hl p hp))]; exact h.lock p hp
/-- slot i is forgotten -/
theorem ER.drop {i : Nat} (h : ER K W σ H ρ fs) : ER K W σ H (ρ.set i none) (fs.set i []) where
  len := by rw [List.length_set, h.len]
  rep := fun j e q => by
    rcases set_get q with ⟨rfl, e1, hj⟩ | ⟨n, q⟩
    · cases e1
    · rw [Fs.set_ne n]; exact h.rep j e q
  out := fun j q => by
    by_cases n : j = i
    · subst n; rw [Fs.set_same]
    · rw [Fs.set_ne n]
      exact h.out j fun e z => q e (by rw [List.getElem?_set_ne (Ne.symm n)]; exact z)
  nd := fun j => by
    by_cases n : j = i
    · subst n; rw [Fs.set_same]; exact List.nodup_nil
    · rw [Fs.set_ne n]; exact h.nd j
  dj := fun j k n a ha hb => by
    by_cases n1 : j = i
    · subst n1; rw [Fs.set_same] at ha; cases ha
    · rw [Fs.set_ne n1] at ha
      by_cases n2 : k = i
      · subst n2; rw [Fs.set_same] at hb; cases hb
      · rw [Fs.set_ne n2] at hb; exact h.dj j k n a ha hb
  free := h.free
  lock := h.lock
/-- the heap changes at slot i's own things alone; slot i's value is another one now, at the same V -/
theorem ER.mut {i : Nat} {d : D} {v : V} {F : List Addr} (h : ER K W σ H ρ fs) (hv : σ[i]? = some (some v)) (hi : i < ρ.length) (k : ∀ a o, a ∉ fs i → H a = some o → H' a = some o)
    (r : Rep K W.Wr H' d v F) (nd : F.Nodup) (ap : ∀ a, a ∈ F → ∀ j, j ≠ i → a ∉ fs j) : ER K W σ H' (ρ.set i (some d)) (fs.set i F) where
  len := by rw [List.length_set, h.len]
  rep := fun j e q => by
    rcases set_get q with ⟨rfl, e1, hj⟩ | ⟨n, q⟩
    · cases e1
      exact ⟨v, hv, by rw [Fs.set_same]; exact r⟩
    · obtain ⟨u, e1, e2⟩ := h.rep j e q
      refine ⟨u, e1, ?_⟩
      rw [Fs.set_ne n]
      exact e2.keep (F0 := fun a => a ∈ fs i) (fun a ha => h.owned a ⟨i, ha⟩) k fun a ha => h.dj j i n a ha
  out := fun j q => by
    by_cases n : j = i
    · subst n; exact absurd (List.getElem?_set_self hi) (q d)
    · rw [Fs.set_ne n]
      exact h.out j fun e z => q e (by rw [List.getElem?_set_ne (Ne.symm n)]; exact z)
  nd := fun j => by
    by_cases n : j = i
    · subst n; rw [Fs.set_same]; exact nd
    · rw [Fs.set_ne n]; exact h.nd j
  dj := fun j k' n a ha hb => by
    by_cases n1 : j = i
    · subst n1
      rw [Fs.set_same] at ha; rw [Fs.set_ne (Ne.symm n)] at hb
      exact ap a ha k' (Ne.symm n) hb
    · rw [Fs.set_ne n1] at ha
      by_cases n2 : k' = i
      · subst n2; rw [Fs.set_same] at hb; exact ap a hb j n1 ha
      · rw [Fs.set_ne n2] at hb; exact h.dj j k' n a ha hb
  free := fun a q => by
    cases e : H a with
    | none => exact h.free a e
    | some o =>
      by_cases hF : a ∈ fs i
      · exact (h.owned a ⟨i, hF⟩).1
      · rw [k a o hF e] at q; cases q
  lock := h.lock
end

/-! ### judgements -/
/-- what follows a calm expression -/
def DenB (K : PySem.W.Frag) (p : Env → Option D) : TE := fun σ H Q => ∃ (W : Wc) (ρ : Env) (fs : Fs) (d : D), ER K W σ H ρ fs ∧ p ρ = some d ∧
  ∀ v H' F, Ext H H' → Rep K W.Wr H' d v F → (∀ a, a ∈ F → fs.has a ∨ H a = none) → Q v H'
def DenF (K : PySem.W.Frag) (p : Env → Option D) : TE := fun σ H Q => ∃ (W : Wc) (ρ : Env) (fs : Fs) (d : D), ER K W σ H ρ fs ∧ p ρ = some d ∧
  ∀ v H' F, Ext H H' → Rep K W.Wr H' d v F → F.Nodup → (∀ a, a ∈ F → H a = none) → Q v H'
def DenT (K : PySem.W.Frag) (p : Env → Option Bool) : TT := fun σ H Q => ∃ (W : Wc) (ρ : Env) (fs : Fs) (b : Bool), ER K W σ H ρ fs ∧ p ρ = some b ∧
  ∀ H', Ext H H' → Q b H'
def DenBs (K : PySem.W.Frag) (p : Env → Option (List D)) : TA := fun σ H Q => ∃ (W : Wc) (ρ : Env) (fs : Fs) (ds : List D), ER K W σ H ρ fs ∧ p ρ = some ds ∧
  ∀ vs H' F, Ext H H' → Reps K W.Wr H' ds vs F → (∀ a, a ∈ F → fs.has a ∨ H a = none) → Q vs H'
structure DB (X : Cx) (e : Expr) (p : Env → Option D) : Prop where
  ex : ∃ t, PE X e t ∧ ∀ σ H Q, DenB X.K p σ H Q → t σ H Q
structure DF (X : Cx) (e : Expr) (p : Env → Option D) : Prop where
  ex : ∃ t, PE X e t ∧ ∀ σ H Q, DenF X.K p σ H Q → t σ H Q
structure DT (X : Cx) (e : Expr) (p : Env → Option Bool) : Prop where
  ex : ∃ t, PT X e t ∧ ∀ σ H Q, DenT X.K p σ H Q → t σ H Q
structure DBs (X : Cx) (es : List Expr) (p : Env → Option (List D)) : Prop where
  ex : ∃ t, PA X es t ∧ ∀ σ H Q, DenBs X.K p σ H Q → t σ H Q
/-- expressions that may change lists of the frame -/
def DenE (K : PySem.W.Frag) (m : Env → Option (D × Env)) : TE := fun σ H Q => ∃ (W : Wc) (ρ : Env) (fs : Fs) (d : D) (ρ' : Env), ER K W σ H ρ fs ∧ m ρ = some (d, ρ') ∧
  ∀ v H' fs' F, ER K W σ H' ρ' fs' → Rep K W.Wr H' d v F → F.Nodup → (∀ a, a ∈ F → ¬ Fs.has fs' a) → Step fs.has H (fun a => Fs.has fs' a ∨ a ∈ F) H' → Q v H'
def DenTE (K : PySem.W.Frag) (m : Env → Option (Bool × Env)) : TT := fun σ H Q => ∃ (W : Wc) (ρ : Env) (fs : Fs) (b : Bool) (ρ' : Env), ER K W σ H ρ fs ∧ m ρ = some (b, ρ') ∧
  ∀ H' fs', ER K W σ H' ρ' fs' → Step fs.has H (Fs.has fs') H' → Q b H'
structure DE (X : Cx) (e : Expr) (m : Env → Option (D × Env)) : Prop where
  ex : ∃ t, PE X e t ∧ ∀ σ H Q, DenE X.K m σ H Q → t σ H Q
structure DTE (X : Cx) (e : Expr) (m : Env → Option (Bool × Env)) : Prop where
  ex : ∃ t, PT X e t ∧ ∀ σ H Q, DenTE X.K m σ H Q → t σ H Q
inductive Tm where
  | v (d : D) | s (i : Nat) | m (i : Nat)
def TmR (K : PySem.W.Frag) (W : Wc) (σ : L2.St) (H : Hp) : Tm → V → List Addr → Prop
  | .v d, v, F => Rep K W.Wr H d v F
  | .s i, v, F => σ[i]? = some (some v) ∧ F = []
  | .m i, v, F => σ[i]? = some (some v) ∧ F = []
def TmsR (K : PySem.W.Frag) (W : Wc) (σ : L2.St) (H : Hp) : List Tm → List V → List Addr → Prop
  | [], vs, F => vs = [] ∧ F = []
  | t :: ts, vs, F => ∃ v r F1 F2, vs = v :: r ∧ TmR K W σ H t v F1 ∧ TmsR K W σ H ts r F2 ∧ F = F1 ++ F2
def DenO (K : PySem.W.Frag) (m : Env → Option (Tm × Env)) : TE := fun σ H Q => ∃ (W : Wc) (ρ : Env) (fs : Fs) (t : Tm) (ρ' : Env), ER K W σ H ρ fs ∧ m ρ = some (t, ρ') ∧
  ∀ v H' fs' F, ER K W σ H' ρ' fs' → TmR K W σ H' t v F → F.Nodup → (∀ a, a ∈ F → ¬ Fs.has fs' a) → Step fs.has H (fun a => Fs.has fs' a ∨ a ∈ F) H' → Q v H'
def DenA (K : PySem.W.Frag) (m : Env → Option (List Tm × Env)) : TA := fun σ H Q => ∃ (W : Wc) (ρ : Env) (fs : Fs) (t : List Tm) (ρ' : Env), ER K W σ H ρ fs ∧ m ρ = some (t, ρ') ∧
  ∀ vs H' fs' F, ER K W σ H' ρ' fs' → TmsR K W σ H' t vs F → F.Nodup → (∀ a, a ∈ F → ¬ Fs.has fs' a) → Step fs.has H (fun a => Fs.has fs' a ∨ a ∈ F) H' → Q vs H'
structure DO (X : Cx) (e : Expr) (m : Env → Option (Tm × Env)) : Prop where
  ex : ∃ t, PE X e t ∧ ∀ σ H Q, DenO X.K m σ H Q → t σ H Q
structure DAs (X : Cx) (es : List Expr) (m : Env → Option (List Tm × Env)) : Prop where
  ex : ∃ t, PA X es t ∧ ∀ σ H Q, DenA X.K m σ H Q → t σ H Q

/-! ### operations on values -/
/-- what a new value is -/
def New (K : PySem.W.Frag) (Wr : Addr → Prop) (H : Hp) (d : D) (Q : VK) : Prop :=
  ∀ u H' E, Ext H H' → Rep K Wr H' d u E → E.Nodup → (∀ a, a ∈ E → H a = none) → Q u H'
def PO1 (K : PySem.W.Frag) (r : V → Hp → VK → Prop) (f : D → Option D) : Prop :=
  ∀ Wr H x v F d Q, (∀ a, H a = none → Wr a) → Rep K Wr H x v F → f x = some d → New K Wr H d Q → r v H Q
def PO2 (K : PySem.W.Frag) (r : R2) (f : D → D → Option D) : Prop :=
  ∀ Wr H x y v w F G d Q, (∀ a, H a = none → Wr a) → Rep K Wr H x v F → Rep K Wr H y w G → f x y = some d → New K Wr H d Q → r v w H Q
def POn (K : PySem.W.Frag) (r : List V → Hp → VK → Prop) (f : List D → Option D) : Prop :=
  ∀ Wr H xs vs F d Q, (∀ a, H a = none → Wr a) → Reps K Wr H xs vs F → f xs = some d → New K Wr H d Q → r vs H Q
theorem New.sc {K : PySem.W.Frag} {Wr : Addr → Prop} {H : Hp} {d : D} {Q : VK} {v : V} (h : New K Wr H d Q) (r : Rep K Wr H d v []) : Q v H := h v H [] (Ext.refl H) r List.nodup_nil fun _ z => by cases z
theorem New.int {K : PySem.W.Frag} {Wr : Addr → Prop} {H : Hp} {i : Int} {Q : VK} (h : New K Wr H (.int i) Q) : Q (.int i) H := h.sc (by rw [Rep]; exact ⟨rfl, rfl⟩)
theorem New.bl {K : PySem.W.Frag} {Wr : Addr → Prop} {H : Hp} {i : Bool} {Q : VK} (h : New K Wr H (.bl i) Q) : Q (.bl i) H := h.sc (by rw [Rep]; exact ⟨rfl, rfl⟩)
theorem New.str {K : PySem.W.Frag} {Wr : Addr → Prop} {H : Hp} {i : Str} {Q : VK} (h : New K Wr H (.str i) Q) : Q (.str i) H := h.sc (by rw [Rep]; exact ⟨rfl, rfl⟩)
theorem New.non {K : PySem.W.Frag} {Wr : Addr → Prop} {H : Hp} {Q : VK} (h : New K Wr H .non Q) : Q .non H := h.sc (by rw [Rep]; exact ⟨rfl, rfl⟩)
/-- a new tuple, a new list of free items -/
theorem New.tup {K : PySem.W.Frag} {Wr : Addr → Prop} {H : Hp} {ds : List D} {vs : List V} {Q : VK} (h : New K Wr H (.tup ds) Q) (r : Reps K Wr H ds vs []) : NewT H vs Q := fun p o hp hd =>
  h _ _ [] (Ext.new hp) (by rw [Rep]; exact ⟨p, vs, rfl, .inl ⟨o, upd_same, hd⟩, r.ext (Ext.new hp)⟩) List.nodup_nil fun _ z => by cases z
theorem New.lst {K : PySem.W.Frag} {Wr : Addr → Prop} {H : Hp} {ds : List D} {vs : List V} {Q : VK} {p : Addr} (h : New K Wr H (.lst ds) Q) (fr : ∀ a, H a = none → Wr a) (r : Reps K Wr H ds vs []) (hp : H p = none) : Q (.ref p) (upd H p (.lst vs)) :=
  h _ _ [p] (Ext.new hp) (by rw [Rep]; exact ⟨p, vs, [], rfl, upd_same, fr p hp, r.ext (Ext.new hp), rfl⟩) (by simp) fun a q => by rw [List.mem_singleton.mp q]; exact hp

section
variable {X : Cx} {a b e : Expr} {es : List Expr} {pos : Pos}
/-! ### calm expressions -/
def p1 (f : D → Option D) (a : Env → Option D) : Env → Option D := fun ρ => (a ρ).bind f
def p2 (f : D → D → Option D) (a b : Env → Option D) : Env → Option D := fun ρ => (a ρ).bind fun x => (b ρ).bind fun y => f x y
def pn (f : List D → Option D) (a : Env → Option (List D)) : Env → Option D := fun ρ => (a ρ).bind f
def psNil : Env → Option (List D) := fun _ => some []
def psCons (p : Env → Option D) (q : Env → Option (List D)) : Env → Option (List D) := fun ρ => (p ρ).bind fun d => (q ρ).bind fun ds => some (d :: ds)
def pV (i : Nat) : Env → Option D := fun ρ => lk ρ i
def pC (d : D) : Env → Option D := fun _ => some d

theorem DF.db {p : Env → Option D} (h : DF X e p) : DB X e p := by
  obtain ⟨t, h1, h2⟩ := h.ex
  refine ⟨t, h1, fun σ H Q ⟨W, ρ, fs, d, er, hp, q⟩ => h2 σ H Q ⟨W, ρ, fs, d, er, hp, fun v H' F x r _ n => q v H' F x r fun a ha => .inr (n a ha)⟩⟩
theorem db_var (i : Nat) {x : Str} (hN : X.N[i]? = some x := by rfl) (hv : Vis X.env.scope x := by first | exact Or.inl rfl | exact Or.inr (Or.inl rfl) | exact Or.inr (Or.inr rfl)) (hd : (x == ("__debug__" : Str)) = false := by decide)
    (hcd : (x == ("__classdict__" : Str)) = false := by decide) : DB X (.Name x pos) (pV i) := by
  refine ⟨_, pe_var hN hv hd hcd, fun σ H Q ⟨W, ρ, fs, d, er, hp, q⟩ => ?_⟩
  obtain ⟨v, e1, r⟩ := er.get hp
  exact ⟨v, e1, q v H _ (Ext.refl H) r fun a ha => .inl ⟨i, ha⟩⟩
theorem df_c {e : Expr} {v : V} {d : D} (h : PE X e (tC v)) (r : ∀ K Wr H, Rep K Wr H d v []) : DF X e (pC d) := by
  refine ⟨_, h, fun σ H Q ⟨W, ρ, fs, d, er, hp, q⟩ => ?_⟩
  cases hp
  exact q v H [] (Ext.refl H) (r _ _ _) List.nodup_nil fun _ z => by cases z
theorem df_int {i j pos} : DF X (.Constant (.int i) j pos) (pC (.int i)) := df_c pe_int fun _ _ _ => by rw [Rep]; exact ⟨rfl, rfl⟩
theorem df_bl {i j pos} : DF X (.Constant (.bool i) j pos) (pC (.bl i)) := df_c pe_bl fun _ _ _ => by rw [Rep]; exact ⟨rfl, rfl⟩
theorem df_non {j pos} : DF X (.Constant .none j pos) (pC .non) := df_c pe_non fun _ _ _ => by rw [Rep]; exact ⟨rfl, rfl⟩
theorem df_str {i j pos} : DF X (.Constant (.str i) j pos) (pC (.str i)) := df_c pe_str fun _ _ _ => by rw [Rep]; exact ⟨rfl, rfl⟩

/-- the readings of the operations, calm -/
theorem calm1 {r : V → Hp → VK → Prop} {f : D → Option D} {pa : Env → Option D} {ta : TE} (hf : PO1 X.K r f) (ha : ∀ σ H Q, DenB X.K pa σ H Q → ta σ H Q) {σ : L2.St} {H : Hp} {Q : VK} (h : DenF X.K (p1 f pa) σ H Q) : ta σ H fun x H1 => r x H1 Q := by
  obtain ⟨W, ρ, fs, d, er, hp, q⟩ := h
  obtain ⟨x, hx, hp⟩ := Option.bind_eq_some_iff.mp hp
  refine ha σ H _ ⟨W, ρ, fs, x, er, hx, fun v H1 F e1 r1 n1 => hf W.Wr H1 x v F d Q (er.ext e1).free r1 hp fun u H2 E e2 r2 n2 f2 => q u H2 E (e1.trans e2) r2 n2 fun a ha => e1.back (f2 a ha)⟩
theorem calm2 {r : R2} {f : D → D → Option D} {pa pb : Env → Option D} {ta tb : TE} (hf : PO2 X.K r f) (ha : ∀ σ H Q, DenB X.K pa σ H Q → ta σ H Q) (hb : ∀ σ H Q, DenB X.K pb σ H Q → tb σ H Q) {σ : L2.St} {H : Hp} {Q : VK} (h : DenF X.K (p2 f pa pb) σ H Q) :
    tOp r ta tb σ H Q := by
  obtain ⟨W, ρ, fs, d, er, hp, q⟩ := h
  obtain ⟨x, hx, hp⟩ := Option.bind_eq_some_iff.mp hp
  obtain ⟨y, hy, hp⟩ := Option.bind_eq_some_iff.mp hp
  refine ha σ H _ ⟨W, ρ, fs, x, er, hx, fun v H1 F e1 r1 n1 => ?_⟩
  refine hb σ H1 _ ⟨W, ρ, fs, y, er.ext e1, hy, fun w H2 G e2 r2 n2 => ?_⟩
  exact hf W.Wr H2 x y v w F G d Q (er.ext (e1.trans e2)).free (r1.ext e2) r2 hp fun u H3 E e3 r3 n3 f3 => q u H3 E ((e1.trans e2).trans e3) r3 n3 fun a ha => (e1.trans e2).back (f3 a ha)
theorem calmn {r : List V → Hp → VK → Prop} {f : List D → Option D} {pa : Env → Option (List D)} {ta : TA} (hf : POn X.K r f) (ha : ∀ σ H Q, DenBs X.K pa σ H Q → ta σ H Q) {σ : L2.St} {H : Hp} {Q : VK} (h : DenF X.K (pn f pa) σ H Q) : ta σ H fun x H1 => r x H1 Q := by
  obtain ⟨W, ρ, fs, d, er, hp, q⟩ := h
  obtain ⟨x, hx, hp⟩ := Option.bind_eq_some_iff.mp hp
  refine ha σ H _ ⟨W, ρ, fs, x, er, hx, fun v H1 F e1 r1 n1 => hf W.Wr H1 x v F d Q (er.ext e1).free r1 hp fun u H2 E e2 r2 n2 f2 => q u H2 E (e1.trans e2) r2 n2 fun a ha => e1.back (f2 a ha)⟩
theorem dbs_nil : DBs X [] psNil := ⟨_, pa_nil, fun σ H Q ⟨W, ρ, fs, d, er, hp, q⟩ => by
  cases hp
  exact q [] H [] (Ext.refl H) Reps.nil fun _ z => by cases z⟩
theorem dbs_cons {p : Env → Option D} {ps : Env → Option (List D)} (h : DB X e p) (hr : DBs X es ps) (hs : starEach (e :: es) X.env = (false, eval e X.env) :: starEach es X.env := by rfl) : DBs X (e :: es) (psCons p ps) := by
  obtain ⟨t, h1, h2⟩ := h.ex
  obtain ⟨u, k1, k2⟩ := hr.ex
  refine ⟨_, pa_cons h1 k1 hs, fun σ H Q ⟨W, ρ, fs, d, er, hp, q⟩ => ?_⟩
  obtain ⟨x, hx, hp⟩ := Option.bind_eq_some_iff.mp hp
  obtain ⟨xs, hy, hp⟩ := Option.bind_eq_some_iff.mp hp
  cases hp
  refine h2 σ H _ ⟨W, ρ, fs, x, er, hx, fun v H1 F e1 r1 n1 => ?_⟩
  refine k2 σ H1 _ ⟨W, ρ, fs, xs, er.ext e1, hy, fun vs H2 G e2 r2 n2 => q (v :: vs) H2 (F ++ G) (e1.trans e2) (Reps.cons (r1.ext e2) r2) fun a ha => ?_⟩
  rcases List.mem_append.mp ha with z | z
  · exact n1 a z
  · rcases n2 a z with z | z
    · exact .inl z
    · exact .inr (e1.back z)
theorem df_op {op : Operator} {r : R2} {f : D → D → Option D} {pa pb : Env → Option D} (ho : OpR X (binaryOp op) r) (hf : PO2 X.K r f) (ha : DB X a pa) (hb : DB X b pb) : DF X (.BinOp a op b pos) (p2 f pa pb) := by
  obtain ⟨t, h1, h2⟩ := ha.ex
  obtain ⟨u, k1, k2⟩ := hb.ex
  exact ⟨_, pe_op ho h1 k1, fun σ H Q h => calm2 hf h2 k2 h⟩
theorem df_cmp {op : CmpOp} {r : R2} {f : D → D → Option D} {pa pb : Env → Option D} (ho : OpR X (compareOp op) r) (hf : PO2 X.K r f) (ha : DB X a pa) (hb : DB X b pb) (hm : behindInMarks op b = false) : DF X (.Compare a [op] [b] pos) (p2 f pa pb) := by
  obtain ⟨t, h1, h2⟩ := ha.ex
  obtain ⟨u, k1, k2⟩ := hb.ex
  exact ⟨_, pe_cmpR ho h1 k1 hm, fun σ H Q h => calm2 hf h2 k2 h⟩
theorem df_ix {r : R2} {f : D → D → Option D} {pa pb : Env → Option D} (hr : IxR X r) (hf : PO2 X.K r f) (ha : DB X a pa) (hb : DB X b pb) (hs : PlainIx b) : DF X (.Subscript a b pos) (p2 f pa pb) := by
  obtain ⟨t, h1, h2⟩ := ha.ex
  obtain ⟨u, k1, k2⟩ := hb.ex
  exact ⟨_, pe_ix hr h1 k1 hs, fun σ H Q h => calm2 hf h2 k2 h⟩
theorem df_un {op : UnaryOp} {r : V → Hp → VK → Prop} {f : D → Option D} {pa : Env → Option D} (ho : UnR X (unaryOp op) r) (hf : PO1 X.K r f) (ha : DB X a pa) : DF X (.UnaryOp op a pos) (p1 f pa) := by
  obtain ⟨t, h1, h2⟩ := ha.ex
  exact ⟨_, pe_un ho h1, fun σ H Q h => calm1 hf h2 h⟩
theorem df_callB {x : Str} {id : String} {p : Pos} {r : List V → Hp → VK → Prop} {f : List D → Option D} {ps : Env → Option (List D)} (hc : CallR X (.builtin id) r) (hf : POn X.K r f) (hg : Gl X x) (hm : X.mg x = none) (hv : bootBuiltins x = some (.builtin id)) (ha : DBs X (e :: es) ps)
    (hn : x ≠ "__name__" := by decide) (hdb : (x == ("__debug__" : Str)) = false := by decide) (he : starEach (e :: es) X.env = (false, eval e X.env) :: starEach es X.env := by rfl) (hpl : (backTo pos (starEach es X.env)).any (·.1) = false := by rfl) :
    DF X (.Call (.Name x p) (e :: es) [] pos) (pn f ps) := by
  obtain ⟨t, h1, h2⟩ := ha.ex
  exact ⟨_, pe_callB hc hg hm hv h1 hn hdb he hpl, fun σ H Q h => calmn hf h2 h⟩
theorem df_callTy {x : Str} {T : String} {p : Pos} {r : List V → Hp → VK → Prop} {f : List D → Option D} {ps : Env → Option (List D)} (hc : CallR X (.type T) r) (hf : POn X.K r f) (hg : Gl X x) (hm : X.mg x = none) (hv : bootBuiltins x = some (.type T)) (ha : DBs X (e :: es) ps)
    (hn : x ≠ "__name__" := by decide) (hdb : (x == ("__debug__" : Str)) = false := by decide) (he : starEach (e :: es) X.env = (false, eval e X.env) :: starEach es X.env := by rfl) (hpl : (backTo pos (starEach es X.env)).any (·.1) = false := by rfl) :
    DF X (.Call (.Name x p) (e :: es) [] pos) (pn f ps) := by
  obtain ⟨t, h1, h2⟩ := ha.ex
  exact ⟨_, pe_callTy hc hg hm hv h1 hn hdb he hpl, fun σ H Q h => calmn hf h2 h⟩
/-- displays of free items -/
def tupF (ds : List D) : Option D := if D.frees ds then some (.tup ds) else none
def lstF (ds : List D) : Option D := if D.frees ds then some (.lst ds) else none
def mkTup (ds : List D) : Option D := if ds.length ≤ 1000 then tupF ds else none
def mkLst (ds : List D) : Option D := if ds.length ≤ 1000 then lstF ds else none
theorem po_tup : POn X.K (fun xs H Q => xs.length ≤ sizeLine ∧ NewT H xs Q) mkTup := by
  intro Wr H xs vs F d Q fr r hf q
  unfold mkTup at hf
  split at hf
  · rename_i hl
    unfold tupF at hf
    split at hf
    · rename_i hfree
      cases hf
      obtain rfl := r.free hfree
      exact ⟨by rw [← r.length]; exact Nat.le_of_lt (small1000 hl), q.tup r⟩
    · cases hf
  · cases hf
theorem po_lst : POn X.K (fun xs H Q => xs.length ≤ sizeLine ∧ ∀ p, H p = none → Q (.ref p) (upd H p (.lst xs))) mkLst := by
  intro Wr H xs vs F d Q fr r hf q
  unfold mkLst at hf
  split at hf
  · rename_i hl
    unfold lstF at hf
    split at hf
    · rename_i hfree
      cases hf
      obtain rfl := r.free hfree
      exact ⟨by rw [← r.length]; exact Nat.le_of_lt (small1000 hl), fun p hp => q.lst fr r hp⟩
    · cases hf
  · cases hf
theorem df_tup {x1} {ps : Env → Option (List D)} (h : DBs X es ps) : DF X (.Tuple es x1 pos) (pn mkTup ps) := by
  obtain ⟨t, h1, h2⟩ := h.ex
  exact ⟨_, pe_tupX h1, fun σ H Q h => calmn po_tup h2 h⟩
theorem df_lst {ps : Env → Option (List D)} (h : DBs X es ps) : DF X (.List es pos) (pn mkLst ps) := by
  obtain ⟨t, h1, h2⟩ := h.ex
  exact ⟨_, pe_lst h1, fun σ H Q h => calmn po_lst h2 h⟩

/-! ### tests, calm -/
def tB' (p : Env → Option D) : Env → Option Bool := fun ρ => (p ρ).bind fun d => match d with | .bl b => some b | _ => none
/-- what a truth value's reading wants -/
def WantB (K : PySem.W.Frag) (p : Env → Option D) (t : TE) : Prop := ∀ (W : Wc) (ρ : Env) (fs : Fs) (b : Bool) σ H Q, ER K W σ H ρ fs → p ρ = some (.bl b) → (∀ H', Ext H H' → Q (.bl b) H') → t σ H Q
theorem want_f {p : Env → Option D} {t : TE} (h2 : ∀ σ H Q, DenF X.K p σ H Q → t σ H Q) : WantB X.K p t := fun W ρ fs b σ H Q er hp q =>
  h2 σ H Q ⟨W, ρ, fs, .bl b, er, hp, fun v H' F e r _ _ => by rw [Rep] at r; obtain ⟨rfl, _⟩ := r; exact q H' e⟩
theorem want_b {p : Env → Option D} {t : TE} (h2 : ∀ σ H Q, DenB X.K p σ H Q → t σ H Q) : WantB X.K p t := fun W ρ fs b σ H Q er hp q =>
  h2 σ H Q ⟨W, ρ, fs, .bl b, er, hp, fun v H' F e r _ => by rw [Rep] at r; obtain ⟨rfl, _⟩ := r; exact q H' e⟩
theorem dt_of {p : Env → Option D} {e : Expr} {t : TE} (h : PT X e (fun σ H Q => t σ H fun x H1 => ∃ c, x = .bl c ∧ Q c H1)) (h2 : WantB X.K p t) : DT X e (tB' p) := by
  refine ⟨_, h, fun σ H Q ⟨W, ρ, fs, b, er, hp, q⟩ => ?_⟩
  obtain ⟨x, hx, hp⟩ := Option.bind_eq_some_iff.mp hp
  cases x with
  | bl c =>
    cases hp
    exact h2 W ρ fs b σ H _ er hx fun H' e => ⟨b, rfl, q H' e⟩
  | _ => cases hp
theorem dt_cmp {op : CmpOp} {r : R2} {f : D → D → Option D} {pa pb : Env → Option D} (ho : OpR X (compareOp op) r) (hf : PO2 X.K r f) (ha : DB X a pa) (hb : DB X b pb) (hm : behindInMarks op b = false) : DT X (.Compare a [op] [b] pos) (tB' (p2 f pa pb)) := by
  obtain ⟨t, h1, h2⟩ := ha.ex
  obtain ⟨u, k1, k2⟩ := hb.ex
  exact dt_of (pt_cmpR ho h1 k1 hm) (want_f fun σ H Q h => calm2 hf h2 k2 h)
theorem dt_val {p : Env → Option D} (h : DB X e p) (he : ∀ whole, isTrue e X.env whole = (do let v ← whole; standAt e.pos; holding [v] (truthy v)) := by intro _; rfl) : DT X e (tB' p) := by
  obtain ⟨t, h1, h2⟩ := h.ex
  exact dt_of (pt_val h1 he) (want_b h2)
/-- and, or, not -/
def tAnd' (p q : Env → Option Bool) : Env → Option Bool := fun ρ => (p ρ).bind fun b => if b then q ρ else some false
def tOr' (p q : Env → Option Bool) : Env → Option Bool := fun ρ => (p ρ).bind fun b => if b then some true else q ρ
def tNot' (p : Env → Option Bool) : Env → Option Bool := fun ρ => (p ρ).map (!·)
structure DW (X : Cx) (e : Expr) (p : Env → Option Bool) : Prop where
  ex : ∃ t, PW X e t ∧ ∀ σ H Q, DenT X.K p σ H Q → t σ H Q
theorem DW.dt {p : Env → Option Bool} (h : DW X e p) : DT X e p := let ⟨t, h1, h2⟩ := h.ex; ⟨t, h1.pt, h2⟩
theorem dw_and1 {p : Env → Option Bool} (h : DT X a p) : DW X (.BoolOp .And [a] pos) p := let ⟨t, h1, h2⟩ := h.ex; ⟨t, pw_and1 h1, h2⟩
theorem dw_or1 {p : Env → Option Bool} (h : DT X a p) : DW X (.BoolOp .Or [a] pos) p := let ⟨t, h1, h2⟩ := h.ex; ⟨t, pw_or1 h1, h2⟩
theorem dw_and {p q : Env → Option Bool} {rest : List Expr} (h : DT X a p) (k : DW X (.BoolOp .And (b :: rest) pos) q) : DW X (.BoolOp .And (a :: b :: rest) pos) (tAnd' p q) := by
  obtain ⟨t, h1, h2⟩ := h.ex
  obtain ⟨u, k1, k2⟩ := k.ex
  refine ⟨_, pw_and h1 k1, fun σ H Q ⟨W, ρ, fs, c, er, hp, z⟩ => ?_⟩
  obtain ⟨x, hx, hp⟩ := Option.bind_eq_some_iff.mp hp
  refine h2 σ H _ ⟨W, ρ, fs, x, er, hx, fun H1 e1 => ?_⟩
  cases x with
  | true => exact iteT (k2 σ H1 Q ⟨W, ρ, fs, c, er.ext e1, hp, fun H2 e2 => z H2 (e1.trans e2)⟩)
  | false => cases hp; exact iteF (z H1 e1)
theorem dw_or {p q : Env → Option Bool} {rest : List Expr} (h : DT X a p) (k : DW X (.BoolOp .Or (b :: rest) pos) q) : DW X (.BoolOp .Or (a :: b :: rest) pos) (tOr' p q) := by
  obtain ⟨t, h1, h2⟩ := h.ex
  obtain ⟨u, k1, k2⟩ := k.ex
  refine ⟨_, pw_or h1 k1, fun σ H Q ⟨W, ρ, fs, c, er, hp, z⟩ => ?_⟩
  obtain ⟨x, hx, hp⟩ := Option.bind_eq_some_iff.mp hp
  refine h2 σ H _ ⟨W, ρ, fs, x, er, hx, fun H1 e1 => ?_⟩
  cases x with
  | false => exact iteF (k2 σ H1 Q ⟨W, ρ, fs, c, er.ext e1, hp, fun H2 e2 => z H2 (e1.trans e2)⟩)
  | true => cases hp; exact iteT (z H1 e1)
theorem dt_not {p : Env → Option Bool} (h : DT X a p) : DT X (.UnaryOp .Not a pos) (tNot' p) := by
  obtain ⟨t, h1, h2⟩ := h.ex
  refine ⟨_, pt_not h1, fun σ H Q ⟨W, ρ, fs, c, er, hp, z⟩ => ?_⟩
  obtain ⟨x, hx, rfl⟩ := Option.map_eq_some_iff.mp hp
  exact h2 σ H _ ⟨W, ρ, fs, x, er, hx, fun H1 e1 => z H1 e1⟩
/-- a test's truth as a value: and, or, not of truth values -/
def pIf (c : Env → Option Bool) (p q : Env → Option D) : Env → Option D := fun ρ => (c ρ).bind fun b => if b then p ρ else q ρ
theorem db_if {c : Expr} {t : Env → Option Bool} {p q : Env → Option D} (hc : DT X c t) (ha : DB X a p) (hb : DB X b q) : DB X (.IfExp c a b pos) (pIf t p q) := by
  obtain ⟨tc, c1, c2⟩ := hc.ex
  obtain ⟨ta, a1, a2⟩ := ha.ex
  obtain ⟨tb, b1, b2⟩ := hb.ex
  refine ⟨_, pe_ifExp c1 a1 b1, fun σ H Q ⟨W, ρ, fs, d, er, hp, z⟩ => ?_⟩
  obtain ⟨x, hx, hp⟩ := Option.bind_eq_some_iff.mp hp
  refine c2 σ H _ ⟨W, ρ, fs, x, er, hx, fun H1 e1 => ?_⟩
  have z' : ∀ v H' F, Ext H1 H' → Rep X.K W.Wr H' d v F → (∀ a, a ∈ F → fs.has a ∨ H1 a = none) → Q v H' := fun v H' F e r n => z v H' F (e1.trans e) r fun a ha => (n a ha).imp id e1.back
  cases x with
  | true => exact iteT (a2 σ H1 Q ⟨W, ρ, fs, d, er.ext e1, hp, z'⟩)
  | false => exact iteF (b2 σ H1 Q ⟨W, ρ, fs, d, er.ext e1, hp, z'⟩)
theorem df_if {c : Expr} {t : Env → Option Bool} {p q : Env → Option D} (hc : DT X c t) (ha : DF X a p) (hb : DF X b q) : DF X (.IfExp c a b pos) (pIf t p q) := by
  obtain ⟨tc, c1, c2⟩ := hc.ex
  obtain ⟨ta, a1, a2⟩ := ha.ex
  obtain ⟨tb, b1, b2⟩ := hb.ex
  refine ⟨_, pe_ifExp c1 a1 b1, fun σ H Q ⟨W, ρ, fs, d, er, hp, z⟩ => ?_⟩
  obtain ⟨x, hx, hp⟩ := Option.bind_eq_some_iff.mp hp
  refine c2 σ H _ ⟨W, ρ, fs, x, er, hx, fun H1 e1 => ?_⟩
  have z' : ∀ v H' F, Ext H1 H' → Rep X.K W.Wr H' d v F → F.Nodup → (∀ a, a ∈ F → H1 a = none) → Q v H' := fun v H' F e r m n => z v H' F (e1.trans e) r m fun a ha => e1.back (n a ha)
  cases x with
  | true => exact iteT (a2 σ H1 Q ⟨W, ρ, fs, d, er.ext e1, hp, z'⟩)
  | false => exact iteF (b2 σ H1 Q ⟨W, ρ, fs, d, er.ext e1, hp, z'⟩)
/-- and, or as values of truth values (the law's returns) -/
def pOfT (t : Env → Option Bool) : Env → Option D := fun ρ => (t ρ).map .bl
theorem df_and1 {p : Env → Option D} (h : DB X a p) : DF X (.BoolOp .And [a] pos) (pOfT (tB' p)) := by
  obtain ⟨t, h1, h2⟩ := h.ex
  refine ⟨_, pe_one h1, fun σ H Q ⟨W, ρ, fs, d, er, hp, q⟩ => ?_⟩
  obtain ⟨b, hb, rfl⟩ := Option.map_eq_some_iff.mp hp
  obtain ⟨x, hx, hb⟩ := Option.bind_eq_some_iff.mp hb
  cases x with
  | bl c =>
    cases hb
    exact want_b h2 W ρ fs b σ H Q er hx fun H' e => q (.bl b) H' [] e (by rw [Rep]; exact ⟨rfl, rfl⟩) List.nodup_nil fun _ z => by cases z
  | _ => cases hb
end
end FL

end

section
set_option Elab.async false
set_option linter.all false
set_option maxRecDepth 100000
set_option maxHeartbeats 4000000
namespace FL
open PySem L2

section
variable {K : PySem.W.Frag} {W : Wc} {σ : L2.St} {H H' H1 H2 : Hp} {ρ ρ1 ρ2 : Env} {fs fs1 fs2 : Fs}
/-- the heap changes apart from the frame's things -/
theorem ER.stay {F0 : Addr → Prop} (h : ER K W σ H ρ fs) (o : Owned W.Wr H F0) (k : ∀ a o, ¬ F0 a → H a = some o → H' a = some o) (ap : ∀ a, fs.has a → ¬ F0 a) : ER K W σ H' ρ fs where
  len := h.len
  rep := fun i d e => let ⟨v, e1, r⟩ := h.rep i d e; ⟨v, e1, r.keep o k fun a ha => ap a ⟨i, ha⟩⟩
  out := h.out
  nd := h.nd
  dj := h.dj
  free := fun a q => by
    cases e : H a with
    | none => exact h.free a e
    | some u =>
      by_cases hF : F0 a
      · exact (o a hF).1
      · rw [k a u hF e] at q; cases q
  lock := h.lock
/-- slot i gets a value at the V that it holds -/
theorem ER.fill {i : Nat} {d : D} {v : V} {F : List Addr} (h : ER K W σ H ρ fs) (hv : σ[i]? = some (some v)) (r : Rep K W.Wr H d v F) (nd : F.Nodup) (ap : ∀ a, a ∈ F → ¬ fs.has a) : ER K W σ H (ρ.set i (some d)) (fs.set i F) := by
  have hi : i < ρ.length := by rw [← h.len]; exact (List.getElem?_eq_some_iff.mp hv).1
  exact h.mut hv hi (fun a o _ e => e) r nd fun a ha j _ hj => ap a ha ⟨j, hj⟩
theorem ER.put' {i : Nat} {d : D} {v : V} {F : List Addr} (h : ER K W σ H ρ fs) (r : Rep K W.Wr H d v F) (nd : F.Nodup) (ap : ∀ a, a ∈ F → ¬ fs.has a) (hl : ∀ p, p ∈ W.lk → p.1 ≠ i) :
    ∃ fs', ER K W (σ.set i (some v)) H (ρ.set i (some d)) fs' ∧ ∀ a, Fs.has fs' a → fs.has a ∨ a ∈ F := by
  by_cases hi : i < ρ.length
  · exact ⟨_, h.put r nd ap hl hi, fun a ha => Fs.set_has ha⟩
  · rw [List.set_eq_of_length_le (by rw [h.len]; omega), List.set_eq_of_length_le (by omega)]
    exact ⟨fs, h, fun a ha => .inl ha⟩
theorem TmR.keep {t : Tm} {v : V} {F : List Addr} (er : ER K W σ H1 ρ1 fs1) (h : TmR K W σ H1 t v F) (ap : ∀ a, a ∈ F → ¬ fs1.has a) {F2 : Addr → Prop} (st : Step fs1.has H1 F2 H2) : TmR K W σ H2 t v F := by
  cases t with
  | v d => exact Rep.keep er.owned st.keep h ap
  | s i => exact h
  | m i => exact h
theorem TmR.trk {t : Tm} {v : V} {F : List Addr} (h : TmR K W σ H t v F) : ∀ a, a ∈ F → H a ≠ none := by
  cases t with
  | v d => intro a ha z; obtain ⟨_, vs, e⟩ := Rep.owned h a ha; rw [e] at z; cases z
  | s i => obtain ⟨_, rfl⟩ := h; intro a ha; cases ha
  | m i => obtain ⟨_, rfl⟩ := h; intro a ha; cases ha
theorem TmsR.trk : ∀ {ts : List Tm} {vs : List V} {F : List Addr}, TmsR K W σ H ts vs F → ∀ a, a ∈ F → H a ≠ none
  | [], vs, F, h => by obtain ⟨_, rfl⟩ := h; intro a ha; cases ha
  | t :: ts, vs, F, h => by
    obtain ⟨v, r, F1, F2, _, h1, h2, rfl⟩ := h
    intro a ha
    rcases List.mem_append.mp ha with z | z
    · exact h1.trk a z
    · exact TmsR.trk h2 a z
def Tm.raw (ρ : Env) : Tm → Option D
  | .v d => some d
  | .s i => lk ρ i
  | .m i => lk ρ i
def raws (ρ : Env) : List Tm → Option (List D)
  | [] => some []
  | t :: ts => (t.raw ρ).bind fun d => (raws ρ ts).bind fun ds => some (d :: ds)
theorem TmR.raw {t : Tm} {v : V} {F : List Addr} {d : D} (er : ER K W σ H ρ fs) (h : TmR K W σ H t v F) (e : t.raw ρ = some d) : ∃ G, Rep K W.Wr H d v G := by
  cases t with
  | v d' => cases e; exact ⟨F, h⟩
  | s i =>
    obtain ⟨u, e1, r⟩ := er.get e
    rw [h.1] at e1; cases e1
    exact ⟨_, r⟩
  | m i =>
    obtain ⟨u, e1, r⟩ := er.get e
    rw [h.1] at e1; cases e1
    exact ⟨_, r⟩
theorem TmsR.raws : ∀ {ts : List Tm} {vs : List V} {F : List Addr} {ds : List D}, ER K W σ H ρ fs → TmsR K W σ H ts vs F → raws ρ ts = some ds → ∃ G, Reps K W.Wr H ds vs G
  | [], vs, F, ds, er, h, e => by cases e; obtain ⟨rfl, _⟩ := h; exact ⟨[], Reps.nil⟩
  | t :: ts, vs, F, ds, er, h, e => by
    obtain ⟨v, r, F1, F2, rfl, h1, h2, rfl⟩ := h
    obtain ⟨d, e1, e⟩ := Option.bind_eq_some_iff.mp e
    obtain ⟨ds', e2, e⟩ := Option.bind_eq_some_iff.mp e
    cases e
    obtain ⟨G1, r1⟩ := h1.raw er e1
    obtain ⟨G2, r2⟩ := TmsR.raws er h2 e2
    exact ⟨_, Reps.cons r1 r2⟩
theorem nodup_app {α : Type} {l1 l2 : List α} (h1 : l1.Nodup) (h2 : l2.Nodup) (h : ∀ a, a ∈ l1 → a ∉ l2) : (l1 ++ l2).Nodup := by
  rw [List.nodup_append]
  exact ⟨h1, h2, fun a ha b hb e => h a ha (e ▸ hb)⟩
theorem nodup_l {α : Type} {l1 l2 : List α} (h : (l1 ++ l2).Nodup) : l1.Nodup := (List.nodup_append.mp h).1
theorem nodup_r {α : Type} {l1 l2 : List α} (h : (l1 ++ l2).Nodup) : l2.Nodup := (List.nodup_append.mp h).2.1
theorem nodup_x {α : Type} {l1 l2 : List α} (h : (l1 ++ l2).Nodup) : ∀ a, a ∈ l1 → a ∉ l2 := fun a ha hb => (List.nodup_append.mp h).2.2 a ha a hb rfl
/-- new things are apart from a frame's -/
theorem ER.apart (er : ER K W σ H ρ fs) {E : List Addr} (n : ∀ a, a ∈ E → H a = none) : ∀ a, a ∈ E → ¬ fs.has a := fun a ha z => by
  obtain ⟨_, vs, e⟩ := er.owned a z
  rw [n a ha] at e; cases e
end

section
variable {X : Cx} {a b e : Expr} {es : List Expr} {pos : Pos}
def liftE (p : Env → Option D) : Env → Option (D × Env) := fun ρ => (p ρ).map fun d => (d, ρ)
def liftC (p : Env → Option D) : Env → Option (D × Env) := fun ρ => (p ρ).bind fun d => if d.free then some (d, ρ) else none
theorem de_f {p : Env → Option D} (h : DF X e p) : DE X e (liftE p) := by
  obtain ⟨t, h1, h2⟩ := h.ex
  refine ⟨t, h1, fun σ H Q ⟨W, ρ, fs, d, ρ', er, hp, q⟩ => ?_⟩
  obtain ⟨x, hx, hp⟩ := Option.map_eq_some_iff.mp hp
  cases hp
  exact h2 σ H Q ⟨W, ρ, fs, d, er, hx, fun v H' F e1 r n f => q v H' fs F (er.ext e1) r n (er.apart f) (Step.of_ext e1 fun a ha => ha.elim .inl fun z => .inr (f a z))⟩
theorem de_b {p : Env → Option D} (h : DB X e p) : DE X e (liftC p) := by
  obtain ⟨t, h1, h2⟩ := h.ex
  refine ⟨t, h1, fun σ H Q ⟨W, ρ, fs, d, ρ', er, hp, q⟩ => ?_⟩
  obtain ⟨x, hx, hp⟩ := Option.bind_eq_some_iff.mp hp
  split at hp
  · rename_i hf
    cases hp
    refine h2 σ H Q ⟨W, ρ, fs, d, er, hx, fun v H' F e1 r n => ?_⟩
    obtain rfl := r.free hf
    exact q v H' fs [] (er.ext e1) r List.nodup_nil (fun _ z => by cases z) (Step.of_ext e1 fun a ha => ha.elim .inl fun z => by cases z)
  · cases hp
/-- a list of the frame's is handed on: the name holds nothing from here on -/
def mvV (i : Nat) : Env → Option (D × Env) := fun ρ => (lk ρ i).bind fun d => match d with | .frz _ => none | _ => some (d, ρ.set i none)
theorem de_mv (i : Nat) {x : Str} (hN : X.N[i]? = some x := by rfl) (hv : Vis X.env.scope x := by first | exact Or.inl rfl | exact Or.inr (Or.inl rfl) | exact Or.inr (Or.inr rfl)) (hd : (x == ("__debug__" : Str)) = false := by decide)
    (hcd : (x == ("__classdict__" : Str)) = false := by decide) : DE X (.Name x pos) (mvV i) := by
  refine ⟨_, pe_var hN hv hd hcd, fun σ H Q ⟨W, ρ, fs, d, ρ', er, hp, q⟩ => ?_⟩
  obtain ⟨x, hx, hp⟩ := Option.bind_eq_some_iff.mp hp
  obtain ⟨v, e1, r⟩ := er.get hx
  have go : ∀ y, x = y → some (x, ρ.set i none) = some (d, ρ') → ∃ v, σ[i]? = some (some v) ∧ Q v H := fun y _ hp => by
    cases hp
    refine ⟨v, e1, q v H _ (fs i) er.drop r (er.nd i) (fun a ha z => ?_) ⟨fun a o _ h => h, fun a ha => ?_⟩⟩
    · obtain ⟨j, hj⟩ := z
      by_cases n : j = i
      · subst n; rw [Fs.set_same] at hj; cases hj
      · rw [Fs.set_ne n] at hj; exact er.dj i j (Ne.symm n) a ha hj
    · rcases ha with z | z
      · exact .inl ((Fs.set_has z).elim id fun z => by cases z)
      · exact .inl ⟨i, z⟩
  cases x with
  | frz _ => cases hp
  | _ => exact go _ rfl hp

def toE (m : Env → Option (D × Env)) : Env → Option (Tm × Env) := fun ρ => (m ρ).map fun r => (.v r.1, r.2)
theorem do_e {m : Env → Option (D × Env)} (h : DE X e m) : DO X e (toE m) := by
  obtain ⟨t, h1, h2⟩ := h.ex
  refine ⟨t, h1, fun σ H Q ⟨W, ρ, fs, d, ρ', er, hp, q⟩ => ?_⟩
  obtain ⟨⟨x, ρ1⟩, hx, hp⟩ := Option.map_eq_some_iff.mp hp
  cases hp
  exact h2 σ H Q ⟨W, ρ, fs, x, ρ1, er, hx, fun v H' fs' F er' r n ap st => q v H' fs' F er' r n ap st⟩
def toS (i : Nat) : Env → Option (Tm × Env) := fun ρ => some (.s i, ρ)
def toM (i : Nat) : Env → Option (Tm × Env) := fun ρ => some (.m i, ρ)
/-- the name must hold something -/
def toS' (i : Nat) : Env → Option (Tm × Env) := fun ρ => (lk ρ i).bind fun _ => some (.s i, ρ)
def toM' (i : Nat) : Env → Option (Tm × Env) := fun ρ => (lk ρ i).bind fun _ => some (.m i, ρ)
theorem do_s (i : Nat) {x : Str} (hN : X.N[i]? = some x := by rfl) (hv : Vis X.env.scope x := by first | exact Or.inl rfl | exact Or.inr (Or.inl rfl) | exact Or.inr (Or.inr rfl)) (hd : (x == ("__debug__" : Str)) = false := by decide)
    (hcd : (x == ("__classdict__" : Str)) = false := by decide) : DO X (.Name x pos) (toS' i) := by
  refine ⟨_, pe_var hN hv hd hcd, fun σ H Q ⟨W, ρ, fs, d, ρ', er, hp, q⟩ => ?_⟩
  obtain ⟨x, hx, hp⟩ := Option.bind_eq_some_iff.mp hp
  cases hp
  obtain ⟨v, e1, r⟩ := er.get hx
  exact ⟨v, e1, q v H fs [] er ⟨e1, rfl⟩ List.nodup_nil (fun _ z => by cases z) ⟨fun a o _ h => h, fun a ha => ha.elim .inl fun z => by cases z⟩⟩
theorem do_m (i : Nat) {x : Str} (hN : X.N[i]? = some x := by rfl) (hv : Vis X.env.scope x := by first | exact Or.inl rfl | exact Or.inr (Or.inl rfl) | exact Or.inr (Or.inr rfl)) (hd : (x == ("__debug__" : Str)) = false := by decide)
    (hcd : (x == ("__classdict__" : Str)) = false := by decide) : DO X (.Name x pos) (toM' i) := by
  refine ⟨_, pe_var hN hv hd hcd, fun σ H Q ⟨W, ρ, fs, d, ρ', er, hp, q⟩ => ?_⟩
  obtain ⟨x, hx, hp⟩ := Option.bind_eq_some_iff.mp hp
  cases hp
  obtain ⟨v, e1, r⟩ := er.get hx
  exact ⟨v, e1, q v H fs [] er ⟨e1, rfl⟩ List.nodup_nil (fun _ z => by cases z) ⟨fun a o _ h => h, fun a ha => ha.elim .inl fun z => by cases z⟩⟩
def asNil : Env → Option (List Tm × Env) := fun ρ => some ([], ρ)
def asCons (m : Env → Option (Tm × Env)) (r : Env → Option (List Tm × Env)) : Env → Option (List Tm × Env) := fun ρ => (m ρ).bind fun x => (r x.2).bind fun y => some (x.1 :: y.1, y.2)
theorem das_nil : DAs X [] asNil := ⟨_, pa_nil, fun σ H Q ⟨W, ρ, fs, d, ρ', er, hp, q⟩ => by
  cases hp
  exact q [] H fs [] er ⟨rfl, rfl⟩ List.nodup_nil (fun _ z => by cases z) ⟨fun a o _ h => h, fun a ha => ha.elim .inl fun z => by cases z⟩⟩
/-- two parts, one behind the other -/
theorem two {K : PySem.W.Frag} {W : Wc} {σ : L2.St} {H H1 H2 : Hp} {ρ1 : Env} {fs fs1 fs2 : Fs} {F1 F2 : List Addr} (er1 : ER K W σ H1 ρ1 fs1) (s1 : ∀ a, a ∈ F1 → H1 a ≠ none) (n1 : F1.Nodup) (a1 : ∀ a, a ∈ F1 → ¬ fs1.has a) (st1 : Step fs.has H (fun a => fs1.has a ∨ a ∈ F1) H1)
    (n2 : F2.Nodup) (a2 : ∀ a, a ∈ F2 → ¬ fs2.has a) (st2 : Step fs1.has H1 (fun a => fs2.has a ∨ a ∈ F2) H2) :
    (F1 ++ F2).Nodup ∧ (∀ a, a ∈ F1 ++ F2 → ¬ fs2.has a) ∧ Step fs.has H (fun a => fs2.has a ∨ a ∈ F1 ++ F2) H2 := by
  have x1 : ∀ a, a ∈ F1 → ¬ (fs2.has a ∨ a ∈ F2) := fun a ha z => by
    rcases st2.new a z with q | q
    · exact a1 a ha q
    · exact s1 a ha q
  refine ⟨nodup_app n1 n2 fun a ha z => x1 a ha (.inr z), fun a ha => ?_, ⟨fun a o hn e => ?_, fun a ha => ?_⟩⟩
  · rcases List.mem_append.mp ha with z | z
    · exact fun q => x1 a z (.inl q)
    · exact a2 a z
  · refine st2.keep a o (fun z => ?_) (st1.keep a o hn e)
    rcases st1.new a (.inl z) with q | q
    · exact hn q
    · rw [e] at q; cases q
  · have old : fs2.has a ∨ a ∈ F2 → fs.has a ∨ H a = none := fun z => by
      rcases st2.new a z with q | q
      · exact st1.new a (.inl q)
      · by_cases hF : fs.has a
        · exact .inl hF
        · refine .inr ?_
          cases e : H a with
          | none => rfl
          | some o => rw [st1.keep a o hF e] at q; cases q
    rcases ha with z | z
    · exact old (.inl z)
    · rcases List.mem_append.mp z with z | z
      · exact st1.new a (.inr z)
      · exact old (.inr z)
theorem das_cons {m : Env → Option (Tm × Env)} {r : Env → Option (List Tm × Env)} (h : DO X e m) (hr : DAs X es r) (hs : starEach (e :: es) X.env = (false, eval e X.env) :: starEach es X.env := by rfl) : DAs X (e :: es) (asCons m r) := by
  obtain ⟨t, h1, h2⟩ := h.ex
  obtain ⟨u, k1, k2⟩ := hr.ex
  refine ⟨_, pa_cons h1 k1 hs, fun σ H Q ⟨W, ρ, fs, d, ρ', er, hp, q⟩ => ?_⟩
  obtain ⟨⟨x, ρ1⟩, hx, hp⟩ := Option.bind_eq_some_iff.mp hp
  obtain ⟨⟨xs, ρ2⟩, hy, hp⟩ := Option.bind_eq_some_iff.mp hp
  cases hp
  refine h2 σ H _ ⟨W, ρ, fs, x, ρ1, er, hx, fun v H1 fs1 F1 er1 r1 n1 a1 st1 => ?_⟩
  refine k2 σ H1 _ ⟨W, ρ1, fs1, xs, ρ2, er1, hy, fun vs H2 fs2 F2 er2 r2 n2 a2 st2 => ?_⟩
  obtain ⟨z1, z2, z3⟩ := two er1 r1.trk n1 a1 st1 n2 a2 st2
  exact q (v :: vs) H2 fs2 (F1 ++ F2) er2 ⟨v, vs, F1, F2, rfl, r1.keep er1 a1 st2, r2, rfl⟩ z1 z2 z3
/-- operations, their operands changing lists -/
def opE2 (f : D → D → Option D) (ma mb : Env → Option (Tm × Env)) : Env → Option (D × Env) := fun ρ => (ma ρ).bind fun x => (mb x.2).bind fun y => (x.1.raw y.2).bind fun d1 => (y.1.raw y.2).bind fun d2 => (f d1 d2).map fun d => (d, y.2)
def opE1 (f : D → Option D) (ma : Env → Option (Tm × Env)) : Env → Option (D × Env) := fun ρ => (ma ρ).bind fun x => (x.1.raw x.2).bind fun d1 => (f d1).map fun d => (d, x.2)
def opEn (f : List D → Option D) (ma : Env → Option (List Tm × Env)) : Env → Option (D × Env) := fun ρ => (ma ρ).bind fun x => (raws x.2 x.1).bind fun d1 => (f d1).map fun d => (d, x.2)
theorem fin {K : PySem.W.Frag} {W : Wc} {σ : L2.St} {H H2 : Hp} {ρ2 : Env} {fs fs2 : Fs} {d : D} {Q : VK} {F : List Addr} (er2 : ER K W σ H2 ρ2 fs2) (st : Step fs.has H (fun a => fs2.has a ∨ a ∈ F) H2)
    (q : ∀ v H' fs' F, ER K W σ H' ρ2 fs' → Rep K W.Wr H' d v F → F.Nodup → (∀ a, a ∈ F → ¬ Fs.has fs' a) → Step fs.has H (fun a => Fs.has fs' a ∨ a ∈ F) H' → Q v H') : New K W.Wr H2 d Q := fun u H3 E e3 r3 n3 f3 => by
  refine q u H3 fs2 E (er2.ext e3) r3 n3 (er2.apart f3) ?_
  have st' : Step fs.has H fs2.has H2 := st.mono fun a ha => .inl ha
  exact st'.trans (Step.of_ext e3 fun a ha => ha.elim .inl fun z => .inr (f3 a z))
theorem eff2 {r : R2} {f : D → D → Option D} {ma mb : Env → Option (Tm × Env)} {ta tb : TE} (hf : PO2 X.K r f) (ha : ∀ σ H Q, DenO X.K ma σ H Q → ta σ H Q) (hb : ∀ σ H Q, DenO X.K mb σ H Q → tb σ H Q) {σ : L2.St} {H : Hp} {Q : VK} (h : DenE X.K (opE2 f ma mb) σ H Q) :
    tOp r ta tb σ H Q := by
  obtain ⟨W, ρ, fs, d, ρ', er, hp, q⟩ := h
  obtain ⟨⟨x, ρ1⟩, hx, hp⟩ := Option.bind_eq_some_iff.mp hp
  obtain ⟨⟨y, ρ2⟩, hy, hp⟩ := Option.bind_eq_some_iff.mp hp
  obtain ⟨d1, e1, hp⟩ := Option.bind_eq_some_iff.mp hp
  obtain ⟨d2, e2, hp⟩ := Option.bind_eq_some_iff.mp hp
  obtain ⟨z, hz, hp⟩ := Option.map_eq_some_iff.mp hp
  cases hp
  refine ha σ H _ ⟨W, ρ, fs, x, ρ1, er, hx, fun v H1 fs1 F1 er1 r1 n1 a1 st1 => ?_⟩
  refine hb σ H1 _ ⟨W, ρ1, fs1, y, _, er1, hy, fun w H2 fs2 F2 er2 r2 n2 a2 st2 => ?_⟩
  obtain ⟨z1, z2, z3⟩ := two er1 r1.trk n1 a1 st1 n2 a2 st2
  obtain ⟨G1, s1⟩ := (r1.keep er1 a1 st2).raw er2 e1
  obtain ⟨G2, s2⟩ := r2.raw er2 e2
  exact hf W.Wr H2 d1 d2 v w G1 G2 _ Q er2.free s1 s2 hz (fin er2 z3 q)
theorem eff1 {r : V → Hp → VK → Prop} {f : D → Option D} {ma : Env → Option (Tm × Env)} {ta : TE} (hf : PO1 X.K r f) (ha : ∀ σ H Q, DenO X.K ma σ H Q → ta σ H Q) {σ : L2.St} {H : Hp} {Q : VK} (h : DenE X.K (opE1 f ma) σ H Q) :
    ta σ H fun x H1 => r x H1 Q := by
  obtain ⟨W, ρ, fs, d, ρ', er, hp, q⟩ := h
  obtain ⟨⟨x, ρ1⟩, hx, hp⟩ := Option.bind_eq_some_iff.mp hp
  obtain ⟨d1, e1, hp⟩ := Option.bind_eq_some_iff.mp hp
  obtain ⟨z, hz, hp⟩ := Option.map_eq_some_iff.mp hp
  cases hp
  refine ha σ H _ ⟨W, ρ, fs, x, _, er, hx, fun v H1 fs1 F1 er1 r1 n1 a1 st1 => ?_⟩
  obtain ⟨G1, s1⟩ := r1.raw er1 e1
  exact hf W.Wr H1 d1 v G1 _ Q er1.free s1 hz (fin er1 st1 q)
theorem effn {r : List V → Hp → VK → Prop} {f : List D → Option D} {ma : Env → Option (List Tm × Env)} {ta : TA} (hf : POn X.K r f) (ha : ∀ σ H Q, DenA X.K ma σ H Q → ta σ H Q) {σ : L2.St} {H : Hp} {Q : VK} (h : DenE X.K (opEn f ma) σ H Q) :
    ta σ H fun x H1 => r x H1 Q := by
  obtain ⟨W, ρ, fs, d, ρ', er, hp, q⟩ := h
  obtain ⟨⟨x, ρ1⟩, hx, hp⟩ := Option.bind_eq_some_iff.mp hp
  obtain ⟨d1, e1, hp⟩ := Option.bind_eq_some_iff.mp hp
  obtain ⟨z, hz, hp⟩ := Option.map_eq_some_iff.mp hp
  cases hp
  refine ha σ H _ ⟨W, ρ, fs, x, _, er, hx, fun v H1 fs1 F1 er1 r1 n1 a1 st1 => ?_⟩
  obtain ⟨G1, s1⟩ := r1.raws er1 e1
  exact hf W.Wr H1 d1 v G1 _ Q er1.free s1 hz (fin er1 st1 q)
theorem de_op {op : Operator} {r : R2} {f : D → D → Option D} {ma mb : Env → Option (Tm × Env)} (ho : OpR X (binaryOp op) r) (hf : PO2 X.K r f) (ha : DO X a ma) (hb : DO X b mb) : DE X (.BinOp a op b pos) (opE2 f ma mb) := by
  obtain ⟨t, h1, h2⟩ := ha.ex
  obtain ⟨u, k1, k2⟩ := hb.ex
  exact ⟨_, pe_op ho h1 k1, fun σ H Q h => eff2 hf h2 k2 h⟩
theorem de_cmp {op : CmpOp} {r : R2} {f : D → D → Option D} {ma mb : Env → Option (Tm × Env)} (ho : OpR X (compareOp op) r) (hf : PO2 X.K r f) (ha : DO X a ma) (hb : DO X b mb) (hm : behindInMarks op b = false) : DE X (.Compare a [op] [b] pos) (opE2 f ma mb) := by
  obtain ⟨t, h1, h2⟩ := ha.ex
  obtain ⟨u, k1, k2⟩ := hb.ex
  exact ⟨_, pe_cmpR ho h1 k1 hm, fun σ H Q h => eff2 hf h2 k2 h⟩
theorem de_ix {r : R2} {f : D → D → Option D} {ma mb : Env → Option (Tm × Env)} (hr : IxR X r) (hf : PO2 X.K r f) (ha : DO X a ma) (hb : DO X b mb) (hs : PlainIx b) : DE X (.Subscript a b pos) (opE2 f ma mb) := by
  obtain ⟨t, h1, h2⟩ := ha.ex
  obtain ⟨u, k1, k2⟩ := hb.ex
  exact ⟨_, pe_ix hr h1 k1 hs, fun σ H Q h => eff2 hf h2 k2 h⟩
theorem de_un {op : UnaryOp} {r : V → Hp → VK → Prop} {f : D → Option D} {ma : Env → Option (Tm × Env)} (ho : UnR X (unaryOp op) r) (hf : PO1 X.K r f) (ha : DO X a ma) : DE X (.UnaryOp op a pos) (opE1 f ma) := by
  obtain ⟨t, h1, h2⟩ := ha.ex
  exact ⟨_, pe_un ho h1, fun σ H Q h => eff1 hf h2 h⟩
theorem de_callB {x : Str} {id : String} {p : Pos} {r : List V → Hp → VK → Prop} {f : List D → Option D} {ms : Env → Option (List Tm × Env)} (hc : CallR X (.builtin id) r) (hf : POn X.K r f) (hg : Gl X x) (hm : X.mg x = none) (hv : bootBuiltins x = some (.builtin id)) (ha : DAs X (e :: es) ms)
    (hn : x ≠ "__name__" := by decide) (hdb : (x == ("__debug__" : Str)) = false := by decide) (he : starEach (e :: es) X.env = (false, eval e X.env) :: starEach es X.env := by rfl) (hpl : (backTo pos (starEach es X.env)).any (·.1) = false := by rfl) :
    DE X (.Call (.Name x p) (e :: es) [] pos) (opEn f ms) := by
  obtain ⟨t, h1, h2⟩ := ha.ex
  exact ⟨_, pe_callB hc hg hm hv h1 hn hdb he hpl, fun σ H Q h => effn hf h2 h⟩
theorem de_callTy {x : Str} {T : String} {p : Pos} {r : List V → Hp → VK → Prop} {f : List D → Option D} {ms : Env → Option (List Tm × Env)} (hc : CallR X (.type T) r) (hf : POn X.K r f) (hg : Gl X x) (hm : X.mg x = none) (hv : bootBuiltins x = some (.type T)) (ha : DAs X (e :: es) ms)
    (hn : x ≠ "__name__" := by decide) (hdb : (x == ("__debug__" : Str)) = false := by decide) (he : starEach (e :: es) X.env = (false, eval e X.env) :: starEach es X.env := by rfl) (hpl : (backTo pos (starEach es X.env)).any (·.1) = false := by rfl) :
    DE X (.Call (.Name x p) (e :: es) [] pos) (opEn f ms) := by
  obtain ⟨t, h1, h2⟩ := ha.ex
  exact ⟨_, pe_callTy hc hg hm hv h1 hn hdb he hpl, fun σ H Q h => effn hf h2 h⟩
/-- displays whose items are handed on -/
def valsOf : List Tm → Option (List D)
  | [] => some []
  | .v d :: ts => (valsOf ts).map (d :: ·)
  | _ :: _ => none
theorem TmsR.vals {K : PySem.W.Frag} {W : Wc} {σ : L2.St} {H : Hp} : ∀ {ts : List Tm} {vs : List V} {F : List Addr} {ds : List D}, TmsR K W σ H ts vs F → valsOf ts = some ds → Reps K W.Wr H ds vs F
  | [], vs, F, ds, h, e => by cases e; obtain ⟨rfl, rfl⟩ := h; exact Reps.nil
  | .v d :: ts, vs, F, ds, h, e => by
    obtain ⟨v, r, F1, F2, rfl, h1, h2, rfl⟩ := h
    obtain ⟨ds', e1, rfl⟩ := Option.map_eq_some_iff.mp e
    exact Reps.cons h1 (TmsR.vals h2 e1)
  | .s i :: ts, vs, F, ds, h, e => by cases e
  | .m i :: ts, vs, F, ds, h, e => by cases e
def dispE (c : List D → D) (ms : Env → Option (List Tm × Env)) : Env → Option (D × Env) := fun ρ => (ms ρ).bind fun x => (valsOf x.1).bind fun ds => if ds.length ≤ 1000 then some (c ds, x.2) else none
theorem de_tup {x1} {ms : Env → Option (List Tm × Env)} (h : DAs X es ms) : DE X (.Tuple es x1 pos) (dispE .tup ms) := by
  obtain ⟨t, h1, h2⟩ := h.ex
  refine ⟨_, pe_tupX h1, fun σ H Q ⟨W, ρ, fs, d, ρ', er, hp, q⟩ => ?_⟩
  obtain ⟨⟨x, ρ1⟩, hx, hp⟩ := Option.bind_eq_some_iff.mp hp
  obtain ⟨ds, e1, hp⟩ := Option.bind_eq_some_iff.mp hp
  split at hp
  · rename_i hl
    cases hp
    refine h2 σ H _ ⟨W, ρ, fs, x, _, er, hx, fun vs H1 fs1 F1 er1 r1 n1 a1 st1 => ?_⟩
    have rs := r1.vals e1
    refine ⟨by rw [← rs.length]; exact Nat.le_of_lt (small1000 hl), fun p o hp hd => ?_⟩
    refine q (.ref p) _ fs1 F1 (er1.ext (Ext.new hp)) (by rw [Rep]; exact ⟨p, vs, rfl, .inl ⟨o, upd_same, hd⟩, rs.ext (Ext.new hp)⟩) n1 a1 ⟨fun a o hn e => Ext.new hp a o (st1.keep a o hn e), st1.new⟩
  · cases hp
theorem de_lst {ms : Env → Option (List Tm × Env)} (h : DAs X es ms) : DE X (.List es pos) (dispE .lst ms) := by
  obtain ⟨t, h1, h2⟩ := h.ex
  refine ⟨_, pe_lst h1, fun σ H Q ⟨W, ρ, fs, d, ρ', er, hp, q⟩ => ?_⟩
  obtain ⟨⟨x, ρ1⟩, hx, hp⟩ := Option.bind_eq_some_iff.mp hp
  obtain ⟨ds, e1, hp⟩ := Option.bind_eq_some_iff.mp hp
  split at hp
  · rename_i hl
    cases hp
    refine h2 σ H _ ⟨W, ρ, fs, x, _, er, hx, fun vs H1 fs1 F1 er1 r1 n1 a1 st1 => ?_⟩
    have rs := r1.vals e1
    refine ⟨by rw [← rs.length]; exact Nat.le_of_lt (small1000 hl), fun p hp => ?_⟩
    have hpn : p ∉ F1 := fun z => r1.trk p z hp
    refine q (.ref p) _ fs1 (p :: F1) (er1.ext (Ext.new hp)) (by rw [Rep]; exact ⟨p, vs, F1, rfl, upd_same, er1.free p hp, rs.ext (Ext.new hp), rfl⟩) (List.nodup_cons.mpr ⟨hpn, n1⟩) (fun a ha => ?_) ⟨fun a o hn e => Ext.new hp a o (st1.keep a o hn e), fun a ha => ?_⟩
    · rcases List.mem_cons.mp ha with rfl | z
      · exact er1.apart (E := [a]) (fun b hb => by rw [List.mem_singleton.mp hb]; exact hp) a (by simp)
      · exact a1 a z
    · have back : H1 a = none → fs.has a ∨ H a = none := fun q => by
        by_cases hF : fs.has a
        · exact .inl hF
        · refine .inr ?_
          cases e : H a with
          | none => rfl
          | some o => rw [st1.keep a o hF e] at q; cases q
      rcases ha with z | z
      · exact st1.new a (.inl z)
      · rcases List.mem_cons.mp z with rfl | z
        · exact back hp
        · exact st1.new a (.inr z)
  · cases hp

/-! ### tests -/
def liftT (p : Env → Option Bool) : Env → Option (Bool × Env) := fun ρ => (p ρ).map fun b => (b, ρ)
theorem dte_t {p : Env → Option Bool} (h : DT X e p) : DTE X e (liftT p) := by
  obtain ⟨t, h1, h2⟩ := h.ex
  refine ⟨t, h1, fun σ H Q ⟨W, ρ, fs, d, ρ', er, hp, q⟩ => ?_⟩
  obtain ⟨x, hx, hp⟩ := Option.map_eq_some_iff.mp hp
  cases hp
  exact h2 σ H Q ⟨W, ρ, fs, d, er, hx, fun H' e1 => q H' fs (er.ext e1) (Step.of_ext e1 fun a ha => .inl ha)⟩
def blE (m : Env → Option (D × Env)) : Env → Option (Bool × Env) := fun ρ => (m ρ).bind fun x => match x.1 with | .bl b => some (b, x.2) | _ => none
theorem dte_of {m : Env → Option (D × Env)} {e : Expr} {t : TE} (h : PT X e (fun σ H Q => t σ H fun x H1 => ∃ c, x = .bl c ∧ Q c H1)) (h2 : ∀ σ H Q, DenE X.K m σ H Q → t σ H Q) : DTE X e (blE m) := by
  refine ⟨_, h, fun σ H Q ⟨W, ρ, fs, b, ρ', er, hp, q⟩ => ?_⟩
  obtain ⟨⟨x, ρ1⟩, hx, hp⟩ := Option.bind_eq_some_iff.mp hp
  refine h2 σ H _ ⟨W, ρ, fs, x, ρ1, er, hx, fun v H1 fs1 F1 er1 r1 n1 a1 st1 => ?_⟩
  cases x with
  | bl c =>
    cases hp
    rw [Rep] at r1
    exact ⟨_, r1.1, q H1 fs1 er1 (st1.mono fun a ha => .inl ha)⟩
  | _ => cases hp
theorem dte_val {m : Env → Option (D × Env)} (h : DE X e m) (he : ∀ whole, isTrue e X.env whole = (do let v ← whole; standAt e.pos; holding [v] (truthy v)) := by intro _; rfl) : DTE X e (blE m) := by
  obtain ⟨t, h1, h2⟩ := h.ex
  exact dte_of (pt_val h1 he) h2
theorem dte_cmp {op : CmpOp} {r : R2} {f : D → D → Option D} {ma mb : Env → Option (Tm × Env)} (ho : OpR X (compareOp op) r) (hf : PO2 X.K r f) (ha : DO X a ma) (hb : DO X b mb) (hm : behindInMarks op b = false) : DTE X (.Compare a [op] [b] pos) (blE (opE2 f ma mb)) := by
  obtain ⟨t, h1, h2⟩ := ha.ex
  obtain ⟨u, k1, k2⟩ := hb.ex
  exact dte_of (pt_cmpR ho h1 k1 hm) fun σ H Q h => eff2 hf h2 k2 h
structure DWE (X : Cx) (e : Expr) (p : Env → Option (Bool × Env)) : Prop where
  ex : ∃ t, PW X e t ∧ ∀ σ H Q, DenTE X.K p σ H Q → t σ H Q
def andE (p q : Env → Option (Bool × Env)) : Env → Option (Bool × Env) := fun ρ => (p ρ).bind fun b => if b.1 then q b.2 else some (false, b.2)
def orE (p q : Env → Option (Bool × Env)) : Env → Option (Bool × Env) := fun ρ => (p ρ).bind fun b => if b.1 then some (true, b.2) else q b.2
def notE (p : Env → Option (Bool × Env)) : Env → Option (Bool × Env) := fun ρ => (p ρ).map fun b => (!b.1, b.2)
theorem DWE.dt {p : Env → Option (Bool × Env)} (h : DWE X e p) : DTE X e p := let ⟨t, h1, h2⟩ := h.ex; ⟨t, h1.pt, h2⟩
theorem dwe_and1 {p : Env → Option (Bool × Env)} (h : DTE X a p) : DWE X (.BoolOp .And [a] pos) p := let ⟨t, h1, h2⟩ := h.ex; ⟨t, pw_and1 h1, h2⟩
theorem dwe_or1 {p : Env → Option (Bool × Env)} (h : DTE X a p) : DWE X (.BoolOp .Or [a] pos) p := let ⟨t, h1, h2⟩ := h.ex; ⟨t, pw_or1 h1, h2⟩
theorem dwe_and {p q : Env → Option (Bool × Env)} {rest : List Expr} (h : DTE X a p) (k : DWE X (.BoolOp .And (b :: rest) pos) q) : DWE X (.BoolOp .And (a :: b :: rest) pos) (andE p q) := by
  obtain ⟨t, h1, h2⟩ := h.ex
  obtain ⟨u, k1, k2⟩ := k.ex
  refine ⟨_, pw_and h1 k1, fun σ H Q ⟨W, ρ, fs, c, ρ', er, hp, z⟩ => ?_⟩
  obtain ⟨⟨x, ρ1⟩, hx, hp⟩ := Option.bind_eq_some_iff.mp hp
  refine h2 σ H _ ⟨W, ρ, fs, x, ρ1, er, hx, fun H1 fs1 er1 st1 => ?_⟩
  cases x with
  | true => exact iteT (k2 σ H1 Q ⟨W, ρ1, fs1, c, ρ', er1, hp, fun H2 fs2 er2 st2 => z H2 fs2 er2 (st1.trans st2)⟩)
  | false => cases hp; exact iteF (z H1 fs1 er1 st1)
theorem dwe_or {p q : Env → Option (Bool × Env)} {rest : List Expr} (h : DTE X a p) (k : DWE X (.BoolOp .Or (b :: rest) pos) q) : DWE X (.BoolOp .Or (a :: b :: rest) pos) (orE p q) := by
  obtain ⟨t, h1, h2⟩ := h.ex
  obtain ⟨u, k1, k2⟩ := k.ex
  refine ⟨_, pw_or h1 k1, fun σ H Q ⟨W, ρ, fs, c, ρ', er, hp, z⟩ => ?_⟩
  obtain ⟨⟨x, ρ1⟩, hx, hp⟩ := Option.bind_eq_some_iff.mp hp
  refine h2 σ H _ ⟨W, ρ, fs, x, ρ1, er, hx, fun H1 fs1 er1 st1 => ?_⟩
  cases x with
  | false => exact iteF (k2 σ H1 Q ⟨W, ρ1, fs1, c, ρ', er1, hp, fun H2 fs2 er2 st2 => z H2 fs2 er2 (st1.trans st2)⟩)
  | true => cases hp; exact iteT (z H1 fs1 er1 st1)
theorem dte_not {p : Env → Option (Bool × Env)} (h : DTE X a p) : DTE X (.UnaryOp .Not a pos) (notE p) := by
  obtain ⟨t, h1, h2⟩ := h.ex
  refine ⟨_, pt_not h1, fun σ H Q ⟨W, ρ, fs, c, ρ', er, hp, z⟩ => ?_⟩
  obtain ⟨⟨x, ρ1⟩, hx, hp⟩ := Option.map_eq_some_iff.mp hp
  cases hp
  exact h2 σ H _ ⟨W, ρ, fs, x, ρ1, er, hx, fun H1 fs1 er1 st1 => z H1 fs1 er1 st1⟩
/-! ### a if t else b; and, or as values -/
def ifE (t : Env → Option (Bool × Env)) (p q : Env → Option (D × Env)) : Env → Option (D × Env) := fun ρ => (t ρ).bind fun b => if b.1 then p b.2 else q b.2
theorem de_if {c : Expr} {t : Env → Option (Bool × Env)} {p q : Env → Option (D × Env)} (hc : DTE X c t) (ha : DE X a p) (hb : DE X b q) : DE X (.IfExp c a b pos) (ifE t p q) := by
  obtain ⟨tc, c1, c2⟩ := hc.ex
  obtain ⟨ta, a1, a2⟩ := ha.ex
  obtain ⟨tb, b1, b2⟩ := hb.ex
  refine ⟨_, pe_ifExp c1 a1 b1, fun σ H Q ⟨W, ρ, fs, d, ρ', er, hp, z⟩ => ?_⟩
  obtain ⟨⟨x, ρ1⟩, hx, hp⟩ := Option.bind_eq_some_iff.mp hp
  refine c2 σ H _ ⟨W, ρ, fs, x, ρ1, er, hx, fun H1 fs1 er1 st1 => ?_⟩
  have z' : ∀ v H' fs' F, ER X.K W σ H' ρ' fs' → Rep X.K W.Wr H' d v F → F.Nodup → (∀ a, a ∈ F → ¬ Fs.has fs' a) → Step fs1.has H1 (fun a => Fs.has fs' a ∨ a ∈ F) H' → Q v H' := fun v H' fs' F e r m n st => z v H' fs' F e r m n (st1.trans st)
  cases x with
  | true => exact iteT (a2 σ H1 Q ⟨W, ρ1, fs1, d, ρ', er1, hp, z'⟩)
  | false => exact iteF (b2 σ H1 Q ⟨W, ρ1, fs1, d, ρ', er1, hp, z'⟩)
theorem de_one {op} {p : Env → Option (D × Env)} (h : DE X a p) : DE X (.BoolOp op [a] pos) p := let ⟨t, h1, h2⟩ := h.ex; ⟨t, pe_one h1, h2⟩
def andV (p q : Env → Option (D × Env)) : Env → Option (D × Env) := fun ρ => (p ρ).bind fun b => match b.1 with | .bl c => if c then q b.2 else some (.bl false, b.2) | _ => none
def orV (p q : Env → Option (D × Env)) : Env → Option (D × Env) := fun ρ => (p ρ).bind fun b => match b.1 with | .bl c => if c then some (.bl true, b.2) else q b.2 | _ => none
theorem rep_bl {K : PySem.W.Frag} {Wr : Addr → Prop} {H : Hp} {b : Bool} : Rep K Wr H (.bl b) (.bl b) [] := by rw [Rep]; exact ⟨rfl, rfl⟩
theorem de_and {p q : Env → Option (D × Env)} {rest : List Expr} (h : DE X a p) (k : DE X (.BoolOp .And (b :: rest) pos) q) : DE X (.BoolOp .And (a :: b :: rest) pos) (andV p q) := by
  obtain ⟨t, h1, h2⟩ := h.ex
  obtain ⟨u, k1, k2⟩ := k.ex
  refine ⟨_, pe_and h1 k1, fun σ H Q ⟨W, ρ, fs, d, ρ', er, hp, z⟩ => ?_⟩
  obtain ⟨⟨x, ρ1⟩, hx, hp⟩ := Option.bind_eq_some_iff.mp hp
  refine h2 σ H _ ⟨W, ρ, fs, x, ρ1, er, hx, fun v H1 fs1 F1 er1 r1 n1 a1 st1 => ?_⟩
  have st' := st1.mono (G' := fs1.has) fun a ha => .inl ha
  cases x with
  | bl c =>
    rw [Rep] at r1
    refine ⟨c, r1.1, ?_⟩
    cases c with
    | true => exact iteT (k2 σ H1 Q ⟨W, ρ1, fs1, d, ρ', er1, hp, fun v H' fs' F e r m n st => z v H' fs' F e r m n (st'.trans st)⟩)
    | false => cases hp; exact iteF (z _ H1 fs1 [] er1 rep_bl List.nodup_nil (fun _ z => by cases z) (st'.mono fun a ha => ha.elim id fun z => by cases z))
  | _ => cases hp
theorem de_or {p q : Env → Option (D × Env)} {rest : List Expr} (h : DE X a p) (k : DE X (.BoolOp .Or (b :: rest) pos) q) : DE X (.BoolOp .Or (a :: b :: rest) pos) (orV p q) := by
  obtain ⟨t, h1, h2⟩ := h.ex
  obtain ⟨u, k1, k2⟩ := k.ex
  refine ⟨_, pe_or h1 k1, fun σ H Q ⟨W, ρ, fs, d, ρ', er, hp, z⟩ => ?_⟩
  obtain ⟨⟨x, ρ1⟩, hx, hp⟩ := Option.bind_eq_some_iff.mp hp
  refine h2 σ H _ ⟨W, ρ, fs, x, ρ1, er, hx, fun v H1 fs1 F1 er1 r1 n1 a1 st1 => ?_⟩
  have st' := st1.mono (G' := fs1.has) fun a ha => .inl ha
  cases x with
  | bl c =>
    rw [Rep] at r1
    refine ⟨c, r1.1, ?_⟩
    cases c with
    | false => exact iteF (k2 σ H1 Q ⟨W, ρ1, fs1, d, ρ', er1, hp, fun v H' fs' F e r m n st => z v H' fs' F e r m n (st'.trans st)⟩)
    | true => cases hp; exact iteT (z _ H1 fs1 [] er1 rep_bl List.nodup_nil (fun _ z => by cases z) (st'.mono fun a ha => ha.elim id fun z => by cases z))
  | _ => cases hp
def notV (p : Env → Option (D × Env)) : Env → Option (D × Env) := fun ρ => (p ρ).bind fun b => match b.1 with | .bl c => some (.bl (!c), b.2) | _ => none
theorem de_not {p : Env → Option (D × Env)} (h : DE X a p) : DE X (.UnaryOp .Not a pos) (notV p) := by
  obtain ⟨t, h1, h2⟩ := h.ex
  refine ⟨_, pe_not h1, fun σ H Q ⟨W, ρ, fs, d, ρ', er, hp, z⟩ => ?_⟩
  obtain ⟨⟨x, ρ1⟩, hx, hp⟩ := Option.bind_eq_some_iff.mp hp
  refine h2 σ H _ ⟨W, ρ, fs, x, ρ1, er, hx, fun v H1 fs1 F1 er1 r1 n1 a1 st1 => ?_⟩
  have st' := st1.mono (G' := fs1.has) fun a ha => .inl ha
  cases x with
  | bl c =>
    rw [Rep] at r1
    cases hp
    exact ⟨c, r1.1, z _ H1 fs1 [] er1 rep_bl List.nodup_nil (fun _ z => by cases z) (st'.mono fun a ha => ha.elim id fun z => by cases z)⟩
  | _ => cases hp
end
end FL

end

section
set_option Elab.async false
set_option linter.all false
set_option maxRecDepth 100000
set_option maxHeartbeats 4000000
namespace FL
open PySem L2

/-! ### statements -/
inductive Out where
  | nx (ρ : Env) | bk (ρ : Env) | ct (ρ : Env) | rt (d : D) (ρ : Env)
/-- what follows an outcome -/
def SDone (K : PySem.W.Frag) (W : Wc) (F0 : Addr → Prop) (H0 : Hp) (D : Ends) : Out → Prop
  | .nx ρ => ∀ σ H fs, ER K W σ H ρ fs → Step F0 H0 (Fs.has fs) H → D.nx σ H
  | .bk ρ => ∀ σ H fs, ER K W σ H ρ fs → Step F0 H0 (Fs.has fs) H → D.bk σ H
  | .ct ρ => ∀ σ H fs, ER K W σ H ρ fs → Step F0 H0 (Fs.has fs) H → D.ct σ H
  | .rt d ρ => ∀ σ H fs v F, ER K W σ H ρ fs → Rep K W.Wr H d v F → F.Nodup → (∀ a, a ∈ F → ¬ Fs.has fs a) → Step F0 H0 (fun a => Fs.has fs a ∨ a ∈ F) H → D.rt v H
def DenS (K : PySem.W.Frag) (mp : List Nat) (m : Env → Option Out) : TS := fun D σ H => ∃ (W : Wc) (ρ : Env) (fs : Fs) (o : Out), W.lk.map (·.1) = mp ∧ ER K W σ H ρ fs ∧ m ρ = some o ∧ SDone K W fs.has H D o
structure DS (X : Cx) (mp : List Nat) (st : Stmt) (m : Env → Option Out) : Prop where
  ex : ∃ t, PS X st t ∧ ∀ D σ H, DenS X.K mp m D σ H → t D σ H
structure DSs (X : Cx) (mp : List Nat) (st : List Stmt) (m : Env → Option Out) : Prop where
  ex : ∃ t, PSs X st t ∧ ∀ D σ H, DenS X.K mp m D σ H → t D σ H
theorem SDone.step {K : PySem.W.Frag} {W : Wc} {F0 F1 : Addr → Prop} {H0 H1 : Hp} {D : Ends} {o : Out} (h : SDone K W F0 H0 D o) (st : Step F0 H0 F1 H1) : SDone K W F1 H1 D o := by
  cases o with
  | nx ρ => exact fun σ H fs er s => h σ H fs er (st.trans s)
  | bk ρ => exact fun σ H fs er s => h σ H fs er (st.trans s)
  | ct ρ => exact fun σ H fs er s => h σ H fs er (st.trans s)
  | rt d ρ => exact fun σ H fs v F er r n a s => h σ H fs v F er r n a (st.trans s)

def seqS (m n : Env → Option Out) : Env → Option Out := fun ρ => (m ρ).bind fun o => match o with | .nx ρ' => n ρ' | o => some o
def skipS : Env → Option Out := fun ρ => some (.nx ρ)
section
variable {X : Cx} {mp : List Nat} {st : Stmt} {rest : List Stmt} {a b e : Expr} {es : List Expr} {pos : Pos}
theorem dss_nil : DSs X mp [] skipS := ⟨_, pss_nil, fun D σ H ⟨W, ρ, fs, o, hm, er, hp, q⟩ => by
  cases hp
  exact q σ H fs er (Step.refl _ _)⟩
theorem dss_one {m : Env → Option Out} (h : DS X mp st m) : DSs X mp [st] m := let ⟨t, h1, h2⟩ := h.ex; ⟨t, pss_one h1, h2⟩
theorem dss_cons {m n : Env → Option Out} (h : DS X mp st m) (k : DSs X mp rest n) : DSs X mp (st :: rest) (seqS m n) := by
  obtain ⟨t, h1, h2⟩ := h.ex
  obtain ⟨u, k1, k2⟩ := k.ex
  refine ⟨_, pss_cons h1 k1, fun D σ H ⟨W, ρ, fs, o, hm, er, hp, q⟩ => ?_⟩
  obtain ⟨x, hx, hp⟩ := Option.bind_eq_some_iff.mp hp
  refine h2 _ σ H ⟨W, ρ, fs, x, hm, er, hx, ?_⟩
  cases x with
  | nx ρ1 => exact fun σ1 H1 fs1 er1 st1 => k2 D σ1 H1 ⟨W, ρ1, fs1, o, hm, er1, hp, q.step st1⟩
  | bk ρ1 => cases hp; exact q
  | ct ρ1 => cases hp; exact q
  | rt d ρ1 => cases hp; exact q
def passS := skipS
theorem ds_pass : DS X mp (.Pass pos) passS := ⟨_, ps_pass, fun D σ H ⟨W, ρ, fs, o, hm, er, hp, q⟩ => by cases hp; exact q σ H fs er (Step.refl _ _)⟩
theorem ds_break : DS X mp (.Break pos) (fun ρ => some (.bk ρ)) := ⟨_, ps_break, fun D σ H ⟨W, ρ, fs, o, hm, er, hp, q⟩ => by cases hp; exact q σ H fs er (Step.refl _ _)⟩
theorem ds_continue : DS X mp (.Continue pos) (fun ρ => some (.ct ρ)) := ⟨_, ps_continue, fun D σ H ⟨W, ρ, fs, o, hm, er, hp, q⟩ => by cases hp; exact q σ H fs er (Step.refl _ _)⟩
/-- a value dropped -/
def exprS (m : Env → Option (D × Env)) : Env → Option Out := fun ρ => (m ρ).map fun x => .nx x.2
theorem ds_expr {m : Env → Option (D × Env)} (h : DE X e m) (hs : swapsWith e none pos.line X.env = pure false := by rfl) : DS X mp (.Expr e pos) (exprS m) := by
  obtain ⟨t, h1, h2⟩ := h.ex
  refine ⟨_, ps_expr h1 hs, fun D σ H ⟨W, ρ, fs, o, hm, er, hp, q⟩ => ?_⟩
  obtain ⟨⟨x, ρ1⟩, hx, hp⟩ := Option.map_eq_some_iff.mp hp
  cases hp
  exact h2 σ H _ ⟨W, ρ, fs, x, ρ1, er, hx, fun v H1 fs1 F1 er1 r1 n1 a1 st1 => q σ H1 fs1 er1 (st1.mono fun a ha => .inl ha)⟩
def retS (m : Env → Option (D × Env)) : Env → Option Out := fun ρ => (m ρ).map fun x => .rt x.1 x.2
theorem ds_ret {m : Env → Option (D × Env)} (h : DE X e m) : DS X mp (.Return (some e) pos) (retS m) := by
  obtain ⟨t, h1, h2⟩ := h.ex
  refine ⟨_, ps_ret h1, fun D σ H ⟨W, ρ, fs, o, hm, er, hp, q⟩ => ?_⟩
  obtain ⟨⟨x, ρ1⟩, hx, hp⟩ := Option.map_eq_some_iff.mp hp
  cases hp
  exact h2 σ H _ ⟨W, ρ, fs, x, ρ1, er, hx, fun v H1 fs1 F1 er1 r1 n1 a1 st1 => q σ H1 fs1 v F1 er1 r1 n1 a1 st1⟩
theorem ds_retN : DS X mp (.Return none pos) (fun ρ => some (.rt .non ρ)) := ⟨_, ps_retN, fun D σ H ⟨W, ρ, fs, o, hm, er, hp, q⟩ => by
  cases hp
  exact q σ H fs .non [] er (by rw [Rep]; exact ⟨rfl, rfl⟩) List.nodup_nil (fun _ z => by cases z) ⟨fun a o _ h => h, fun a ha => ha.elim .inl fun z => by cases z⟩⟩
def ifS (c : Env → Option (Bool × Env)) (m n : Env → Option Out) : Env → Option Out := fun ρ => (c ρ).bind fun b => if b.1 then m b.2 else n b.2
theorem ds_if {c : Expr} {sa sb : List Stmt} {t : Env → Option (Bool × Env)} {m n : Env → Option Out} (hc : DTE X c t) (ha : DSs X mp sa m) (hb : DSs X mp sb n) : DS X mp (.If c sa sb pos) (ifS t m n) := by
  obtain ⟨tc, c1, c2⟩ := hc.ex
  obtain ⟨ta, a1, a2⟩ := ha.ex
  obtain ⟨tb, b1, b2⟩ := hb.ex
  refine ⟨_, ps_if c1 a1 b1, fun D σ H ⟨W, ρ, fs, o, hm, er, hp, q⟩ => ?_⟩
  obtain ⟨⟨x, ρ1⟩, hx, hp⟩ := Option.bind_eq_some_iff.mp hp
  refine c2 σ H _ ⟨W, ρ, fs, x, ρ1, er, hx, fun H1 fs1 er1 st1 => ?_⟩
  cases x with
  | true => exact iteT (a2 D σ H1 ⟨W, ρ1, fs1, o, hm, er1, hp, q.step st1⟩)
  | false => exact iteF (b2 D σ H1 ⟨W, ρ1, fs1, o, hm, er1, hp, q.step st1⟩)

/-! ### targets -/
/-- what a target does with a value (an env of slots) -/
def DenG (K : PySem.W.Frag) (mp : List Nat) (g : D → Env → Option Env) : TG := fun v σ H Q => ∃ (W : Wc) (ρ : Env) (fs : Fs) (d : D) (F : List Addr) (ρ' : Env), W.lk.map (·.1) = mp ∧ ER K W σ H ρ fs ∧ Rep K W.Wr H d v F ∧ F.Nodup ∧ (∀ a, a ∈ F → ¬ fs.has a) ∧ g d ρ = some ρ' ∧
  ∀ σ' fs', ER K W σ' H ρ' fs' → (∀ a, Fs.has fs' a → fs.has a ∨ a ∈ F) → Q σ' H
structure DG (X : Cx) (mp : List Nat) (tg : Expr) (g : D → Env → Option Env) : Prop where
  ex : ∃ t, PG X tg t ∧ ∀ v σ H Q, DenG X.K mp g v σ H Q → t v σ H Q
def gN (i : Nat) : D → Env → Option Env := fun d ρ => some (ρ.set i (some d))
theorem lk_ne {W : Wc} {mp : List Nat} {i : Nat} (hm : W.lk.map (·.1) = mp) (hi : i ∉ mp) : ∀ p, p ∈ W.lk → p.1 ≠ i := fun p hp e => hi (hm ▸ e ▸ List.mem_map_of_mem hp)
theorem dg_name (i : Nat) {x : Str} (hN : X.N.Nodup) (hi : X.N[i]? = some x := by rfl) (hx : Loc X.env.scope x := by first | exact Or.inl rfl | exact Or.inr rfl) (hf : X.fn x = true ∨ X.env.scope.names.lookup x = some .local := by first | exact .inl rfl | exact .inr rfl | assumption)
    (hmp : i ∉ mp := by decide) : DG X mp (.Name x pos) (gN i) := by
  refine ⟨_, pg_name hN hi hx hf, fun v σ H Q ⟨W, ρ, fs, d, F, ρ', hm, er, r, nd, ap, hg, q⟩ => ?_⟩
  cases hg
  obtain ⟨fs', e1, e2⟩ := er.put' r nd ap (lk_ne hm hmp)
  exact q _ fs' e1 e2
/-- several names -/
def gNs : List Nat → List D → Env → Option Env
  | [], [], ρ => some ρ
  | i :: is, d :: ds, ρ => gNs is ds (ρ.set i (some d))
  | _, _, _ => none
def gTupN (is : List Nat) : D → Env → Option Env := fun d ρ => match d with | .tup ds => gNs is ds ρ | _ => none
def DenGs (K : PySem.W.Frag) (mp : List Nat) (is : List Nat) : TGs := fun vs σ H Q => ∃ (W : Wc) (ρ : Env) (fs : Fs) (ds : List D) (F : List Addr) (ρ' : Env), W.lk.map (·.1) = mp ∧ ER K W σ H ρ fs ∧ Reps K W.Wr H ds vs F ∧ F.Nodup ∧ (∀ a, a ∈ F → ¬ fs.has a) ∧ gNs is ds ρ = some ρ' ∧
  ∀ σ' fs', ER K W σ' H ρ' fs' → (∀ a, Fs.has fs' a → fs.has a ∨ a ∈ F) → Q σ' H
structure DGs (X : Cx) (mp : List Nat) (tgs : List Expr) (is : List Nat) : Prop where
  ex : ∃ t, PGs X tgs t ∧ ∀ v σ H Q, DenGs X.K mp is v σ H Q → t v σ H Q
theorem gNs_len : ∀ {is : List Nat} {ds : List D} {ρ ρ' : Env}, gNs is ds ρ = some ρ' → ds.length = is.length
  | [], [], _, _, _ => rfl
  | i :: is, d :: ds, ρ, ρ', h => by
    have := gNs_len (is := is) (ds := ds) h
    simp [this]
  | [], d :: ds, ρ, ρ', h => by cases h
  | i :: is, [], ρ, ρ', h => by cases h
theorem dgs_nil : DGs X mp [] [] := ⟨_, pgs_nil, fun vs σ H Q ⟨W, ρ, fs, ds, F, ρ', hm, er, r, nd, ap, hg, q⟩ => by
  cases ds with
  | nil =>
    cases hg
    rw [Reps] at r
    exact ⟨r.1, q σ fs er fun a ha => .inl ha⟩
  | cons d ds => cases hg⟩
theorem dgs_cons (i : Nat) {x : Str} {pos : Pos} {tgs : List Expr} {is : List Nat} (hN : X.N.Nodup) (h2 : DGs X mp tgs is) (hi : X.N[i]? = some x := by rfl) (hx : Loc X.env.scope x := by first | exact Or.inl rfl | exact Or.inr rfl)
    (hf : X.fn x = true ∨ X.env.scope.names.lookup x = some .local := by first | exact .inl rfl | exact .inr rfl | assumption)
    (hs : (assignEach (.Name x pos :: tgs) X.env).map (·.2) = assign (.Name x pos) X.env :: (assignEach tgs X.env).map (·.2) := by rfl) (hmp : i ∉ mp := by decide) : DGs X mp (.Name x pos :: tgs) (i :: is) := by
  obtain ⟨t, k1, k2⟩ := h2.ex
  refine ⟨_, pgs_cons (pg_name (pos := pos) hN hi hx hf) k1 hs, fun vs σ H Q ⟨W, ρ, fs, ds, F, ρ', hm, er, r, nd, ap, hg, q⟩ => ?_⟩
  cases ds with
  | nil => cases hg
  | cons d ds =>
    rw [Reps] at r
    obtain ⟨v, vr, F1, F2, rfl, r1, r2, rfl⟩ := r
    refine ⟨v, vr, rfl, ?_⟩
    obtain ⟨fs', e1, e2⟩ := er.put' r1 (nodup_l nd) (fun a ha => ap a (List.mem_append_left _ ha)) (lk_ne hm hmp)
    refine k2 vr _ H _ ⟨W, _, fs', ds, F2, ρ', hm, e1, r2, nodup_r nd, fun a ha z => ?_, hg, fun σ' fs'' er' hh => q σ' fs'' er' fun a ha => ?_⟩
    · rcases e2 a z with q | q
      · exact ap a (List.mem_append_right _ ha) q
      · exact nodup_x nd a q ha
    · rcases hh a ha with z | z
      · exact (e2 a z).imp id fun z => List.mem_append_left _ z
      · exact .inr (List.mem_append_right _ z)
theorem dg_tup {es : List Expr} {k : Nat} {is : List Nat} (hc : X.calm = true) (h : DGs X mp es is) (hn : (assignEach es X.env).length = is.length := by rfl) (hst : (assignEach es X.env).findIdx? (·.1) = none := by rfl) : DG X mp (.Tuple es k pos) (gTupN is) := by
  obtain ⟨t, h1, h2⟩ := h.ex
  refine ⟨_, pg_tup hc h1 hn hst, fun v σ H Q ⟨W, ρ, fs, d, F, ρ', hm, er, r, nd, ap, hg, q⟩ => ?_⟩
  cases d with
  | tup ds =>
    rw [Rep] at r
    obtain ⟨a, vs, rfl, s, r⟩ := r
    exact ⟨a, vs, rfl, s.sq, by rw [← r.length]; exact gNs_len hg, h2 vs σ H Q ⟨W, ρ, fs, ds, F, ρ', hm, er, r, nd, ap, hg, q⟩⟩
  | _ => cases hg
def asgS (m : Env → Option (D × Env)) (g : D → Env → Option Env) : Env → Option Out := fun ρ => (m ρ).bind fun x => (g x.1 x.2).map .nx
theorem denAsg {te : TE} {tg : TG} {m : Env → Option (D × Env)} {g : D → Env → Option Env} (h2 : ∀ σ H Q, DenE X.K m σ H Q → te σ H Q) (k2 : ∀ v σ H Q, DenG X.K mp g v σ H Q → tg v σ H Q) : ∀ D σ H, DenS X.K mp (asgS m g) D σ H → tAsg te tg D σ H := fun D σ H ⟨W, ρ, fs, o, hm, er, hp, q⟩ => by
  obtain ⟨⟨x, ρ1⟩, hx, hp⟩ := Option.bind_eq_some_iff.mp hp
  obtain ⟨ρ2, hy, hp⟩ := Option.map_eq_some_iff.mp hp
  cases hp
  refine h2 σ H _ ⟨W, ρ, fs, x, ρ1, er, hx, fun v H1 fs1 F1 er1 r1 n1 a1 st1 => ?_⟩
  exact k2 v σ H1 _ ⟨W, ρ1, fs1, x, F1, ρ2, hm, er1, r1, n1, a1, hy, fun σ' fs' er' hh => q σ' H1 fs' er' (st1.mono hh)⟩
theorem ds_set (i : Nat) {x : Str} {pos' : Pos} {m : Env → Option (D × Env)} (hN : X.N.Nodup) (h : DE X e m) (hi : X.N[i]? = some x := by rfl) (hx : Loc X.env.scope x := by first | exact Or.inl rfl | exact Or.inr rfl)
    (hs : swapsWith e (some (.Name x pos')) pos.line X.env = pure false := by rfl) (hf : X.fn x = true ∨ X.env.scope.names.lookup x = some .local := by first | exact .inl rfl | exact .inr rfl | assumption) (hmp : i ∉ mp := by decide) :
    DS X mp (.Assign [.Name x pos'] e pos) (asgS m (gN i)) := by
  obtain ⟨t, h1, h2⟩ := h.ex
  refine ⟨_, ps_set hN hi hx h1 hs hf, ?_⟩
  refine denAsg (g := gN i) h2 fun v σ H Q ⟨W, ρ, fs, d, F, ρ', hm, er, r, nd, ap, hg, q⟩ => ?_
  cases hg
  obtain ⟨fs', e1, e2⟩ := er.put' r nd ap (lk_ne hm hmp)
  exact q _ fs' e1 e2
theorem ds_asg {tg : Expr} {m : Env → Option (D × Env)} {g : D → Env → Option Env} (h : DE X e m) (k : DG X mp tg g) (hs : swapsWithSole [tg] e pos.line X.env = pure false := by rfl) (hw : swappedStores [tg] e X.env = pure none := by rfl)
    (ha : (assignEach [tg] X.env).map (·.2) = [assign tg X.env] := by rfl) : DS X mp (.Assign [tg] e pos) (asgS m g) := by
  obtain ⟨t, h1, h2⟩ := h.ex
  obtain ⟨u, k1, k2⟩ := k.ex
  exact ⟨_, ps_asg h1 k1 hs hw ha, denAsg h2 k2⟩
/-- a, b = x, y -/
def parS (i j : Nat) (ms : Env → Option (List Tm × Env)) : Env → Option Out := fun ρ => (ms ρ).bind fun x => (valsOf x.1).bind fun ds => match ds with | [d1, d2] => some (.nx ((x.2.set i (some d1)).set j (some d2))) | _ => none
theorem ds_par (i j : Nat) {x y : Str} {px py pt : Pos} {kt k2 pt2} {ms : Env → Option (List Tm × Env)} (hc : X.calm = true) (hN : X.N.Nodup) (ha : DAs X [a, b] ms) (hi : X.N[i]? = some x := by rfl) (hj : X.N[j]? = some y := by rfl) (hij : i ≠ j := by decide)
    (hx : X.env.scope.names.lookup x = some .local := by rfl) (hy : X.env.scope.names.lookup y = some .local := by rfl)
    (hw : swappedStores [.Tuple [.Name x px, .Name y py] kt pt] (.Tuple [a, b] k2 pt2) X.env = pure (some [x, y]) := by rfl)
    (hs : swapsWithSole [.Tuple [.Name x px, .Name y py] kt pt] (.Tuple [a, b] k2 pt2) pos.line X.env = pure false := by rfl) (hmi : i ∉ mp := by decide) (hmj : j ∉ mp := by decide) :
    DS X mp (.Assign [.Tuple [.Name x px, .Name y py] kt pt] (.Tuple [a, b] k2 pt2) pos) (parS i j ms) := by
  obtain ⟨t, h1, h2⟩ := ha.ex
  refine ⟨_, ps_par hc hN hi hj hij hx hy h1 hw hs, fun D σ H ⟨W, ρ, fs, o, hm, er, hp, q⟩ => ?_⟩
  obtain ⟨⟨ts, ρ1⟩, hx, hp⟩ := Option.bind_eq_some_iff.mp hp
  obtain ⟨ds, hv, hp⟩ := Option.bind_eq_some_iff.mp hp
  match ds, hp with
  | [d1, d2], hp =>
    cases hp
    refine h2 σ H _ ⟨W, ρ, fs, ts, ρ1, er, hx, fun vs H1 fs1 F1 er1 r1 n1 a1 st1 => ?_⟩
    have rs := r1.vals hv
    rw [Reps] at rs
    obtain ⟨v, vr, F1, F2, rfl, q1, q2, rfl⟩ := rs
    rw [Reps] at q2
    obtain ⟨w, vr2, G1, G2, rfl, q3, q4, rfl⟩ := q2
    rw [Reps] at q4
    obtain ⟨rfl, rfl⟩ := q4
    rw [List.append_nil] at n1 a1 st1
    refine ⟨v, w, rfl, ?_⟩
    obtain ⟨fs', e1, e2⟩ := er1.put' q1 (nodup_l n1) (fun a ha => a1 a (List.mem_append_left _ ha)) (lk_ne hm hmi)
    obtain ⟨fs'', e3, e4⟩ := e1.put' q3 (nodup_r n1) (fun a ha z => (e2 a z).elim (fun q => a1 a (List.mem_append_right _ ha) q) fun q => nodup_x n1 a q ha) (lk_ne hm hmj)
    refine q _ H1 fs'' e3 (st1.mono fun a ha => ?_)
    rcases e4 a ha with z | z
    · exact (e2 a z).imp id fun z => List.mem_append_left _ z
    · exact .inr (List.mem_append_right _ z)
/-- x op= e -/
def augS (i : Nat) (f : D → D → Option D) (m : Env → Option (D × Env)) : Env → Option Out := fun ρ => (lk ρ i).bind fun x => if x.free then (m ρ).bind fun y => (f x y.1).map fun z => .nx (y.2.set i (some z)) else none
theorem ds_aug (i : Nat) {x : Str} {op : Operator} {r : R2} {f : D → D → Option D} {pos' : Pos} {m : Env → Option (D × Env)} (hN : X.N.Nodup) (ho : OpR X (inplaceOp op) r) (hr : PO2 X.K r f) (h : DE X e m) (hi : X.N[i]? = some x := by rfl) (hx : Loc X.env.scope x := by first | exact Or.inl rfl | exact Or.inr rfl)
    (hf : X.fn x = true ∨ X.env.scope.names.lookup x = some .local := by first | exact .inl rfl | exact .inr rfl | assumption) (hmp : i ∉ mp := by decide) : DS X mp (.AugAssign (.Name x pos') op e pos) (augS i f m) := by
  obtain ⟨t, h1, h2⟩ := h.ex
  refine ⟨_, ps_aug hN hi hx h1 (ti := r) (fun pins s σ H x y v u Q I rx ry hq => ho pins s σ H x y v u Q I rx ry hq) hf, fun D σ H ⟨W, ρ, fs, o, hm, er, hp, q⟩ => ?_⟩
  obtain ⟨d, hd, hp⟩ := Option.bind_eq_some_iff.mp hp
  split at hp
  · rename_i hfree
    obtain ⟨⟨y, ρ1⟩, hy, hp⟩ := Option.bind_eq_some_iff.mp hp
    obtain ⟨z, hz, hp⟩ := Option.map_eq_some_iff.mp hp
    cases hp
    obtain ⟨v, e1, rv⟩ := er.get hd
    have hF := rv.free hfree
    rw [hF] at rv
    refine ⟨v, e1, h2 σ H _ ⟨W, ρ, fs, y, ρ1, er, hy, fun w H1 fs1 F1 er1 r1 n1 a1 st1 => ?_⟩⟩
    have rv1 := rv.keep er.owned st1.keep fun _ z => by cases z
    refine hr W.Wr H1 d y v w [] F1 z _ er1.free rv1 r1 hz fun u H2 E e2 r2 n2 f2 => ?_
    obtain ⟨fs', e3, e4⟩ := (er1.ext e2).put' r2 n2 (er1.apart f2) (lk_ne hm hmp)
    refine q _ H2 fs' e3 ((st1.mono fun a ha => .inl ha).trans (Step.of_ext e2 fun a ha => ?_))
    exact (e4 a ha).imp id fun z => f2 a z
  · cases hp

/-! ### lists changed -/
theorem ER.lst_get {K : PySem.W.Frag} {W : Wc} {σ : L2.St} {H : Hp} {ρ : Env} {fs : Fs} {k : Nat} {xs : List D} (er : ER K W σ H ρ fs) (hk : lk ρ k = some (.lst xs)) :
    ∃ p vs G, σ[k]? = some (some (.ref p)) ∧ H p = some (.lst vs) ∧ W.Wr p ∧ Reps K W.Wr H xs vs G ∧ fs k = p :: G := by
  obtain ⟨v1, e1, r⟩ := er.get hk
  rw [Rep] at r
  obtain ⟨p, vs, G, rfl, hH, hw, rg, hG⟩ := r
  exact ⟨p, vs, G, e1, hH, hw, rg, hG⟩
theorem ER.lst_chg {K : PySem.W.Frag} {W : Wc} {σ : L2.St} {H1 H2 : Hp} {ρ1 : Env} {fs1 : Fs} {k : Nat} {ys : List D} {vs' : List V} {p0 : Addr} {G G' F1 E : List Addr} (er1 : ER K W σ H1 ρ1 fs1) (e0 : σ[k]? = some (some (.ref p0))) (hG : fs1 k = p0 :: G) (hw : W.Wr p0)
    (a1 : ∀ a, a ∈ F1 → ¬ fs1.has a) (kp : ∀ a o, a ≠ p0 → H1 a = some o → H2 a = some o) (hH2 : H2 p0 = some (.lst vs')) (ry : Reps K W.Wr H2 ys vs' G') (nd2 : (p0 :: (G' ++ E)).Nodup) (sub : ∀ a, a ∈ G' ++ E → a ∈ G ++ F1 ∨ H1 a = none) :
    ER K W σ H2 (ρ1.set k (some (.lst ys))) (fs1.set k (p0 :: G')) ∧ (∀ a, a ∈ E → ¬ (fs1.set k (p0 :: G')).has a) ∧ E.Nodup ∧ Step (fun a => fs1.has a ∨ a ∈ F1) H1 (fun a => (fs1.set k (p0 :: G')).has a ∨ a ∈ E) H2 := by
  have hpG : ∀ a, a ∈ p0 :: G → fs1.has a := fun a ha => ⟨k, by rw [hG]; exact ha⟩
  have ndG : (p0 :: G').Nodup := by
    have := nd2
    rw [← List.cons_append] at this
    exact nodup_l this
  have own1 : ∀ a, a ∈ p0 :: (G ++ F1) → fs1.has a ∨ a ∈ F1 := fun a ha => by
    rcases List.mem_cons.mp ha with rfl | ha
    · exact .inl (hpG _ List.mem_cons_self)
    · rcases List.mem_append.mp ha with z | z
      · exact .inl (hpG _ (List.mem_cons_of_mem _ z))
      · exact .inr z
  have far : ∀ a, a ∈ p0 :: G' → ∀ j, j ≠ k → a ∉ fs1 j := fun a ha j hj hb => by
    rcases List.mem_cons.mp ha with rfl | ha
    · exact er1.dj j k hj a hb (by rw [hG]; exact List.mem_cons_self)
    · rcases sub a (List.mem_append_left _ ha) with z | z
      · rcases List.mem_append.mp z with z | z
        · exact er1.dj j k hj a hb (by rw [hG]; exact List.mem_cons_of_mem _ z)
        · exact a1 a z ⟨j, hb⟩
      · obtain ⟨_, _, e⟩ := er1.owned a ⟨j, hb⟩
        rw [z] at e; cases e
  have hkl : k < ρ1.length := by rw [← er1.len]; exact (List.getElem?_eq_some_iff.mp e0).1
  have er2 : ER K W σ H2 (ρ1.set k (some (.lst ys))) (fs1.set k (p0 :: G')) := er1.mut e0 hkl (fun a o hn e => kp a o (fun z => hn (by rw [hG, z]; exact List.mem_cons_self)) e)
    (by rw [Rep]; exact ⟨p0, vs', G', rfl, hH2, hw, ry, rfl⟩) ndG far
  refine ⟨er2, fun a ha z => ?_, nodup_r (l1 := p0 :: G') (by simpa using nd2), ⟨fun a o hn e => kp a o (fun z => hn (.inl (hpG a (by rw [z]; exact List.mem_cons_self)))) e, fun a ha => ?_⟩⟩
  · obtain ⟨j, hj⟩ := z
    by_cases n : j = k
    · subst n
      rw [Fs.set_same] at hj
      exact nodup_x (l1 := p0 :: G') (l2 := E) (by simpa using nd2) a hj ha
    · rw [Fs.set_ne n] at hj
      have hH1a : H1 a ≠ none := fun z => by
        obtain ⟨_, _, e⟩ := er1.owned a ⟨j, hj⟩
        rw [z] at e; cases e
      rcases sub a (List.mem_append_right _ ha) with z | z
      · rcases List.mem_append.mp z with z | z
        · exact er1.dj j k n a hj (by rw [hG]; exact List.mem_cons_of_mem _ z)
        · exact a1 a z ⟨j, hj⟩
      · exact hH1a z
  · have cs : ∀ b, b ∈ G' ++ E → (fs1.has b ∨ b ∈ F1) ∨ H1 b = none := fun b hb => (sub b hb).imp (fun z => own1 b (List.mem_cons_of_mem _ z)) id
    rcases ha with z | z
    · rcases Fs.set_has z with z | z
      · exact .inl (.inl z)
      · rcases List.mem_cons.mp z with rfl | z
        · exact .inl (.inl (hpG _ List.mem_cons_self))
        · exact cs a (List.mem_append_left _ z)
    · exact cs a (List.mem_append_right _ z)
/-- a method of a list of one's own: what it does to the items -/
def MtL (X : Cx) (r : V → List V → Hp → VK → Prop) (f : List D → List D → Option (D × List D)) : Prop :=
  ∀ Wr H xs ds p vs as G F d ys Q, (∀ a, H a = none → Wr a) → H p = some (.lst vs) → Wr p → Reps X.K Wr H xs vs G → Reps X.K Wr H ds as F → (p :: (G ++ F)).Nodup → f xs ds = some (d, ys) →
    (∀ u vs' H' G' E, (∀ a o, a ≠ p → H a = some o → H' a = some o) → H' p = some (.lst vs') → Reps X.K Wr H' ys vs' G' → Rep X.K Wr H' d u E → (p :: (G' ++ E)).Nodup → (∀ a, a ∈ G' ++ E → a ∈ G ++ F ∨ H a = none) → Q u H') → r (.ref p) as H Q
def isLst : D → Bool
  | .lst _ => true
  | _ => false
def lstAt (ρ : Env) (k : Nat) : Option (List D) := match lk ρ k with
  | some (.lst xs) => some xs
  | _ => none
theorem lstAt_some {ρ : Env} {k : Nat} {xs : List D} (h : lstAt ρ k = some xs) : lk ρ k = some (.lst xs) := by
  unfold lstAt at h
  split at h
  · rename_i e; cases h; exact e
  · cases h
def mtE (k : Nat) (f : List D → List D → Option (D × List D)) (ms : Env → Option (List Tm × Env)) : Env → Option (D × Env) := fun ρ => (lstAt ρ k).bind fun _ => (ms ρ).bind fun x => (valsOf x.1).bind fun ds => (lstAt x.2 k).bind fun xs => (f xs ds).map fun y => (y.1, x.2.set k (some (.lst y.2)))
theorem mtE_den {k : Nat} {f : List D → List D → Option (D × List D)} {ms : Env → Option (List Tm × Env)} {r : V → List V → Hp → VK → Prop} {t : TA} (hf : MtL X r f) (h2 : ∀ σ H Q, DenA X.K ms σ H Q → t σ H Q) : ∀ σ H Q, DenE X.K (mtE k f ms) σ H Q → tBM X.K "list" r (tVar k) t σ H Q := fun σ H Q ⟨W, ρ, fs, d, ρ', er, hp, q⟩ => by
  obtain ⟨xs0, hd0, hp⟩ := Option.bind_eq_some_iff.mp hp
  obtain ⟨⟨ts, ρ1⟩, hx, hp⟩ := Option.bind_eq_some_iff.mp hp
  obtain ⟨ds, hv, hp⟩ := Option.bind_eq_some_iff.mp hp
  obtain ⟨xs, hk, hp⟩ := Option.bind_eq_some_iff.mp hp
  obtain ⟨⟨z, ys⟩, hz, hp⟩ := Option.map_eq_some_iff.mp hp
  cases hp
  obtain ⟨p0, vs0, G0, e0, hH0, _⟩ := er.lst_get (lstAt_some hd0)
  refine ⟨.ref p0, e0, .inl ⟨rfl, _, .inl (.inl hH0)⟩, ?_⟩
  refine h2 σ H _ ⟨W, ρ, fs, ts, ρ1, er, hx, fun as H1 fs1 F1 er1 r1 n1 a1 st1 => ?_⟩
  have rs := r1.vals hv
  obtain ⟨p, vs, G, e1, hH, hw, rg, hG⟩ := er1.lst_get (lstAt_some hk)
  rw [e0] at e1; cases e1
  have nd : (p0 :: (G ++ F1)).Nodup := by
    have ndk := er1.nd k
    rw [hG] at ndk
    have := nodup_app ndk n1 fun a ha z => a1 a z ⟨k, by rw [hG]; exact ha⟩
    simpa using this
  refine hf W.Wr H1 xs ds p0 vs as G F1 z ys Q er1.free hH hw rg rs nd hz fun u vs' H2 G' E kp hH2 ry rz nd2 sub => ?_
  obtain ⟨er2, ap, ndE, s2⟩ := er1.lst_chg e0 hG hw a1 kp hH2 ry nd2 sub
  exact q u H2 _ E er2 rz ndE ap (st1.trans s2)
theorem de_bm (k : Nat) {x name : Str} {px apos : Pos} {id : String} {f : List D → List D → Option (D × List D)} {r : V → List V → Hp → VK → Prop} {ms : Env → Option (List Tm × Env)} (hf : MtL X r f) (pa : PySem.PlainAttrs "list") (slot : PySem.Slot "list" name id) (hty : typeOf (.builtin id) = pure (.type "method_descriptor")) (hm : MtR X id r) (ha : DAs X (e :: es) ms)
    (hN : X.N[k]? = some x := by rfl) (hv : Vis X.env.scope x := by first | exact Or.inl rfl | exact Or.inr (Or.inl rfl) | exact Or.inr (Or.inr rfl)) (hd : (x == ("__debug__" : Str)) = false := by decide) (hcd : (x == ("__classdict__" : Str)) = false := by decide)
    (hbase : attributeBase (.Name x px) name X.env (eval (.Name x px) X.env) = eval (.Name x px) X.env := by rfl)
    (hfew : ((backTo pos (starEach (e :: es) X.env)).all (fun x => !x.1) && (backToKw pos (keywordEach [] X.env)).all (fun x => x.1.isSome)
      && decide ((e :: es).length + ([] : List Keyword).length + (if ([] : List Keyword).isEmpty then 0 else 1) < 30)) = true := by rfl)
    (hline : (apos.endLine == pos.line) = true := by rfl) (hs : starEach (e :: es) X.env = (false, eval e X.env) :: starEach es X.env := by rfl) (hplain : (backTo pos (starEach es X.env)).any (·.1) = false := by rfl) :
    DE X (.Call (.Attribute (.Name x px) name apos) (e :: es) [] pos) (mtE k f ms) := by
  obtain ⟨t, h1, h2⟩ := ha.ex
  exact ⟨_, pe_bm pa slot hty hm (pe_var hN hv hd hcd) h1 hbase hfew hline hs hplain, mtE_den hf h2⟩
theorem de_bm0 (k : Nat) {x name : Str} {px apos : Pos} {id : String} {f : List D → List D → Option (D × List D)} {r : V → List V → Hp → VK → Prop} (hf : MtL X r f) (pa : PySem.PlainAttrs "list") (slot : PySem.Slot "list" name id) (hty : typeOf (.builtin id) = pure (.type "method_descriptor")) (hm : MtR X id r)
    (hN : X.N[k]? = some x := by rfl) (hv : Vis X.env.scope x := by first | exact Or.inl rfl | exact Or.inr (Or.inl rfl) | exact Or.inr (Or.inr rfl)) (hd : (x == ("__debug__" : Str)) = false := by decide) (hcd : (x == ("__classdict__" : Str)) = false := by decide)
    (hbase : attributeBase (.Name x px) name X.env (eval (.Name x px) X.env) = eval (.Name x px) X.env := by rfl) (hline : (apos.endLine == pos.line) = true := by rfl) :
    DE X (.Call (.Attribute (.Name x px) name apos) [] [] pos) (mtE k f asNil) := by
  refine ⟨_, pe_bm0 pa slot hty hm (pe_var hN hv hd hcd) hbase hline, fun σ H Q h => ?_⟩
  obtain ⟨v, e1, ty, h⟩ := mtE_den (t := tNil) hf (fun σ H Q ⟨W, ρ, fs, d, ρ', er, hp, q⟩ => by
    cases hp
    exact q [] H fs [] er ⟨rfl, rfl⟩ List.nodup_nil (fun _ z => by cases z) ⟨fun a o _ h => h, fun a ha => ha.elim .inl fun z => by cases z⟩) σ H Q h
  exact ⟨v, e1, ty, h⟩

/-! ### the methods -/
def lAppend (xs ds : List D) : Option (D × List D) := match ds with
  | [d] => if xs.length < 1000000 then some (.non, xs ++ [d]) else none
  | _ => none
theorem line1 {n : Nat} (h : n < 1000000) : n < sizeLine := Nat.lt_of_lt_of_le h (by decide)
theorem rep_non {K : PySem.W.Frag} {Wr : Addr → Prop} {H : Hp} : Rep K Wr H .non .non [] := by rw [Rep]; exact ⟨rfl, rfl⟩
theorem Reps.upd {K : PySem.W.Frag} {Wr : Addr → Prop} {H : Hp} {p : Addr} {o : HO} {vs0 : List V} {ds : List D} {vs : List V} {F : List Addr} (hp : H p = some (.lst vs0)) (hw : Wr p) (h : Reps K Wr H ds vs F) (n : p ∉ F) : Reps K Wr (L2.upd H p o) ds vs F :=
  Reps.keep (F0 := fun a => a = p) (fun a e => by rw [e]; exact ⟨hw, _, hp⟩) (fun a u hn e => by rw [upd_ne hn]; exact e) h fun a ha e => n (e ▸ ha)
theorem Rep.upd {K : PySem.W.Frag} {Wr : Addr → Prop} {H : Hp} {p : Addr} {o : HO} {vs0 : List V} {ds : D} {vs : V} {F : List Addr} (hp : H p = some (.lst vs0)) (hw : Wr p) (h : Rep K Wr H ds vs F) (n : p ∉ F) : Rep K Wr (L2.upd H p o) ds vs F :=
  Rep.keep (F0 := fun a => a = p) (fun a e => by rw [e]; exact ⟨hw, _, hp⟩) (fun a u hn e => by rw [upd_ne hn]; exact e) h fun a ha e => n (e ▸ ha)
theorem ml_append : MtL X rAppend lAppend := by
  intro Wr H xs ds p vs as G F d ys Q fr hH hw rg rs nd hf q
  unfold lAppend at hf
  split at hf
  · rename_i d'
    split at hf
    · rename_i hl
      cases hf
      have hn := List.nodup_cons.mp nd
      obtain ⟨v, r, F1, F2, rfl, q1, q2, rfl⟩ := (by rw [Reps] at rs; exact rs : ∃ v r F1 F2, as = v :: r ∧ Rep X.K Wr H d' v F1 ∧ Reps X.K Wr H [] r F2 ∧ F = F1 ++ F2)
      rw [Reps] at q2
      obtain ⟨rfl, rfl⟩ := q2
      rw [List.append_nil] at hn nd q
      refine ⟨p, vs, v, rfl, rfl, hH, by rw [← rg.length]; exact line1 hl, ?_⟩
      refine q .non (vs ++ [v]) _ (G ++ F1) [] (fun a o n e => by rw [upd_ne n]; exact e) upd_same ?_ rep_non (by simpa using nd) fun a ha => .inl (by simpa using ha)
      exact (rg.upd hH hw fun z => hn.1 (List.mem_append_left _ z)).append (Reps.one (q1.upd hH hw fun z => hn.1 (List.mem_append_right _ z)))
    · cases hf
  · cases hf
def lPop (xs ds : List D) : Option (D × List D) := match ds with
  | [] => (xs.getLast?).map fun d => (d, xs.dropLast)
  | _ => none
theorem Reps.snoc {K : PySem.W.Frag} {Wr : Addr → Prop} {H : Hp} : ∀ {xs : List D} {d : D} {vs : List V} {G : List Addr}, Reps K Wr H (xs ++ [d]) vs G → ∃ ws v G1 G2, vs = ws ++ [v] ∧ Reps K Wr H xs ws G1 ∧ Rep K Wr H d v G2 ∧ G = G1 ++ G2
  | [], d, vs, G, h => by
    rw [List.nil_append, Reps] at h
    obtain ⟨v, r, F1, F2, rfl, h1, h2, rfl⟩ := h
    rw [Reps] at h2
    obtain ⟨rfl, rfl⟩ := h2
    exact ⟨[], v, [], F1, rfl, Reps.nil, h1, by simp⟩
  | x :: xs, d, vs, G, h => by
    rw [List.cons_append, Reps] at h
    obtain ⟨v, r, F1, F2, rfl, h1, h2, rfl⟩ := h
    obtain ⟨ws, v2, G1, G2, rfl, q1, q2, rfl⟩ := Reps.snoc h2
    exact ⟨v :: ws, v2, F1 ++ G1, G2, rfl, Reps.cons h1 q1, q2, by simp⟩
theorem ml_pop : MtL X rPop lPop := by
  intro Wr H xs ds p vs as G F d ys Q fr hH hw rg rs nd hf q
  unfold lPop at hf
  split at hf
  · obtain ⟨d', e, hf⟩ := Option.map_eq_some_iff.mp hf
    cases hf
    rw [Reps] at rs
    obtain ⟨rfl, rfl⟩ := rs
    have ne : xs ≠ [] := fun z => by rw [z] at e; cases e
    have hx : xs.dropLast ++ [d] = xs := by
      rw [List.getLast?_eq_getLast ne] at e
      cases e
      exact List.dropLast_concat_getLast ne
    rw [← hx] at rg
    obtain ⟨ws, v, G1, G2, rfl, q1, q2, rfl⟩ := rg.snoc
    have hn := List.nodup_cons.mp nd
    rw [List.append_nil] at hn nd
    refine ⟨p, ws ++ [v], v, rfl, rfl, hH, by simp, ?_⟩
    rw [List.dropLast_concat]
    exact q v ws _ G1 G2 (fun a o n e => by rw [upd_ne n]; exact e) upd_same (q1.upd hH hw fun z => hn.1 (List.mem_append_left _ z)) (q2.upd hH hw fun z => hn.1 (List.mem_append_right _ z)) nd fun a ha => .inl (by simpa using ha)
  · cases hf
def lReverse (xs ds : List D) : Option (D × List D) := match ds with
  | [] => if D.frees xs then some (.non, xs.reverse) else none
  | _ => none
theorem Reps.rev {K : PySem.W.Frag} {Wr : Addr → Prop} {H : Hp} {xs : List D} {vs : List V} (h : Reps K Wr H xs vs []) (f : D.frees xs = true) : Reps K Wr H xs.reverse vs.reverse [] := by
  refine Reps.of_free (by rw [List.length_reverse, List.length_reverse, h.length]) fun i d e => ?_
  have hi : i < xs.length := by
    have := (List.getElem?_eq_some_iff.mp e).1
    simpa using this
  rw [List.getElem?_reverse hi] at e
  obtain ⟨v, e1, r⟩ := h.get_free e (D.frees_all.mp f d (List.mem_of_getElem? e))
  refine ⟨v, ?_, r⟩
  rw [List.getElem?_reverse (by rw [← h.length]; exact hi), ← h.length]
  exact e1
theorem ml_reverse : MtL X rReverse lReverse := by
  intro Wr H xs ds p vs as G F d ys Q fr hH hw rg rs nd hf q
  unfold lReverse at hf
  split at hf
  · split at hf
    · rename_i f
      cases hf
      rw [Reps] at rs
      obtain ⟨rfl, rfl⟩ := rs
      obtain rfl := rg.free f
      refine ⟨p, vs, rfl, rfl, hH, ?_⟩
      exact q .non vs.reverse _ [] [] (fun a o n e => by rw [upd_ne n]; exact e) upd_same ((rg.rev f).upd hH hw fun z => by cases z) rep_non (by simp) fun a ha => by cases ha
    · cases hf
  · cases hf
/-- one item taken out, others in, at places: for lists of free items -/
def lInsert (xs ds : List D) : Option (D × List D) := match ds with
  | [.int i, d] => if D.frees xs && d.free && decide (0 ≤ i) && decide (i < 1000000) && decide (xs.length < 1000000) then some (.non, xs.take i.toNat ++ [d] ++ xs.drop i.toNat) else none
  | _ => none
abbrev rInsert : V → List V → Hp → VK → Prop := fun x vs H Q => ∃ (l : Addr) (xs : List V) (i : Int) (y : V), x = .ref l ∧ vs = [.int i, y] ∧ H l = some (.lst xs) ∧ xs.length < sizeLine ∧ 0 ≤ i ∧ i < 2 ^ 63 ∧
    Q .non (upd H l (.lst (xs.take i.toNat ++ [y] ++ xs.drop i.toNat)))
theorem Reps.take {K : PySem.W.Frag} {Wr : Addr → Prop} {H : Hp} {xs : List D} {vs : List V} (h : Reps K Wr H xs vs []) (f : D.frees xs = true) (n : Nat) : Reps K Wr H (xs.take n) (vs.take n) [] := by
  refine Reps.of_free (by rw [List.length_take, List.length_take, h.length]) fun i d e => ?_
  rw [List.getElem?_take] at e ⊢
  split at e
  · rename_i hi
    rw [if_pos hi]
    exact h.get_free e (D.frees_all.mp f d (List.mem_of_getElem? e))
  · cases e
theorem Reps.drop {K : PySem.W.Frag} {Wr : Addr → Prop} {H : Hp} {xs : List D} {vs : List V} (h : Reps K Wr H xs vs []) (f : D.frees xs = true) (n : Nat) : Reps K Wr H (xs.drop n) (vs.drop n) [] := by
  refine Reps.of_free (by rw [List.length_drop, List.length_drop, h.length]) fun i d e => ?_
  rw [List.getElem?_drop] at e ⊢
  exact h.get_free e (D.frees_all.mp f d (List.mem_of_getElem? e))
theorem ml_insert : MtL X rInsert lInsert := by
  intro Wr H xs ds p vs as G F d ys Q fr hH hw rg rs nd hf q
  unfold lInsert at hf
  split at hf
  · rename_i i d'
    split at hf
    · rename_i c
      simp only [Bool.and_eq_true, decide_eq_true_eq] at c
      obtain ⟨⟨⟨⟨c1, c2⟩, c3⟩, c4⟩, c5⟩ := c
      cases hf
      obtain rfl := rg.free c1
      have hfr := rs.free (by rw [D.frees, D.frees, D.frees, c2]; rfl)
      subst hfr
      rw [Reps] at rs
      obtain ⟨u, r, F1, F2, rfl, q1, q2, hF⟩ := rs
      rw [Rep] at q1
      obtain ⟨rfl, rfl⟩ := q1
      rw [Reps] at q2
      obtain ⟨v, r2, F3, F4, rfl, q3, q4, hF2⟩ := q2
      rw [Reps] at q4
      obtain ⟨rfl, rfl⟩ := q4
      have hF3 := q3.free c2
      subst hF3
      refine ⟨p, vs, i, v, rfl, rfl, hH, by rw [← rg.length]; exact line1 c5, c3, by omega, ?_⟩
      refine q .non _ _ [] [] (fun a o n e => by rw [upd_ne n]; exact e) upd_same ?_ rep_non (by simp) fun a ha => by cases ha
      exact ((((rg.take c1 i.toNat).append (Reps.one q3)).append (rg.drop c1 i.toNat)) : Reps X.K Wr H _ _ []).upd hH hw fun z => by cases z
    · cases hf
  · cases hf
def lPopAt (xs ds : List D) : Option (D × List D) := match ds with
  | [.int i] => if D.frees xs && decide (-(2 ^ 63) ≤ i) && decide (i < 2 ^ 63) then (seqIndex? i xs.length).bind fun k => (xs[k]?).map fun d => (d, xs.eraseIdx k) else none
  | _ => none
theorem Reps.erase {K : PySem.W.Frag} {Wr : Addr → Prop} {H : Hp} {xs : List D} {vs : List V} (h : Reps K Wr H xs vs []) (f : D.frees xs = true) (n : Nat) : Reps K Wr H (xs.eraseIdx n) (vs.eraseIdx n) [] := by
  refine Reps.of_free (by rw [List.length_eraseIdx, List.length_eraseIdx, h.length]) fun i d e => ?_
  rw [List.getElem?_eraseIdx] at e ⊢
  split at e
  · rename_i hi
    rw [if_pos hi]
    exact h.get_free e (D.frees_all.mp f d (List.mem_of_getElem? e))
  · rename_i hi
    rw [if_neg hi]
    exact h.get_free e (D.frees_all.mp f d (List.mem_of_getElem? e))
theorem ml_popAt : MtL X rPopAt lPopAt := by
  intro Wr H xs ds p vs as G F d ys Q fr hH hw rg rs nd hf q
  unfold lPopAt at hf
  split at hf
  · rename_i i
    split at hf
    · rename_i c
      simp only [Bool.and_eq_true, decide_eq_true_eq] at c
      obtain ⟨⟨c1, c2⟩, c3⟩ := c
      obtain ⟨k, e1, hf⟩ := Option.bind_eq_some_iff.mp hf
      obtain ⟨d', e2, hf⟩ := Option.map_eq_some_iff.mp hf
      cases hf
      obtain rfl := rg.free c1
      rw [Reps] at rs
      obtain ⟨u, r, F1, F2, rfl, q1, q2, rfl⟩ := rs
      rw [Rep] at q1
      obtain ⟨rfl, rfl⟩ := q1
      rw [Reps] at q2
      obtain ⟨rfl, rfl⟩ := q2
      obtain ⟨v, e3, rv⟩ := rg.get_free e2 (D.frees_all.mp c1 d (List.mem_of_getElem? e2))
      refine ⟨p, vs, i, k, v, rfl, rfl, hH, c2, c3, by rw [← rg.length]; exact e1, e3, ?_⟩
      exact q v _ _ [] [] (fun a o n e => by rw [upd_ne n]; exact e) upd_same ((rg.erase c1 k).upd hH hw fun z => by cases z) (rv.upd hH hw fun z => by cases z) (by simp) fun a ha => by cases ha
    · cases hf
  · cases hf
/-! ### xs[i] = e, xs[i] op= e -/
def setS (k : Nat) (me : Env → Option (D × Env)) (mi : Env → Option (Tm × Env)) : Env → Option Out := fun ρ => (me ρ).bind fun x => (lstAt x.2 k).bind fun _ => (mi x.2).bind fun y => (y.1.raw y.2).bind fun i => (lstAt y.2 k).bind fun xs => match i with
  | .int i => if D.frees xs then (ixN xs.length i).map fun j => .nx (y.2.set k (some (.lst (xs.set j x.1)))) else none
  | _ => none
theorem Reps.set1 {K : PySem.W.Frag} {Wr : Addr → Prop} {H : Hp} {d : D} {v : V} {F : List Addr} (hr : Rep K Wr H d v F) : ∀ {xs : List D} {vs : List V} {j : Nat}, Reps K Wr H xs vs [] → D.frees xs = true → j < xs.length → Reps K Wr H (xs.set j d) (vs.set j v) F
  | x :: xs, vs, 0, h, f, _ => by
    rw [Reps] at h
    obtain ⟨w, r, F1, F2, rfl, h1, h2, e⟩ := h
    rw [D.frees, Bool.and_eq_true] at f
    obtain rfl := h1.free f.1
    obtain rfl := h2.free f.2
    have := Reps.cons hr h2
    rw [List.append_nil] at this
    exact this
  | x :: xs, vs, j + 1, h, f, hj => by
    rw [Reps] at h
    obtain ⟨w, r, F1, F2, rfl, h1, h2, e⟩ := h
    rw [D.frees, Bool.and_eq_true] at f
    obtain rfl := h1.free f.1
    obtain rfl := h2.free f.2
    exact Reps.cons (F := []) h1 (Reps.set1 hr h2 f.2 (by simpa using hj))
theorem ixN_lt {n : Nat} {i : Int} {j : Nat} (h : ixN n i = some j) : j < n := by
  unfold ixN at h
  split at h <;> split at h <;> first | (cases h; omega) | cases h
theorem ds_setix (k : Nat) {x : Str} {px tpos : Pos} {i : Expr} {me : Env → Option (D × Env)} {mi : Env → Option (Tm × Env)} (he : DE X e me) (hi : DO X i mi)
    (hN : X.N[k]? = some x := by rfl) (hv : Vis X.env.scope x := by first | exact Or.inl rfl | exact Or.inr (Or.inl rfl) | exact Or.inr (Or.inr rfl)) (hd : (x == ("__debug__" : Str)) = false := by decide) (hcd : (x == ("__classdict__" : Str)) = false := by decide)
    (ha : ∀ v, assign (.Subscript (.Name x px) i tpos) X.env v = (do
      let ov ← holding [v] (eval (.Name x px) X.env)
      let iv ← holding [v, ov] (eval i X.env)
      standAt tpos
      holding [v, ov, iv] (setItem ov iv v)
      release [v, ov, iv] []) := by intro _; rfl)
    (hs : swapsWithSole [.Subscript (.Name x px) i tpos] e pos.line X.env = pure false := by rfl) (hw : swappedStores [.Subscript (.Name x px) i tpos] e X.env = pure none := by rfl)
    (ha1 : (assignEach [.Subscript (.Name x px) i tpos] X.env).map (·.2) = [assign (.Subscript (.Name x px) i tpos) X.env] := by rfl) : DS X mp (.Assign [.Subscript (.Name x px) i tpos] e pos) (setS k me mi) := by
  obtain ⟨te, e1, e2⟩ := he.ex
  obtain ⟨ti, i1, i2⟩ := hi.ex
  refine ⟨_, ps_asg e1 (pg_sub (pe_var hN hv hd hcd) i1 set_list ha) hs hw ha1, fun D σ H ⟨W, ρ, fs, o, hm, er, hp, q⟩ => ?_⟩
  obtain ⟨⟨d, ρ1⟩, hx, hp⟩ := Option.bind_eq_some_iff.mp hp
  obtain ⟨xs0, hk0, hp⟩ := Option.bind_eq_some_iff.mp hp
  obtain ⟨⟨t, ρ2⟩, hy, hp⟩ := Option.bind_eq_some_iff.mp hp
  obtain ⟨z, hz, hp⟩ := Option.bind_eq_some_iff.mp hp
  obtain ⟨xs, hk, hp⟩ := Option.bind_eq_some_iff.mp hp
  cases z with
  | int n =>
    dsimp only at hp
    split at hp
    · rename_i f
      obtain ⟨j, hj, hp⟩ := Option.map_eq_some_iff.mp hp
      cases hp
      refine e2 σ H _ ⟨W, ρ, fs, d, ρ1, er, hx, fun v H1 fs1 F1 er1 r1 n1 a1 st1 => ?_⟩
      have s1 : ∀ a, a ∈ F1 → H1 a ≠ none := fun a ha z => by obtain ⟨_, _, e⟩ := r1.owned a ha; rw [z] at e; cases e
      show ∃ v', σ[k]? = some (some v') ∧ _
      -- the list's name, read ahead of the index
      have key : ∀ p0, σ[k]? = some (some (V.ref p0)) → ∃ v', σ[k]? = some (some v') ∧ ti σ H1 fun i H2 => rSetL v' i v H2 fun H3 => D.nx σ H3 := fun p0 e0 => by
        refine ⟨.ref p0, e0, i2 σ H1 _ ⟨W, ρ1, fs1, t, ρ2, er1, hy, fun iv H2 fs2 F2 er2 r2 n2 a2 st2 => ?_⟩⟩
        obtain ⟨z1, z2, z3⟩ := two er1 s1 n1 a1 st1 n2 a2 st2
        obtain ⟨G, ri⟩ := r2.raw er2 hz
        rw [Rep] at ri
        obtain ⟨rfl, _⟩ := ri
        obtain ⟨p, vs, G2, e3, hH, hw, rg, hG⟩ := er2.lst_get (lstAt_some hk)
        rw [e0] at e3; cases e3
        obtain rfl := rg.free f
        refine ⟨p0, vs, n, j, rfl, rfl, hH, by rw [← rg.length]; exact hj, ?_⟩
        have rv := r1.keep er1.owned st2.keep a1
        have hpF : p0 ∉ F1 := fun z => z2 p0 (List.mem_append_left _ z) ⟨k, by rw [hG]; exact List.mem_cons_self⟩
        obtain ⟨er3, _, _, s3⟩ := er2.lst_chg (E := []) (F1 := F1) (G' := F1) (H2 := upd H2 p0 (.lst (vs.set j v))) e0 hG hw (fun a ha => z2 a (List.mem_append_left _ ha)) (fun a o hn e => by rw [upd_ne hn]; exact e) upd_same
          (Reps.set1 (rv.upd hH hw hpF) (rg.upd hH hw fun z => by cases z) f (ixN_lt hj)) (by rw [List.append_nil]; exact List.nodup_cons.mpr ⟨hpF, n1⟩) (fun a ha => .inl (by simpa using ha))
        refine q σ _ _ er3 ?_
        have z3' : Step fs.has H (fun a => fs2.has a ∨ a ∈ F1) H2 := z3.mono fun a ha => ha.imp id fun z => List.mem_append_left _ z
        exact (z3'.trans s3).mono fun a ha => .inl ha
      -- it is a list of the frame's at the end, hence from the start
      obtain ⟨p, vs, G2, e0, _⟩ := er1.lst_get (lstAt_some hk0)
      exact key p e0
    · cases hp
  | _ => cases hp
end
end FL

end

section
set_option Elab.async false
set_option linter.all false
set_option maxRecDepth 100000
set_option maxHeartbeats 4000000
namespace FL
open PySem PySem.Spec PyProof.Rows L2

/-! ### what is walked -/
structure Src (K : PySem.W.Frag) (Wr : Addr → Prop) (J : It) (ds : List D) (G : Hp → Prop) : Prop where
  go : ∀ (i : Nat) d H, ds[i]? = some d → G H → (∀ a, H a = none → Wr a) → J.go i H ∧ ∀ x H', J.yld i H x H' → Ext H H' ∧ Rep K Wr H' d x []
  stop : ∀ H, G H → J.stop ds.length H
def DenI (K : PySem.W.Frag) (mi : Env → Option (List D × Env)) : TI := fun σ H R => ∃ (W : Wc) (ρ : Env) (fs : Fs) (ds : List D) (ρ' : Env), ER K W σ H ρ fs ∧ mi ρ = some (ds, ρ') ∧
  ∀ J H1 fs1 G, ER K W σ H1 ρ' fs1 → Step fs.has H (Fs.has fs1) H1 → Src K W.Wr J ds G → (∀ H' (fs' : Fs), Step (Fs.has fs1) H1 (Fs.has fs') H' → G H') → R J H1
structure DI (X : Cx) (tg iter : Expr) (mi : Env → Option (List D × Env)) : Prop where
  ex : ∃ wi, PI X tg iter wi ∧ ∀ σ H R, DenI X.K mi σ H R → wi σ H R
/-- calm sources -/
def DenIc (K : PySem.W.Frag) (pi : Env → Option (List D)) : TI := fun σ H R => ∃ (W : Wc) (ρ : Env) (fs : Fs) (ds : List D), ER K W σ H ρ fs ∧ pi ρ = some ds ∧
  ∀ J H1 G, Ext H H1 → Src K W.Wr J ds G → (∀ H', Ext H1 H' → G H') → R J H1
structure DIc (X : Cx) (tg iter : Expr) (pi : Env → Option (List D)) : Prop where
  ex : ∃ wi, PI X tg iter wi ∧ ∀ σ H R, DenIc X.K pi σ H R → wi σ H R
section
variable {X : Cx} {mp : List Nat} {tg a b e : Expr} {es : List Expr} {pos : Pos}
/-- a list or a tuple, as the value is -/
def iSeq (K : PySem.W.Frag) (tl : TE) : TI := fun σ H R => tl σ H fun x H1 => ∃ a, x = .ref a ∧ (((∃ xs, SqL K H1 a xs) ∧ R (Itl K a) H1) ∨ ((∃ xs, SqT K H1 a xs) ∧ R (Itt K a) H1))
theorem pi_seq {l : Expr} {tl : TE} (hl : PE X l tl) : PI X tg l (iSeq X.K tl) := by
  refine ⟨fun pins s σ H R I h => ?_⟩
  refine thn (hl.run pins s σ H _ I h) fun v s1 ⟨x, H1, I1, r1, q1⟩ => ?_
  obtain ⟨a, e, q⟩ := q1
  subst e
  cases r1
  rcases q with ⟨⟨xs, hq⟩, q⟩ | ⟨⟨xs, hq⟩, q⟩
  · obtain ⟨its, rv, p, hz⟩ := I1.list hq
    refine wpAny_pyIter_list p.isList ?_
    refine ⟨s1.heap.objs.size, [s1.heap.objs.size], _, _, H1, rfl, I1.kept (t' := s1.toks) fun b o e => Heap.get?_push_of_some _ e, turn_list a _, ⟨_, Heap.get?_push_size _ rfl, rfl, rfl⟩, fun b hb => ?_, q⟩
    have e : b = s1.heap.objs.size := by simpa using hb
    subst e
    exact I1.fpOk (Nat.le_refl _) (I1.hok.fresh (Nat.le_refl _))
  · obtain ⟨its, rv, p, hz⟩ := I1.tuple hq
    refine wpAny_pyIter_tuple (show s1.heap.IsTuple a its.toArray from p) ?_
    refine ⟨s1.heap.objs.size, [s1.heap.objs.size], _, _, H1, rfl, I1.kept (t' := s1.toks) fun b o e => Heap.get?_push_of_some _ e, turn_tuple a _, ⟨_, Heap.get?_push_size _ rfl, rfl, rfl⟩, fun b hb => ?_, q⟩
    have e : b = s1.heap.objs.size := by simpa using hb
    subst e
    exact I1.fpOk (Nat.le_refl _) (I1.hok.fresh (Nat.le_refl _))
def seqD : D → Option (List D)
  | .tup xs => some xs
  | .lst xs => some xs
  | .frz xs => some xs
  | .shr xs => some xs
  | _ => none
theorem src_l {K : PySem.W.Frag} {Wr : Addr → Prop} {a : Addr} {ds : List D} (f : D.frees ds = true) : Src K Wr (Itl K a) ds fun H => ∃ vs, SqL K H a vs ∧ Reps K Wr H ds vs [] where
  go := fun i d H e ⟨vs, s, r⟩ _ => by
    obtain ⟨v, e1, rv⟩ := r.get_free e (D.frees_all.mp f d (List.mem_of_getElem? e))
    refine ⟨⟨vs, v, s, e1⟩, fun x H' ⟨e2, y⟩ => ?_⟩
    subst e2
    have := y vs s
    rw [e1] at this; cases this
    exact ⟨Ext.refl _, rv⟩
  stop := fun H ⟨vs, s, r⟩ => ⟨vs, s, by rw [← r.length]; exact Nat.le_refl _⟩
theorem src_t {K : PySem.W.Frag} {Wr : Addr → Prop} {a : Addr} {ds : List D} (f : D.frees ds = true) : Src K Wr (Itt K a) ds fun H => ∃ vs, SqT K H a vs ∧ Reps K Wr H ds vs [] where
  go := fun i d H e ⟨vs, s, r⟩ _ => by
    obtain ⟨v, e1, rv⟩ := r.get_free e (D.frees_all.mp f d (List.mem_of_getElem? e))
    refine ⟨⟨vs, v, s, e1⟩, fun x H' ⟨e2, y⟩ => ?_⟩
    subst e2
    have := y vs s
    rw [e1] at this; cases this
    exact ⟨Ext.refl _, rv⟩
  stop := fun H ⟨vs, s, r⟩ => ⟨vs, s, by rw [← r.length]; exact Nat.le_refl _⟩
def rangeD (lo hi : Int) : List D := (List.range (hi - lo).toNat).map fun i => .int (lo + (i : Nat))
theorem src_r {K : PySem.W.Frag} {Wr : Addr → Prop} {lo hi0 : Int} : Src K Wr (Itr lo (hi0 - lo).toNat) (rangeD lo hi0) fun _ => True where
  go := fun i d H e _ _ => by
    unfold rangeD at e
    rw [List.getElem?_map] at e
    obtain ⟨j, e1, rfl⟩ := Option.map_eq_some_iff.mp e
    have hi := (List.getElem?_eq_some_iff.mp e1)
    obtain ⟨hlt, e2⟩ := hi
    rw [List.length_range] at hlt
    rw [List.getElem_range] at e2
    subst e2
    refine ⟨show i < (hi0 - lo).toNat from hlt, fun x H' ⟨e3, e4⟩ => ?_⟩
    subst e3 e4
    exact ⟨Ext.refl _, by rw [Rep]; exact ⟨rfl, rfl⟩⟩
  stop := fun H _ => by
    show (hi0 - lo).toNat ≤ (rangeD lo hi0).length
    unfold rangeD
    simp
/-- walking any value: the two kinds of it -/
theorem iSeq_den {K : PySem.W.Frag} {Wr : Addr → Prop} {H1 : Hp} {d : D} {v : V} {F : List Addr} {ds : List D} {R : It → Hp → Prop} (r : Rep K Wr H1 d v F) (hs : seqD d = some ds) (f : D.frees ds = true)
    (q : ∀ J (G : Hp → Prop), Src K Wr J ds G → (∀ H', Rep K Wr H' d v F → G H') → R J H1) :
    ∃ a, v = .ref a ∧ (((∃ xs, SqL K H1 a xs) ∧ R (Itl K a) H1) ∨ ((∃ xs, SqT K H1 a xs) ∧ R (Itt K a) H1)) := by
  cases d with
  | tup xs =>
    cases hs
    rw [Rep] at r
    obtain ⟨a, vs, rfl, s, r⟩ := r
    refine ⟨a, rfl, .inr ⟨⟨vs, s.sq⟩, q _ _ (src_t f) fun H' r' => ?_⟩⟩
    rw [Rep] at r'
    obtain ⟨b, ws, e, s', r'⟩ := r'
    cases e
    have := r'.free f
    subst this
    exact ⟨ws, s'.sq, r'⟩
  | lst xs =>
    cases hs
    rw [Rep] at r
    obtain ⟨a, vs, G, rfl, s, w, r, _⟩ := r
    refine ⟨a, rfl, .inl ⟨⟨vs, .inl (.inl s)⟩, q _ _ (src_l f) fun H' r' => ?_⟩⟩
    rw [Rep] at r'
    obtain ⟨b, ws, G', e, s', _, r', _⟩ := r'
    cases e
    have := r'.free f
    subst this
    exact ⟨ws, .inl (.inl s'), r'⟩
  | frz xs =>
    cases hs
    rw [Rep] at r
    obtain ⟨a, vs, G, rfl, s, w, r, _⟩ := r
    refine ⟨a, rfl, .inl ⟨⟨vs, .inl (.inl s)⟩, q _ _ (src_l f) fun H' r' => ?_⟩⟩
    rw [Rep] at r'
    obtain ⟨b, ws, G', e, s', _, r', _⟩ := r'
    cases e
    have := r'.free f
    subst this
    exact ⟨ws, .inl (.inl s'), r'⟩
  | shr xs =>
    cases hs
    rw [Rep] at r
    obtain ⟨a, vs, rfl, s, w, r⟩ := r
    refine ⟨a, rfl, .inl ⟨⟨vs, s⟩, q _ _ (src_l f) fun H' r' => ?_⟩⟩
    rw [Rep] at r'
    obtain ⟨b, ws, e, s', _, r'⟩ := r'
    cases e
    have := r'.free f
    subst this
    exact ⟨ws, s', r'⟩
  | _ => cases hs
def itE (m : Env → Option (D × Env)) : Env → Option (List D × Env) := fun ρ => (m ρ).bind fun x => (seqD x.1).bind fun ds => if D.frees ds then some (ds, x.2) else none
theorem di_e {m : Env → Option (D × Env)} (h : DE X e m) : DI X tg e (itE m) := by
  obtain ⟨t, h1, h2⟩ := h.ex
  refine ⟨_, pi_seq h1, fun σ H R ⟨W, ρ, fs, ds, ρ', er, hp, q⟩ => ?_⟩
  obtain ⟨⟨x, ρ1⟩, hx, hp⟩ := Option.bind_eq_some_iff.mp hp
  obtain ⟨ds', hs, hp⟩ := Option.bind_eq_some_iff.mp hp
  split at hp
  · rename_i f
    cases hp
    refine h2 σ H _ ⟨W, ρ, fs, x, _, er, hx, fun v H1 fs1 F1 er1 r1 n1 a1 st1 => ?_⟩
    refine iSeq_den r1 hs f fun J G src pers => q J H1 fs1 G er1 (st1.mono fun a ha => .inl ha) src fun H' fs' st => pers H' (r1.keep er1.owned st.keep a1)
  · cases hp
def itR (lo hi : Int) : Option (List D) := if -(2 ^ 62) ≤ lo ∧ lo < 2 ^ 62 ∧ -(2 ^ 62) ≤ hi ∧ hi < 2 ^ 62 then some (rangeD lo hi) else none
def rg1 (ds : List D) : Option (List D) := match ds with
  | [.int j] => itR 0 j
  | _ => none
def rg2 (ds : List D) : Option (List D) := match ds with
  | [.int i, .int j] => itR i j
  | _ => none
def itA (f : List D → Option (List D)) (ms : Env → Option (List Tm × Env)) : Env → Option (List D × Env) := fun ρ => (ms ρ).bind fun x => (raws x.2 x.1).bind fun ds => (f ds).map fun y => (y, x.2)
theorem reps1 {K : PySem.W.Frag} {Wr : Addr → Prop} {H : Hp} {d : D} {vs : List V} {F : List Addr} (h : Reps K Wr H [d] vs F) : ∃ v, vs = [v] ∧ Rep K Wr H d v F := by
  rw [Reps] at h
  obtain ⟨v, r, F1, F2, rfl, h1, h2, rfl⟩ := h
  rw [Reps] at h2
  obtain ⟨rfl, rfl⟩ := h2
  exact ⟨v, rfl, by rw [List.append_nil]; exact h1⟩
theorem reps2 {K : PySem.W.Frag} {Wr : Addr → Prop} {H : Hp} {d d' : D} {vs : List V} {F : List Addr} (h : Reps K Wr H [d, d'] vs F) : ∃ v w F1 F2, vs = [v, w] ∧ Rep K Wr H d v F1 ∧ Rep K Wr H d' w F2 ∧ F = F1 ++ F2 := by
  rw [Reps] at h
  obtain ⟨v, r, F1, F2, rfl, h1, h2, rfl⟩ := h
  obtain ⟨w, rfl, h3⟩ := reps1 h2
  exact ⟨v, w, F1, F2, rfl, h1, h3, rfl⟩
theorem rep_int {K : PySem.W.Frag} {Wr : Addr → Prop} {H : Hp} {i : Int} {v : V} {F : List Addr} (h : Rep K Wr H (.int i) v F) : v = .int i := by rw [Rep] at h; exact h.1
theorem rep_str {K : PySem.W.Frag} {Wr : Addr → Prop} {H : Hp} {i : Str} {v : V} {F : List Addr} (h : Rep K Wr H (.str i) v F) : v = .str i := by rw [Rep] at h; exact h.1
theorem rep_b {K : PySem.W.Frag} {Wr : Addr → Prop} {H : Hp} {i : Bool} {v : V} {F : List Addr} (h : Rep K Wr H (.bl i) v F) : v = .bl i := by rw [Rep] at h; exact h.1
theorem rep_n {K : PySem.W.Frag} {Wr : Addr → Prop} {H : Hp} {v : V} {F : List Addr} (h : Rep K Wr H .non v F) : v = .non := by rw [Rep] at h; exact h.1
theorem di_r1 {p : Pos} {ms : Env → Option (List Tm × Env)} (hg : Gl X "range") (hm : X.mg "range" = none) (ha : DAs X [a] ms) (hs : starEach [a] X.env = [(false, eval a X.env)] := by rfl) : DI X tg (.Call (.Name "range" p) [a] [] pos) (itA rg1 ms) := by
  obtain ⟨t, h1, h2⟩ := ha.ex
  refine ⟨_, pi_range1 hg hm h1 hs, fun σ H R ⟨W, ρ, fs, ds, ρ', er, hp, q⟩ => ?_⟩
  obtain ⟨⟨ts, ρ1⟩, hx, hp⟩ := Option.bind_eq_some_iff.mp hp
  obtain ⟨xs, hs, hp⟩ := Option.bind_eq_some_iff.mp hp
  obtain ⟨ys, hy, hp⟩ := Option.map_eq_some_iff.mp hp
  cases hp
  unfold rg1 at hy
  split at hy
  · rename_i j
    unfold itR at hy
    split at hy
    · rename_i c
      cases hy
      refine h2 σ H _ ⟨W, ρ, fs, ts, _, er, hx, fun vs H1 fs1 F1 er1 r1 n1 a1 st1 => ?_⟩
      obtain ⟨G, rs⟩ := r1.raws er1 hs
      obtain ⟨v, rfl, rv⟩ := reps1 rs
      cases rep_int rv
      have src := src_r (K := X.K) (Wr := W.Wr) (lo := 0) (hi0 := j)
      rw [Int.sub_zero] at src
      exact ⟨j, rfl, c.2.2.1, c.2.2.2, q _ H1 fs1 _ er1 (st1.mono fun a ha => .inl ha) src fun _ _ _ => trivial⟩
    · cases hy
  · cases hy
theorem di_r2 {p : Pos} {ms : Env → Option (List Tm × Env)} (hg : Gl X "range") (hm : X.mg "range" = none) (ha : DAs X [a, b] ms) (hs : starEach [a, b] X.env = [(false, eval a X.env), (false, eval b X.env)] := by rfl) (hs2 : starEach [b] X.env = [(false, eval b X.env)] := by rfl) :
    DI X tg (.Call (.Name "range" p) [a, b] [] pos) (itA rg2 ms) := by
  obtain ⟨t, h1, h2⟩ := ha.ex
  refine ⟨_, pi_range2 hg hm h1 hs hs2, fun σ H R ⟨W, ρ, fs, ds, ρ', er, hp, q⟩ => ?_⟩
  obtain ⟨⟨ts, ρ1⟩, hx, hp⟩ := Option.bind_eq_some_iff.mp hp
  obtain ⟨xs, hs, hp⟩ := Option.bind_eq_some_iff.mp hp
  obtain ⟨ys, hy, hp⟩ := Option.map_eq_some_iff.mp hp
  cases hp
  unfold rg2 at hy
  split at hy
  · rename_i i j
    unfold itR at hy
    split at hy
    · rename_i c
      cases hy
      refine h2 σ H _ ⟨W, ρ, fs, ts, _, er, hx, fun vs H1 fs1 F1 er1 r1 n1 a1 st1 => ?_⟩
      obtain ⟨G, rs⟩ := r1.raws er1 hs
      obtain ⟨v, w, F3, F4, rfl, rv, rw', _⟩ := reps2 rs
      cases rep_int rv
      cases rep_int rw'
      exact ⟨i, j, rfl, c, q _ H1 fs1 _ er1 (st1.mono fun a ha => .inl ha) src_r fun _ _ _ => trivial⟩
    · cases hy
  · cases hy
/-- calm ones -/
def icB (p : Env → Option D) : Env → Option (List D) := fun ρ => (p ρ).bind fun d => (seqD d).bind fun ds => if D.frees ds then some ds else none
theorem dic_b {p : Env → Option D} (h : DB X e p) : DIc X tg e (icB p) := by
  obtain ⟨t, h1, h2⟩ := h.ex
  refine ⟨_, pi_seq h1, fun σ H R ⟨W, ρ, fs, ds, er, hp, q⟩ => ?_⟩
  obtain ⟨x, hx, hp⟩ := Option.bind_eq_some_iff.mp hp
  obtain ⟨ds', hs, hp⟩ := Option.bind_eq_some_iff.mp hp
  split at hp
  · rename_i f
    cases hp
    exact h2 σ H _ ⟨W, ρ, fs, x, er, hx, fun v H1 F1 e1 r1 n1 => iSeq_den r1 hs f fun J G src pers => q J H1 G e1 src fun H' e2 => pers H' (r1.ext e2)⟩
  · cases hp
def icA (f : List D → Option (List D)) (ps : Env → Option (List D)) : Env → Option (List D) := fun ρ => (ps ρ).bind f
theorem dic_r1 {p : Pos} {ps : Env → Option (List D)} (hg : Gl X "range") (hm : X.mg "range" = none) (ha : DBs X [a] ps) (hs : starEach [a] X.env = [(false, eval a X.env)] := by rfl) : DIc X tg (.Call (.Name "range" p) [a] [] pos) (icA rg1 ps) := by
  obtain ⟨t, h1, h2⟩ := ha.ex
  refine ⟨_, pi_range1 hg hm h1 hs, fun σ H R ⟨W, ρ, fs, ds, er, hp, q⟩ => ?_⟩
  obtain ⟨xs, hx, hy⟩ := Option.bind_eq_some_iff.mp hp
  unfold rg1 at hy
  split at hy
  · rename_i j
    unfold itR at hy
    split at hy
    · rename_i c
      cases hy
      refine h2 σ H _ ⟨W, ρ, fs, _, er, hx, fun vs H1 F1 e1 rs n1 => ?_⟩
      obtain ⟨v, rfl, rv⟩ := reps1 rs
      cases rep_int rv
      have src := src_r (K := X.K) (Wr := W.Wr) (lo := 0) (hi0 := j)
      rw [Int.sub_zero] at src
      exact ⟨j, rfl, c.2.2.1, c.2.2.2, q _ H1 _ e1 src fun _ _ => trivial⟩
    · cases hy
  · cases hy
theorem dic_r2 {p : Pos} {ps : Env → Option (List D)} (hg : Gl X "range") (hm : X.mg "range" = none) (ha : DBs X [a, b] ps) (hs : starEach [a, b] X.env = [(false, eval a X.env), (false, eval b X.env)] := by rfl) (hs2 : starEach [b] X.env = [(false, eval b X.env)] := by rfl) :
    DIc X tg (.Call (.Name "range" p) [a, b] [] pos) (icA rg2 ps) := by
  obtain ⟨t, h1, h2⟩ := ha.ex
  refine ⟨_, pi_range2 hg hm h1 hs hs2, fun σ H R ⟨W, ρ, fs, ds, er, hp, q⟩ => ?_⟩
  obtain ⟨xs, hx, hy⟩ := Option.bind_eq_some_iff.mp hp
  unfold rg2 at hy
  split at hy
  · rename_i i j
    unfold itR at hy
    split at hy
    · rename_i c
      cases hy
      refine h2 σ H _ ⟨W, ρ, fs, _, er, hx, fun vs H1 F1 e1 rs n1 => ?_⟩
      obtain ⟨v, w, F3, F4, rfl, rv, rw', _⟩ := reps2 rs
      cases rep_int rv
      cases rep_int rw'
      exact ⟨i, j, rfl, c, q _ H1 _ e1 src_r fun _ _ => trivial⟩
    · cases hy
  · cases hy

/-! ### for -/
def forM (g : D → Env → Option Env) (m : Env → Option Out) : List D → Env → Option Out
  | [], ρ => some (.nx ρ)
  | d :: ds, ρ => (g d ρ).bind fun ρ1 => (m ρ1).bind fun o => match o with
    | .nx ρ2 => forM g m ds ρ2
    | .ct ρ2 => forM g m ds ρ2
    | .bk ρ2 => some (.nx ρ2)
    | .rt x ρ2 => some (.rt x ρ2)
theorem denFor {tg : TG} {tb : TS} {g : D → Env → Option Env} {m : Env → Option Out} {K : PySem.W.Frag} (k2 : ∀ v σ H Q, DenG K mp g v σ H Q → tg v σ H Q) (b2 : ∀ D σ H, DenS K mp m D σ H → tb D σ H) {W : Wc} {ρ1 : Env} {fs1 : Fs} {σ1 : L2.St} {H1 : Hp} {J : It} {ds : List D} {o : Out} {E : Ends} {G : Hp → Prop}
    (er1 : ER K W σ1 H1 ρ1 fs1) (hm : W.lk.map (·.1) = mp) (src : Src K W.Wr J ds G) (pers : ∀ H' (fs' : Fs), Step fs1.has H1 (Fs.has fs') H' → G H') (run : forM g m ds ρ1 = some o) (q : SDone K W fs1.has H1 E o) :
    ∃ W : Nat → Nat → L2.St → Hp → Prop, (∃ m, W 0 m σ1 H1) ∧ ∀ i m σ H, W i m σ H →
  (J.stop i H ∧ E.nx σ H) ∨ (J.go i H ∧ ∃ N : L2.St → Hp → Prop, (∀ σ' H', N σ' H' → ∃ m', m' < m ∧ W (i + 1) m' σ' H') ∧ ∀ x H', J.yld i H x H' → tg x σ H' fun σ2 H2 => tb { E with nx := N, ct := N, bk := E.nx } σ2 H2) := by
  refine ⟨fun i n σ H => n = ds.length - i ∧ i ≤ ds.length ∧ ∃ ρ fs, ER K W σ H ρ fs ∧ Step fs1.has H1 (Fs.has fs) H ∧ forM g m (ds.drop i) ρ = some o, ⟨_, rfl, Nat.zero_le _, ρ1, fs1, er1, Step.refl _ _, run⟩, ?_⟩
  rintro i n σ H ⟨rfl, hi, ρ, fs, er, st, hr⟩
  by_cases hlt : i < ds.length
  · rw [List.drop_eq_getElem_cons hlt] at hr
    obtain ⟨ρ2, h1, hr⟩ := Option.bind_eq_some_iff.mp hr
    obtain ⟨o2, h2, hr⟩ := Option.bind_eq_some_iff.mp hr
    obtain ⟨hgo, hy⟩ := src.go i ds[i] H (List.getElem?_eq_getElem hlt) (pers H fs st) er.free
    refine .inr ⟨hgo, fun σ' H' => ∃ ρ fs, ER K W σ' H' ρ fs ∧ Step fs1.has H1 (Fs.has fs) H' ∧ forM g m (ds.drop (i + 1)) ρ = some o, fun σ' H' ⟨ρ', fs', e1, e2, e3⟩ => ⟨ds.length - (i + 1), by omega, rfl, hlt, ρ', fs', e1, e2, e3⟩, fun x H' y => ?_⟩
    obtain ⟨ex, rx⟩ := hy x H' y
    refine k2 x σ H' _ ⟨W, ρ, fs, ds[i], [], ρ2, hm, er.ext ex, rx, List.nodup_nil, (fun _ z => by cases z), h1, fun σ3 fs3 er3 h3 => ?_⟩
    have st3 : Step fs1.has H1 (Fs.has fs3) H' := st.trans (Step.of_ext ex fun a ha => (h3 a ha).elim .inl fun z => by cases z)
    refine b2 _ σ3 H' ⟨W, ρ2, fs3, o2, hm, er3, h2, ?_⟩
    cases o2 with
    | nx ρ4 => exact fun σ4 H4 fs4 er4 st4 => ⟨ρ4, fs4, er4, st3.trans st4, hr⟩
    | ct ρ4 => exact fun σ4 H4 fs4 er4 st4 => ⟨ρ4, fs4, er4, st3.trans st4, hr⟩
    | bk ρ4 => cases hr; exact fun σ4 H4 fs4 er4 st4 => q σ4 H4 fs4 er4 (st3.trans st4)
    | rt d ρ4 => cases hr; exact fun σ4 H4 fs4 v F er4 r4 n4 a4 st4 => q σ4 H4 fs4 v F er4 r4 n4 a4 (st3.trans st4)
  · have e : i = ds.length := by omega
    subst e
    rw [List.drop_length] at hr
    cases hr
    exact .inl ⟨src.stop H (pers H fs st), q σ H fs er st⟩
def forS (g : D → Env → Option Env) (m : Env → Option Out) (mi : Env → Option (List D × Env)) : Env → Option Out := fun ρ => (mi ρ).bind fun x => forM g m x.1 x.2
theorem ds_for {iter : Expr} {body : List Stmt} {g : D → Env → Option Env} {m : Env → Option Out} {mi : Env → Option (List D × Env)} (hp : PassesOwn (model X.prog X.w) X.A X.env X.xe) (hc : X.calm = true) (hi : DI X tg iter mi) (hg : DG X mp tg g) (hb : DSs X mp body m)
    (hs : ∀ x, foldedSetIterable iter X.env x = pure x := by intro _; rfl) : DS X mp (.For tg iter body [] pos) (forS g m mi) := by
  obtain ⟨wi, i1, i2⟩ := hi.ex
  obtain ⟨tg', g1, g2⟩ := hg.ex
  obtain ⟨tb, b1, b2⟩ := hb.ex
  refine ⟨_, ps_for hp hc i1 g1 b1 hs, fun D σ H ⟨W, ρ, fs, o, hm, er, hp, q⟩ => ?_⟩
  obtain ⟨⟨ds, ρ1⟩, hx, hp⟩ := Option.bind_eq_some_iff.mp hp
  refine i2 σ H _ ⟨W, ρ, fs, ds, ρ1, er, hx, fun J H1 fs1 G er1 st1 src pers => ?_⟩
  exact denFor g2 b2 er1 hm src pers hp (q.step st1)
/-- over a list of the frame's own in slot k: it is put aside for the loop -/
def backO (k : Nat) (d : D) : Out → Out
  | .nx ρ => .nx (ρ.set k (some d))
  | o => o
def forL (k : Nat) (g : D → Env → Option Env) (m : Env → Option Out) : Env → Option Out := fun ρ => (lk ρ k).bind fun d => (seqD d).bind fun ds => if D.frees ds then (forM g m ds (ρ.set k none)).map (backO k d) else none
theorem ds_forL (k : Nat) {x : Str} {px : Pos} {body : List Stmt} {g : D → Env → Option Env} {m : Env → Option Out} (hp : PassesOwn (model X.prog X.w) X.A X.env X.xe) (hc : X.calm = true) (hg : DG X (k :: mp) tg g) (hb : DSs X (k :: mp) body m)
    (hN : X.N[k]? = some x := by rfl) (hv : Vis X.env.scope x := by first | exact Or.inl rfl | exact Or.inr (Or.inl rfl) | exact Or.inr (Or.inr rfl)) (hd : (x == ("__debug__" : Str)) = false := by decide) (hcd : (x == ("__classdict__" : Str)) = false := by decide)
    (hs : ∀ y, foldedSetIterable (.Name x px) X.env y = pure y := by intro _; rfl) : DS X mp (.For tg (.Name x px) body [] pos) (forL k g m) := by
  obtain ⟨tg', g1, g2⟩ := hg.ex
  obtain ⟨tb, b1, b2⟩ := hb.ex
  refine ⟨_, ps_for hp hc (pi_seq (pe_var hN hv hd hcd)) g1 b1 hs, fun D σ H ⟨W, ρ, fs, o, hm, er, hp, q⟩ => ?_⟩
  obtain ⟨d, hd, hp⟩ := Option.bind_eq_some_iff.mp hp
  obtain ⟨ds, hds, hp⟩ := Option.bind_eq_some_iff.mp hp
  split at hp
  · rename_i f
    obtain ⟨o1, ho, rfl⟩ := Option.map_eq_some_iff.mp hp
    obtain ⟨v, e1, r⟩ := er.get hd
    refine ⟨v, e1, ?_⟩
    have hv : ∃ a, v = .ref a := by
      have := iSeq_den (R := fun _ _ => True) r hds f fun _ _ _ _ => trivial
      obtain ⟨a, e, _⟩ := this
      exact ⟨a, e⟩
    refine iSeq_den (R := fun J H1 => ∃ W : Nat → Nat → L2.St → Hp → Prop, (∃ m, W 0 m σ H1) ∧ ∀ i m σ H, W i m σ H → (J.stop i H ∧ D.nx σ H) ∨ (J.go i H ∧ ∃ N : L2.St → Hp → Prop, (∀ σ' H', N σ' H' → ∃ m', m' < m ∧ W (i + 1) m' σ' H') ∧ ∀ x H', J.yld i H x H' → tg' x σ H' fun σ2 H2 => tb { D with nx := N, ct := N, bk := D.nx } σ2 H2)) r hds f fun J G src pers => ?_
    have er0 : ER X.K ⟨W.Wr, (k, v) :: W.lk⟩ σ H (ρ.set k none) (fs.set k []) := by
      have := er.drop (i := k)
      exact ⟨this.len, this.rep, this.out, this.nd, this.dj, this.free, fun p hp => (List.mem_cons.mp hp).elim (fun z => by rw [z]; exact e1) (er.lock p)⟩
    have apart : ∀ a, a ∈ fs k → ¬ Fs.has (fs.set k []) a := fun a ha ⟨j, hj⟩ => by
      by_cases n : j = k
      · subst n; rw [Fs.set_same] at hj; cases hj
      · rw [Fs.set_ne n] at hj; exact er.dj k j (Ne.symm n) a ha hj
    have sub0 : ∀ a, Fs.has (fs.set k []) a → fs.has a := fun a ha => (Fs.set_has ha).elim id fun z => by cases z
    refine denFor (W := ⟨W.Wr, (k, v) :: W.lk⟩) g2 b2 er0 (by rw [← hm]; rfl) src (fun H' fs' st => pers H' (r.keep er0.owned st.keep apart)) ho ?_
    -- what follows the loop: the list stands in its slot again
    have again : ∀ {ρ' : Env} {σ' : L2.St} {H' : Hp} {fs' : Fs}, ER X.K ⟨W.Wr, (k, v) :: W.lk⟩ σ' H' ρ' fs' → Step (Fs.has (fs.set k [])) H (Fs.has fs') H' → ER X.K W σ' H' ρ' fs' ∧ Rep X.K W.Wr H' d v (fs k) ∧ σ'[k]? = some (some v) ∧ ∀ a, a ∈ fs k → ¬ Fs.has fs' a := fun {ρ' σ' H' fs'} er' st' => by
      refine ⟨⟨er'.len, er'.rep, er'.out, er'.nd, er'.dj, er'.free, fun p hp => er'.lock p (List.mem_cons_of_mem _ hp)⟩, r.keep er0.owned st'.keep apart, er'.lock (k, v) List.mem_cons_self, fun a ha z => ?_⟩
      rcases st'.new a z with z | z
      · exact apart a ha z
      · obtain ⟨_, _, e⟩ := r.owned a ha
        rw [z] at e; cases e
    have whole : ∀ {F' : Addr → Prop} {H' : Hp}, Step (Fs.has (fs.set k [])) H F' H' → Step fs.has H F' H' := fun st' => ⟨fun a o hn e => st'.keep a o (fun z => hn (sub0 a z)) e, fun a ha => (st'.new a ha).imp (sub0 a) id⟩
    cases o1 with
    | nx ρ' =>
      intro σ' H' fs' er' st'
      obtain ⟨er2, r2, e2, ap2⟩ := again er' st'
      have er3 := er2.fill e2 r2 (er.nd k) ap2
      refine q σ' H' _ er3 ⟨(whole st').keep, fun a ha => ?_⟩
      rcases Fs.set_has ha with z | z
      · exact (whole st').new a z
      · exact .inl ⟨k, z⟩
    | bk ρ' => exact fun σ' H' fs' er' st' => q σ' H' fs' (again er' st').1 (whole st')
    | ct ρ' => exact fun σ' H' fs' er' st' => q σ' H' fs' (again er' st').1 (whole st')
    | rt x ρ' => exact fun σ' H' fs' v' F er' r' n' a' st' => q σ' H' fs' v' F (again er' (st'.mono fun a ha => .inl ha)).1 r' n' a' (whole st')
  · cases hp

/-! ### while -/
inductive Wh (c : Env → Option (Bool × Env)) (m : Env → Option Out) : Env → Out → Prop where
  | stop {ρ ρ'} : c ρ = some (false, ρ') → Wh c m ρ (.nx ρ')
  | nx {ρ ρ1 ρ2 o} : c ρ = some (true, ρ1) → m ρ1 = some (.nx ρ2) → Wh c m ρ2 o → Wh c m ρ o
  | ct {ρ ρ1 ρ2 o} : c ρ = some (true, ρ1) → m ρ1 = some (.ct ρ2) → Wh c m ρ2 o → Wh c m ρ o
  | bk {ρ ρ1 ρ2} : c ρ = some (true, ρ1) → m ρ1 = some (.bk ρ2) → Wh c m ρ (.nx ρ2)
  | rt {ρ ρ1 ρ2 x} : c ρ = some (true, ρ1) → m ρ1 = some (.rt x ρ2) → Wh c m ρ (.rt x ρ2)
open Classical in
noncomputable def whS (c : Env → Option (Bool × Env)) (m : Env → Option Out) : Env → Option Out := fun ρ => if h : ∃ o, Wh c m ρ o then some h.choose else none
theorem Wh.uniq {c : Env → Option (Bool × Env)} {m : Env → Option Out} {ρ : Env} {o o' : Out} (h : Wh c m ρ o) : Wh c m ρ o' → o = o' := by
  induction h with
  | stop h1 => intro h'; cases h' <;> rename_i k1 <;> first | (rw [h1] at k1; cases k1; done) | (rw [h1] at k1; cases k1; rfl) | (rename_i k0 _; rw [h1] at k0; cases k0) | (rename_i k0; rw [h1] at k0; cases k0)
  | nx h1 h2 _ ih =>
    intro h'
    cases h' with
    | stop k1 => rw [h1] at k1; cases k1
    | nx k1 k2 k3 => rw [h1] at k1; cases k1; rw [h2] at k2; cases k2; exact ih k3
    | ct k1 k2 k3 => rw [h1] at k1; cases k1; rw [h2] at k2; cases k2
    | bk k1 k2 => rw [h1] at k1; cases k1; rw [h2] at k2; cases k2
    | rt k1 k2 => rw [h1] at k1; cases k1; rw [h2] at k2; cases k2
  | ct h1 h2 _ ih =>
    intro h'
    cases h' with
    | stop k1 => rw [h1] at k1; cases k1
    | nx k1 k2 k3 => rw [h1] at k1; cases k1; rw [h2] at k2; cases k2
    | ct k1 k2 k3 => rw [h1] at k1; cases k1; rw [h2] at k2; cases k2; exact ih k3
    | bk k1 k2 => rw [h1] at k1; cases k1; rw [h2] at k2; cases k2
    | rt k1 k2 => rw [h1] at k1; cases k1; rw [h2] at k2; cases k2
  | bk h1 h2 =>
    intro h'
    cases h' with
    | stop k1 => rw [h1] at k1; cases k1
    | nx k1 k2 k3 => rw [h1] at k1; cases k1; rw [h2] at k2; cases k2
    | ct k1 k2 k3 => rw [h1] at k1; cases k1; rw [h2] at k2; cases k2
    | bk k1 k2 => rw [h1] at k1; cases k1; rw [h2] at k2; cases k2; rfl
    | rt k1 k2 => rw [h1] at k1; cases k1; rw [h2] at k2; cases k2
  | rt h1 h2 =>
    intro h'
    cases h' with
    | stop k1 => rw [h1] at k1; cases k1
    | nx k1 k2 k3 => rw [h1] at k1; cases k1; rw [h2] at k2; cases k2
    | ct k1 k2 k3 => rw [h1] at k1; cases k1; rw [h2] at k2; cases k2
    | bk k1 k2 => rw [h1] at k1; cases k1; rw [h2] at k2; cases k2
    | rt k1 k2 => rw [h1] at k1; cases k1; rw [h2] at k2; cases k2; rfl
theorem whS_of {c : Env → Option (Bool × Env)} {m : Env → Option Out} {ρ : Env} {o : Out} (h : Wh c m ρ o) : whS c m ρ = some o := by
  unfold whS
  rw [dif_pos ⟨o, h⟩]
  exact congrArg some (Exists.choose_spec (⟨o, h⟩ : ∃ o, Wh c m ρ o) |>.uniq h)
theorem whS_wh {c : Env → Option (Bool × Env)} {m : Env → Option Out} {ρ : Env} {o : Out} (h : whS c m ρ = some o) : Wh c m ρ o := by
  unfold whS at h
  split at h
  · rename_i k
    cases h
    exact k.choose_spec
  · cases h
/-- how many turns -/
inductive WhN (c : Env → Option (Bool × Env)) (m : Env → Option Out) : Nat → Env → Out → Prop where
  | stop {ρ ρ'} : c ρ = some (false, ρ') → WhN c m 0 ρ (.nx ρ')
  | nx {n ρ ρ1 ρ2 o} : c ρ = some (true, ρ1) → m ρ1 = some (.nx ρ2) → WhN c m n ρ2 o → WhN c m (n + 1) ρ o
  | ct {n ρ ρ1 ρ2 o} : c ρ = some (true, ρ1) → m ρ1 = some (.ct ρ2) → WhN c m n ρ2 o → WhN c m (n + 1) ρ o
  | bk {ρ ρ1 ρ2} : c ρ = some (true, ρ1) → m ρ1 = some (.bk ρ2) → WhN c m 0 ρ (.nx ρ2)
  | rt {ρ ρ1 ρ2 x} : c ρ = some (true, ρ1) → m ρ1 = some (.rt x ρ2) → WhN c m 0 ρ (.rt x ρ2)
theorem Wh.n {c : Env → Option (Bool × Env)} {m : Env → Option Out} {ρ : Env} {o : Out} (h : Wh c m ρ o) : ∃ n, WhN c m n ρ o := by
  induction h with
  | stop h1 => exact ⟨_, .stop h1⟩
  | nx h1 h2 _ ih => obtain ⟨n, k⟩ := ih; exact ⟨_, .nx h1 h2 k⟩
  | ct h1 h2 _ ih => obtain ⟨n, k⟩ := ih; exact ⟨_, .ct h1 h2 k⟩
  | bk h1 h2 => exact ⟨_, .bk h1 h2⟩
  | rt h1 h2 => exact ⟨_, .rt h1 h2⟩
theorem ds_while {c : Expr} {body : List Stmt} {tc : Env → Option (Bool × Env)} {m : Env → Option Out} (hp : PassesOwn (model X.prog X.w) X.A X.env X.xe) (hc : DTE X c tc) (hb : DSs X mp body m) : DS X mp (.While c body [] pos) (whS tc m) := by
  obtain ⟨t, c1, c2⟩ := hc.ex
  obtain ⟨tb, b1, b2⟩ := hb.ex
  refine ⟨_, ps_while hp c1 b1, fun D σ H ⟨W, ρ, fs, o, hm, er, hp, q⟩ => ?_⟩
  obtain ⟨n, hn⟩ := (whS_wh hp).n
  refine ⟨fun n σ' H' => ∃ ρ' fs', ER X.K W σ' H' ρ' fs' ∧ Step fs.has H (Fs.has fs') H' ∧ WhN tc m n ρ' o, ⟨n, ρ, fs, er, Step.refl _ _, hn⟩, ?_⟩
  rintro n σ1 H1 ⟨ρ1, fs1, er1, st1, h1⟩
  have test : ∀ {b ρ2}, tc ρ1 = some (b, ρ2) → ∀ {Q : Bool → Hp → Prop}, (∀ H' fs', ER X.K W σ1 H' ρ2 fs' → Step fs.has H (Fs.has fs') H' → Q b H') → t σ1 H1 Q := fun {b ρ2} e {Q} k => c2 σ1 H1 Q ⟨W, ρ1, fs1, b, ρ2, er1, e, fun H' fs' er' st' => k H' fs' er' (st1.trans st')⟩
  cases h1 with
  | stop e1 => exact test e1 fun H' fs' er' st' => iteF (q σ1 H' fs' er' st')
  | nx e1 e2 e3 =>
    rename_i k ρ2 ρ3
    exact test e1 fun H' fs' er' st' => iteT ⟨fun σ'' H'' => ∃ ρ' fs', ER X.K W σ'' H'' ρ' fs' ∧ Step fs.has H (Fs.has fs') H'' ∧ WhN tc m k ρ' o, fun σ'' H'' z => ⟨k, by omega, z⟩,
      b2 _ σ1 H' ⟨W, _, fs', _, hm, er', e2, fun σ4 H4 fs4 er4 st4 => ⟨_, fs4, er4, st'.trans st4, e3⟩⟩⟩
  | ct e1 e2 e3 =>
    rename_i k ρ2 ρ3
    exact test e1 fun H' fs' er' st' => iteT ⟨fun σ'' H'' => ∃ ρ' fs', ER X.K W σ'' H'' ρ' fs' ∧ Step fs.has H (Fs.has fs') H'' ∧ WhN tc m k ρ' o, fun σ'' H'' z => ⟨k, by omega, z⟩,
      b2 _ σ1 H' ⟨W, _, fs', _, hm, er', e2, fun σ4 H4 fs4 er4 st4 => ⟨_, fs4, er4, st'.trans st4, e3⟩⟩⟩
  | bk e1 e2 =>
    exact test e1 fun H' fs' er' st' => iteT ⟨fun _ _ => False, fun _ _ z => z.elim, b2 _ σ1 H' ⟨W, _, fs', _, hm, er', e2, fun σ4 H4 fs4 er4 st4 => q σ4 H4 fs4 er4 (st'.trans st4)⟩⟩
  | rt e1 e2 =>
    exact test e1 fun H' fs' er' st' => iteT ⟨fun _ _ => False, fun _ _ z => z.elim, b2 _ σ1 H' ⟨W, _, fs', _, hm, er', e2, fun σ4 H4 fs4 v F er4 r4 n4 a4 st4 => q σ4 H4 fs4 v F er4 r4 n4 a4 (st'.trans st4)⟩⟩
end
end FL

end

section
set_option Elab.async false
set_option linter.all false
set_option maxRecDepth 100000
set_option maxHeartbeats 4000000
namespace FL
open PySem PySem.Spec PyProof.Rows L2

/-! ### comprehensions -/
def wipeE (ρ : Env) : List Nat → Env
  | [] => ρ
  | v :: vs => (wipeE ρ vs).set v none
def wipeF (fs : Fs) : List Nat → Fs
  | [] => fs
  | v :: vs => (wipeF fs vs).set v []
theorem wipeF_has {fs : Fs} {a : Addr} : ∀ {vs : List Nat}, (wipeF fs vs).has a → fs.has a
  | [], h => h
  | v :: vs, h => (Fs.set_has h).elim (fun z => wipeF_has z) fun z => by cases z
section
variable {K : PySem.W.Frag} {W : Wc} {σ : L2.St} {H H' : Hp} {ρ : Env} {fs : Fs}
/-- the value in slot i is dropped, in the frame too -/
theorem ER.drop2 {i : Nat} (h : ER K W σ H ρ fs) (hl : ∀ p, p ∈ W.lk → p.1 ≠ i) : ER K W (σ.set i none) H (ρ.set i none) (fs.set i []) where
  len := by rw [List.length_set, List.length_set, h.len]
  rep := fun j e q => by
    rcases set_get q with ⟨rfl, e1, hj⟩ | ⟨n, q⟩
    · cases e1
    · obtain ⟨v, e1, r⟩ := h.rep j e q
      exact ⟨v, by rw [List.getElem?_set_ne (Ne.symm n)]; exact e1, by rw [Fs.set_ne n]; exact r⟩
  out := h.drop.out
  nd := h.drop.nd
  dj := h.drop.dj
  free := h.free
  lock := fun p hp => by rw [List.getElem?_set_ne (Ne.symm (hl p hp))]; exact h.lock p hp
theorem ER.wipe (h : ER K W σ H ρ fs) : ∀ (vs : List Nat), (∀ p, p ∈ W.lk → p.1 ∉ vs) → ER K W (wipe σ vs) H (wipeE ρ vs) (wipeF fs vs)
  | [], _ => h
  | v :: vs, hl => (ER.wipe h vs fun p hp z => hl p hp (List.mem_cons_of_mem _ z)).drop2 fun p hp e => hl p hp (e ▸ List.mem_cons_self)
/-- a target's slots are all of vs: behind it the frame, wiped, is as before -/
theorem wipe_set {σ : L2.St} {i : Nat} {v : V} : ∀ {vs : List Nat}, i ∈ vs → L2.wipe (σ.set i (some v)) vs = L2.wipe σ vs
  | w :: vs, h => by
    show (L2.wipe (σ.set i (some v)) vs).set w none = (L2.wipe σ vs).set w none
    by_cases e : i ∈ vs
    · rw [wipe_set e]
    · have e2 : i = w := by
        rcases List.mem_cons.mp h with h | h
        · exact h
        · exact absurd h e
      subst e2
      have : ∀ (us : List Nat), i ∉ us → L2.wipe (σ.set i (some v)) us = (L2.wipe σ us).set i (some v) := by
        intro us
        induction us with
        | nil => intro _; rfl
        | cons u us ih =>
          intro hn
          show (L2.wipe (σ.set i (some v)) us).set u none = ((L2.wipe σ us).set u none).set i (some v)
          rw [ih fun z => hn (List.mem_cons_of_mem _ z), List.set_comm _ _ (show i ≠ u from fun e => hn (by rw [e]; exact List.mem_cons_self))]
      rw [this vs e, List.set_set]
theorem wipe_wipe {σ : L2.St} (vs : List Nat) : L2.wipe (L2.wipe σ vs) vs = L2.wipe σ vs := by
  have h1 : ∀ (us : List Nat) (τ : L2.St), (∀ i, i ∈ us → ∀ x, τ[i]? ≠ some (some x)) → L2.wipe τ us = τ := by
    intro us
    induction us with
    | nil => intro τ _; rfl
    | cons u us ih =>
      intro τ h
      show (L2.wipe τ us).set u none = τ
      rw [ih τ fun i hi => h i (List.mem_cons_of_mem _ hi)]
      apply List.ext_getElem?
      intro j
      by_cases e : u = j
      · subst e
        by_cases hl : u < τ.length
        · rw [List.getElem?_set_self hl]
          cases q : τ[u]? with
          | none => rw [List.getElem?_eq_none_iff] at q; omega
          | some o => cases o with
            | none => rfl
            | some x => exact absurd q (h u List.mem_cons_self x)
        · rw [List.getElem?_eq_none (by simpa using hl), List.getElem?_eq_none (by simpa using hl)]
      · rw [List.getElem?_set_ne e]
  exact h1 vs _ fun i hi x e => (L2.wipe_some e).2 hi
end
/-- targets of a comprehension: they store in vs alone -/
structure DGc (X : Cx) (vs : List Nat) (tg : Expr) (g : D → Env → Option Env) : Prop where
  ex : ∃ t, PG X tg t ∧ ∀ (W : Wc) (ρ ρ' : Env) (fs : Fs) (d : D) v σ H Q, (∀ p, p ∈ W.lk → p.1 ∉ vs) → ER X.K W σ H ρ fs → Rep X.K W.Wr H d v [] → g d ρ = some ρ' →
    (∀ σ' fs', ER X.K W σ' H ρ' fs' → L2.wipe σ' vs = L2.wipe σ vs → (∀ a, Fs.has fs' a → fs.has a) → Q σ' H) → t v σ H Q
section
variable {X : Cx} {mp : List Nat} {tg a b e elt iter : Expr} {ifs es : List Expr} {pos : Pos}
theorem dgc_name (i : Nat) {vs : List Nat} {x : Str} (hN : X.N.Nodup) (hi : X.N[i]? = some x := by rfl) (hx : Loc X.env.scope x := by first | exact Or.inl rfl | exact Or.inr rfl) (hf : X.fn x = true ∨ X.env.scope.names.lookup x = some .local := by first | exact .inl rfl | exact .inr rfl | assumption)
    (hm : i ∈ vs := by decide) : DGc X vs (.Name x pos) (gN i) := by
  refine ⟨_, pg_name hN hi hx hf, fun W ρ ρ' fs d v σ H Q hl er r hg q => ?_⟩
  cases hg
  obtain ⟨fs', e1, e2⟩ := er.put' r List.nodup_nil (fun _ z => by cases z) fun p hp e => hl p hp (e ▸ hm)
  exact q _ fs' e1 (wipe_set hm) fun a ha => (e2 a ha).elim id fun z => by cases z
structure DGcs (X : Cx) (vs : List Nat) (tgs : List Expr) (is : List Nat) : Prop where
  ex : ∃ t, PGs X tgs t ∧ ∀ (W : Wc) (ρ ρ' : Env) (fs : Fs) (ds : List D) us σ H Q, (∀ p, p ∈ W.lk → p.1 ∉ vs) → ER X.K W σ H ρ fs → Reps X.K W.Wr H ds us [] → gNs is ds ρ = some ρ' →
    (∀ σ' fs', ER X.K W σ' H ρ' fs' → L2.wipe σ' vs = L2.wipe σ vs → (∀ a, Fs.has fs' a → fs.has a) → Q σ' H) → t us σ H Q
theorem dgcs_nil {vs : List Nat} : DGcs X vs [] [] := ⟨_, pgs_nil, fun W ρ ρ' fs ds us σ H Q hl er r hg q => by
  cases ds with
  | nil =>
    cases hg
    rw [Reps] at r
    exact ⟨r.1, q σ fs er rfl fun a ha => ha⟩
  | cons d ds => cases hg⟩
theorem dgcs_cons (i : Nat) {vs : List Nat} {x : Str} {pos : Pos} {tgs : List Expr} {is : List Nat} (hN : X.N.Nodup) (h2 : DGcs X vs tgs is) (hi : X.N[i]? = some x := by rfl) (hx : Loc X.env.scope x := by first | exact Or.inl rfl | exact Or.inr rfl)
    (hf : X.fn x = true ∨ X.env.scope.names.lookup x = some .local := by first | exact .inl rfl | exact .inr rfl | assumption)
    (hs : (assignEach (.Name x pos :: tgs) X.env).map (·.2) = assign (.Name x pos) X.env :: (assignEach tgs X.env).map (·.2) := by rfl) (hm : i ∈ vs := by decide) : DGcs X vs (.Name x pos :: tgs) (i :: is) := by
  obtain ⟨t, k1, k2⟩ := h2.ex
  refine ⟨_, pgs_cons (pg_name (pos := pos) hN hi hx hf) k1 hs, fun W ρ ρ' fs ds us σ H Q hl er r hg q => ?_⟩
  cases ds with
  | nil => cases hg
  | cons d ds =>
    rw [Reps] at r
    obtain ⟨v, vr, F1, F2, rfl, r1, r2, hF⟩ := r
    have hF' := List.append_eq_nil_iff.mp hF.symm
    obtain ⟨rfl, rfl⟩ := hF'
    refine ⟨v, vr, rfl, ?_⟩
    obtain ⟨fs', e1, e2⟩ := er.put' r1 List.nodup_nil (fun _ z => by cases z) fun p hp e => hl p hp (e ▸ hm)
    exact k2 W _ ρ' fs' ds vr _ H _ hl e1 r2 hg fun σ' fs'' er' hw hh => q σ' fs'' er' (hw.trans (wipe_set hm)) fun a ha => (e2 a (hh a ha)).elim id fun z => by cases z
theorem dgc_tup {vs : List Nat} {es : List Expr} {k : Nat} {is : List Nat} (hc : X.calm = true) (h : DGcs X vs es is) (hn : (assignEach es X.env).length = is.length := by rfl) (hst : (assignEach es X.env).findIdx? (·.1) = none := by rfl) : DGc X vs (.Tuple es k pos) (gTupN is) := by
  obtain ⟨t, h1, h2⟩ := h.ex
  refine ⟨_, pg_tup hc h1 hn hst, fun W ρ ρ' fs d v σ H Q hl er r hg q => ?_⟩
  cases d with
  | tup ds =>
    rw [Rep] at r
    obtain ⟨a, vs, rfl, s, r⟩ := r
    exact ⟨a, vs, rfl, s.sq, by rw [← r.length]; exact gNs_len hg, h2 W ρ ρ' fs ds vs σ H Q hl er r hg q⟩
  | _ => cases hg
/-- the tests of a comprehension -/
structure DTs (X : Cx) (ifs : List Expr) (p : Env → Option (Bool × Env)) : Prop where
  ex : ∃ t, PTs X ifs t ∧ ∀ σ H Q, DenTE X.K p σ H Q → t σ H Q
def yesE : Env → Option (Bool × Env) := fun ρ => some (true, ρ)
theorem dts_nil : DTs X [] yesE := ⟨_, pts_nil, fun σ H Q ⟨W, ρ, fs, b, ρ', er, hp, q⟩ => by cases hp; exact q H fs er (Step.refl _ _)⟩
theorem dts_one {p : Env → Option (Bool × Env)} (h : DTE X e p) : DTs X [e] p := let ⟨t, h1, h2⟩ := h.ex; ⟨t, pts_one h1, h2⟩

def compM (g : D → Env → Option Env) (t : Env → Option (Bool × Env)) (m : Env → Option (D × Env)) (vs : List Nat) : List D → Env → List D → Option (List D × Env)
  | [], ρ, acc => some (acc, ρ)
  | d :: ds, ρ, acc => (g d (wipeE ρ vs)).bind fun ρ1 => (t ρ1).bind fun b => if b.1 then (m b.2).bind fun x => if acc.length < 1000000 then compM g t m vs ds (wipeE x.2 vs) (acc ++ [x.1]) else none else compM g t m vs ds (wipeE b.2 vs) acc
/-- behind it: the block's own names hold what they held, if that is free -/
def restE (ρ0 : Env) : List Nat → Env → Env
  | [], ρ => ρ
  | v :: vs, ρ => match lk ρ0 v with
    | some d => if d.free then (restE ρ0 vs ρ).set v (some d) else restE ρ0 vs ρ
    | none => restE ρ0 vs ρ
def compE (vs : List Nat) (mi : Env → Option (List D × Env)) (g : D → Env → Option Env) (t : Env → Option (Bool × Env)) (m : Env → Option (D × Env)) : Env → Option (D × Env) := fun ρ => (mi ρ).bind fun x => (compM g t m vs x.1 (wipeE x.2 vs) []).map fun y => (.lst y.1, restE x.2 vs y.2)
theorem wipeE_wipeE (ρ : Env) : ∀ (vs : List Nat), True := fun _ => trivial
theorem restER {K : PySem.W.Frag} {W : Wc} {σ : L2.St} {H H' : Hp} {ρ0 : Env} {fs0 : Fs} {F : Addr → Prop} (er0 : ER K W σ H ρ0 fs0) (st : Step fs0.has H F H') : ∀ (vs : List Nat) {ρ : Env} {fs : Fs}, ER K W σ H' ρ fs → ∃ fs', ER K W σ H' (restE ρ0 vs ρ) fs' ∧ ∀ a, Fs.has fs' a → fs.has a
  | [], ρ, fs, er => ⟨fs, er, fun _ h => h⟩
  | v :: vs, ρ, fs, er => by
    obtain ⟨fs', er', hh⟩ := restER er0 st vs er
    unfold restE
    cases e : lk ρ0 v with
    | none => exact ⟨fs', er', hh⟩
    | some d =>
      dsimp only
      by_cases hf : d.free = true
      · rw [if_pos hf]
        obtain ⟨u, e1, r⟩ := er0.get e
        have := r.free hf
        rw [this] at r
        refine ⟨_, er'.fill e1 (r.keep er0.owned st.keep fun _ z => by cases z) List.nodup_nil (fun _ z => by cases z), fun a ha => ?_⟩
        exact (Fs.set_has ha).elim (hh a) fun z => by cases z
      · rw [if_neg hf]
        exact ⟨fs', er', hh⟩
theorem ER.noLk {K : PySem.W.Frag} {W : Wc} {σ : L2.St} {H : Hp} {ρ : Env} {fs : Fs} (er : ER K W σ H ρ fs) : ER K ⟨W.Wr, []⟩ σ H ρ fs := ⟨er.len, er.rep, er.out, er.nd, er.dj, er.free, fun _ z => by cases z⟩
/-- a frame's slots, wiped, held by the whole frame -/
theorem ER.unwipe {K : PySem.W.Frag} {W : Wc} {σ : L2.St} {H : Hp} {ρ : Env} {fs : Fs} {vs : List Nat} (hk : ∀ p, p ∈ W.lk → σ[p.1]? = some (some p.2)) (er : ER K ⟨W.Wr, []⟩ (L2.wipe σ vs) H ρ fs) : ER K W σ H ρ fs where
  len := by rw [← er.len, wipe_length]
  rep := fun i d e => let ⟨v, e1, r⟩ := er.rep i d e; ⟨v, (L2.wipe_some e1).1, r⟩
  out := er.out
  nd := er.nd
  dj := er.dj
  free := er.free
  lock := hk
theorem wipeE_of {σ : L2.St} {ρ : Env} {vs : List Nat} : True := trivial
theorem denComp {K : PySem.W.Frag} {J : It} {ds : List D} {G : Hp → Prop} {g : D → Env → Option Env} {p : Env → Option (Bool × Env)} {m : Env → Option (D × Env)} {vs : List Nat} {tgt : TG} {tt : TT} {te : TE} {W : Wc} {σ : L2.St} {H1 : Hp} {ρ1 : Env} {fs1 : Fs} {xs : List D} {ρ2 : Env} {Q : Addr → Hp → Prop}
    (g2 : ∀ (W : Wc) (ρ ρ' : Env) (fs : Fs) (d : D) v σ H Q, (∀ p, p ∈ W.lk → p.1 ∉ vs) → ER K W σ H ρ fs → Rep K W.Wr H d v [] → g d ρ = some ρ' → (∀ σ' fs', ER K W σ' H ρ' fs' → L2.wipe σ' vs = L2.wipe σ vs → (∀ a, Fs.has fs' a → fs.has a) → Q σ' H) → tgt v σ H Q)
    (t2 : ∀ σ H Q, DenTE K p σ H Q → tt σ H Q) (m2 : ∀ σ H Q, DenE K m σ H Q → te σ H Q) (hl : ∀ p, p ∈ W.lk → p.1 ∉ vs)
    (er1 : ER K W (L2.wipe σ vs) H1 ρ1 fs1) (src : Src K W.Wr J ds G) (pers : ∀ H' (fs' : Fs), Step fs1.has H1 (Fs.has fs') H' → G H') (run : compM g p m vs ds ρ1 [] = some (xs, ρ2))
    (q : ∀ L H' fs' ws F, ER K W (L2.wipe σ vs) H' ρ2 fs' → H' L = some (.lst ws) → Reps K W.Wr H' xs ws F → (L :: F).Nodup → (∀ a, a ∈ L :: F → ¬ Fs.has fs' a) → Step fs1.has H1 (fun a => Fs.has fs' a ∨ a ∈ L :: F) H' → Q L H') :
    ∀ L, H1 L = none → ∃ W : Nat → Nat → Hp → Prop, (∃ m, W 0 m (upd H1 L (.lst []))) ∧ ∀ i m H, W i m H →
  (J.stop i H ∧ Q L H) ∨ (J.go i H ∧ ∃ Nx : Hp → Prop, (∀ H', Nx H' → ∃ m', m' < m ∧ W (i + 1) m' H') ∧ ∀ x H', J.yld i H x H' → tgt x (L2.wipe σ vs) H' fun σ2 H2 => L2.wipe σ2 vs = L2.wipe σ vs ∧ tt σ2 H2 fun b H3 =>
    if b = true then te σ2 H3 fun y H4 => ∃ acc, H4 L = some (.lst acc) ∧ acc.length < sizeLine ∧ Nx (upd H4 L (.lst (acc ++ [y]))) else Nx H3) := by
  intro L hL
  have apL : ∀ {fs : Fs} {H : Hp}, Step fs1.has H1 (Fs.has fs) H → ¬ Fs.has fs L → True := fun _ _ => trivial
  -- the invariant
  refine ⟨fun i n H => n = ds.length - i ∧ i ≤ ds.length ∧ ∃ ρ fs acc ws F, ER K W (L2.wipe σ vs) H ρ fs ∧ H L = some (.lst ws) ∧ Reps K W.Wr H acc ws F ∧ (L :: F).Nodup ∧ (∀ a, a ∈ L :: F → ¬ Fs.has fs a) ∧ Step fs1.has H1 (fun a => Fs.has fs a ∨ a ∈ L :: F) H ∧ compM g p m vs (ds.drop i) ρ acc = some (xs, ρ2), ⟨_, rfl, Nat.zero_le _, ρ1, fs1, [], [], [], er1.ext (Ext.new hL), upd_same, Reps.nil, by simp, fun a ha => ?_, Step.of_ext (Ext.new hL) fun a ha => ?_, run⟩, ?_⟩
  · exact er1.apart (E := [L]) (fun b hb => by rw [List.mem_singleton.mp hb]; exact hL) a ha
  · exact ha.elim .inl fun z => .inr (by rw [List.mem_singleton.mp z]; exact hL)
  rintro i n H ⟨rfl, hi, ρ, fs, acc, ws, F, er, hLH, racc, nd, ap, st, hr⟩
  have stf : Step fs1.has H1 (Fs.has fs) H := st.mono fun a ha => .inl ha
  by_cases hlt : i < ds.length
  · rw [List.drop_eq_getElem_cons hlt] at hr
    obtain ⟨ρ3, h1, hr⟩ := Option.bind_eq_some_iff.mp hr
    obtain ⟨⟨b, ρ4⟩, h2, hr⟩ := Option.bind_eq_some_iff.mp hr
    obtain ⟨hgo, hy⟩ := src.go i ds[i] H (List.getElem?_eq_getElem hlt) (pers H fs stf) er.free
    refine .inr ⟨hgo, fun H' => i + 1 ≤ ds.length ∧ ∃ ρ fs acc ws F, ER K W (L2.wipe σ vs) H' ρ fs ∧ H' L = some (.lst ws) ∧ Reps K W.Wr H' acc ws F ∧ (L :: F).Nodup ∧ (∀ a, a ∈ L :: F → ¬ Fs.has fs a) ∧ Step fs1.has H1 (fun a => Fs.has fs a ∨ a ∈ L :: F) H' ∧ compM g p m vs (ds.drop (i + 1)) ρ acc = some (xs, ρ2), fun H' z => ⟨ds.length - (i + 1), by omega, rfl, z⟩, fun x H' y => ?_⟩
    obtain ⟨ex, rx⟩ := hy x H' y
    -- the frame, wiped anew
    have erw : ER K W (L2.wipe σ vs) H' (wipeE ρ vs) (wipeF fs vs) := by
      have := (er.ext ex).wipe vs hl
      rw [wipe_wipe] at this
      exact this
    -- the list that is made is apart from the frame
    have accOwn : Owned W.Wr H (fun a => a ∈ L :: F) := fun a ha => by
      rcases List.mem_cons.mp ha with rfl | ha
      · exact ⟨by
          by_cases hw : W.Wr a
          · exact hw
          · exact absurd (er1.free a hL) hw, _, hLH⟩
      · exact racc.owned a ha
    refine g2 W _ ρ3 _ ds[i] x _ H' _ hl erw rx h1 fun σ3 fs3 er3 hw3 hh3 => ⟨by rw [hw3, wipe_wipe], ?_⟩
    have hh3' : ∀ a, Fs.has fs3 a → fs.has a := fun a ha => wipeF_has (hh3 a ha)
    have ap3 : ∀ a, a ∈ L :: F → ¬ Fs.has fs3 a := fun a ha z => ap a ha (hh3' a z)
    have st3 : Step fs1.has H1 (fun a => Fs.has fs3 a ∨ a ∈ L :: F) H' := st.trans (Step.of_ext ex fun a ha => .inl (ha.imp (hh3' a) id))
    have rL3 : H' L = some (.lst ws) := ex _ _ hLH
    have racc3 := racc.ext ex
    -- behind any step of the frame, the list made so far stands
    have keepAcc : ∀ {fs4 : Fs} {H4 : Hp} {E : List Addr}, Step (Fs.has fs3) H' (fun a => Fs.has fs4 a ∨ a ∈ E) H4 → H4 L = some (.lst ws) ∧ Reps K W.Wr H4 acc ws F ∧ (∀ a, a ∈ L :: F → ¬ (Fs.has fs4 a ∨ a ∈ E)) ∧ Step fs1.has H1 (fun a => Fs.has fs4 a ∨ a ∈ L :: F) H4 ∧ Step fs1.has H1 (fun a => (Fs.has fs4 a ∨ a ∈ E) ∨ a ∈ L :: F) H4 := fun {fs4 H4 E} s4 => by
      have x4 : ∀ a, a ∈ L :: F → ¬ (Fs.has fs4 a ∨ a ∈ E) := fun a ha z => by
        rcases s4.new a z with z | z
        · exact ap3 a ha z
        · obtain ⟨_, _, e⟩ := accOwn a ha
          rw [ex _ _ e] at z; cases z
      have s5 : Step fs1.has H1 (fun a => (Fs.has fs4 a ∨ a ∈ E) ∨ a ∈ L :: F) H4 := by
        refine ⟨fun a o hn e => ?_, fun a ha => ?_⟩
        · by_cases hF : a ∈ L :: F
          · exact s4.keep a o (ap3 a hF) (st3.keep a o hn e)
          · refine s4.keep a o (fun z => ?_) (st3.keep a o hn e)
            rcases st3.new a (.inl z) with z | z
            · exact hn z
            · rw [e] at z; cases z
        · rcases ha with z | z
          · rcases s4.new a z with q | q
            · exact st3.new a (.inl q)
            · by_cases hF : fs1.has a
              · exact .inl hF
              · refine .inr ?_
                cases e : H1 a with
                | none => rfl
                | some o => rw [st3.keep a o hF e] at q; cases q
          · exact st3.new a (.inr z)
      refine ⟨s4.keep _ _ (ap3 L List.mem_cons_self) rL3, racc3.keep er3.owned s4.keep fun a ha => ap3 a (List.mem_cons_of_mem _ ha), x4, s5.mono fun a ha => ha.imp .inl id, s5⟩
    refine t2 σ3 H' _ ⟨W, ρ3, fs3, b, ρ4, er3, h2, fun H4 fs4 er4 s4 => ?_⟩
    obtain ⟨k1, k2, k3, k4, _⟩ := keepAcc (E := []) (s4.mono fun a ha => ha.elim id fun z => by cases z)
    have back : ∀ {fs5 : Fs} {H5 : Hp} {ρ5 : Env}, ER K W σ3 H5 ρ5 fs5 → ER K W (L2.wipe σ vs) H5 (wipeE ρ5 vs) (wipeF fs5 vs) := fun {fs5 H5 ρ5} er5 => by
      have := er5.wipe vs hl
      rw [hw3, wipe_wipe] at this
      exact this
    cases b with
    | false =>
      refine iteF ⟨hlt, wipeE ρ4 vs, wipeF fs4 vs, acc, ws, F, back er4, k1, k2, nd, fun a ha z => k3 a ha (.inl (wipeF_has z)), k4.mono fun a ha => ha.imp wipeF_has id, hr⟩
    | true =>
      rw [if_pos rfl] at hr
      refine iteT ?_
      obtain ⟨⟨d, ρ5⟩, h3, hr⟩ := Option.bind_eq_some_iff.mp hr
      split at hr
      · rename_i hlen
        refine m2 σ3 H4 _ ⟨W, ρ4, fs4, d, ρ5, er4, h3, fun v H5 fs5 E er5 rv nE apE s5 => ?_⟩
        obtain ⟨j1, j2, j3, j4, j5⟩ := keepAcc (s4.trans s5)
        refine ⟨ws, j1, by rw [← racc.length]; exact line1 hlen, hlt, ?_⟩
        have hLE : L ∉ E := fun z => j3 L List.mem_cons_self (.inr z)
        have hLF : L ∉ F := (List.nodup_cons.mp nd).1
        have wL : W.Wr L := (accOwn L List.mem_cons_self).1
        have apL5 : ∀ a, Fs.has fs5 a → ¬ (a = L) := fun a ha e => j3 L List.mem_cons_self (.inl (e ▸ ha))
        have er6 : ER K W σ3 (upd H5 L (.lst (ws ++ [v]))) ρ5 fs5 := er5.stay (F0 := fun a => a = L) (fun a e => by rw [e]; exact ⟨wL, _, j1⟩) (fun a o hn e => by rw [upd_ne hn]; exact e) apL5
        refine ⟨wipeE ρ5 vs, wipeF fs5 vs, acc ++ [d], ws ++ [v], F ++ E, back er6, upd_same, (j2.upd j1 wL hLF).append (Reps.one (rv.upd j1 wL hLE)), ?_, fun a ha z => ?_, ?_, hr⟩
        · rw [← List.cons_append]
          exact nodup_app nd nE fun a ha z => j3 a ha (.inr z)
        · rw [← List.cons_append] at ha
          rcases List.mem_append.mp ha with q | q
          · exact j3 a q (.inl (wipeF_has z))
          · exact apE a q (wipeF_has z)
        · refine ⟨fun a o hn e => ?_, fun a ha => ?_⟩
          · have : a ≠ L := fun z => by rw [z, hL] at e; cases e
            rw [upd_ne this]
            exact j5.keep a o hn e
          · refine j5.new a ?_
            rcases ha with z | z
            · exact .inl (.inl (wipeF_has z))
            · rw [← List.cons_append] at z
              rcases List.mem_append.mp z with q | q
              · exact .inr q
              · exact .inl (.inr q)
      · cases hr
  · have e : i = ds.length := by omega
    subst e
    rw [List.drop_length] at hr
    cases hr
    exact .inl ⟨src.stop H (pers H fs stf), q L H fs ws F er hLH racc nd ap st⟩
theorem DE.pe {m : Env → Option (D × Env)} (h : DE X e m) : PE X e (DenE X.K m) := let ⟨t, h1, h2⟩ := h.ex; ⟨fun pins s σ H Q I q => h1.run pins s σ H Q I (h2 σ H Q q)⟩
theorem DTs.pts {p : Env → Option (Bool × Env)} (h : DTs X ifs p) : PTs X ifs (DenTE X.K p) := let ⟨t, h1, h2⟩ := h.ex; ⟨fun pins s σ H Q I q => h1.run pins s σ H Q I (h2 σ H Q q)⟩
theorem DI.pi {m : Env → Option (List D × Env)} (h : DI X tg iter m) : PI X tg iter (DenI X.K m) := let ⟨t, h1, h2⟩ := h.ex; ⟨fun pins s σ H Q I q => h1.run pins s σ H Q I (h2 σ H Q q)⟩
def DenGc (K : PySem.W.Frag) (vs : List Nat) (g : D → Env → Option Env) : TG := fun v σ H Q => ∃ (W : Wc) (ρ ρ' : Env) (fs : Fs) (d : D), (∀ p, p ∈ W.lk → p.1 ∉ vs) ∧ ER K W σ H ρ fs ∧ Rep K W.Wr H d v [] ∧ g d ρ = some ρ' ∧
    (∀ σ' fs', ER K W σ' H ρ' fs' → L2.wipe σ' vs = L2.wipe σ vs → (∀ a, Fs.has fs' a → fs.has a) → Q σ' H)
theorem DGc.pg {vs : List Nat} {g : D → Env → Option Env} (h : DGc X vs tg g) : PG X tg (DenGc X.K vs g) := let ⟨t, h1, h2⟩ := h.ex; ⟨fun pins s σ H v u Q I r ⟨W, ρ, ρ', fs, d, hl, er, rv, hg, q⟩ => h1.run pins s σ H v u Q I r (h2 W ρ ρ' fs d v σ H Q hl er rv hg q)⟩
theorem de_comp {scope : Scope} {own : List (Str × Nat)} {vs : List Nat} {g : D → Env → Option Env} {p : Env → Option (Bool × Env)} {m : Env → Option (D × Env)} {mi : Env → Option (List D × Env)} (hc : X.calm = true) (hN : X.N.Nodup) (hi : DI X tg iter mi) (ok : BlkOk X.N X.env.scope scope own)
    (hg : ∀ (s : Shared) (H : Hp) (C : Addr) (cl : List (Str × Addr)) (fp : List Addr), DGc (X.blk s H scope (compEnvC scope cl C X.env) fp) vs tg g) (ht : ∀ (s : Shared) (H : Hp) (C : Addr) (cl : List (Str × Addr)) (fp : List Addr), DTs (X.blk s H scope (compEnvC scope cl C X.env) fp) ifs p)
    (he : ∀ (s : Shared) (H : Hp) (C : Addr) (cl : List (Str × Addr)) (fp : List Addr), DE (X.blk s H scope (compEnvC scope cl C X.env) fp) elt m) (hs : ∀ x, foldedSetIterable iter X.env x = pure x := by intro _; rfl) (hvs : own.map (·.2) = vs := by rfl) :
    DE X (.ListComp elt [⟨tg, iter, ifs, 0⟩] scope pos) (compE vs mi g p m) := by
  subst hvs
  refine ⟨_, pe_lc (wi := DenI X.K mi) (g := DenGc X.K (own.map (·.2)) g) (tt := DenTE X.K p) (te := DenE X.K m) hc hN hi.pi ok (fun s H C cl fp => (hg s H C cl fp).pg) (fun s H C cl fp => (ht s H C cl fp).pts) (fun s H C cl fp => (he s H C cl fp).pe) hs, fun σ H Q ⟨W, ρ, fs, d, ρ', er, hp, q⟩ => ?_⟩
  obtain ⟨⟨ds, ρ1⟩, hx, hp⟩ := Option.bind_eq_some_iff.mp hp
  obtain ⟨⟨xs, ρ2⟩, hy, hp⟩ := Option.map_eq_some_iff.mp hp
  cases hp
  refine ⟨W, ρ, fs, ds, ρ1, er, hx, fun J H1 fs1 G er1 st1 src pers => ?_⟩
  refine denComp (K := X.K) (W := ⟨W.Wr, []⟩) (Q := fun L H => Q (.ref L) H) (fun W ρ ρ' fs d v σ H Q hl er r hg q => ⟨W, ρ, ρ', fs, d, hl, er, r, hg, q⟩) (fun σ H Q h => h) (fun σ H Q h => h) (fun _ z => by cases z) (er1.noLk.wipe _ fun _ z => by cases z) src
    (fun H' fs' s => pers H' fs' ⟨fun a o hn e => s.keep a o (fun z => hn (wipeF_has z)) e, fun a ha => (s.new a ha).imp wipeF_has id⟩) hy fun L H' fs' ws F er' hL rx nd ap st' => ?_
  have st'' : Step fs1.has H1 (fun a => Fs.has fs' a ∨ a ∈ L :: F) H' := ⟨fun a o hn e => st'.keep a o (fun z => hn (wipeF_has z)) e, fun a ha => (st'.new a ha).imp wipeF_has id⟩
  have hlock : ∀ p, p ∈ W.lk → σ[p.1]? = some (some p.2) := er1.lock
  obtain ⟨fs2, er2, hh⟩ := restER er1 st'' (own.map (·.2)) (er'.unwipe hlock)
  have hwL : W.Wr L := by
    rcases st''.new L (.inr List.mem_cons_self) with z | z
    · exact (er1.owned L z).1
    · exact er1.free L z
  exact q (.ref L) H' fs2 (L :: F) er2 (by rw [Rep]; exact ⟨L, ws, F, rfl, hL, hwL, rx, rfl⟩) nd (fun a ha z => ap a ha (hh a z)) (st1.trans (st''.mono fun a ha => ha.imp (hh a) id))
/-- name = [..] on one line -/
theorem ds_setLc (i : Nat) {y : Str} {py spos : Pos} {scope : Scope} {own : List (Str × Nat)} {vs : List Nat} {g : D → Env → Option Env} {p : Env → Option (Bool × Env)} {m : Env → Option (D × Env)} {mi : Env → Option (List D × Env)} (hc : X.calm = true) (hN : X.N.Nodup) (hi : DI X tg iter mi) (ok : BlkOk X.N X.env.scope scope own)
    (hg : ∀ (s : Shared) (H : Hp) (C : Addr) (cl : List (Str × Addr)) (fp : List Addr), DGc (X.blk s H scope (compEnvC scope cl C X.env) fp) vs tg g) (ht : ∀ (s : Shared) (H : Hp) (C : Addr) (cl : List (Str × Addr)) (fp : List Addr), DTs (X.blk s H scope (compEnvC scope cl C X.env) fp) ifs p)
    (he : ∀ (s : Shared) (H : Hp) (C : Addr) (cl : List (Str × Addr)) (fp : List Addr), DE (X.blk s H scope (compEnvC scope cl C X.env) fp) elt m) (hy : X.N[i]? = some y := by rfl) (hyl : X.env.scope.names.lookup y = some .local := by rfl)
    (hsw : swapsWith (.ListComp elt [⟨tg, iter, ifs, 0⟩] scope pos) (some (.Name y py)) spos.line X.env = pure true := by first | exact sw_true rfl rfl rfl (by decide +kernel)) (hs : ∀ x, foldedSetIterable iter X.env x = pure x := by intro _; rfl) (hmp : i ∉ mp := by decide) (hvs : own.map (·.2) = vs := by rfl) :
    DS X mp (.Assign [.Name y py] (.ListComp elt [⟨tg, iter, ifs, 0⟩] scope pos) spos) (asgS (compE vs mi g p m) (gN i)) := by
  subst hvs
  have h := de_comp (pos := pos) hc hN hi ok hg ht he hs
  obtain ⟨t, h1, h2⟩ := h.ex
  refine ⟨_, ps_setLc (wi := DenI X.K mi) (g := DenGc X.K (own.map (·.2)) g) (tt := DenTE X.K p) (te := DenE X.K m) hc hN hy hyl hsw hi.pi ok (fun s H C cl fp => (hg s H C cl fp).pg) (fun s H C cl fp => (ht s H C cl fp).pts) (fun s H C cl fp => (he s H C cl fp).pe) hs, ?_⟩
  refine denAsg (g := gN i) (fun σ H Q h => ?_) fun v σ H Q ⟨W, ρ, fs, d, F, ρ', hm, er, r, nd, ap, hg, q⟩ => ?_
  · obtain ⟨W, ρ, fs, d, ρ', er, hp, q⟩ := h
    obtain ⟨⟨ds, ρ1⟩, hx, hp⟩ := Option.bind_eq_some_iff.mp hp
    obtain ⟨⟨xs, ρ2⟩, hy, hp⟩ := Option.map_eq_some_iff.mp hp
    cases hp
    refine ⟨W, ρ, fs, ds, ρ1, er, hx, fun J H1 fs1 G er1 st1 src pers => ?_⟩
    refine denComp (K := X.K) (W := ⟨W.Wr, []⟩) (Q := fun L H => Q (.ref L) H) (fun W ρ ρ' fs d v σ H Q hl er r hg q => ⟨W, ρ, ρ', fs, d, hl, er, r, hg, q⟩) (fun σ H Q h => h) (fun σ H Q h => h) (fun _ z => by cases z) (er1.noLk.wipe _ fun _ z => by cases z) src
      (fun H' fs' s => pers H' fs' ⟨fun a o hn e => s.keep a o (fun z => hn (wipeF_has z)) e, fun a ha => (s.new a ha).imp wipeF_has id⟩) hy fun L H' fs' ws F er' hL rx nd ap st' => ?_
    have st'' : Step fs1.has H1 (fun a => Fs.has fs' a ∨ a ∈ L :: F) H' := ⟨fun a o hn e => st'.keep a o (fun z => hn (wipeF_has z)) e, fun a ha => (st'.new a ha).imp wipeF_has id⟩
    have hlock : ∀ p, p ∈ W.lk → σ[p.1]? = some (some p.2) := er1.lock
    obtain ⟨fs2, er2, hh⟩ := restER er1 st'' (own.map (·.2)) (er'.unwipe hlock)
    have hwL : W.Wr L := by
      rcases st''.new L (.inr List.mem_cons_self) with z | z
      · exact (er1.owned L z).1
      · exact er1.free L z
    exact q (.ref L) H' fs2 (L :: F) er2 (by rw [Rep]; exact ⟨L, ws, F, rfl, hL, hwL, rx, rfl⟩) nd (fun a ha z => ap a ha (hh a z)) (st1.trans (st''.mono fun a ha => ha.imp (hh a) id))
  · cases hg
    obtain ⟨fs', e1, e2⟩ := er.put' r nd ap (lk_ne hm hmp)
    exact q _ fs' e1 e2
end
end FL

end

section
set_option Elab.async false
set_option linter.all false
set_option maxRecDepth 100000
set_option maxHeartbeats 4000000
namespace FL
open PySem PySem.Spec PyProof.Rows L2

/-! ### calm comprehensions: the frame's lists are read, none is changed -/
def compC (g : D → Env → Option Env) (t : Env → Option Bool) (p : Env → Option D) (ρ : Env) : List D → Option (List D)
  | [] => some []
  | d :: ds => (g d ρ).bind fun ρ1 => (t ρ1).bind fun b => if b then (p ρ1).bind fun x => (compC g t p ρ ds).bind fun xs => some (x :: xs) else compC g t p ρ ds
def pComp (vs : List Nat) (pi : Env → Option (List D)) (g : D → Env → Option Env) (t : Env → Option Bool) (p : Env → Option D) : Env → Option D := fun ρ => (pi ρ).bind fun ds => (compC g t p (wipeE ρ vs) ds).bind fun xs => if xs.length ≤ 1000000 then some (.lst xs) else none
structure DTc (X : Cx) (ifs : List Expr) (p : Env → Option Bool) : Prop where
  ex : ∃ t, PTs X ifs t ∧ ∀ σ H Q, DenT X.K p σ H Q → t σ H Q
def yesC : Env → Option Bool := fun _ => some true
def freeC (p : Env → Option D) : Env → Option D := fun ρ => (p ρ).bind fun d => if d.free then some d else none
section
variable {X : Cx} {mp : List Nat} {tg a b e elt iter : Expr} {ifs es : List Expr} {pos : Pos}
theorem df_free {p : Env → Option D} (h : DB X e p) : DF X e (freeC p) := by
  obtain ⟨t, h1, h2⟩ := h.ex
  refine ⟨t, h1, fun σ H Q ⟨W, ρ, fs, d, er, hp, q⟩ => ?_⟩
  obtain ⟨x, hx, hp⟩ := Option.bind_eq_some_iff.mp hp
  split at hp
  · rename_i f
    cases hp
    refine h2 σ H Q ⟨W, ρ, fs, _, er, hx, fun v H' F e1 r n => ?_⟩
    obtain rfl := r.free f
    exact q v H' [] e1 r List.nodup_nil fun _ z => by cases z
  · cases hp
theorem dtc_nil : DTc X [] yesC := ⟨_, pts_nil, fun σ H Q ⟨W, ρ, fs, b, er, hp, q⟩ => by cases hp; exact q H (Ext.refl H)⟩
theorem dtc_one {p : Env → Option Bool} (h : DT X e p) : DTc X [e] p := let ⟨t, h1, h2⟩ := h.ex; ⟨t, pts_one h1, h2⟩
theorem DF.pe {m : Env → Option D} (h : DF X e m) : PE X e (DenF X.K m) := let ⟨t, h1, h2⟩ := h.ex; ⟨fun pins s σ H Q I q => h1.run pins s σ H Q I (h2 σ H Q q)⟩
theorem DTc.pts {p : Env → Option Bool} (h : DTc X ifs p) : PTs X ifs (DenT X.K p) := let ⟨t, h1, h2⟩ := h.ex; ⟨fun pins s σ H Q I q => h1.run pins s σ H Q I (h2 σ H Q q)⟩
theorem DIc.pi {m : Env → Option (List D)} (h : DIc X tg iter m) : PI X tg iter (DenIc X.K m) := let ⟨t, h1, h2⟩ := h.ex; ⟨fun pins s σ H Q I q => h1.run pins s σ H Q I (h2 σ H Q q)⟩
theorem denCompC {K : PySem.W.Frag} {J : It} {ds : List D} {G : Hp → Prop} {g : D → Env → Option Env} {p : Env → Option Bool} {m : Env → Option D} {vs : List Nat} {W : Wc} {σ : L2.St} {H1 : Hp} {ρ1 : Env} {fs1 : Fs} {xs : List D} {Q : Addr → Hp → Prop} (hl : W.lk = [])
    (er1 : ER K W (L2.wipe σ vs) H1 ρ1 fs1) (src : Src K W.Wr J ds G) (pers : ∀ H', Ext H1 H' → G H') (run : compC g p m ρ1 ds = some xs) (hx : xs.length ≤ 1000000)
    (q : ∀ L H' ws F, Ext H1 H' → H' L = some (.lst ws) → Reps K W.Wr H' xs ws F → (L :: F).Nodup → (∀ a, a ∈ L :: F → H1 a = none) → Q L H') :
    ∀ L, H1 L = none → ∃ W : Nat → Nat → Hp → Prop, (∃ m, W 0 m (upd H1 L (.lst []))) ∧ ∀ i m' H, W i m' H →
  (J.stop i H ∧ Q L H) ∨ (J.go i H ∧ ∃ Nx : Hp → Prop, (∀ H', Nx H' → ∃ m2, m2 < m' ∧ W (i + 1) m2 H') ∧ ∀ x H', J.yld i H x H' → DenGc K vs g x (L2.wipe σ vs) H' fun σ2 H2 => L2.wipe σ2 vs = L2.wipe σ vs ∧ DenT K p σ2 H2 fun b H3 =>
    if b = true then DenF K m σ2 H3 fun y H4 => ∃ acc, H4 L = some (.lst acc) ∧ acc.length < sizeLine ∧ Nx (upd H4 L (.lst (acc ++ [y]))) else Nx H3) := by
  intro L hL
  have wL : W.Wr L := er1.free L hL
  refine ⟨fun i n H => n = ds.length - i ∧ i ≤ ds.length ∧ ∃ acc ws F rest, Ext H1 H ∧ H L = some (.lst ws) ∧ Reps K W.Wr H acc ws F ∧ (L :: F).Nodup ∧ (∀ a, a ∈ L :: F → H1 a = none) ∧ compC g p m ρ1 (ds.drop i) = some rest ∧ acc ++ rest = xs, ⟨_, rfl, Nat.zero_le _, [], [], [], xs, Ext.new hL, upd_same, Reps.nil, by simp, fun a ha => ?_, run, rfl⟩, ?_⟩
  · rw [List.mem_singleton.mp ha]; exact hL
  rintro i n H ⟨rfl, hi, acc, ws, F, rest, ex1, hLH, racc, nd, ap, hr, hcat⟩
  by_cases hlt : i < ds.length
  · rw [List.drop_eq_getElem_cons hlt] at hr
    obtain ⟨ρ3, h1, hr⟩ := Option.bind_eq_some_iff.mp hr
    obtain ⟨b, h2, hr⟩ := Option.bind_eq_some_iff.mp hr
    obtain ⟨hgo, hy⟩ := src.go i ds[i] H (List.getElem?_eq_getElem hlt) (pers H ex1) (er1.ext ex1).free
    refine .inr ⟨hgo, fun H' => i + 1 ≤ ds.length ∧ ∃ acc ws F rest, Ext H1 H' ∧ H' L = some (.lst ws) ∧ Reps K W.Wr H' acc ws F ∧ (L :: F).Nodup ∧ (∀ a, a ∈ L :: F → H1 a = none) ∧ compC g p m ρ1 (ds.drop (i + 1)) = some rest ∧ acc ++ rest = xs, fun H' z => ⟨ds.length - (i + 1), by omega, rfl, z⟩, fun x H' y => ?_⟩
    obtain ⟨ex2, rx⟩ := hy x H' y
    refine ⟨W, ρ1, ρ3, fs1, ds[i], (fun p hp => by rw [hl] at hp; cases hp), er1.ext (ex1.trans ex2), rx, h1, fun σ3 fs3 er3 hw3 hh3 => ⟨by rw [hw3, wipe_wipe], ?_⟩⟩
    refine ⟨W, ρ3, fs3, b, er3, h2, fun H4 ex4 => ?_⟩
    have e4 := (ex1.trans ex2).trans ex4
    have rL4 : H4 L = some (.lst ws) := ex4 _ _ (ex2 _ _ hLH)
    have racc4 := racc.ext (ex2.trans ex4)
    cases b with
    | false => exact iteF ⟨hlt, acc, ws, F, rest, e4, rL4, racc4, nd, ap, hr, hcat⟩
    | true =>
      rw [if_pos rfl] at hr
      refine iteT ?_
      obtain ⟨d, h3, hr⟩ := Option.bind_eq_some_iff.mp hr
      obtain ⟨rest', h4, hr⟩ := Option.bind_eq_some_iff.mp hr
      cases hr
      refine ⟨W, ρ3, fs3, d, er3.ext ex4, h3, fun v H5 E ex5 rv nE fE => ?_⟩
      have rL5 := ex5 _ _ rL4
      have racc5 := racc4.ext ex5
      have hlen : acc.length < 1000000 := by
        have : (acc ++ d :: rest').length = xs.length := by rw [hcat]
        rw [List.length_append, List.length_cons] at this
        omega
      refine ⟨ws, rL5, by rw [← racc.length]; exact line1 hlen, hlt, ?_⟩
      have trk : ∀ a, a ∈ L :: F → H4 a ≠ none := fun a ha z => by
        rcases List.mem_cons.mp ha with rfl | ha
        · rw [rL4] at z; cases z
        · obtain ⟨_, _, e⟩ := racc4.owned a ha
          rw [e] at z; cases z
      have hLE : L ∉ E := fun z => trk L List.mem_cons_self (fE L z)
      have hLF : L ∉ F := (List.nodup_cons.mp nd).1
      refine ⟨acc ++ [d], ws ++ [v], F ++ E, rest', fun a o h => ?_, upd_same, (racc5.upd rL5 wL hLF).append (Reps.one (rv.upd rL5 wL hLE)), ?_, fun a ha => ?_, h4, by rw [List.append_assoc]; exact hcat⟩
      · rw [upd_ne fun z => by rw [z, hL] at h; cases h]
        exact ex5 _ _ (e4 _ _ h)
      · rw [← List.cons_append]
        exact nodup_app nd nE fun a ha z => trk a ha (fE a z)
      · rw [← List.cons_append] at ha
        rcases List.mem_append.mp ha with z | z
        · exact ap a z
        · exact e4.back (fE a z)
  · have e : i = ds.length := by omega
    subst e
    rw [List.drop_length] at hr
    cases hr
    rw [List.append_nil] at hcat
    subst hcat
    exact .inl ⟨src.stop H (pers H ex1), q L H ws F ex1 hLH racc nd ap⟩
theorem compC_den {vs : List Nat} {g : D → Env → Option Env} {p : Env → Option Bool} {m : Env → Option D} {mi : Env → Option (List D)} {σ : L2.St} {H : Hp} {Q : VK} (h : DenF X.K (pComp vs mi g p m) σ H Q) :
    tLc (DenIc X.K mi) (DenGc X.K vs g) (DenT X.K p) (DenF X.K m) vs σ H Q := by
  obtain ⟨W, ρ, fs, d, er, hp, q⟩ := h
  obtain ⟨ds, hx, hp⟩ := Option.bind_eq_some_iff.mp hp
  obtain ⟨xs, hy, hp⟩ := Option.bind_eq_some_iff.mp hp
  split at hp
  · rename_i hlen
    cases hp
    refine ⟨W, ρ, fs, ds, er, hx, fun J H1 G e1 src pers => ?_⟩
    refine denCompC (W := ⟨W.Wr, []⟩) (Q := fun L H => Q (.ref L) H) rfl ((er.ext e1).noLk.wipe _ fun _ z => by cases z) src pers hy hlen fun L H' ws F ex hL rx nd ap => ?_
    exact q (.ref L) H' (L :: F) (e1.trans ex) (by rw [Rep]; exact ⟨L, ws, F, rfl, hL, er.free L (e1.back (ap L List.mem_cons_self)), rx, rfl⟩) nd fun a ha => e1.back (ap a ha)
  · cases hp
theorem df_comp {scope : Scope} {own : List (Str × Nat)} {vs : List Nat} {g : D → Env → Option Env} {p : Env → Option Bool} {m : Env → Option D} {mi : Env → Option (List D)} (hc : X.calm = true) (hN : X.N.Nodup) (hi : DIc X tg iter mi) (ok : BlkOk X.N X.env.scope scope own)
    (hg : ∀ (s : Shared) (H : Hp) (C : Addr) (cl : List (Str × Addr)) (fp : List Addr), DGc (X.blk s H scope (compEnvC scope cl C X.env) fp) vs tg g) (ht : ∀ (s : Shared) (H : Hp) (C : Addr) (cl : List (Str × Addr)) (fp : List Addr), DTc (X.blk s H scope (compEnvC scope cl C X.env) fp) ifs p)
    (he : ∀ (s : Shared) (H : Hp) (C : Addr) (cl : List (Str × Addr)) (fp : List Addr), DF (X.blk s H scope (compEnvC scope cl C X.env) fp) elt m) (hs : ∀ x, foldedSetIterable iter X.env x = pure x := by intro _; rfl) (hvs : own.map (·.2) = vs := by rfl) :
    DF X (.ListComp elt [⟨tg, iter, ifs, 0⟩] scope pos) (pComp vs mi g p m) := by
  subst hvs
  exact ⟨_, pe_lc (wi := DenIc X.K mi) (g := DenGc X.K (own.map (·.2)) g) (tt := DenT X.K p) (te := DenF X.K m) hc hN hi.pi ok (fun s H C cl fp => (hg s H C cl fp).pg) (fun s H C cl fp => (ht s H C cl fp).pts) (fun s H C cl fp => (he s H C cl fp).pe) hs, fun σ H Q h => compC_den h⟩
theorem ds_setLcC (i : Nat) {y : Str} {py spos : Pos} {scope : Scope} {own : List (Str × Nat)} {vs : List Nat} {g : D → Env → Option Env} {p : Env → Option Bool} {m : Env → Option D} {mi : Env → Option (List D)} (hc : X.calm = true) (hN : X.N.Nodup) (hi : DIc X tg iter mi) (ok : BlkOk X.N X.env.scope scope own)
    (hg : ∀ (s : Shared) (H : Hp) (C : Addr) (cl : List (Str × Addr)) (fp : List Addr), DGc (X.blk s H scope (compEnvC scope cl C X.env) fp) vs tg g) (ht : ∀ (s : Shared) (H : Hp) (C : Addr) (cl : List (Str × Addr)) (fp : List Addr), DTc (X.blk s H scope (compEnvC scope cl C X.env) fp) ifs p)
    (he : ∀ (s : Shared) (H : Hp) (C : Addr) (cl : List (Str × Addr)) (fp : List Addr), DF (X.blk s H scope (compEnvC scope cl C X.env) fp) elt m) (hy : X.N[i]? = some y := by rfl) (hyl : X.env.scope.names.lookup y = some .local := by rfl)
    (hsw : swapsWith (.ListComp elt [⟨tg, iter, ifs, 0⟩] scope pos) (some (.Name y py)) spos.line X.env = pure true := by first | exact sw_true rfl rfl rfl (by decide +kernel)) (hs : ∀ x, foldedSetIterable iter X.env x = pure x := by intro _; rfl) (hmp : i ∉ mp := by decide) (hvs : own.map (·.2) = vs := by rfl) :
    DS X mp (.Assign [.Name y py] (.ListComp elt [⟨tg, iter, ifs, 0⟩] scope pos) spos) (asgS (liftE (pComp vs mi g p m)) (gN i)) := by
  subst hvs
  refine ⟨_, ps_setLc (wi := DenIc X.K mi) (g := DenGc X.K (own.map (·.2)) g) (tt := DenT X.K p) (te := DenF X.K m) hc hN hy hyl hsw hi.pi ok (fun s H C cl fp => (hg s H C cl fp).pg) (fun s H C cl fp => (ht s H C cl fp).pts) (fun s H C cl fp => (he s H C cl fp).pe) hs, ?_⟩
  refine denAsg (g := gN i) (fun σ H Q ⟨W, ρ, fs, d, ρ', er, hp, q⟩ => ?_) fun v σ H Q ⟨W, ρ, fs, d, F, ρ', hm, er, r, nd, ap, hg, q⟩ => ?_
  · obtain ⟨x, hx, hp⟩ := Option.map_eq_some_iff.mp hp
    cases hp
    exact compC_den ⟨W, ρ, fs, _, er, hx, fun v H' F e1 r n f => q v H' fs F (er.ext e1) r n (er.apart f) (Step.of_ext e1 fun a ha => ha.elim .inl fun z => .inr (f a z))⟩
  · cases hg
    obtain ⟨fs', e1, e2⟩ := er.put' r nd ap (lk_ne hm hmp)
    exact q _ fs' e1 e2

/-! ### a def's promise -/
def pick (mp : List Nat) (vs : List V) : List V := mp.filterMap fun j => vs[j]?
def spF (K : PySem.W.Frag) (mp : List Nat) (f : List D → Option (D × List D)) : Sp := fun vs H Q _ => ∃ (Wr : Addr → Prop) (ds : List D) (F : List Addr) (d : D) (ds' : List D), Reps K Wr H ds vs F ∧ F.Nodup ∧ (∀ a, H a = none → Wr a) ∧ f ds = some (d, ds') ∧
  ∀ v H' E G, Rep K Wr H' d v E → d.own = true → Reps K Wr H' ds' (pick mp vs) G → D.owns ds' = true → (E ++ G).Nodup → Step (· ∈ F) H (fun a => a ∈ E ∨ a ∈ G) H' → Q v H'
theorem spF_len {K : PySem.W.Frag} {mp : List Nat} {f : List D → Option (D × List D)} {ps : List Str} (h : ∀ ds r, f ds = some r → ds.length = ps.length) : ∀ vs H Q E, spF K mp f vs H Q E → vs.length = ps.length := fun vs H Q E ⟨Wr, ds, F, d, ds', r, _, _, hf, _⟩ => by rw [← r.length, h _ _ hf]
/-- a call that changes nothing: lists are lent -/
def pCall (f : List D → Option (D × List D)) (ps : Env → Option (List D)) : Env → Option D := fun ρ => (ps ρ).bind fun ds => (f (D.shares ds)).map (·.1)
theorem owned_none {K : PySem.W.Frag} {Wr : Addr → Prop} {H : Hp} {ds : List D} {vs : List V} {F : List Addr} (h : Reps K Wr H ds vs F) : ∀ a, a ∈ F → H a ≠ none := fun a ha z => by
  obtain ⟨_, _, e⟩ := h.owned a ha
  rw [e] at z; cases z
theorem df_call {CX : CXT} {k : Nat} {f : Addr} {fd : FuncData} {ps : List Str} {fm : List D → Option (D × List D)} {E : XK} {x : Str} {p : Pos} {qs : Env → Option (List D)} (F : FnOk X.prog X.w X.K X.mg X.base CX k f fd ps (spF X.K [] fm)) (hr : Room k X.A) (hg : Gl X x) (hm : X.mg x = some (.ref f)) (hk : PySem.W.keepIn X.K (.ref f) = true) (hb : Binds X.K fd ps [])
    (hx : Passes CX X E) (ha : DBs X (e :: es) qs) (hdb : (x == ("__debug__" : Str)) = false := by decide) (he : starEach (e :: es) X.env = (false, eval e X.env) :: starEach es X.env := by rfl) (hpl : (backTo pos (starEach es X.env)).any (·.1) = false := by rfl) :
    DF X (.Call (.Name x p) (e :: es) [] pos) (pCall fm qs) := by
  obtain ⟨t, h1, h2⟩ := ha.ex
  refine ⟨_, pe_call F hr hg hm hk hb .nil hx h1 hdb he hpl, fun σ H Q ⟨W, ρ, fs, d, er, hp, q⟩ => ?_⟩
  obtain ⟨ds, hy, hp⟩ := Option.bind_eq_some_iff.mp hp
  obtain ⟨⟨d', ds'⟩, hf, hp⟩ := Option.map_eq_some_iff.mp hp
  cases hp
  refine h2 σ H _ ⟨W, ρ, fs, ds, er, hy, fun vs H1 F1 e1 r1 n1 => ?_⟩
  show spF X.K [] fm (vs ++ []) H1 Q E
  rw [List.append_nil]
  have er1 := er.ext e1
  have rs := r1.share (Wr' := fun a => H1 a = none) (fun a hn hz => hn (er1.free a hz)) (owned_none r1)
  refine ⟨_, D.shares ds, [], d', ds', rs, List.nodup_nil, fun a h => h, hf, fun v H' E G rv ow rG oG nd st => ?_⟩
  have eG : G = [] := by
    have := rG.length
    cases ds' with
    | nil => rw [Reps] at rG; exact rG.2
    | cons _ _ => simp [pick] at this
  subst eG
  have ex : Ext H1 H' := fun a o h => st.keep a o (fun z => by cases z) h
  refine q v H' E (e1.trans ex) (rv.own (fun a h => er1.free a h) ow) (nodup_l nd) fun a ha => ?_
  rcases st.new a (.inl ha) with z | z
  · cases z
  · exact e1.back z
end
end FL

end

section
set_option Elab.async false
set_option linter.all false
set_option maxRecDepth 100000
set_option maxHeartbeats 4000000
namespace FL
open PySem PySem.Spec PyProof.Rows L2

section
variable {K : PySem.W.Frag} {Wr Wr' : Addr → Prop} {H : Hp}
mutual
theorem Rep.conv (wr : ∀ a, ¬ Wr a → ¬ Wr' a) : ∀ {d : D} {v : V} {F : List Addr}, Rep K Wr H d v F → (∀ a, a ∈ F → Wr' a) → Rep K Wr' H d v F
  | .non, v, F, h, _ => by rw [Rep] at h ⊢; exact h
  | .bl _, v, F, h, _ => by rw [Rep] at h ⊢; exact h
  | .int _, v, F, h, _ => by rw [Rep] at h ⊢; exact h
  | .str _, v, F, h, _ => by rw [Rep] at h ⊢; exact h
  | .tup ds, v, F, h, n => by rw [Rep] at h ⊢; obtain ⟨a, vs, e, s, q⟩ := h; exact ⟨a, vs, e, s, Reps.conv wr q n⟩
  | .lst ds, v, F, h, n => by rw [Rep] at h ⊢; obtain ⟨a, vs, G, e, s, w, q, rfl⟩ := h; exact ⟨a, vs, G, e, s, n a List.mem_cons_self, Reps.conv wr q fun b hb => n b (List.mem_cons_of_mem _ hb), rfl⟩
  | .frz ds, v, F, h, n => by rw [Rep] at h ⊢; obtain ⟨a, vs, G, e, s, w, q, rfl⟩ := h; exact ⟨a, vs, G, e, s, n a List.mem_cons_self, Reps.conv wr q fun b hb => n b (List.mem_cons_of_mem _ hb), rfl⟩
  | .shr ds, v, F, h, n => by rw [Rep] at h ⊢; obtain ⟨a, vs, e, s, w, q⟩ := h; exact ⟨a, vs, e, s, w.imp (wr a) id, Reps.conv wr q n⟩
theorem Reps.conv (wr : ∀ a, ¬ Wr a → ¬ Wr' a) : ∀ {ds : List D} {vs : List V} {F : List Addr}, Reps K Wr H ds vs F → (∀ a, a ∈ F → Wr' a) → Reps K Wr' H ds vs F
  | [], vs, F, h, _ => by rw [Reps] at h ⊢; exact h
  | d :: ds, vs, F, h, n => by
    rw [Reps] at h ⊢; obtain ⟨v, r, F1, F2, e, h1, h2, rfl⟩ := h
    exact ⟨v, r, F1, F2, e, Rep.conv wr h1 fun b hb => n b (List.mem_append_left _ hb), Reps.conv wr h2 fun b hb => n b (List.mem_append_right _ hb), rfl⟩
end
/-- the parts of a footprint by places -/
theorem Reps.parts : ∀ {ds : List D} {vs : List V} {F : List Addr}, Reps K Wr H ds vs F → F.Nodup → ∃ fs : Fs, (∀ i d, ds[i]? = some d → ∃ v, vs[i]? = some v ∧ Rep K Wr H d v (fs i)) ∧ (∀ i, ds.length ≤ i → fs i = []) ∧ (∀ a, a ∈ F ↔ fs.has a) ∧ (∀ i, (fs i).Nodup) ∧ ∀ i j, i ≠ j → ∀ a, a ∈ fs i → a ∉ fs j
  | [], vs, F, h, _ => by
    rw [Reps] at h
    obtain ⟨rfl, rfl⟩ := h
    exact ⟨fun _ => [], fun i d e => by simp at e, fun _ _ => rfl, fun a => ⟨fun z => (by cases z), fun ⟨_, z⟩ => (by cases z)⟩, fun _ => List.nodup_nil, fun _ _ _ _ z => by cases z⟩
  | d :: ds, vs, F, h, nd => by
    rw [Reps] at h
    obtain ⟨v, r, F1, F2, rfl, h1, h2, rfl⟩ := h
    obtain ⟨fs, a1, a2, a3, a4, a5⟩ := Reps.parts h2 (nodup_r nd)
    refine ⟨fun i => match i with | 0 => F1 | i + 1 => fs i, fun i x e => ?_, fun i hi => ?_, fun a => ⟨fun z => ?_, fun z => ?_⟩, fun i => ?_, fun i j n a ha hb => ?_⟩
    · cases i with
      | zero => simp at e; subst e; exact ⟨v, rfl, h1⟩
      | succ i => obtain ⟨u, e1, e2⟩ := a1 i x (by simpa using e); exact ⟨u, by simpa using e1, e2⟩
    · cases i with
      | zero => simp at hi
      | succ i => exact a2 i (by simpa using hi)
    · rcases List.mem_append.mp z with z | z
      · exact ⟨0, z⟩
      · obtain ⟨i, hi⟩ := (a3 a).mp z; exact ⟨i + 1, hi⟩
    · obtain ⟨i, hi⟩ := z
      cases i with
      | zero => exact List.mem_append_left _ hi
      | succ i => exact List.mem_append_right _ ((a3 a).mpr ⟨i, hi⟩)
    · cases i with
      | zero => exact nodup_l nd
      | succ i => exact a4 i
    · cases i with
      | zero => cases j with
        | zero => exact n rfl
        | succ j => exact nodup_x nd a ha ((a3 a).mpr ⟨j, hb⟩)
      | succ i => cases j with
        | zero => exact nodup_x nd a hb ((a3 a).mpr ⟨i, ha⟩)
        | succ j => exact a5 i j (fun e => n (congrArg (· + 1) e)) a ha hb
end

/-! ### a def -/
def outs : List Nat → Env → Option (List D)
  | [], _ => some []
  | j :: js, ρ => (lk ρ j).bind fun d => if d.own then (outs js ρ).map (d :: ·) else none
def finM (mp : List Nat) (d : D) (ρ : Env) : Option (D × List D) := if d.own then (outs mp ρ).map fun ds => (d, ds) else none
def fnM (n np : Nat) (mp : List Nat) (m : Env → Option Out) : List D → Option (D × List D) := fun ds => if ds.length = np then (m (ds.map some ++ List.replicate (n - np) none)).bind fun o => match o with
  | .rt d ρ => finM mp d ρ
  | .nx ρ => finM mp .non ρ
  | _ => none else none
theorem fnM_len {n np : Nat} {mp : List Nat} {m : Env → Option Out} {ds : List D} {r : D × List D} (h : fnM n np mp m ds = some r) : ds.length = np := by
  unfold fnM at h
  split at h
  · assumption
  · cases h
theorem outs_reps {K : PySem.W.Frag} {W : Wc} {σ : L2.St} {H : Hp} {ρ : Env} {fs : Fs} {vs : List V} (er : ER K W σ H ρ fs) : ∀ {mp : List Nat} {ds : List D}, mp.Nodup → (∀ j, j ∈ mp → ∀ v, vs[j]? = some v → σ[j]? = some (some v)) → (∀ j, j ∈ mp → j < vs.length) → outs mp ρ = some ds →
    ∃ G, Reps K W.Wr H ds (pick mp vs) G ∧ D.owns ds = true ∧ G.Nodup ∧ ∀ a, a ∈ G → ∃ j, j ∈ mp ∧ a ∈ fs j
  | [], ds, _, _, _, e => by cases e; exact ⟨[], Reps.nil, rfl, List.nodup_nil, fun _ z => by cases z⟩
  | j :: js, ds, nd, lo, lt, e => by
    obtain ⟨d, e1, e⟩ := Option.bind_eq_some_iff.mp e
    split at e
    · rename_i ow
      obtain ⟨ds', e2, rfl⟩ := Option.map_eq_some_iff.mp e
      have hn := List.nodup_cons.mp nd
      obtain ⟨G, r, ow', nG, sub⟩ := outs_reps er hn.2 (fun k hk => lo k (List.mem_cons_of_mem _ hk)) (fun k hk => lt k (List.mem_cons_of_mem _ hk)) e2
      obtain ⟨v, ev⟩ : ∃ v, vs[j]? = some v := ⟨_, List.getElem?_eq_getElem (lt j List.mem_cons_self)⟩
      obtain ⟨u, e3, ru⟩ := er.get e1
      rw [lo j List.mem_cons_self v ev] at e3
      cases e3
      refine ⟨fs j ++ G, ?_, by rw [D.owns, ow, ow']; rfl, nodup_app (er.nd j) nG fun a ha hb => ?_, fun a ha => ?_⟩
      · have : pick (j :: js) vs = v :: pick js vs := by unfold pick; rw [List.filterMap_cons, ev]
        rw [this]
        exact Reps.cons ru r
      · obtain ⟨k, hk, hk2⟩ := sub a hb
        exact er.dj j k (fun e => hn.1 (e ▸ hk)) a ha hk2
      · rcases List.mem_append.mp ha with z | z
        · exact ⟨j, List.mem_cons_self, z⟩
        · obtain ⟨k, hk, hk2⟩ := sub a z
          exact ⟨k, List.mem_cons_of_mem _ hk, hk2⟩
    · cases e
theorem fn_ok {P : Program} {w : World} {K : PySem.W.Frag} {mg : Str → Option Value} {base : Heap} {x qual : Str} {st : Stmt} {f : Addr} {fd : FuncData} {N ps : List Str} {k n np : Nat} {mp : List Nat} {m : Env → Option Out} (F : Fun K x qual st f fd) (S : FnScope N ps (defScope st)) (hn : N.length = n) (hps : ps.length = np) (hmd : mp.Nodup) (hml : ∀ j, j ∈ mp → j < np)
    (hbody : ∀ (cdv : Value) (A : Around) (outer : List PySem.Env) (s : Shared) (H : Hp) (E : XK), Room k (A.deeper (envOfC qual (defScope st) s.heap.objs.size f cdv)) → DSs (cxOf CX0 P w K mg base N qual (defScope st) f cdv A outer s H E).nox mp (defBody st) m) :
    FnOk P w K mg base CX0 (k + 1) f fd ps (spF K mp (fnM n np mp m)) := by
  subst hn hps
  refine F.ok S (spF_len fun ds r h => fnM_len h) fun cdv A outer s H vs Q E hr h => ?_
  obtain ⟨Wr, ds, F0, d, ds', r, nd, fr, hf, q⟩ := h
  obtain ⟨t, h1, h2⟩ := (hbody cdv A outer s H E hr).ex
  refine ⟨t, h1, h2 _ _ _ ?_⟩
  have hlen := fnM_len hf
  have hvl : vs.length = ps.length := by rw [← r.length, hlen]
  obtain ⟨fs, p1, p2, p3, p4, p5⟩ := r.parts nd
  unfold fnM at hf
  rw [if_pos hlen] at hf
  obtain ⟨o, ho, hf⟩ := Option.bind_eq_some_iff.mp hf
  -- the frame at the start
  have hσ : ∀ i v, vs[i]? = some v → (L2.start N vs)[i]? = some (some v) := fun i v e => by
    unfold L2.start
    have hi := (List.getElem?_eq_some_iff.mp e).1
    rw [List.getElem?_append_left (by simpa using hi), List.getElem?_map, e]
    rfl
  have hρ : ∀ i d, (ds.map some ++ List.replicate (N.length - ps.length) none)[i]? = some (some d) → ds[i]? = some d := fun i d e => by
    by_cases hi : i < ds.length
    · rw [List.getElem?_append_left (by simpa using hi), List.getElem?_map] at e
      obtain ⟨d', e1, e2⟩ := Option.map_eq_some_iff.mp e
      cases e2
      exact e1
    · rw [List.getElem?_append_right (by simpa using hi), List.getElem?_replicate] at e
      split at e <;> cases e
  have er : ER K ⟨Wr, mp.map fun j => (j, vs.getD j .non)⟩ (L2.start N vs) H (ds.map some ++ List.replicate (N.length - ps.length) none) fs := by
    refine ⟨?_, fun i d e => ?_, fun i hi => ?_, p4, p5, fr, fun p hp => ?_⟩
    · unfold L2.start
      simp only [List.length_append, List.length_map, List.length_replicate]
      omega
    · obtain ⟨v, e1, r1⟩ := p1 i d (hρ i d e)
      exact ⟨v, hσ i v e1, r1⟩
    · refine p2 i ?_
      by_cases h : i < ds.length
      · exact absurd (by rw [List.getElem?_append_left (by simpa using h), List.getElem?_map, List.getElem?_eq_getElem h]; rfl) (hi ds[i])
      · omega
    · obtain ⟨j, hj, rfl⟩ := List.mem_map.mp hp
      have hjl : j < vs.length := by rw [hvl]; exact hml j hj
      refine hσ j _ ?_
      dsimp only
      rw [List.getElem?_eq_getElem hjl, List.getD_eq_getElem?_getD, List.getElem?_eq_getElem hjl]
      rfl
  refine ⟨⟨Wr, mp.map fun j => (j, vs.getD j .non)⟩, _, fs, o, ?_, er, ho, ?_⟩
  · rw [List.map_map]
    exact (List.map_congr_left fun _ _ => rfl).trans (List.map_id mp)
  -- the ends
  have close : ∀ {x : D} {ρ : Env} {σ : L2.St} {H' : Hp} {fs' : Fs} {v : V} {E : List Addr}, finM mp x ρ = some (d, ds') → ER K ⟨Wr, mp.map fun j => (j, vs.getD j .non)⟩ σ H' ρ fs' → Rep K Wr H' x v E → E.Nodup → (∀ a, a ∈ E → ¬ Fs.has fs' a) → Step fs.has H (fun a => Fs.has fs' a ∨ a ∈ E) H' → Q v H' := fun {x ρ σ H' fs' v E} hfin er' rv nE aE st => by
    unfold finM at hfin
    split at hfin
    · rename_i ow
      obtain ⟨ds2, e1, e2⟩ := Option.map_eq_some_iff.mp hfin
      cases e2
      obtain ⟨G, rG, oG, nG, sub⟩ := outs_reps (vs := vs) er' hmd (fun j hj v hv => by
        have := er'.lock (j, vs.getD j .non) (List.mem_map.mpr ⟨j, hj, rfl⟩)
        have hg : vs.getD j .non = v := by rw [List.getD_eq_getElem?_getD, hv]; rfl
        rw [hg] at this
        exact this) (fun j hj => by rw [hvl]; exact hml j hj) e1
      refine q v H' E G rv ow rG oG (nodup_app nE nG fun a ha hb => ?_) ⟨fun a o hn e => st.keep a o (fun z => hn ((p3 a).mpr z)) e, fun a ha => ?_⟩
      · obtain ⟨j, _, hj⟩ := sub a hb
        exact aE a ha ⟨j, hj⟩
      · have : Fs.has fs' a ∨ a ∈ E := by
          rcases ha with z | z
          · exact .inr z
          · obtain ⟨j, _, hj⟩ := sub a z
            exact .inl ⟨j, hj⟩
        exact (st.new a this).imp (fun z => (p3 a).mpr z) id
    · cases hfin
  cases o with
  | nx ρ => exact fun σ H' fs' er' st => close hf er' (v := .non) (E := []) rep_non List.nodup_nil (fun _ z => by cases z) (st.mono fun a ha => ha.elim id fun z => by cases z)
  | rt x ρ => exact fun σ H' fs' v E er' rv nE aE st => close hf er' rv nE aE st
  | bk ρ => cases hf
  | ct ρ => cases hf

/-! ### a call with arguments that change lists, or lend them to be changed -/
def argD (ρ : Env) : Tm → Option D
  | .v d => some d
  | .s i => (lk ρ i).map D.share
  | .m i => lk ρ i
def argsD (ρ : Env) : List Tm → Option (List D)
  | [] => some []
  | t :: ts => (argD ρ t).bind fun d => (argsD ρ ts).bind fun ds => some (d :: ds)
def mSlots : List Tm → List Nat
  | [] => []
  | .m i :: ts => i :: mSlots ts
  | .v _ :: ts => mSlots ts
  | .s _ :: ts => mSlots ts
def sSlots : List Tm → List Nat
  | [] => []
  | .s i :: ts => i :: sSlots ts
  | .v _ :: ts => sSlots ts
  | .m _ :: ts => sSlots ts
def mPos : Nat → List Tm → List Nat
  | _, [] => []
  | n, .m _ :: ts => n :: mPos (n + 1) ts
  | n, .v _ :: ts => mPos (n + 1) ts
  | n, .s _ :: ts => mPos (n + 1) ts
def okT (mp : List Nat) (ts : List Tm) : Bool := decide (mPos 0 ts = mp) && decide (mSlots ts).Nodup && (sSlots ts).all fun i => !(mSlots ts).contains i
def putM : List Nat → List D → Env → Option Env
  | [], [], ρ => some ρ
  | i :: is, d :: ds, ρ => putM is ds (ρ.set i (some d))
  | _, _, _ => none
def dropM : List Nat → Env → Env
  | [], ρ => ρ
  | i :: is, ρ => dropM is (ρ.set i none)
def callE (fm : List D → Option (D × List D)) (mp : List Nat) (ms : Env → Option (List Tm × Env)) : Env → Option (D × Env) := fun ρ => (ms ρ).bind fun x => if okT mp x.1 then (argsD x.2 x.1).bind fun ds => (fm ds).bind fun r => (putM (mSlots x.1) r.2 (dropM (mSlots x.1) x.2)).map fun ρ' => (r.1, ρ') else none
section
variable {K : PySem.W.Frag} {W : Wc} {σ : L2.St} {H : Hp} {ρ : Env} {fs : Fs}
theorem args_reps (er : ER K W σ H ρ fs) {M : List Nat} {F0 : List Addr} (o0 : ∀ a, a ∈ F0 → W.Wr a) (a0 : ∀ a, a ∈ F0 → ¬ fs.has a) : ∀ {ts : List Tm} {vs : List V} {F : List Addr} {ds : List D}, TmsR K W σ H ts vs F → argsD ρ ts = some ds → F.Nodup → (∀ a, a ∈ F → a ∈ F0) → (∀ i, i ∈ mSlots ts → i ∈ M) → (mSlots ts).Nodup → (∀ i, i ∈ sSlots ts → i ∉ M) →
    ∃ A, Reps K (fun a => H a = none ∨ a ∈ F0 ∨ ∃ i, i ∈ M ∧ a ∈ fs i) H ds vs A ∧ A.Nodup ∧ ∀ a, a ∈ A → a ∈ F ∨ ∃ i, i ∈ mSlots ts ∧ a ∈ fs i
  | [], vs, F, ds, h, e, _, _, _, _, _ => by
    cases e
    obtain ⟨rfl, rfl⟩ := h
    exact ⟨[], Reps.nil, List.nodup_nil, fun _ z => by cases z⟩
  | t :: ts, vs, F, ds, h, e, nd, sub, hm, nm, hs => by
    obtain ⟨v, r, F1, F2, rfl, h1, h2, rfl⟩ := h
    obtain ⟨d, e1, e⟩ := Option.bind_eq_some_iff.mp e
    obtain ⟨ds', e2, e⟩ := Option.bind_eq_some_iff.mp e
    cases e
    have wr : ∀ a, ¬ W.Wr a → ¬ (H a = none ∨ a ∈ F0 ∨ ∃ i, i ∈ M ∧ a ∈ fs i) := fun a hn z => by
      rcases z with z | z | ⟨i, _, z⟩
      · exact hn (er.free a z)
      · exact hn (o0 a z)
      · exact hn (er.owned a ⟨i, z⟩).1
    have sub2 : ∀ a, a ∈ F2 → a ∈ F0 := fun a ha => sub a (List.mem_append_right _ ha)
    cases t with
    | v d' =>
      cases e1
      obtain ⟨A, rA, nA, sA⟩ := args_reps er o0 a0 h2 e2 (nodup_r nd) sub2 hm nm hs
      have h1 : Rep K W.Wr H d v F1 := h1
      refine ⟨F1 ++ A, Reps.cons (h1.conv wr fun a ha => .inr (.inl (sub a (List.mem_append_left _ ha)))) rA, nodup_app (nodup_l nd) nA fun a ha hb => ?_, fun a ha => ?_⟩
      · rcases sA a hb with z | ⟨i, _, z⟩
        · exact nodup_x nd a ha z
        · exact a0 a (sub a (List.mem_append_left _ ha)) ⟨i, z⟩
      · rcases List.mem_append.mp ha with z | z
        · exact .inl (List.mem_append_left _ z)
        · exact (sA a z).imp (fun q => List.mem_append_right _ q) id
    | s i =>
      obtain ⟨d0, e3, rfl⟩ := Option.map_eq_some_iff.mp e1
      obtain ⟨A, rA, nA, sA⟩ := args_reps er o0 a0 h2 e2 (nodup_r nd) sub2 hm nm (fun j hj => hs j (List.mem_cons_of_mem _ hj))
      obtain ⟨e4, rfl⟩ := h1
      obtain ⟨u, e5, ru⟩ := er.get e3
      rw [e4] at e5; cases e5
      refine ⟨A, Reps.cons (F := []) (ru.share wr fun a ha z => ?_) rA, nA, fun a ha => (sA a ha).imp (fun q => q) id⟩
      rcases z with z | z | ⟨j, hj, z⟩
      · obtain ⟨_, _, e⟩ := er.owned a ⟨i, ha⟩
        rw [z] at e; cases e
      · exact a0 a z ⟨i, ha⟩
      · exact er.dj i j (fun e => hs i List.mem_cons_self (e ▸ hj)) a ha z
    | m i =>
      obtain ⟨A, rA, nA, sA⟩ := args_reps er o0 a0 h2 e2 (nodup_r nd) sub2 (fun j hj => hm j (List.mem_cons_of_mem _ hj)) (List.nodup_cons.mp nm).2 hs
      obtain ⟨e4, rfl⟩ := h1
      obtain ⟨u, e5, ru⟩ := er.get e1
      rw [e4] at e5; cases e5
      refine ⟨fs i ++ A, Reps.cons (ru.conv wr fun a ha => .inr (.inr ⟨i, hm i List.mem_cons_self, ha⟩)) rA, nodup_app (er.nd i) nA fun a ha hb => ?_, fun a ha => ?_⟩
      · rcases sA a hb with z | ⟨j, hj, z⟩
        · exact a0 a (sub a (List.mem_append_right _ z)) ⟨i, ha⟩
        · exact er.dj i j (fun e => (List.nodup_cons.mp nm).1 (e ▸ hj)) a ha z
      · rcases List.mem_append.mp ha with z | z
        · exact .inr ⟨i, List.mem_cons_self, z⟩
        · rcases sA a z with q | ⟨j, hj, q⟩
          · exact .inl q
          · exact .inr ⟨j, List.mem_cons_of_mem _ hj, q⟩
def HoldAll (σ : L2.St) : List Nat → List V → Prop
  | [], [] => True
  | i :: is, v :: vs => σ[i]? = some (some v) ∧ HoldAll σ is vs
  | _, _ => False
theorem pick_tms : ∀ {ts : List Tm} {vs : List V} {F : List Addr} (pre : List V), TmsR K W σ H ts vs F → HoldAll σ (mSlots ts) (pick (mPos pre.length ts) (pre ++ vs))
  | [], vs, F, pre, h => trivial
  | t :: ts, vs, F, pre, h => by
    obtain ⟨v, r, F1, F2, rfl, h1, h2, rfl⟩ := h
    have ih := pick_tms (pre ++ [v]) h2
    rw [List.length_append, List.length_singleton, List.append_assoc, List.singleton_append] at ih
    cases t with
    | v d => exact ih
    | s i => exact ih
    | m i =>
      have e : (pre ++ v :: r)[pre.length]? = some v := by simp
      show HoldAll σ (i :: mSlots ts) (pick (pre.length :: mPos (pre.length + 1) ts) (pre ++ v :: r))
      have e2 : pick (pre.length :: mPos (pre.length + 1) ts) (pre ++ v :: r) = v :: pick (mPos (pre.length + 1) ts) (pre ++ v :: r) := by
        unfold pick; rw [List.filterMap_cons, e]
      rw [e2]
      exact ⟨h1.1, ih⟩
theorem ER.dropM (er : ER K W σ H ρ fs) : ∀ (M : List Nat), ∃ fs', ER K W σ H (FL.dropM M ρ) fs' ∧ ∀ a, Fs.has fs' a → fs.has a ∧ ∀ i, i ∈ M → a ∉ fs i := by
  intro M
  have go : ∀ (M : List Nat) (ρ : Env) (fs1 : Fs), ER K W σ H ρ fs1 → ∃ fs', ER K W σ H (FL.dropM M ρ) fs' ∧ ∀ a, Fs.has fs' a → fs1.has a ∧ ∀ i, i ∈ M → a ∉ fs1 i := by
    intro M
    induction M with
    | nil => intro ρ fs1 er; exact ⟨fs1, er, fun a ha => ⟨ha, fun _ z => by cases z⟩⟩
    | cons i M ih =>
      intro ρ fs1 er
      obtain ⟨fs', e1, e2⟩ := ih _ _ (er.drop (i := i))
      refine ⟨fs', e1, fun a ha => ?_⟩
      obtain ⟨z1, z2⟩ := e2 a ha
      have z1' : ∃ j, j ≠ i ∧ a ∈ fs1 j := by
        obtain ⟨j, hj⟩ := z1
        by_cases n : j = i
        · subst n; rw [Fs.set_same] at hj; cases hj
        · rw [Fs.set_ne n] at hj; exact ⟨j, n, hj⟩
      obtain ⟨j, nj, hj⟩ := z1'
      refine ⟨⟨j, hj⟩, fun k hk hb => ?_⟩
      rcases List.mem_cons.mp hk with rfl | hk
      · exact er.dj j k nj a hj hb
      · by_cases n : k = i
        · subst n; exact er.dj j k nj a hj hb
        · exact z2 k hk (by rw [Fs.set_ne n]; exact hb)
  exact go M ρ fs er
theorem ER.putM : ∀ {M : List Nat} {ds : List D} {us : List V} {G : List Addr} {ρ ρ' : Env} {fs : Fs}, ER K W σ H ρ fs → HoldAll σ M us → Reps K W.Wr H ds us G → G.Nodup → (∀ a, a ∈ G → ¬ fs.has a) → FL.putM M ds ρ = some ρ' → ∃ fs', ER K W σ H ρ' fs' ∧ ∀ a, Fs.has fs' a → fs.has a ∨ a ∈ G
  | [], [], us, G, ρ, ρ', fs, er, _, _, _, _, e => by cases e; exact ⟨fs, er, fun a ha => .inl ha⟩
  | i :: M, d :: ds, us, G, ρ, ρ', fs, er, hh, r, nd, ap, e => by
    rw [Reps] at r
    obtain ⟨v, ur, F1, F2, rfl, r1, r2, rfl⟩ := r
    have e1 := er.fill hh.1 r1 (nodup_l nd) fun a ha => ap a (List.mem_append_left _ ha)
    obtain ⟨fs', e2, e3⟩ := ER.putM e1 hh.2 r2 (nodup_r nd) (fun a ha z => (Fs.set_has z).elim (fun q => ap a (List.mem_append_right _ ha) q) fun q => nodup_x nd a q ha) e
    refine ⟨fs', e2, fun a ha => ?_⟩
    rcases e3 a ha with z | z
    · exact (Fs.set_has z).imp id fun q => List.mem_append_left _ q
    · exact .inr (List.mem_append_right _ z)
  | [], d :: ds, us, G, ρ, ρ', fs, er, hh, r, nd, ap, e => by cases e
  | i :: M, [], us, G, ρ, ρ', fs, er, hh, r, nd, ap, e => by cases e
theorem TmsR.wr : ∀ {ts : List Tm} {vs : List V} {F : List Addr}, TmsR K W σ H ts vs F → ∀ a, a ∈ F → W.Wr a
  | [], vs, F, h => by obtain ⟨_, rfl⟩ := h; intro a ha; cases ha
  | t :: ts, vs, F, h => by
    obtain ⟨v, r, F1, F2, _, h1, h2, rfl⟩ := h
    intro a ha
    rcases List.mem_append.mp ha with z | z
    · cases t with
      | v d => exact (Rep.owned (show Rep K W.Wr H d v F1 from h1) a z).1
      | s i => obtain ⟨_, rfl⟩ := h1; cases z
      | m i => obtain ⟨_, rfl⟩ := h1; cases z
    · exact TmsR.wr h2 a z
end
section
variable {X : Cx} {mp : List Nat} {e : Expr} {es : List Expr} {pos : Pos}
theorem callE_den {fm : List D → Option (D × List D)} {cmp : List Nat} {ms : Env → Option (List Tm × Env)} {t : TA} {E : XK} (h2 : ∀ σ H Q, DenA X.K ms σ H Q → t σ H Q) : ∀ σ H Q, DenE X.K (callE fm cmp ms) σ H Q → t σ H fun vs H1 => spF X.K cmp fm (vs ++ []) H1 Q E := fun σ H Q ⟨W, ρ, fs, d, ρ', er, hp, q⟩ => by
  obtain ⟨⟨ts, ρ1⟩, hx, hp⟩ := Option.bind_eq_some_iff.mp hp
  split at hp
  · rename_i ok
    obtain ⟨ds, hds, hp⟩ := Option.bind_eq_some_iff.mp hp
    obtain ⟨⟨d', ds'⟩, hf, hp⟩ := Option.bind_eq_some_iff.mp hp
    obtain ⟨ρ2, hput, hp⟩ := Option.map_eq_some_iff.mp hp
    cases hp
    unfold okT at ok
    simp only [Bool.and_eq_true, decide_eq_true_eq, List.all_eq_true, Bool.not_eq_true', List.contains_eq_mem, decide_eq_false_iff_not] at ok
    obtain ⟨⟨ok1, ok2⟩, ok3⟩ := ok
    refine h2 σ H _ ⟨W, ρ, fs, ts, ρ1, er, hx, fun vs H1 fs1 F1 er1 r1 n1 a1 st1 => ?_⟩
    show spF X.K cmp fm (vs ++ []) H1 Q E
    rw [List.append_nil]
    obtain ⟨A, rA, nA, sA⟩ := args_reps er1 (M := mSlots ts) (F0 := F1) r1.wr a1 r1 hds n1 (fun _ z => z) (fun _ z => z) ok2 ok3
    refine ⟨_, ds, A, d', ds', rA, nA, fun a z => .inl z, hf, fun v H' E' G rv ow rG oG nd st => ?_⟩
    have wr : ∀ a, (H1 a = none ∨ a ∈ F1 ∨ ∃ i, i ∈ mSlots ts ∧ a ∈ fs1 i) → W.Wr a := fun a z => by
      rcases z with z | z | ⟨i, _, z⟩
      · exact er1.free a z
      · exact r1.wr a z
      · exact (er1.owned a ⟨i, z⟩).1
    have rv' := rv.own wr ow
    have rG' := rG.own wr oG
    obtain ⟨fs2, er2, sub2⟩ := er1.dropM (mSlots ts)
    have oA : Owned W.Wr H1 (· ∈ A) := fun a ha => ⟨wr a (rA.owned a ha).1, (rA.owned a ha).2⟩
    have apA : ∀ a, Fs.has fs2 a → ¬ a ∈ A := fun a ha z => by
      obtain ⟨z1, z2⟩ := sub2 a ha
      rcases sA a z with z | ⟨i, hi, z⟩
      · exact a1 a z z1
      · exact z2 i hi z
    have er3 := er2.stay (F0 := (· ∈ A)) oA st.keep apA
    have hold : HoldAll σ (mSlots ts) (pick cmp vs) := by
      have := pick_tms [] r1
      rw [List.nil_append, List.length_nil, ok1] at this
      exact this
    have newA : ∀ a, (a ∈ E' ∨ a ∈ G) → ¬ Fs.has fs2 a := fun a ha z => by
      rcases st.new a ha with q | q
      · exact apA a z q
      · obtain ⟨_, _, e⟩ := er1.owned a (sub2 a z).1
        rw [q] at e; cases e
    obtain ⟨fs3, er4, sub3⟩ := er3.putM hold rG' (nodup_r nd) (fun a ha => newA a (.inr ha)) hput
    refine q v H' fs3 E' er4 rv' (nodup_l nd) (fun a ha z => ?_) ?_
    · rcases sub3 a z with q | q
      · exact newA a (.inl ha) q
      · exact nodup_x nd a ha q
    · have s2 : Step (fun a => fs1.has a ∨ a ∈ F1) H1 (fun a => Fs.has fs3 a ∨ a ∈ E') H' := by
        refine ⟨fun a o hn e => st.keep a o (fun z => ?_) e, fun a ha => ?_⟩
        · rcases sA a z with q | ⟨i, _, q⟩
          · exact hn (.inr q)
          · exact hn (.inl ⟨i, q⟩)
        · have old : (a ∈ E' ∨ a ∈ G) → (fs1.has a ∨ a ∈ F1) ∨ H1 a = none := fun z => (st.new a z).imp (fun z => (sA a z).elim .inr fun ⟨i, _, q⟩ => .inl ⟨i, q⟩) id
          rcases ha with z | z
          · rcases sub3 a z with q | q
            · exact .inl (.inl (sub2 a q).1)
            · exact old (.inr q)
          · exact old (.inl z)
      exact st1.trans s2
  · cases hp
theorem de_call {CX : CXT} {k : Nat} {f : Addr} {fd : FuncData} {ps : List Str} {cmp : List Nat} {fm : List D → Option (D × List D)} {E : XK} {x : Str} {p : Pos} {ms : Env → Option (List Tm × Env)} (F : FnOk X.prog X.w X.K X.mg X.base CX k f fd ps (spF X.K cmp fm)) (hr : Room k X.A) (hg : Gl X x) (hm : X.mg x = some (.ref f)) (hk : PySem.W.keepIn X.K (.ref f) = true) (hb : Binds X.K fd ps [])
    (hx : Passes CX X E) (ha : DAs X (e :: es) ms) (hdb : (x == ("__debug__" : Str)) = false := by decide) (he : starEach (e :: es) X.env = (false, eval e X.env) :: starEach es X.env := by rfl) (hpl : (backTo pos (starEach es X.env)).any (·.1) = false := by rfl) :
    DE X (.Call (.Name x p) (e :: es) [] pos) (callE fm cmp ms) := by
  obtain ⟨t, h1, h2⟩ := ha.ex
  exact ⟨_, pe_call F hr hg hm hk hb .nil hx h1 hdb he hpl, callE_den h2⟩
end
end FL

end

section
set_option Elab.async false
set_option linter.all false
set_option maxRecDepth 100000
set_option maxHeartbeats 4000000
namespace FL
open PySem PySem.Spec PyProof.Rows L2

/-! ### ints -/
def MulOk (i j : Int) : Prop := ((-(2 ^ 64) < i ∧ i < 2 ^ 64) ∨ (-(2 ^ 64) < j ∧ j < 2 ^ 64)) ∨ i.natAbs.log2 + j.natAbs.log2 < 1000000
instance (i j : Int) : Decidable (MulOk i j) := by unfold MulOk; infer_instance
def DivOk (j : Int) : Prop := 0 < j ∧ j.natAbs.log2 < 9000
instance (j : Int) : Decidable (DivOk j) := by unfold DivOk; infer_instance
def dAdd : D → D → Option D
  | .int i, .int j => some (.int (i + j))
  | .str a, .str b => if a.length + b.length ≤ 1000000 then some (.str (a ++ b)) else none
  | .tup xs, .tup ys => if xs.length + ys.length ≤ 1000000 ∧ D.frees xs = true ∧ D.frees ys = true then some (.tup (xs ++ ys)) else none
  | .lst xs, .lst ys => if xs.length + ys.length ≤ 1000000 ∧ D.frees xs = true ∧ D.frees ys = true then some (.lst (xs ++ ys)) else none
  | _, _ => none
def dSub : D → D → Option D
  | .int i, .int j => some (.int (i - j))
  | _, _ => none
def dMul : D → D → Option D
  | .int i, .int j => if MulOk i j then some (.int (i * j)) else none
  | .lst xs, .int k => if -(2 ^ 62) ≤ k ∧ k < 2 ^ 62 ∧ xs.length * k.toNat ≤ 1000000 ∧ D.frees xs = true then some (.lst (List.replicate k.toNat xs).flatten) else none
  | _, _ => none
def dDiv : D → D → Option D
  | .int i, .int j => if DivOk j then some (.int (i / j)) else none
  | _, _ => none
def dMod : D → D → Option D
  | .int i, .int j => if 0 < j then some (.int (i % j)) else none
  | _, _ => none
def dPow : D → D → Option D
  | .int i, .int j => if 0 ≤ j ∧ j ≤ 1000000 ∧ i.natAbs < 2 ^ 64 then some (.int (i ^ j.toNat)) else none
  | _, _ => none
def dNeg : D → Option D
  | .int i => some (.int (-i))
  | _ => none
def dLt : D → D → Option D
  | .int i, .int j => some (.bl (decide (i < j)))
  | _, _ => none
def dLe : D → D → Option D
  | .int i, .int j => some (.bl (decide (i ≤ j)))
  | _, _ => none
def dGt : D → D → Option D
  | .int i, .int j => some (.bl (decide (j < i)))
  | _, _ => none
def dGe : D → D → Option D
  | .int i, .int j => some (.bl (decide (j ≤ i)))
  | _, _ => none
/-- == of scalars -/
def dEq : D → D → Option D
  | .int i, .int j => some (.bl (decide (i = j)))
  | .str i, .str j => some (.bl (decide (i = j)))
  | .bl i, .bl j => some (.bl (decide (i = j)))
  | .non, .non => some (.bl true)
  | .non, .int _ => some (.bl false)
  | .int _, .non => some (.bl false)
  | .non, .str _ => some (.bl false)
  | .str _, .non => some (.bl false)
  | .int _, .str _ => some (.bl false)
  | .str _, .int _ => some (.bl false)
  | _, _ => none
def dNot : D → Option D
  | .bl b => some (.bl (!b))
  | _ => none
def dNe (x y : D) : Option D := (dEq x y).bind dNot
def dIsN : D → Option D
  | .non => some (.bl true)
  | _ => some (.bl false)
def dNotN : D → Option D
  | .non => some (.bl false)
  | _ => some (.bl true)
section
variable {X : Cx} {a b e : Expr} {es : List Expr} {pos : Pos}
theorem po2_or {r r' : R2} {f : D → D → Option D} {g : D → D → Option D} {h : D → D → Option D} (hf : PO2 X.K r f) (hg : PO2 X.K r' g) (hh : ∀ x y d, h x y = some d → f x y = some d ∨ g x y = some d) : PO2 X.K (fun x y H Q => r x y H Q ∨ r' x y H Q) h := by
  intro Wr H x y v w F G d Q fr rx ry e q
  rcases hh x y d e with e | e
  · exact .inl (hf Wr H x y v w F G d Q fr rx ry e q)
  · exact .inr (hg Wr H x y v w F G d Q fr rx ry e q)
theorem po_add : PO2 X.K (fun x y H Q => (((fun x y H Q => rI0 (fun i j => .int (i + j)) x y H Q ∨ (∃ i j, x = V.str i ∧ y = V.str j ∧ i.length + j.length ≤ sizeLine ∧ Q (.str (i ++ j)) H)) x y H Q) ∨ ((fun x y H Q => rCatX X.K x y H Q ∨ rCat x y H Q) x y H Q))) dAdd := by
  intro Wr H x y v w F G d Q fr rx ry e q
  unfold dAdd at e
  split at e
  · cases e; cases rep_int rx; cases rep_int ry
    exact .inl (.inl ⟨_, _, rfl, rfl, q.int⟩)
  · split at e
    · rename_i hl
      cases e; cases rep_str rx; cases rep_str ry
      exact .inl (.inr ⟨_, _, rfl, rfl, Nat.le_trans hl (by decide), q.str⟩)
    · cases e
  · rename_i xs ys
    split at e
    · rename_i c
      obtain ⟨hl, f1, f2⟩ := c
      cases e
      have hrx := rx
      have hry := ry
      rw [Rep] at rx ry
      obtain ⟨a, vs, rfl, s1, r1⟩ := rx
      obtain ⟨b, ws, rfl, s2, r2⟩ := ry
      obtain rfl := r1.free f1
      obtain rfl := r2.free f2
      refine .inr (.inl ⟨a, b, vs, ws, rfl, rfl, s1.sq, s2.sq, by rw [← r1.length, ← r2.length]; exact Nat.le_trans hl (by decide), fun z => ?_, fun z1 z2 => ?_, fun _ _ => q.tup (r1.append r2)⟩)
      · subst z
        cases xs with
        | nil => exact q.sc hry
        | cons _ _ => have := r1.length; simp at this
      · subst z2
        cases ys with
        | nil => rw [List.append_nil] at q; exact q.sc hrx
        | cons _ _ => have := r2.length; simp at this
    · cases e
  · rename_i xs ys
    split at e
    · rename_i c
      obtain ⟨hl, f1, f2⟩ := c
      cases e
      rw [Rep] at rx ry
      obtain ⟨a, vs, G1, rfl, s1, w1, r1, _⟩ := rx
      obtain ⟨b, ws, G2, rfl, s2, w2, r2, _⟩ := ry
      obtain rfl := r1.free f1
      obtain rfl := r2.free f2
      exact .inr (.inr ⟨a, b, vs, ws, rfl, rfl, s1, s2, by rw [← r1.length, ← r2.length]; exact Nat.le_trans hl (by decide), fun p hp => q.lst fr (r1.append r2) hp⟩)
    · cases e
  · cases e
theorem po_sub : PO2 X.K (rI0 fun i j => .int (i - j)) dSub := by
  intro Wr H x y v w F G d Q fr rx ry e q
  unfold dSub at e
  split at e
  · cases e; cases rep_int rx; cases rep_int ry
    exact ⟨_, _, rfl, rfl, q.int⟩
  · cases e
theorem Reps.rep {K : PySem.W.Frag} {Wr : Addr → Prop} {H : Hp} {xs : List D} {vs : List V} (h : Reps K Wr H xs vs []) : ∀ n : Nat, Reps K Wr H (List.replicate n xs).flatten (List.replicate n vs).flatten []
  | 0 => Reps.nil
  | n + 1 => by
    rw [List.replicate_succ, List.replicate_succ, List.flatten_cons, List.flatten_cons]
    exact h.append (Reps.rep h n)
theorem po_mul : PO2 X.K (fun x y H Q => (fun x y H Q => rI CMul (fun i j => .int (i * j)) x y H Q ∨ rI CMulW (fun i j => .int (i * j)) x y H Q) x y H Q ∨ rRep x y H Q) dMul := by
  intro Wr H x y v w F G d Q fr rx ry e q
  unfold dMul at e
  split at e
  · split at e
    · rename_i hm
      cases e; cases rep_int rx; cases rep_int ry
      rcases hm with hm | hm
      · exact .inl (.inl ⟨_, _, rfl, rfl, hm, q.int⟩)
      · exact .inl (.inr ⟨_, _, rfl, rfl, hm, q.int⟩)
    · cases e
  · rename_i xs k
    split at e
    · rename_i c
      obtain ⟨h1, h2, hl, f1⟩ := c
      cases e; cases rep_int ry
      rw [Rep] at rx
      obtain ⟨a, vs, G1, rfl, s1, w1, r1, _⟩ := rx
      obtain rfl := r1.free f1
      exact .inr ⟨a, k, vs, rfl, rfl, s1, by omega, by omega, by rw [← r1.length]; exact Nat.le_trans hl (by decide), fun p hp => q.lst fr (r1.rep _) hp⟩
    · cases e
  · cases e
theorem po_div : PO2 X.K (rI CDivW fun i j => .int (i / j)) dDiv := by
  intro Wr H x y v w F G d Q fr rx ry e q
  unfold dDiv at e
  split at e
  · split at e
    · rename_i hm
      cases e; cases rep_int rx; cases rep_int ry
      exact ⟨_, _, rfl, rfl, hm, q.int⟩
    · cases e
  · cases e
theorem po_mod : PO2 X.K (rI (fun _ j => 0 < j) fun i j => .int (i % j)) dMod := by
  intro Wr H x y v w F G d Q fr rx ry e q
  unfold dMod at e
  split at e
  · split at e
    · rename_i hm
      cases e; cases rep_int rx; cases rep_int ry
      exact ⟨_, _, rfl, rfl, hm, q.int⟩
    · cases e
  · cases e
theorem po_pow : PO2 X.K (rI CPow fun i j => .int (i ^ j.toNat)) dPow := by
  intro Wr H x y v w F G d Q fr rx ry e q
  unfold dPow at e
  split at e
  · split at e
    · rename_i hm
      cases e; cases rep_int rx; cases rep_int ry
      exact ⟨_, _, rfl, rfl, hm, q.int⟩
    · cases e
  · cases e
theorem po_neg : PO1 X.K (rU fun i => .int (-i)) dNeg := by
  intro Wr H x v F d Q fr rx e q
  unfold dNeg at e
  split at e
  · cases e; cases rep_int rx
    exact ⟨_, rfl, q.int⟩
  · cases e
theorem po_lt : PO2 X.K (rI0 fun i j => .bl (decide (i < j))) dLt := by
  intro Wr H x y v w F G d Q fr rx ry e q
  unfold dLt at e
  split at e
  · cases e; cases rep_int rx; cases rep_int ry
    exact ⟨_, _, rfl, rfl, q.bl⟩
  · cases e
theorem po_le : PO2 X.K (rI0 fun i j => .bl (decide (i ≤ j))) dLe := by
  intro Wr H x y v w F G d Q fr rx ry e q
  unfold dLe at e
  split at e
  · cases e; cases rep_int rx; cases rep_int ry
    exact ⟨_, _, rfl, rfl, q.bl⟩
  · cases e
theorem po_gt : PO2 X.K (rI0 fun i j => .bl (decide (j < i))) dGt := by
  intro Wr H x y v w F G d Q fr rx ry e q
  unfold dGt at e
  split at e
  · cases e; cases rep_int rx; cases rep_int ry
    exact ⟨_, _, rfl, rfl, q.bl⟩
  · cases e
theorem po_ge : PO2 X.K (rI0 fun i j => .bl (decide (j ≤ i))) dGe := by
  intro Wr H x y v w F G d Q fr rx ry e q
  unfold dGe at e
  split at e
  · cases e; cases rep_int rx; cases rep_int ry
    exact ⟨_, _, rfl, rfl, q.bl⟩
  · cases e
theorem eq_core {K : PySem.W.Frag} {Wr : Addr → Prop} {H : Hp} {x y : D} {v w : V} {F G : List Addr} {b : Bool} (rx : Rep K Wr H x v F) (ry : Rep K Wr H y w G) (e : dEq x y = some (.bl b)) : scal v w = true ∧ decide (v = w) = b := by
  unfold dEq at e
  split at e <;> first
    | (cases e; cases rep_int rx; cases rep_int ry; refine ⟨rfl, ?_⟩; simp; done)
    | (cases e; cases rep_str rx; cases rep_str ry; refine ⟨rfl, ?_⟩; simp; done)
    | (cases e; cases rep_b rx; cases rep_b ry; refine ⟨rfl, ?_⟩; simp; done)
    | (cases e; cases rep_n rx; cases rep_n ry; refine ⟨rfl, ?_⟩; simp; done)
    | (cases e; cases rep_n rx; cases rep_int ry; refine ⟨rfl, ?_⟩; simp; done)
    | (cases e; cases rep_int rx; cases rep_n ry; refine ⟨rfl, ?_⟩; simp; done)
    | (cases e; cases rep_n rx; cases rep_str ry; refine ⟨rfl, ?_⟩; simp; done)
    | (cases e; cases rep_str rx; cases rep_n ry; refine ⟨rfl, ?_⟩; simp; done)
    | (cases e; cases rep_int rx; cases rep_str ry; refine ⟨rfl, ?_⟩; simp; done)
    | (cases e; cases rep_str rx; cases rep_int ry; refine ⟨rfl, ?_⟩; simp; done)
    | cases e
theorem dEq_bl {x y d : D} (e : dEq x y = some d) : ∃ b, d = .bl b := by
  unfold dEq at e
  split at e <;> first | (cases e; exact ⟨_, rfl⟩) | cases e
theorem po_eq : PO2 X.K rEq dEq := by
  intro Wr H x y v w F G d Q fr rx ry e q
  obtain ⟨b, rfl⟩ := dEq_bl e
  obtain ⟨h1, h2⟩ := eq_core rx ry e
  exact ⟨h1, by rw [h2]; exact q.bl⟩
theorem po_ne : PO2 X.K rNe dNe := by
  intro Wr H x y v w F G d Q fr rx ry e q
  unfold dNe at e
  obtain ⟨z, e1, e2⟩ := Option.bind_eq_some_iff.mp e
  obtain ⟨b, rfl⟩ := dEq_bl e1
  obtain ⟨h1, h2⟩ := eq_core rx ry e1
  cases e2
  exact ⟨h1, by rw [h2]; exact q.bl⟩
theorem rep_isn {K : PySem.W.Frag} {Wr : Addr → Prop} {H : Hp} {x : D} {v : V} {F : List Addr} (r : Rep K Wr H x v F) : dIsN x = some (.bl (decide (v = .non))) ∧ dNotN x = some (.bl (!decide (v = .non))) := by
  cases x with
  | non => cases rep_n r; exact ⟨rfl, rfl⟩
  | bl b => cases rep_b r; exact ⟨rfl, rfl⟩
  | int b => cases rep_int r; exact ⟨rfl, rfl⟩
  | str b => cases rep_str r; exact ⟨rfl, rfl⟩
  | tup xs => rw [Rep] at r; obtain ⟨a, vs, rfl, _⟩ := r; exact ⟨rfl, rfl⟩
  | lst xs => rw [Rep] at r; obtain ⟨a, vs, G, rfl, _⟩ := r; exact ⟨rfl, rfl⟩
  | frz xs => rw [Rep] at r; obtain ⟨a, vs, G, rfl, _⟩ := r; exact ⟨rfl, rfl⟩
  | shr xs => rw [Rep] at r; obtain ⟨a, vs, rfl, _⟩ := r; exact ⟨rfl, rfl⟩
theorem po_isN : PO1 X.K (fun x H Q => Q (.bl (decide (x = .non))) H) dIsN := by
  intro Wr H x v F d Q fr r e q
  rw [(rep_isn r).1] at e
  cases e
  exact q.bl
theorem po_notN : PO1 X.K (fun x H Q => Q (.bl (!decide (x = .non))) H) dNotN := by
  intro Wr H x v F d Q fr r e q
  rw [(rep_isn r).2] at e
  cases e
  exact q.bl
theorem df_isN {j pos'} {p : Env → Option D} (h : DB X a p) : DF X (.Compare a [.Is] [.Constant .none j pos'] pos) (p1 dIsN p) := by
  obtain ⟨t, h1, h2⟩ := h.ex
  exact ⟨_, pe_cmp (pc_isN h1) (nobehind _ (by decide) (by decide)), fun σ H Q h => calm1 po_isN h2 h⟩
theorem df_notN {j pos'} {p : Env → Option D} (h : DB X a p) : DF X (.Compare a [.IsNot] [.Constant .none j pos'] pos) (p1 dNotN p) := by
  obtain ⟨t, h1, h2⟩ := h.ex
  exact ⟨_, pe_cmp (pc_notN h1) (nobehind _ (by decide) (by decide)), fun σ H Q h => calm1 po_notN h2 h⟩
theorem dt_isN {j pos'} {p : Env → Option D} (h : DB X a p) : DT X (.Compare a [.Is] [.Constant .none j pos'] pos) (tB' (p1 dIsN p)) := by
  obtain ⟨t, h1, h2⟩ := h.ex
  exact dt_of (pt_cmp (pc_isN h1) (nobehind _ (by decide) (by decide))) (want_f fun σ H Q h => calm1 po_isN h2 h)
theorem dt_notN {j pos'} {p : Env → Option D} (h : DB X a p) : DT X (.Compare a [.IsNot] [.Constant .none j pos'] pos) (tB' (p1 dNotN p)) := by
  obtain ⟨t, h1, h2⟩ := h.ex
  exact dt_of (pt_cmp (pc_notN h1) (nobehind _ (by decide) (by decide))) (want_f fun σ H Q h => calm1 po_notN h2 h)
theorem dte_isN {j pos'} {m : Env → Option (Tm × Env)} (h : DO X a m) : DTE X (.Compare a [.Is] [.Constant .none j pos'] pos) (blE (opE1 dIsN m)) := by
  obtain ⟨t, h1, h2⟩ := h.ex
  exact dte_of (pt_cmp (pc_isN h1) (nobehind _ (by decide) (by decide))) fun σ H Q h => eff1 po_isN h2 h
theorem dte_notN {j pos'} {m : Env → Option (Tm × Env)} (h : DO X a m) : DTE X (.Compare a [.IsNot] [.Constant .none j pos'] pos) (blE (opE1 dNotN m)) := by
  obtain ⟨t, h1, h2⟩ := h.ex
  exact dte_of (pt_cmp (pc_notN h1) (nobehind _ (by decide) (by decide))) fun σ H Q h => eff1 po_notN h2 h

/-! ### sequences -/
/-- a value that is a list or a tuple, read -/
theorem seq_read {K : PySem.W.Frag} {Wr : Addr → Prop} {H : Hp} {d : D} {v : V} {F : List Addr} {ds : List D} (r : Rep K Wr H d v F) (e : seqD d = some ds) : ∃ a vs G, v = .ref a ∧ (SqL K H a vs ∨ SqT K H a vs) ∧ Reps K Wr H ds vs G ∧ ∀ x, x ∈ G → x ∈ F := by
  cases d with
  | tup xs => cases e; rw [Rep] at r; obtain ⟨a, vs, rfl, s, q⟩ := r; exact ⟨a, vs, F, rfl, .inr s.sq, q, fun _ z => z⟩
  | lst xs => cases e; rw [Rep] at r; obtain ⟨a, vs, G, rfl, s, _, q, rfl⟩ := r; exact ⟨a, vs, G, rfl, .inl (.inl (.inl s)), q, fun _ z => List.mem_cons_of_mem _ z⟩
  | frz xs => cases e; rw [Rep] at r; obtain ⟨a, vs, G, rfl, s, _, q, rfl⟩ := r; exact ⟨a, vs, G, rfl, .inl (.inl (.inl s)), q, fun _ z => List.mem_cons_of_mem _ z⟩
  | shr xs => cases e; rw [Rep] at r; obtain ⟨a, vs, rfl, s, _, q⟩ := r; exact ⟨a, vs, F, rfl, .inl s, q, fun _ z => z⟩
  | _ => cases e
def dLen : List D → Option D
  | [.str s] => if s.length ≤ 1000000 then some (.int s.length) else none
  | [d] => (seqD d).map fun xs => .int xs.length
  | _ => none
theorem po_len : POn X.K (fun xs H Q => (∃ p ys, xs = [V.ref p] ∧ (SqL X.K H p ys ∨ SqT X.K H p ys) ∧ Q (.int ys.length) H) ∨ (∃ z, xs = [V.str z] ∧ z.length ≤ sizeLine ∧ Q (.int z.length) H)) dLen := by
  intro Wr H xs vs F d Q fr r e q
  unfold dLen at e
  split at e
  · split at e
    · rename_i hl
      cases e
      obtain ⟨v, rfl, rv⟩ := reps1 r
      cases rep_str rv
      exact .inr ⟨_, rfl, Nat.le_trans hl (by decide), q.int⟩
    · cases e
  · obtain ⟨ys, e1, rfl⟩ := Option.map_eq_some_iff.mp e
    obtain ⟨v, rfl, rv⟩ := reps1 r
    obtain ⟨a, ws, G, rfl, s, rs, _⟩ := seq_read rv e1
    refine .inl ⟨a, ws, rfl, s, ?_⟩
    rw [← rs.length]
    exact q.int
  · cases e
/-- an item, free -/
def itemD (xs : List D) (i : Int) : Option D := (atI xs i).bind fun d => if d.free then some d else none
def dIx : D → D → Option D
  | .str s, .int i => if s.length ≤ 1000000 then (atI s.cps.toList i).map fun c => .str ⟨#[c]⟩ else none
  | d, .int i => (seqD d).bind fun xs => itemD xs i
  | _, _ => none
theorem Reps.atI {K : PySem.W.Frag} {Wr : Addr → Prop} {H : Hp} {ds : List D} {vs : List V} {G : List Addr} {i : Int} {d : D} (r : Reps K Wr H ds vs G) (e : L2.atI ds i = some d) : ∃ v G', L2.atI vs i = some v ∧ Rep K Wr H d v G' ∧ ∀ a, a ∈ G' → a ∈ G := by
  unfold L2.atI at e ⊢
  rw [← r.length]
  obtain ⟨j, e1, e2⟩ := Option.bind_eq_some_iff.mp e
  obtain ⟨v, G', e3, e4, e5⟩ := r.get e2
  exact ⟨v, G', by rw [e1]; exact e3, e4, e5⟩
theorem po_ix : PO2 X.K (rIx X.K) dIx := by
  intro Wr H x y v w F G d Q fr rx ry e q
  unfold dIx at e
  split at e
  · split at e
    · rename_i hl
      obtain ⟨c, e1, rfl⟩ := Option.map_eq_some_iff.mp e
      cases rep_str rx; cases rep_int ry
      exact .inr (.inr ⟨_, _, c, rfl, rfl, Nat.le_trans hl (by decide), e1, q.str⟩)
    · cases e
  · obtain ⟨xs, e1, e⟩ := Option.bind_eq_some_iff.mp e
    unfold itemD at e
    obtain ⟨z, e2, e⟩ := Option.bind_eq_some_iff.mp e
    split at e
    · rename_i f
      cases e
      cases rep_int ry
      obtain ⟨a, vs, G', rfl, s, rs, _⟩ := seq_read rx e1
      obtain ⟨u, G2, e3, ru, _⟩ := rs.atI e2
      have := ru.free f
      subst this
      rcases s with s | s
      · exact .inl ⟨a, vs, _, u, rfl, rfl, s, e3, q.sc ru⟩
      · exact .inr (.inl ⟨a, vs, _, u, rfl, rfl, s, e3, q.sc ru⟩)
    · cases e
  · cases e
/-- an item of any kind, lent -/
def pIx (pa pb : Env → Option D) : Env → Option D := fun ρ => (pa ρ).bind fun x => (pb ρ).bind fun y => match y with
  | .int i => (seqD x).bind fun xs => L2.atI xs i
  | _ => none
theorem db_ix {pa pb : Env → Option D} (ha : DB X a pa) (hb : DB X b pb) (hs : PlainIx b) : DB X (.Subscript a b pos) (pIx pa pb) := by
  obtain ⟨t, h1, h2⟩ := ha.ex
  obtain ⟨u, k1, k2⟩ := hb.ex
  refine ⟨_, pe_ix ix_seq h1 k1 hs, fun σ H Q ⟨W, ρ, fs, d, er, hp, q⟩ => ?_⟩
  obtain ⟨x, hx, hp⟩ := Option.bind_eq_some_iff.mp hp
  obtain ⟨y, hy, hp⟩ := Option.bind_eq_some_iff.mp hp
  cases y with
  | int i =>
    obtain ⟨xs, e1, hp⟩ := Option.bind_eq_some_iff.mp hp
    refine h2 σ H _ ⟨W, ρ, fs, x, er, hx, fun v H1 F e1' r1 n1 => ?_⟩
    refine k2 σ H1 _ ⟨W, ρ, fs, _, er.ext e1', hy, fun w H2 G e2 r2 n2 => ?_⟩
    cases rep_int r2
    obtain ⟨a, vs, G', rfl, s, rs, sub⟩ := seq_read (r1.ext e2) e1
    obtain ⟨u, G2, e3, ru, sub2⟩ := rs.atI hp
    have fin := q u H2 G2 (e1'.trans e2) ru fun b hb => n1 b (sub b (sub2 b hb))
    rcases s with s | s
    · exact .inl ⟨a, vs, i, u, rfl, rfl, s, e3, fin⟩
    · exact .inr (.inl ⟨a, vs, i, u, rfl, rfl, s, e3, fin⟩)
  | _ => cases hp
def dTuple : List D → Option D
  | [d] => (seqD d).bind fun xs => if D.frees xs then some (.tup xs) else none
  | _ => none
theorem po_tuple : POn X.K (rTupleX X.K) dTuple := by
  intro Wr H xs vs F d Q fr r e q
  unfold dTuple at e
  split at e
  · rename_i d'
    obtain ⟨ys, e1, e⟩ := Option.bind_eq_some_iff.mp e
    split at e
    · rename_i f
      cases e
      obtain ⟨v, rfl, rv⟩ := reps1 r
      cases d' with
      | tup zs =>
        cases e1
        rw [Rep] at rv
        obtain ⟨b, us, rfl, s2, r2⟩ := rv
        obtain rfl := r2.free f
        exact ⟨b, us, rfl, .inr ⟨s2.sq, q.sc (by rw [Rep]; exact ⟨b, us, rfl, s2, r2⟩)⟩⟩
      | lst zs =>
        cases e1
        rw [Rep] at rv
        obtain ⟨b, us, G, rfl, s2, _, r2, _⟩ := rv
        obtain rfl := r2.free f
        exact ⟨b, us, rfl, .inl ⟨.inl (.inl s2), q.tup r2⟩⟩
      | frz zs =>
        cases e1
        rw [Rep] at rv
        obtain ⟨b, us, G, rfl, s2, _, r2, _⟩ := rv
        obtain rfl := r2.free f
        exact ⟨b, us, rfl, .inl ⟨.inl (.inl s2), q.tup r2⟩⟩
      | shr zs =>
        cases e1
        rw [Rep] at rv
        obtain ⟨b, us, rfl, s2, _, r2⟩ := rv
        obtain rfl := r2.free f
        exact ⟨b, us, rfl, .inl ⟨s2, q.tup r2⟩⟩
      | _ => cases e1
    · cases e
  · cases e
def dList : List D → Option D
  | [d] => (seqD d).bind fun xs => if D.frees xs then some (.lst xs) else none
  | _ => none
theorem po_list : POn X.K (fun xs H Q => ∃ p ys, xs = [V.ref p] ∧ (SqL X.K H p ys ∨ SqT X.K H p ys) ∧ ∀ l, H l = none → Q (.ref l) (upd H l (.lst ys))) dList := by
  intro Wr H xs vs F d Q fr r e q
  unfold dList at e
  split at e
  · rename_i d'
    obtain ⟨ys, e1, e⟩ := Option.bind_eq_some_iff.mp e
    split at e
    · rename_i f
      cases e
      obtain ⟨v, rfl, rv⟩ := reps1 r
      obtain ⟨a, ws, G, rfl, s, rs, _⟩ := seq_read rv e1
      have hG := rs.free f
      subst hG
      exact ⟨a, ws, rfl, s, fun l hl => q.lst fr rs hl⟩
    · cases e
  · cases e
def dInt : List D → Option D
  | [.int i] => some (.int i)
  | [.bl b] => some (.int (if b then 1 else 0))
  | _ => none
theorem po_int1 : POn X.K (fun xs H Q => (∃ i, xs = [V.int i] ∧ Q (.int i) H) ∨ ∃ k, xs = [V.bl k] ∧ Q (.int (if k then 1 else 0)) H) dInt := by
  intro Wr H xs vs F d Q fr r e q
  unfold dInt at e
  split at e
  · cases e
    obtain ⟨v, rfl, rv⟩ := reps1 r
    cases rep_int rv
    exact .inl ⟨_, rfl, q.int⟩
  · cases e
    obtain ⟨v, rfl, rv⟩ := reps1 r
    cases rep_b rv
    exact .inr ⟨_, rfl, q.int⟩
  · cases e
def dAbs : List D → Option D
  | [.int i] => some (.int (if i < 0 then -i else i))
  | _ => none
theorem po_abs : POn X.K (fun xs H Q => ∃ i, xs = [V.int i] ∧ Q (.int (if i < 0 then -i else i)) H) dAbs := by
  intro Wr H xs vs F d Q fr r e q
  unfold dAbs at e
  split at e
  · cases e
    obtain ⟨v, rfl, rv⟩ := reps1 r
    cases rep_int rv
    exact ⟨_, rfl, q.int⟩
  · cases e
/-! ### sum, max, min, sorted of ints -/
def intsD : List D → Option (List Int)
  | [] => some []
  | .int i :: ds => (intsD ds).map (i :: ·)
  | _ :: _ => none
theorem intsD_map : ∀ (ns : List Int), intsD (ns.map .int) = some ns
  | [] => rfl
  | n :: ns => by show (intsD (ns.map .int)).map (n :: ·) = _; rw [intsD_map ns]; rfl
theorem intsD_eq : ∀ {ds : List D} {ns : List Int}, intsD ds = some ns → ds = ns.map .int
  | [], ns, h => by cases h; rfl
  | .int i :: ds, ns, h => by
    obtain ⟨ms, e, rfl⟩ := Option.map_eq_some_iff.mp h
    rw [intsD_eq e]; rfl
  | .non :: _, _, h => by cases h
  | .bl _ :: _, _, h => by cases h
  | .str _ :: _, _, h => by cases h
  | .tup _ :: _, _, h => by cases h
  | .lst _ :: _, _, h => by cases h
  | .frz _ :: _, _, h => by cases h
  | .shr _ :: _, _, h => by cases h
theorem reps_ints {K : PySem.W.Frag} {Wr : Addr → Prop} {H : Hp} : ∀ {ns : List Int} {vs : List V} {G : List Addr}, Reps K Wr H (ns.map .int) vs G → vs = ns.map V.int
  | [], vs, G, h => by rw [List.map_nil, Reps] at h; exact h.1
  | n :: ns, vs, G, h => by
    rw [List.map_cons, Reps] at h
    obtain ⟨v, r, F1, F2, rfl, h1, h2, rfl⟩ := h
    cases rep_int h1
    rw [reps_ints h2]; rfl
theorem reps_of_ints {K : PySem.W.Frag} {Wr : Addr → Prop} {H : Hp} : ∀ (ns : List Int), Reps K Wr H (ns.map .int) (ns.map V.int) []
  | [] => Reps.nil
  | n :: ns => Reps.cons (F := []) (by rw [Rep]; exact ⟨rfl, rfl⟩) (reps_of_ints ns)
/-- a tuple's walk -/
theorem iter_intTup {prog : Program} {w : World} {A : Around} {E : Value → Shared → Prop} {s : Shared} {l : Addr} {xs : Array (Int × Tok)} {Q : Value → Shared → Prop} (hl : s.heap.IsTuple l (intItems xs))
    (h : ∀ s₂ : Shared, s₂ = { s with heap := s.heap.push { cls := .type "tuple_iterator", data := .fields #[.ref l, .int 0 0] } } →
      (s₂.heap.IsTupleIter s.heap.objs.size l 0 ∧ s₂.heap.IsTuple l (intItems xs)) → (∀ b ∈ [s.heap.objs.size, l], b < s₂.heap.objs.size) → l ≠ s.heap.objs.size → Q (.ref s.heap.objs.size) s₂) :
    wpAny (model prog w) A (pyIter (.ref l)) Q E s := by
  have hlt : l < s.heap.objs.size := by obtain ⟨_, e, _⟩ := hl; exact Heap.lt_size e
  refine wpAny_pyIter_tuple hl (h _ rfl ⟨⟨_, Heap.get?_push_size _ rfl, rfl, rfl⟩, hl.push _⟩ (fun b hb => ?_) (Nat.ne_of_lt hlt))
  show b < (s.heap.push _).objs.size
  rw [Heap.size_push]
  rcases List.mem_cons.mp hb with rfl | hb
  · exact Nat.lt_succ_self _
  · rcases List.mem_cons.mp hb with rfl | hb
    · exact Nat.lt_succ_of_lt hlt
    · cases hb
theorem old_keptT {s : Shared} {l : Addr} {h' : Heap} (hk : ∀ b o, b ∉ [s.heap.objs.size] → (s.heap.push { cls := .type "tuple_iterator", data := .fields #[.ref l, .int 0 0] }).get? b = some o → h'.get? b = some o) :
    ∀ b o, s.heap.get? b = some o → h'.get? b = some o := fun b o e => by
  refine hk b o (fun hm => ?_) (Heap.get?_push_of_some _ e)
  rcases List.mem_cons.mp hm with e1 | hm
  · exact absurd (e1 ▸ Heap.lt_size e) (Nat.lt_irrefl _)
  · cases hm
def rSumT (K : PySem.W.Frag) : List V → Hp → VK → Prop := fun vs H Q => ∃ (a : Addr) (ns : List Int), vs = [V.ref a] ∧ SqT K H a (ns.map V.int) ∧ Q (.int ns.sum) H
theorem cr_sumT (hc : X.calm = true) : CallR X (.builtin "sum") (rSumT X.K) := by
  intro pins s σ H vs us Q I r h
  obtain ⟨a, ns, rfl, hs, q⟩ := h
  obtain ⟨its, rv, hl, _⟩ := I.tuple hs
  rw [Vals.ref1 r]
  have hi := rv.ints
  obtain ⟨xs, e⟩ := hi.allInts.items
  have hn : numsOf (intItems xs).toList = ns := by rw [← e]; exact hi.numsOf
  rw [nums_intItems] at hn
  rw [e] at hl
  refine call_sum_walkG (iter_intTup hl fun s₂ e st hfp hlI => ?_)
  subst e
  refine ⟨_, _, _, _, _, _, numAt xs, rfl, Walks.tuple (A := X.A.in1) (I.ok.hd hc) _ a hlI (intItems xs), st, hfp, (fun _ _ => intItems_at), fun h' tk t' hk => ?_⟩
  have hk2 := old_keptT hk
  refine ⟨.int ns.sum, H, I.kept hk2, ⟨t', ?_⟩, q⟩
  have : (intItems xs).size = xs.size := by simp [intItems]
  rw [this, preSum_eq, List.take_of_length_le (by simp), hn]
def dSum : List D → Option D
  | [d] => (seqD d).bind fun xs => (intsD xs).map fun ns => .int ns.sum
  | _ => none
theorem po_sum : POn X.K (fun vs H Q => rSum X.K vs H Q ∨ rSumT X.K vs H Q) dSum := by
  intro Wr H xs vs F d Q fr r e q
  unfold dSum at e
  split at e
  · obtain ⟨ys, e1, e⟩ := Option.bind_eq_some_iff.mp e
    obtain ⟨ns, e2, rfl⟩ := Option.map_eq_some_iff.mp e
    obtain ⟨v, rfl, rv⟩ := reps1 r
    obtain ⟨a, ws, G, rfl, s, rs, _⟩ := seq_read rv e1
    rw [intsD_eq e2] at rs
    rw [reps_ints rs] at s
    rcases s with s | s
    · exact .inl ⟨a, ns, rfl, s, q.int⟩
    · exact .inr ⟨a, ns, rfl, s, q.int⟩
  · cases e
def maxI : List Int → Int
  | [] => 0
  | x :: xs => xs.foldl (fun a b => if a < b then b else a) x
def minI : List Int → Int
  | [] => 0
  | x :: xs => xs.foldl (fun a b => if b < a then b else a) x
theorem maxI_spec : ∀ {ns : List Int}, ns ≠ [] → maxI ns ∈ ns ∧ ∀ y, y ∈ ns → y ≤ maxI ns := by
  have go : ∀ (xs : List Int) (x : Int), (xs.foldl (fun a b => if a < b then b else a) x = x ∨ xs.foldl (fun a b => if a < b then b else a) x ∈ xs) ∧ x ≤ xs.foldl (fun a b => if a < b then b else a) x ∧ ∀ y, y ∈ xs → y ≤ xs.foldl (fun a b => if a < b then b else a) x := by
    intro xs
    induction xs with
    | nil => intro x; exact ⟨.inl rfl, Int.le_refl _, fun _ z => by cases z⟩
    | cons z zs ih =>
      intro x
      rw [List.foldl_cons]
      obtain ⟨h1, h2, h3⟩ := ih (if x < z then z else x)
      refine ⟨?_, ?_, fun y hy => ?_⟩
      · rcases h1 with h1 | h1
        · rw [h1]; split
          · exact .inr List.mem_cons_self
          · exact .inl rfl
        · exact .inr (List.mem_cons_of_mem _ h1)
      · refine Int.le_trans ?_ h2; split <;> omega
      · rcases List.mem_cons.mp hy with rfl | hy
        · refine Int.le_trans ?_ h2; split <;> omega
        · exact h3 y hy
  intro ns h
  cases ns with
  | nil => exact absurd rfl h
  | cons x xs =>
    obtain ⟨h1, h2, h3⟩ := go xs x
    refine ⟨?_, fun y hy => ?_⟩
    · rcases h1 with h1 | h1
      · show xs.foldl _ x ∈ _; rw [h1]; exact List.mem_cons_self
      · exact List.mem_cons_of_mem _ h1
    · rcases List.mem_cons.mp hy with rfl | hy
      · exact h2
      · exact h3 y hy
theorem minI_spec : ∀ {ns : List Int}, ns ≠ [] → minI ns ∈ ns ∧ ∀ y, y ∈ ns → minI ns ≤ y := by
  have go : ∀ (xs : List Int) (x : Int), (xs.foldl (fun a b => if b < a then b else a) x = x ∨ xs.foldl (fun a b => if b < a then b else a) x ∈ xs) ∧ xs.foldl (fun a b => if b < a then b else a) x ≤ x ∧ ∀ y, y ∈ xs → xs.foldl (fun a b => if b < a then b else a) x ≤ y := by
    intro xs
    induction xs with
    | nil => intro x; exact ⟨.inl rfl, Int.le_refl _, fun _ z => by cases z⟩
    | cons z zs ih =>
      intro x
      rw [List.foldl_cons]
      obtain ⟨h1, h2, h3⟩ := ih (if z < x then z else x)
      refine ⟨?_, ?_, fun y hy => ?_⟩
      · rcases h1 with h1 | h1
        · rw [h1]; split
          · exact .inr List.mem_cons_self
          · exact .inl rfl
        · exact .inr (List.mem_cons_of_mem _ h1)
      · refine Int.le_trans h2 ?_; split <;> omega
      · rcases List.mem_cons.mp hy with rfl | hy
        · refine Int.le_trans h2 ?_; split <;> omega
        · exact h3 y hy
  intro ns h
  cases ns with
  | nil => exact absurd rfl h
  | cons x xs =>
    obtain ⟨h1, h2, h3⟩ := go xs x
    refine ⟨?_, fun y hy => ?_⟩
    · rcases h1 with h1 | h1
      · show xs.foldl _ x ∈ _; rw [h1]; exact List.mem_cons_self
      · exact List.mem_cons_of_mem _ h1
    · rcases List.mem_cons.mp hy with rfl | hy
      · exact h2
      · exact h3 y hy
theorem max_uniq {ns : List Int} {m : Int} (h1 : m ∈ ns) (h2 : ∀ y, y ∈ ns → y ≤ m) : m = maxI ns := by
  have hne : ns ≠ [] := fun z => by rw [z] at h1; cases h1
  obtain ⟨k1, k2⟩ := maxI_spec hne
  have := h2 _ k1
  have := k2 _ h1
  omega
theorem min_uniq {ns : List Int} {m : Int} (h1 : m ∈ ns) (h2 : ∀ y, y ∈ ns → m ≤ y) : m = minI ns := by
  have hne : ns ≠ [] := fun z => by rw [z] at h1; cases h1
  obtain ⟨k1, k2⟩ := minI_spec hne
  have := h2 _ k1
  have := k2 _ h1
  omega
section
open PySem.Calls
variable {prog : Program} {w : World} {A : Around} {E : Value → Shared → Prop} {s : Shared} {l : Addr} {its : List Value} {ns : List Int} {Q : Value → Shared → Prop}
theorem min_rawT (hh : A.handled = none) (hl : s.heap.IsTuple l its.toArray) (hi : IntsAre its ns) (hne : 0 < ns.length)
    (h : ∀ h' tk M t', (∀ b o, s.heap.get? b = some o → h'.get? b = some o) → M ∈ ns → (∀ a, a ∈ ns → M ≤ a) → Q (.int M t') { s with heap := h', toks := tk }) : wpAny (model prog w) A (call (.builtin "min") [.ref l]) Q E s := by
  obtain ⟨xs, e⟩ := hi.allInts.items
  have hn : numsOf (intItems xs).toList = ns := by rw [← e]; exact hi.numsOf
  rw [nums_intItems] at hn
  subst hn
  rw [e] at hl
  have hsz : 0 < xs.size := by simpa using hne
  obtain ⟨o, ho, hc, n, hd⟩ := id hl
  have hlt := Heap.lt_size ho
  refine PySem.call_min_walk (wpAny_pyIter_tuple hl ?_)
  refine ⟨_, _, _, _, _, _, _, rfl, Walks.tuple (A := A.in1) hh s.heap.objs.size l (Nat.ne_of_lt hlt) (intItems xs), ⟨⟨_, Heap.get?_push_size _ rfl, rfl, rfl⟩, hl.push _⟩, fun b hb => ?_, by simpa [intItems] using hsz, CmpOf.ints_lt (numAt xs) (fun _ _ => intItems_at), fun v h' tk hP hk => ?_⟩
  · rw [Heap.size_push]
    rcases List.mem_cons.mp hb with rfl | hb
    · exact Nat.lt_succ_self _
    · rcases List.mem_cons.mp hb with rfl | hb
      · exact Nat.lt_succ_of_lt hlt
      · cases hb
  · have hv : (intItems xs)[argBest (fun i j => decide (numAt xs i < numAt xs j)) (xs.size - 1)]? = some v := by simpa [intItems] using hP
    obtain ⟨t, rfl⟩ := intItems_at hv
    obtain ⟨h1, h2⟩ := argBest_lt (numAt xs) (xs.size - 1)
    refine h h' tk _ t (fun b o e => hk b o (fun hm => ?_) (Heap.get?_push_of_some _ e)) ?_ fun a ha => ?_
    · exact absurd (Heap.lt_size e) ((List.mem_singleton.mp hm) ▸ Nat.lt_irrefl _)
    · rw [numAt_eq]; exact PySem.getD_mem (by rw [List.length_map, Array.length_toList]; omega)
    · obtain ⟨j, hj, rfl⟩ := mem_getD ha
      rw [List.length_map, Array.length_toList] at hj
      rw [← numAt_eq]; exact h2 j (by omega)
theorem max_rawT (hh : A.handled = none) (hl : s.heap.IsTuple l its.toArray) (hi : IntsAre its ns) (hne : 0 < ns.length)
    (h : ∀ h' tk M t', (∀ b o, s.heap.get? b = some o → h'.get? b = some o) → M ∈ ns → (∀ a, a ∈ ns → a ≤ M) → Q (.int M t') { s with heap := h', toks := tk }) : wpAny (model prog w) A (call (.builtin "max") [.ref l]) Q E s := by
  obtain ⟨xs, e⟩ := hi.allInts.items
  have hn : numsOf (intItems xs).toList = ns := by rw [← e]; exact hi.numsOf
  rw [nums_intItems] at hn
  subst hn
  rw [e] at hl
  have hsz : 0 < xs.size := by simpa using hne
  obtain ⟨o, ho, hc, n, hd⟩ := id hl
  have hlt := Heap.lt_size ho
  refine PySem.call_max_walk (wpAny_pyIter_tuple hl ?_)
  refine ⟨_, _, _, _, _, _, _, rfl, Walks.tuple (A := A.in1) hh s.heap.objs.size l (Nat.ne_of_lt hlt) (intItems xs), ⟨⟨_, Heap.get?_push_size _ rfl, rfl, rfl⟩, hl.push _⟩, fun b hb => ?_, by simpa [intItems] using hsz, CmpOf.ints_gt (numAt xs) (fun _ _ => intItems_at), fun v h' tk hP hk => ?_⟩
  · rw [Heap.size_push]
    rcases List.mem_cons.mp hb with rfl | hb
    · exact Nat.lt_succ_self _
    · rcases List.mem_cons.mp hb with rfl | hb
      · exact Nat.lt_succ_of_lt hlt
      · cases hb
  · have hv : (intItems xs)[argBest (fun i j => decide (numAt xs i > numAt xs j)) (xs.size - 1)]? = some v := by simpa [intItems] using hP
    obtain ⟨t, rfl⟩ := intItems_at hv
    obtain ⟨h1, h2⟩ := argBest_gt (numAt xs) (xs.size - 1)
    refine h h' tk _ t (fun b o e => hk b o (fun hm => ?_) (Heap.get?_push_of_some _ e)) ?_ fun a ha => ?_
    · exact absurd (Heap.lt_size e) ((List.mem_singleton.mp hm) ▸ Nat.lt_irrefl _)
    · rw [numAt_eq]; exact PySem.getD_mem (by rw [List.length_map, Array.length_toList]; omega)
    · obtain ⟨j, hj, rfl⟩ := mem_getD ha
      rw [List.length_map, Array.length_toList] at hj
      rw [← numAt_eq]; exact h2 j (by omega)
end
/-- max(t), min(t) of a tuple of ints -/
def rMaxT (K : PySem.W.Frag) : List V → Hp → VK → Prop := fun vs H Q => ∃ (a : Addr) (ns : List Int), vs = [V.ref a] ∧ SqT K H a (ns.map V.int) ∧ 0 < ns.length ∧ ∀ m, m ∈ ns → (∀ y, y ∈ ns → y ≤ m) → Q (.int m) H
def rMinT (K : PySem.W.Frag) : List V → Hp → VK → Prop := fun vs H Q => ∃ (a : Addr) (ns : List Int), vs = [V.ref a] ∧ SqT K H a (ns.map V.int) ∧ 0 < ns.length ∧ ∀ m, m ∈ ns → (∀ y, y ∈ ns → m ≤ y) → Q (.int m) H
theorem cr_maxT (hc : X.calm = true) : CallR X (.builtin "max") (rMaxT X.K) := by
  intro pins s σ H vs us Q I r h
  obtain ⟨a, ns, rfl, hs, hne, q⟩ := h
  obtain ⟨its, rv, hl, _⟩ := I.tuple hs
  rw [Vals.ref1 r]
  exact max_rawT (I.ok.hd hc) hl rv.ints hne fun h' tk m t' hk h1 h2 => ⟨.int _, H, I.kept hk, ⟨_, rfl⟩, q m h1 h2⟩
theorem cr_minT (hc : X.calm = true) : CallR X (.builtin "min") (rMinT X.K) := by
  intro pins s σ H vs us Q I r h
  obtain ⟨a, ns, rfl, hs, hne, q⟩ := h
  obtain ⟨its, rv, hl, _⟩ := I.tuple hs
  rw [Vals.ref1 r]
  exact min_rawT (I.ok.hd hc) hl rv.ints hne fun h' tk m t' hk h1 h2 => ⟨.int _, H, I.kept hk, ⟨_, rfl⟩, q m h1 h2⟩
/-- max(xs) of a list, max(i, j) -/
def dMax : List D → Option D
  | [.int i, .int j] => some (.int (if j > i then j else i))
  | [.lst xs] => (intsD xs).bind fun ns => if ns ≠ [] then some (.int (maxI ns)) else none
  | [.shr xs] => (intsD xs).bind fun ns => if ns ≠ [] then some (.int (maxI ns)) else none
  | [.frz xs] => (intsD xs).bind fun ns => if ns ≠ [] then some (.int (maxI ns)) else none
  | [.tup xs] => (intsD xs).bind fun ns => if ns ≠ [] then some (.int (maxI ns)) else none
  | _ => none
def dMin : List D → Option D
  | [.int i, .int j] => some (.int (if j < i then j else i))
  | [.lst xs] => (intsD xs).bind fun ns => if ns ≠ [] then some (.int (minI ns)) else none
  | [.shr xs] => (intsD xs).bind fun ns => if ns ≠ [] then some (.int (minI ns)) else none
  | [.frz xs] => (intsD xs).bind fun ns => if ns ≠ [] then some (.int (minI ns)) else none
  | [.tup xs] => (intsD xs).bind fun ns => if ns ≠ [] then some (.int (minI ns)) else none
  | _ => none
theorem po_max : POn X.K (fun xs H Q => (∃ i j, xs = [V.int i, V.int j] ∧ Q (.int (if j > i then j else i)) H) ∨ rMax X.K xs H Q ∨ rMaxT X.K xs H Q) dMax := by
  intro Wr H xs vs F d Q fr r e q
  unfold dMax at e
  split at e
  · cases e
    obtain ⟨v, w, F1, F2, rfl, r1, r2, _⟩ := reps2 r
    cases rep_int r1; cases rep_int r2
    exact .inl ⟨_, _, rfl, q.int⟩
  · rename_i ys
    obtain ⟨ns, e2, e⟩ := Option.bind_eq_some_iff.mp e
    split at e
    · rename_i hne
      cases e
      obtain ⟨v, rfl, rv⟩ := reps1 r
      rw [Rep, intsD_eq e2] at rv
      obtain ⟨a, ws, G, rfl, s, _, rs, _⟩ := rv
      rw [reps_ints rs] at s
      exact .inr (.inl ⟨a, ns, rfl, .inl (.inl s), List.length_pos_iff.mpr hne, fun m h1 h2 => by rw [max_uniq h1 h2]; exact q.int⟩)
    · cases e
  · rename_i ys
    obtain ⟨ns, e2, e⟩ := Option.bind_eq_some_iff.mp e
    split at e
    · rename_i hne
      cases e
      obtain ⟨v, rfl, rv⟩ := reps1 r
      rw [Rep, intsD_eq e2] at rv
      obtain ⟨a, ws, rfl, s, _, rs⟩ := rv
      rw [reps_ints rs] at s
      exact .inr (.inl ⟨a, ns, rfl, s, List.length_pos_iff.mpr hne, fun m h1 h2 => by rw [max_uniq h1 h2]; exact q.int⟩)
    · cases e
  · rename_i ys
    obtain ⟨ns, e2, e⟩ := Option.bind_eq_some_iff.mp e
    split at e
    · rename_i hne
      cases e
      obtain ⟨v, rfl, rv⟩ := reps1 r
      rw [Rep, intsD_eq e2] at rv
      obtain ⟨a, ws, G, rfl, s, _, rs, _⟩ := rv
      rw [reps_ints rs] at s
      exact .inr (.inl ⟨a, ns, rfl, .inl (.inl s), List.length_pos_iff.mpr hne, fun m h1 h2 => by rw [max_uniq h1 h2]; exact q.int⟩)
    · cases e
  · rename_i ys
    obtain ⟨ns, e2, e⟩ := Option.bind_eq_some_iff.mp e
    split at e
    · rename_i hne
      cases e
      obtain ⟨v, rfl, rv⟩ := reps1 r
      rw [Rep, intsD_eq e2] at rv
      obtain ⟨a, ws, rfl, s, rs⟩ := rv
      rw [reps_ints rs] at s
      exact .inr (.inr ⟨a, ns, rfl, s.sq, List.length_pos_iff.mpr hne, fun m h1 h2 => by rw [max_uniq h1 h2]; exact q.int⟩)
    · cases e
  · cases e
theorem po_min : POn X.K (fun xs H Q => (∃ i j, xs = [V.int i, V.int j] ∧ Q (.int (if j < i then j else i)) H) ∨ rMin X.K xs H Q ∨ rMinT X.K xs H Q) dMin := by
  intro Wr H xs vs F d Q fr r e q
  unfold dMin at e
  split at e
  · cases e
    obtain ⟨v, w, F1, F2, rfl, r1, r2, _⟩ := reps2 r
    cases rep_int r1; cases rep_int r2
    exact .inl ⟨_, _, rfl, q.int⟩
  · rename_i ys
    obtain ⟨ns, e2, e⟩ := Option.bind_eq_some_iff.mp e
    split at e
    · rename_i hne
      cases e
      obtain ⟨v, rfl, rv⟩ := reps1 r
      rw [Rep, intsD_eq e2] at rv
      obtain ⟨a, ws, G, rfl, s, _, rs, _⟩ := rv
      rw [reps_ints rs] at s
      exact .inr (.inl ⟨a, ns, rfl, .inl (.inl s), List.length_pos_iff.mpr hne, fun m h1 h2 => by rw [min_uniq h1 h2]; exact q.int⟩)
    · cases e
  · rename_i ys
    obtain ⟨ns, e2, e⟩ := Option.bind_eq_some_iff.mp e
    split at e
    · rename_i hne
      cases e
      obtain ⟨v, rfl, rv⟩ := reps1 r
      rw [Rep, intsD_eq e2] at rv
      obtain ⟨a, ws, rfl, s, _, rs⟩ := rv
      rw [reps_ints rs] at s
      exact .inr (.inl ⟨a, ns, rfl, s, List.length_pos_iff.mpr hne, fun m h1 h2 => by rw [min_uniq h1 h2]; exact q.int⟩)
    · cases e
  · rename_i ys
    obtain ⟨ns, e2, e⟩ := Option.bind_eq_some_iff.mp e
    split at e
    · rename_i hne
      cases e
      obtain ⟨v, rfl, rv⟩ := reps1 r
      rw [Rep, intsD_eq e2] at rv
      obtain ⟨a, ws, G, rfl, s, _, rs, _⟩ := rv
      rw [reps_ints rs] at s
      exact .inr (.inl ⟨a, ns, rfl, .inl (.inl s), List.length_pos_iff.mpr hne, fun m h1 h2 => by rw [min_uniq h1 h2]; exact q.int⟩)
    · cases e
  · rename_i ys
    obtain ⟨ns, e2, e⟩ := Option.bind_eq_some_iff.mp e
    split at e
    · rename_i hne
      cases e
      obtain ⟨v, rfl, rv⟩ := reps1 r
      rw [Rep, intsD_eq e2] at rv
      obtain ⟨a, ws, rfl, s, rs⟩ := rv
      rw [reps_ints rs] at s
      exact .inr (.inr ⟨a, ns, rfl, s.sq, List.length_pos_iff.mpr hne, fun m h1 h2 => by rw [min_uniq h1 h2]; exact q.int⟩)
    · cases e
  · cases e
/-! ### by name -/
theorem df_add {pa pb : Env → Option D} (ha : DB X a pa) (hb : DB X b pb) : DF X (.BinOp a .Add b pos) (p2 dAdd pa pb) := df_op ((op_add.or op_add_str).or (op_catX.or op_cat)) po_add ha hb
theorem de_add {ma mb : Env → Option (Tm × Env)} (ha : DO X a ma) (hb : DO X b mb) : DE X (.BinOp a .Add b pos) (opE2 dAdd ma mb) := de_op ((op_add.or op_add_str).or (op_catX.or op_cat)) po_add ha hb
theorem df_sub {pa pb : Env → Option D} (ha : DB X a pa) (hb : DB X b pb) : DF X (.BinOp a .Sub b pos) (p2 dSub pa pb) := df_op op_sub po_sub ha hb
theorem de_sub {ma mb : Env → Option (Tm × Env)} (ha : DO X a ma) (hb : DO X b mb) : DE X (.BinOp a .Sub b pos) (opE2 dSub ma mb) := de_op op_sub po_sub ha hb
theorem df_mul {pa pb : Env → Option D} (ha : DB X a pa) (hb : DB X b pb) : DF X (.BinOp a .Mult b pos) (p2 dMul pa pb) := df_op ((op_mul.or op_mulW).or op_rep) po_mul ha hb
theorem de_mul {ma mb : Env → Option (Tm × Env)} (ha : DO X a ma) (hb : DO X b mb) : DE X (.BinOp a .Mult b pos) (opE2 dMul ma mb) := de_op ((op_mul.or op_mulW).or op_rep) po_mul ha hb
theorem df_div {pa pb : Env → Option D} (ha : DB X a pa) (hb : DB X b pb) : DF X (.BinOp a .FloorDiv b pos) (p2 dDiv pa pb) := df_op op_fdivW po_div ha hb
theorem de_div {ma mb : Env → Option (Tm × Env)} (ha : DO X a ma) (hb : DO X b mb) : DE X (.BinOp a .FloorDiv b pos) (opE2 dDiv ma mb) := de_op op_fdivW po_div ha hb
theorem df_mod {pa pb : Env → Option D} (ha : DB X a pa) (hb : DB X b pb) : DF X (.BinOp a .Mod b pos) (p2 dMod pa pb) := df_op op_mod po_mod ha hb
theorem de_mod {ma mb : Env → Option (Tm × Env)} (ha : DO X a ma) (hb : DO X b mb) : DE X (.BinOp a .Mod b pos) (opE2 dMod ma mb) := de_op op_mod po_mod ha hb
theorem df_pow {pa pb : Env → Option D} (ha : DB X a pa) (hb : DB X b pb) : DF X (.BinOp a .Pow b pos) (p2 dPow pa pb) := df_op op_pow po_pow ha hb
theorem de_pow {ma mb : Env → Option (Tm × Env)} (ha : DO X a ma) (hb : DO X b mb) : DE X (.BinOp a .Pow b pos) (opE2 dPow ma mb) := de_op op_pow po_pow ha hb
theorem df_neg {pa : Env → Option D} (ha : DB X a pa) : DF X (.UnaryOp .USub a pos) (p1 dNeg pa) := df_un un_neg po_neg ha
theorem de_neg {ma : Env → Option (Tm × Env)} (ha : DO X a ma) : DE X (.UnaryOp .USub a pos) (opE1 dNeg ma) := de_un un_neg po_neg ha
theorem df_lt {pa pb : Env → Option D} (ha : DB X a pa) (hb : DB X b pb) : DF X (.Compare a [.Lt] [b] pos) (p2 dLt pa pb) := df_cmp op_lt po_lt ha hb (nomark _)
theorem dt_lt {pa pb : Env → Option D} (ha : DB X a pa) (hb : DB X b pb) : DT X (.Compare a [.Lt] [b] pos) (tB' (p2 dLt pa pb)) := dt_cmp op_lt po_lt ha hb (nomark _)
theorem de_lt {ma mb : Env → Option (Tm × Env)} (ha : DO X a ma) (hb : DO X b mb) : DE X (.Compare a [.Lt] [b] pos) (opE2 dLt ma mb) := de_cmp op_lt po_lt ha hb (nomark _)
theorem dte_lt {ma mb : Env → Option (Tm × Env)} (ha : DO X a ma) (hb : DO X b mb) : DTE X (.Compare a [.Lt] [b] pos) (blE (opE2 dLt ma mb)) := dte_cmp op_lt po_lt ha hb (nomark _)
theorem df_le {pa pb : Env → Option D} (ha : DB X a pa) (hb : DB X b pb) : DF X (.Compare a [.LtE] [b] pos) (p2 dLe pa pb) := df_cmp op_le po_le ha hb (nomark _)
theorem dt_le {pa pb : Env → Option D} (ha : DB X a pa) (hb : DB X b pb) : DT X (.Compare a [.LtE] [b] pos) (tB' (p2 dLe pa pb)) := dt_cmp op_le po_le ha hb (nomark _)
theorem de_le {ma mb : Env → Option (Tm × Env)} (ha : DO X a ma) (hb : DO X b mb) : DE X (.Compare a [.LtE] [b] pos) (opE2 dLe ma mb) := de_cmp op_le po_le ha hb (nomark _)
theorem dte_le {ma mb : Env → Option (Tm × Env)} (ha : DO X a ma) (hb : DO X b mb) : DTE X (.Compare a [.LtE] [b] pos) (blE (opE2 dLe ma mb)) := dte_cmp op_le po_le ha hb (nomark _)
theorem df_gt {pa pb : Env → Option D} (ha : DB X a pa) (hb : DB X b pb) : DF X (.Compare a [.Gt] [b] pos) (p2 dGt pa pb) := df_cmp op_gt po_gt ha hb (nomark _)
theorem dt_gt {pa pb : Env → Option D} (ha : DB X a pa) (hb : DB X b pb) : DT X (.Compare a [.Gt] [b] pos) (tB' (p2 dGt pa pb)) := dt_cmp op_gt po_gt ha hb (nomark _)
theorem de_gt {ma mb : Env → Option (Tm × Env)} (ha : DO X a ma) (hb : DO X b mb) : DE X (.Compare a [.Gt] [b] pos) (opE2 dGt ma mb) := de_cmp op_gt po_gt ha hb (nomark _)
theorem dte_gt {ma mb : Env → Option (Tm × Env)} (ha : DO X a ma) (hb : DO X b mb) : DTE X (.Compare a [.Gt] [b] pos) (blE (opE2 dGt ma mb)) := dte_cmp op_gt po_gt ha hb (nomark _)
theorem df_ge {pa pb : Env → Option D} (ha : DB X a pa) (hb : DB X b pb) : DF X (.Compare a [.GtE] [b] pos) (p2 dGe pa pb) := df_cmp op_ge po_ge ha hb (nomark _)
theorem dt_ge {pa pb : Env → Option D} (ha : DB X a pa) (hb : DB X b pb) : DT X (.Compare a [.GtE] [b] pos) (tB' (p2 dGe pa pb)) := dt_cmp op_ge po_ge ha hb (nomark _)
theorem de_ge {ma mb : Env → Option (Tm × Env)} (ha : DO X a ma) (hb : DO X b mb) : DE X (.Compare a [.GtE] [b] pos) (opE2 dGe ma mb) := de_cmp op_ge po_ge ha hb (nomark _)
theorem dte_ge {ma mb : Env → Option (Tm × Env)} (ha : DO X a ma) (hb : DO X b mb) : DTE X (.Compare a [.GtE] [b] pos) (blE (opE2 dGe ma mb)) := dte_cmp op_ge po_ge ha hb (nomark _)
theorem df_eq {pa pb : Env → Option D} (ha : DB X a pa) (hb : DB X b pb) : DF X (.Compare a [.Eq] [b] pos) (p2 dEq pa pb) := df_cmp op_eq po_eq ha hb (nomark _)
theorem dt_eq {pa pb : Env → Option D} (ha : DB X a pa) (hb : DB X b pb) : DT X (.Compare a [.Eq] [b] pos) (tB' (p2 dEq pa pb)) := dt_cmp op_eq po_eq ha hb (nomark _)
theorem de_eq {ma mb : Env → Option (Tm × Env)} (ha : DO X a ma) (hb : DO X b mb) : DE X (.Compare a [.Eq] [b] pos) (opE2 dEq ma mb) := de_cmp op_eq po_eq ha hb (nomark _)
theorem dte_eq {ma mb : Env → Option (Tm × Env)} (ha : DO X a ma) (hb : DO X b mb) : DTE X (.Compare a [.Eq] [b] pos) (blE (opE2 dEq ma mb)) := dte_cmp op_eq po_eq ha hb (nomark _)
theorem df_ne {pa pb : Env → Option D} (ha : DB X a pa) (hb : DB X b pb) : DF X (.Compare a [.NotEq] [b] pos) (p2 dNe pa pb) := df_cmp op_ne po_ne ha hb (nomark _)
theorem dt_ne {pa pb : Env → Option D} (ha : DB X a pa) (hb : DB X b pb) : DT X (.Compare a [.NotEq] [b] pos) (tB' (p2 dNe pa pb)) := dt_cmp op_ne po_ne ha hb (nomark _)
theorem de_ne {ma mb : Env → Option (Tm × Env)} (ha : DO X a ma) (hb : DO X b mb) : DE X (.Compare a [.NotEq] [b] pos) (opE2 dNe ma mb) := de_cmp op_ne po_ne ha hb (nomark _)
theorem dte_ne {ma mb : Env → Option (Tm × Env)} (ha : DO X a ma) (hb : DO X b mb) : DTE X (.Compare a [.NotEq] [b] pos) (blE (opE2 dNe ma mb)) := dte_cmp op_ne po_ne ha hb (nomark _)
theorem df_ixs {pa pb : Env → Option D} (ha : DB X a pa) (hb : DB X b pb) (hs : PlainIx b := by intro _ _; rfl) : DF X (.Subscript a b pos) (p2 dIx pa pb) := df_ix ix_seq po_ix ha hb hs
theorem de_ixs {ma mb : Env → Option (Tm × Env)} (ha : DO X a ma) (hb : DO X b mb) (hs : PlainIx b := by intro _ _; rfl) : DE X (.Subscript a b pos) (opE2 dIx ma mb) := de_ix ix_seq po_ix ha hb hs
theorem df_len {p : Pos} {ps : Env → Option (List D)} (hg : Gl X "len") (hm : X.mg "len" = none) (ha : DBs X (e :: es) ps) (he : starEach (e :: es) X.env = (false, eval e X.env) :: starEach es X.env := by rfl) (hpl : (backTo pos (starEach es X.env)).any (·.1) = false := by rfl) : DF X (.Call (.Name "len" p) (e :: es) [] pos) (pn dLen ps) := df_callB (call_len_seq.or call_len_str) po_len hg hm (by decide +kernel) ha (by decide) (by decide) he hpl
theorem de_len {p : Pos} {ms : Env → Option (List Tm × Env)} (hg : Gl X "len") (hm : X.mg "len" = none) (ha : DAs X (e :: es) ms) (he : starEach (e :: es) X.env = (false, eval e X.env) :: starEach es X.env := by rfl) (hpl : (backTo pos (starEach es X.env)).any (·.1) = false := by rfl) : DE X (.Call (.Name "len" p) (e :: es) [] pos) (opEn dLen ms) := de_callB (call_len_seq.or call_len_str) po_len hg hm (by decide +kernel) ha (by decide) (by decide) he hpl
theorem df_sum {p : Pos} {ps : Env → Option (List D)} (hc : X.calm = true) (hg : Gl X "sum") (hm : X.mg "sum" = none) (ha : DBs X (e :: es) ps) (he : starEach (e :: es) X.env = (false, eval e X.env) :: starEach es X.env := by rfl) (hpl : (backTo pos (starEach es X.env)).any (·.1) = false := by rfl) : DF X (.Call (.Name "sum" p) (e :: es) [] pos) (pn dSum ps) := df_callB ((cr_sum hc).or (cr_sumT hc)) po_sum hg hm (by decide +kernel) ha (by decide) (by decide) he hpl
theorem de_sum {p : Pos} {ms : Env → Option (List Tm × Env)} (hc : X.calm = true) (hg : Gl X "sum") (hm : X.mg "sum" = none) (ha : DAs X (e :: es) ms) (he : starEach (e :: es) X.env = (false, eval e X.env) :: starEach es X.env := by rfl) (hpl : (backTo pos (starEach es X.env)).any (·.1) = false := by rfl) : DE X (.Call (.Name "sum" p) (e :: es) [] pos) (opEn dSum ms) := de_callB ((cr_sum hc).or (cr_sumT hc)) po_sum hg hm (by decide +kernel) ha (by decide) (by decide) he hpl
theorem df_max {p : Pos} {ps : Env → Option (List D)} (hc : X.calm = true) (hg : Gl X "max") (hm : X.mg "max" = none) (ha : DBs X (e :: es) ps) (he : starEach (e :: es) X.env = (false, eval e X.env) :: starEach es X.env := by rfl) (hpl : (backTo pos (starEach es X.env)).any (·.1) = false := by rfl) : DF X (.Call (.Name "max" p) (e :: es) [] pos) (pn dMax ps) := df_callB ((call_max2 hc).or ((cr_max hc).or (cr_maxT hc))) po_max hg hm (by decide +kernel) ha (by decide) (by decide) he hpl
theorem de_max {p : Pos} {ms : Env → Option (List Tm × Env)} (hc : X.calm = true) (hg : Gl X "max") (hm : X.mg "max" = none) (ha : DAs X (e :: es) ms) (he : starEach (e :: es) X.env = (false, eval e X.env) :: starEach es X.env := by rfl) (hpl : (backTo pos (starEach es X.env)).any (·.1) = false := by rfl) : DE X (.Call (.Name "max" p) (e :: es) [] pos) (opEn dMax ms) := de_callB ((call_max2 hc).or ((cr_max hc).or (cr_maxT hc))) po_max hg hm (by decide +kernel) ha (by decide) (by decide) he hpl
theorem df_min {p : Pos} {ps : Env → Option (List D)} (hc : X.calm = true) (hg : Gl X "min") (hm : X.mg "min" = none) (ha : DBs X (e :: es) ps) (he : starEach (e :: es) X.env = (false, eval e X.env) :: starEach es X.env := by rfl) (hpl : (backTo pos (starEach es X.env)).any (·.1) = false := by rfl) : DF X (.Call (.Name "min" p) (e :: es) [] pos) (pn dMin ps) := df_callB ((call_min2 hc).or ((cr_min hc).or (cr_minT hc))) po_min hg hm (by decide +kernel) ha (by decide) (by decide) he hpl
theorem de_min {p : Pos} {ms : Env → Option (List Tm × Env)} (hc : X.calm = true) (hg : Gl X "min") (hm : X.mg "min" = none) (ha : DAs X (e :: es) ms) (he : starEach (e :: es) X.env = (false, eval e X.env) :: starEach es X.env := by rfl) (hpl : (backTo pos (starEach es X.env)).any (·.1) = false := by rfl) : DE X (.Call (.Name "min" p) (e :: es) [] pos) (opEn dMin ms) := de_callB ((call_min2 hc).or ((cr_min hc).or (cr_minT hc))) po_min hg hm (by decide +kernel) ha (by decide) (by decide) he hpl
theorem df_abs {p : Pos} {ps : Env → Option (List D)} (hg : Gl X "abs") (hm : X.mg "abs" = none) (ha : DBs X (e :: es) ps) (he : starEach (e :: es) X.env = (false, eval e X.env) :: starEach es X.env := by rfl) (hpl : (backTo pos (starEach es X.env)).any (·.1) = false := by rfl) : DF X (.Call (.Name "abs" p) (e :: es) [] pos) (pn dAbs ps) := df_callB (call_abs) po_abs hg hm (by decide +kernel) ha (by decide) (by decide) he hpl
theorem de_abs {p : Pos} {ms : Env → Option (List Tm × Env)} (hg : Gl X "abs") (hm : X.mg "abs" = none) (ha : DAs X (e :: es) ms) (he : starEach (e :: es) X.env = (false, eval e X.env) :: starEach es X.env := by rfl) (hpl : (backTo pos (starEach es X.env)).any (·.1) = false := by rfl) : DE X (.Call (.Name "abs" p) (e :: es) [] pos) (opEn dAbs ms) := de_callB (call_abs) po_abs hg hm (by decide +kernel) ha (by decide) (by decide) he hpl
theorem df_tuple {p : Pos} {ps : Env → Option (List D)} (hg : Gl X "tuple") (hm : X.mg "tuple" = none) (ha : DBs X (e :: es) ps) (he : starEach (e :: es) X.env = (false, eval e X.env) :: starEach es X.env := by rfl) (hpl : (backTo pos (starEach es X.env)).any (·.1) = false := by rfl) : DF X (.Call (.Name "tuple" p) (e :: es) [] pos) (pn dTuple ps) := df_callTy (call_tupleX) po_tuple hg hm (by decide +kernel) ha (by decide) (by decide) he hpl
theorem de_tuple {p : Pos} {ms : Env → Option (List Tm × Env)} (hg : Gl X "tuple") (hm : X.mg "tuple" = none) (ha : DAs X (e :: es) ms) (he : starEach (e :: es) X.env = (false, eval e X.env) :: starEach es X.env := by rfl) (hpl : (backTo pos (starEach es X.env)).any (·.1) = false := by rfl) : DE X (.Call (.Name "tuple" p) (e :: es) [] pos) (opEn dTuple ms) := de_callTy (call_tupleX) po_tuple hg hm (by decide +kernel) ha (by decide) (by decide) he hpl
theorem df_list {p : Pos} {ps : Env → Option (List D)} (hg : Gl X "list") (hm : X.mg "list" = none) (ha : DBs X (e :: es) ps) (he : starEach (e :: es) X.env = (false, eval e X.env) :: starEach es X.env := by rfl) (hpl : (backTo pos (starEach es X.env)).any (·.1) = false := by rfl) : DF X (.Call (.Name "list" p) (e :: es) [] pos) (pn dList ps) := df_callTy (call_list_of) po_list hg hm (by decide +kernel) ha (by decide) (by decide) he hpl
theorem de_list {p : Pos} {ms : Env → Option (List Tm × Env)} (hg : Gl X "list") (hm : X.mg "list" = none) (ha : DAs X (e :: es) ms) (he : starEach (e :: es) X.env = (false, eval e X.env) :: starEach es X.env := by rfl) (hpl : (backTo pos (starEach es X.env)).any (·.1) = false := by rfl) : DE X (.Call (.Name "list" p) (e :: es) [] pos) (opEn dList ms) := de_callTy (call_list_of) po_list hg hm (by decide +kernel) ha (by decide) (by decide) he hpl
theorem df_toint {p : Pos} {ps : Env → Option (List D)} (hg : Gl X "int") (hm : X.mg "int" = none) (ha : DBs X (e :: es) ps) (he : starEach (e :: es) X.env = (false, eval e X.env) :: starEach es X.env := by rfl) (hpl : (backTo pos (starEach es X.env)).any (·.1) = false := by rfl) : DF X (.Call (.Name "int" p) (e :: es) [] pos) (pn dInt ps) := df_callTy (call_int1) po_int1 hg hm (by decide +kernel) ha (by decide) (by decide) he hpl
theorem de_toint {p : Pos} {ms : Env → Option (List Tm × Env)} (hg : Gl X "int") (hm : X.mg "int" = none) (ha : DAs X (e :: es) ms) (he : starEach (e :: es) X.env = (false, eval e X.env) :: starEach es X.env := by rfl) (hpl : (backTo pos (starEach es X.env)).any (·.1) = false := by rfl) : DE X (.Call (.Name "int" p) (e :: es) [] pos) (opEn dInt ms) := de_callTy (call_int1) po_int1 hg hm (by decide +kernel) ha (by decide) (by decide) he hpl
end
end FL

end

section
set_option Elab.async false
set_option linter.all false
set_option maxRecDepth 100000
set_option maxHeartbeats 4000000
namespace FL
open PySem PySem.Spec PyProof.Rows L2
section
variable {X : Cx} {mp : List Nat} {a b e : Expr} {es : List Expr} {pos : Pos}
/-! ### isinstance -/
def tyName : D → Option String
  | .non => some "NoneType"
  | .bl _ => some "bool"
  | .int _ => some "int"
  | .str _ => some "str"
  | .tup _ => some "tuple"
  | .lst _ => some "list"
  | .frz _ => some "list"
  | .shr _ => none
def dIsi (n : String) (d : D) : Option D := (tyName d).bind fun t => (kitB t n).map .bl
theorem rep_ty {K : PySem.W.Frag} {Wr : Addr → Prop} {H : Hp} {d : D} {v : V} {F : List Addr} {t : String} (r : Rep K Wr H d v F) (e : tyName d = some t) : TyX K H v (.type t) := by
  cases d with
  | non => cases e; cases rep_n r; exact .base .non
  | bl b => cases e; cases rep_b r; exact .base (.bl _)
  | int b => cases e; cases rep_int r; exact .base (.int _)
  | str b => cases e; cases rep_str r; exact .base (.str _)
  | tup xs =>
    cases e; rw [Rep] at r; obtain ⟨p, vs, rfl, s, _⟩ := r
    rcases s.sq with (s | ⟨o, s⟩) | ⟨o, its, n, h1, h2, _⟩
    · exact .base (.tup s)
    · exact .fTuple s
    · exact .kTuple h1 h2
  | lst xs => cases e; rw [Rep] at r; obtain ⟨p, vs, G, rfl, s, _⟩ := r; exact .base (.lst s)
  | frz xs => cases e; rw [Rep] at r; obtain ⟨p, vs, G, rfl, s, _⟩ := r; exact .base (.lst s)
  | shr xs => cases e
theorem po_isi {n : String} : PO1 X.K (fun x H Q => rIsi X.K [x, .ty n] H Q) (dIsi n) := by
  intro Wr H x v F d Q fr r e q
  obtain ⟨t, e1, e⟩ := Option.bind_eq_some_iff.mp e
  obtain ⟨c, e2, rfl⟩ := Option.map_eq_some_iff.mp e
  exact ⟨v, .ty n, _, _, c, rfl, .ty n, rep_ty r e1, kit_ty e2, q.bl⟩
theorem df_isi {n : String} {nx : Str} {p p2 : Pos} {pa : Env → Option D} (hg : Gl X "isinstance") (hm : X.mg "isinstance" = none) (hg2 : Gl X nx) (hm2 : X.mg nx = none) (hv2 : bootBuiltins nx = some (.type n)) (ha : DB X a pa) (hn2 : nx ≠ "__name__" := by decide) (hd2 : (nx == ("__debug__" : Str)) = false := by decide)
    (he : starEach [a, .Name nx p2] X.env = (false, eval a X.env) :: starEach [.Name nx p2] X.env := by rfl) (he2 : starEach [.Name nx p2] X.env = (false, eval (.Name nx p2) X.env) :: starEach [] X.env := by rfl) (hpl : (backTo pos (starEach [.Name nx p2] X.env)).any (·.1) = false := by rfl) :
    DF X (.Call (.Name "isinstance" p) [a, .Name nx p2] [] pos) (p1 (dIsi n) pa) := by
  obtain ⟨t, h1, h2⟩ := ha.ex
  exact ⟨_, pe_callB call_isi hg hm (by decide +kernel) (pa_cons h1 (pa_cons (pe_bltn (v := .ty n) hg2 hm2 hv2 rfl hn2 hd2) pa_nil he2) he) (by decide) (by decide) he hpl, fun σ H Q h => calm1 po_isi h2 h⟩
theorem de_isi {n : String} {nx : Str} {p p2 : Pos} {ma : Env → Option (Tm × Env)} (hg : Gl X "isinstance") (hm : X.mg "isinstance" = none) (hg2 : Gl X nx) (hm2 : X.mg nx = none) (hv2 : bootBuiltins nx = some (.type n)) (ha : DO X a ma) (hn2 : nx ≠ "__name__" := by decide) (hd2 : (nx == ("__debug__" : Str)) = false := by decide)
    (he : starEach [a, .Name nx p2] X.env = (false, eval a X.env) :: starEach [.Name nx p2] X.env := by rfl) (he2 : starEach [.Name nx p2] X.env = (false, eval (.Name nx p2) X.env) :: starEach [] X.env := by rfl) (hpl : (backTo pos (starEach [.Name nx p2] X.env)).any (·.1) = false := by rfl) :
    DE X (.Call (.Name "isinstance" p) [a, .Name nx p2] [] pos) (opE1 (dIsi n) ma) := by
  obtain ⟨t, h1, h2⟩ := ha.ex
  exact ⟨_, pe_callB call_isi hg hm (by decide +kernel) (pa_cons h1 (pa_cons (pe_bltn (v := .ty n) hg2 hm2 hv2 rfl hn2 hd2) pa_nil he2) he) (by decide) (by decide) he hpl, fun σ H Q h => eff1 po_isi h2 h⟩
/-! ### sorted -/
def iSort (l : List Int) : List Int := l.mergeSort fun a b => decide (a ≤ b)
theorem iSort_perm (l : List Int) : (iSort l).Perm l := List.mergeSort_perm l _
theorem iSort_sorted (l : List Int) : (iSort l).Pairwise (· ≤ ·) := by
  have := List.pairwise_mergeSort (le := fun a b : Int => decide (a ≤ b)) (fun a b c h1 h2 => by simp at *; omega) (fun a b => by simp; omega) l
  exact this.imp fun h => by simpa using h
theorem iSort_uniq {l l' : List Int} (h1 : l'.Perm l) (h2 : l'.Pairwise (· ≤ ·)) : l' = iSort l :=
  List.Perm.eq_of_pairwise (le := fun a b => a ≤ b) (fun a b _ _ => Int.le_antisymm) h2 (iSort_sorted l) (h1.trans (iSort_perm l).symm)
def lexLe (p q : Int × Int) : Bool := decide (p.1 < q.1) || (decide (p.1 = q.1) && decide (p.2 ≤ q.2))
theorem lexLe_iff {p q : Int × Int} : lexLe p q = true ↔ p.1 < q.1 ∨ (p.1 = q.1 ∧ p.2 ≤ q.2) := by unfold lexLe; simp
def pSort (l : List (Int × Int)) : List (Int × Int) := l.mergeSort lexLe
theorem pSort_perm (l : List (Int × Int)) : (pSort l).Perm l := List.mergeSort_perm l _
theorem pSort_sorted (l : List (Int × Int)) : (pSort l).Pairwise fun p q => lexLe p q = true :=
  List.pairwise_mergeSort (fun a b c h1 h2 => by rw [lexLe_iff] at *; omega) (fun a b => by simp [lexLe]; omega) l
theorem pSort_uniq {l l' : List (Int × Int)} (h1 : l'.Perm l) (h2 : l'.Pairwise fun p q => lexLe p q = true) : l' = pSort l :=
  List.Perm.eq_of_pairwise (le := fun p q => lexLe p q = true) (fun a b _ _ h1 h2 => by
    rw [lexLe_iff] at h1 h2
    exact Prod.ext (by omega) (by omega)) h2 (pSort_sorted l) (h1.trans (pSort_perm l).symm)
def pairsD : List D → Option (List (Int × Int))
  | [] => some []
  | .tup [.int i, .int j] :: ds => (pairsD ds).map ((i, j) :: ·)
  | _ :: _ => none
def pairD (p : Int × Int) : D := .tup [.int p.1, .int p.2]
theorem pairsD_map : ∀ (ps : List (Int × Int)), pairsD (ps.map pairD) = some ps
  | [] => rfl
  | p :: ps => by show (pairsD (ps.map pairD)).map _ = _; rw [pairsD_map ps]; rfl
theorem pairsD_eq : ∀ {ds : List D} {ps : List (Int × Int)}, pairsD ds = some ps → ds = ps.map pairD
  | [], ps, h => by cases h; rfl
  | d :: ds, ps, h => by
    unfold pairsD at h
    split at h
    · rename_i e; cases e
    · rename_i i j ds' e
      cases e
      obtain ⟨qs, e, rfl⟩ := Option.map_eq_some_iff.mp h
      rw [pairsD_eq e]; rfl
    · cases h
/-- which lists sorted takes -/
def listD : D → Option (List D)
  | .lst xs => some xs
  | .frz xs => some xs
  | .shr xs => some xs
  | _ => none
theorem list_read {K : PySem.W.Frag} {Wr : Addr → Prop} {H : Hp} {d : D} {v : V} {F : List Addr} {ds : List D} (r : Rep K Wr H d v F) (e : listD d = some ds) : ∃ a vs G, v = .ref a ∧ SqL K H a vs ∧ Reps K Wr H ds vs G := by
  cases d with
  | lst xs => cases e; rw [Rep] at r; obtain ⟨a, vs, G, rfl, s, _, q, rfl⟩ := r; exact ⟨a, vs, G, rfl, .inl (.inl s), q⟩
  | frz xs => cases e; rw [Rep] at r; obtain ⟨a, vs, G, rfl, s, _, q, rfl⟩ := r; exact ⟨a, vs, G, rfl, .inl (.inl s), q⟩
  | shr xs => cases e; rw [Rep] at r; obtain ⟨a, vs, rfl, s, _, q⟩ := r; exact ⟨a, vs, F, rfl, s, q⟩
  | _ => cases e
def sortDs (ds : List D) : Option (List D) := match intsD ds with
  | some ns => some ((iSort ns).map .int)
  | none => (pairsD ds).map fun ps => (pSort ps).map pairD
def dSorted : List D → Option D
  | [d] => (listD d).bind fun xs => (sortDs xs).map .lst
  | _ => none
/-- a pair of ints -/
theorem rep_pair {K : PySem.W.Frag} {Wr : Addr → Prop} {H : Hp} {p : Int × Int} {v : V} {F : List Addr} (r : Rep K Wr H (pairD p) v F) : (∃ t, v = .ref t ∧ SqX K H t [.int p.1, .int p.2]) ∧ F = [] := by
  unfold pairD at r
  rw [Rep] at r
  obtain ⟨t, vs, rfl, s, rs⟩ := r
  obtain ⟨v1, v2, F1, F2, rfl, r1, r2, rfl⟩ := reps2 rs
  rw [Rep] at r1 r2
  obtain ⟨rfl, rfl⟩ := r1
  obtain ⟨rfl, rfl⟩ := r2
  exact ⟨⟨t, rfl, s⟩, rfl⟩
def IsPr (K : PySem.W.Frag) (H : Hp) (v : V) (p : Int × Int) : Prop := ∃ t, v = .ref t ∧ SqX K H t [.int p.1, .int p.2]
/-- sorted(xs), xs a list of pairs of ints -/
def rSortedPT (K : PySem.W.Frag) : List V → Hp → VK → Prop := fun vs H Q => ∃ (a : Addr) (xs : List V) (ps : List (Int × Int)), vs = [V.ref a] ∧ SqL K H a xs ∧ Paired (IsPr K H) xs ps ∧
  ∀ ys p, Paired (IsPr K H) ys (pSort ps) → H p = none → Q (.ref p) (upd H p (.lst ys))
theorem paired_mem {α β : Type} {R : α → β → Prop} : ∀ {l : List α} {m : List β}, Paired R l m → ∀ x, x ∈ l → ∃ y, y ∈ m ∧ R x y
  | _, _, .nil, _, h => by cases h
  | _, _, .cons r t, x, h => by
    rcases List.mem_cons.mp h with rfl | h
    · exact ⟨_, List.mem_cons_self, r⟩
    · obtain ⟨y, h1, h2⟩ := paired_mem t x h
      exact ⟨y, List.mem_cons_of_mem _ h1, h2⟩
theorem paired_map {α β : Type} {R : α → β → Prop} {k : α → β} : ∀ {l : List α}, (∀ x, x ∈ l → R x (k x)) → Paired R l (l.map k)
  | [], _ => .nil
  | x :: l, h => .cons (h x List.mem_cons_self) (paired_map fun y hy => h y (List.mem_cons_of_mem _ hy))
theorem paired_eq {α β : Type} {R : α → β → Prop} {k : α → β} : ∀ {l : List α} {m : List β}, Paired R l m → (∀ x y, x ∈ l → R x y → y = k x) → m = l.map k
  | _, _, .nil, _ => rfl
  | _, _, .cons r t, h => by
    rw [List.map_cons, ← paired_eq t fun x y hx => h x y (List.mem_cons_of_mem _ hx), ← h _ _ List.mem_cons_self r]
open Classical in
theorem cr_sortedPT : CallR X (.builtin "sorted") (rSortedPT X.K) := by
  intro pins s σ H vs us Q I r h
  obtain ⟨a, xs, ps, rfl, hs, hx, q⟩ := h
  obtain ⟨its, rv, hl, hz⟩ := I.list hs
  obtain ⟨u, rfl, ru⟩ := vals1 r
  obtain rfl : u = Value.ref a := ru
  -- what pair a value is
  have uniq : ∀ v p p', IsPr X.K H v p → IsPr X.K H v p' → p = p' := fun v p p' ⟨t, e, h1⟩ ⟨t', e', h2⟩ => by
    rw [e] at e'; cases e'
    have := I.tuple_inj h1.sq h2.sq
    simp only [List.cons.injEq, V.int.injEq, and_true] at this
    exact Prod.ext this.1 this.2
  let k : V → Int × Int := fun v => if h : ∃ p, IsPr X.K H v p then h.choose else (0, 0)
  have kOk : ∀ v p, IsPr X.K H v p → k v = p := fun v p hp => by
    have hx : ∃ p, IsPr X.K H v p := ⟨p, hp⟩
    show (if h : ∃ p, IsPr X.K H v p then h.choose else (0, 0)) = p
    rw [dif_pos hx]
    exact uniq v _ _ hx.choose_spec hp
  have hk : ∀ x, x ∈ xs → IsPr X.K H x (k x) := fun x m => by
    obtain ⟨p, _, hp⟩ := paired_mem hx x m
    rw [kOk x p hp]; exact hp
  have hps : ps = xs.map k := paired_eq hx fun x y _ hp => (kOk x y hp).symm
  obtain ⟨e1, e2⟩ := refs_back rv fun x m => by
    obtain ⟨t, e, _⟩ := hk x m
    exact ⟨t, e⟩
  refine SrtO.sorted_pairsO (k := fun u => k (backV u)) hl.isList (by rw [← rv.length]; exact hz) (fun v hv => ?_) fun h' d out h1 h2 kp hd hn => ?_
  · obtain ⟨t, rfl⟩ := e2 v hv
    have hm : V.ref t ∈ xs := by rw [e1]; exact List.mem_map.mpr ⟨_, hv, rfl⟩
    obtain ⟨t', e, ht⟩ := hk _ hm
    cases e
    obtain ⟨its2, r2, ⟨o, ho, hc, n, hd⟩, _⟩ := I.tuple ht.sq
    obtain ⟨u1, u2, rfl, ri, rj⟩ := vals2 r2
    obtain ⟨t1, rfl⟩ := ri
    obtain ⟨t2, rfl⟩ := rj
    exact ⟨t, o, t1, t2, n, rfl, ho, hc, hd⟩
  · have h3 : ∀ u ∈ out, ∃ a, u = Value.ref a := fun u hu => e2 u (h2.perm.mem_iff.mp hu)
    obtain ⟨n, hn⟩ := hn
    have hb : SrtO.Stb (ltP k) (out.map backV) xs := by
      rw [e1]
      exact SrtO.Stb.map (ltP_swo k) backV h2
    have hsrt : SrtO.Srtd (ltP k) (out.map backV) := SrtO.srtd_map h1
    have hq : (out.map backV).map k = pSort ps := by
      refine pSort_uniq (by rw [hps]; exact hb.perm.map k) ?_
      rw [List.pairwise_map]
      refine hsrt.imp fun {x y} h => ?_
      have := SrtO.lexB_no.mp h
      rw [lexLe_iff]
      omega
    refine ⟨.ref d, upd H d (.lst (out.map backV)), I.laid (t' := s.toks) kp hd ⟨?_, out, n, vals_back h3, hn⟩, rfl, q _ d ?_ (I.hok.fresh hd)⟩
    · rw [hb.len]; exact hz
    · rw [← hq]
      exact paired_map fun x hx => hk x (hb.perm.mem_iff.mp hx)
theorem reps_pairs {K : PySem.W.Frag} {Wr : Addr → Prop} {H : Hp} : ∀ {ps : List (Int × Int)} {vs : List V} {G : List Addr}, Reps K Wr H (ps.map pairD) vs G → Paired (IsPr K H) vs ps
  | [], vs, G, h => by rw [List.map_nil, Reps] at h; rw [h.1]; exact .nil
  | p :: ps, vs, G, h => by
    rw [List.map_cons, Reps] at h
    obtain ⟨v, r, F1, F2, rfl, h1, h2, rfl⟩ := h
    exact .cons (rep_pair h1).1 (reps_pairs h2)
theorem reps_of_pairs {K : PySem.W.Frag} {Wr : Addr → Prop} {H : Hp} : ∀ {ps : List (Int × Int)} {vs : List V}, Paired (IsPr K H) vs ps → Reps K Wr H (ps.map pairD) vs []
  | _, _, .nil => Reps.nil
  | _, _, .cons (b := p) ⟨t, e, s⟩ h => by
    refine Reps.cons (F := []) ?_ (reps_of_pairs h)
    subst e
    unfold pairD
    rw [Rep]
    exact ⟨t, _, rfl, s, reps_of_ints [_, _]⟩
theorem po_sorted : POn X.K (fun vs H Q => rSortedI X.K vs H Q ∨ rSortedPT X.K vs H Q) dSorted := by
  intro Wr H xs vs F d Q fr r e q
  unfold dSorted at e
  split at e
  · obtain ⟨ys, e1, e⟩ := Option.bind_eq_some_iff.mp e
    obtain ⟨zs, e2, rfl⟩ := Option.map_eq_some_iff.mp e
    obtain ⟨v, rfl, rv⟩ := reps1 r
    obtain ⟨a, ws, G, rfl, s, rs⟩ := list_read rv e1
    unfold sortDs at e2
    split at e2
    · rename_i ns e3
      cases e2
      rw [intsD_eq e3] at rs
      rw [reps_ints rs] at s
      exact .inl ⟨a, ns, rfl, s, fun ns' p h1 h2 hp => by rw [iSort_uniq h1 h2]; exact q.lst fr (reps_of_ints _) hp⟩
    · obtain ⟨ps, e3, rfl⟩ := Option.map_eq_some_iff.mp e2
      rw [pairsD_eq e3] at rs
      exact .inr ⟨a, ws, ps, rfl, s, reps_pairs rs, fun ys p h1 hp => q.lst fr (reps_of_pairs h1) hp⟩
  · cases e
/-! ### slices -/
structure DPo (X : Cx) (e : Option Expr) (p : Env → Option (Option Int)) : Prop where
  ex : ∃ t, PO X e t ∧ ∀ σ H Q, (∃ (W : Wc) (ρ : Env) (fs : Fs) (o : Option Int), ER X.K W σ H ρ fs ∧ p ρ = some o ∧ ∀ H', Ext H H' → Q o H') → t σ H Q
def pNo : Env → Option (Option Int) := fun _ => some none
def pSo (p : Env → Option D) : Env → Option (Option Int) := fun ρ => (p ρ).bind fun d => match d with | .int i => some (some i) | _ => none
theorem dpo_no : DPo X none pNo := ⟨_, po_none, fun σ H Q ⟨W, ρ, fs, o, er, hp, q⟩ => by cases hp; exact q H (Ext.refl H)⟩
theorem dpo_so {p : Env → Option D} (h : DB X e p) : DPo X (some e) (pSo p) := by
  obtain ⟨t, h1, h2⟩ := h.ex
  refine ⟨_, po_some h1, fun σ H Q ⟨W, ρ, fs, o, er, hp, q⟩ => ?_⟩
  obtain ⟨x, hx, hp⟩ := Option.bind_eq_some_iff.mp hp
  cases x with
  | int i =>
    cases hp
    exact h2 σ H _ ⟨W, ρ, fs, _, er, hx, fun v H1 F e1 r1 n1 => ⟨i, rep_int r1, q H1 e1⟩⟩
  | _ => cases hp
def cutD (xs : List D) (lo hi : Option Int) : List D := (xs.drop (HT.sIx xs.length 0 lo)).take (HT.sIx xs.length xs.length hi - HT.sIx xs.length 0 lo)
def dCut (d : D) (lo hi : Option Int) : Option D := match d with
  | .tup xs => if D.frees xs then some (.tup (cutD xs lo hi)) else none
  | .lst xs => if D.frees xs then some (.lst (cutD xs lo hi)) else none
  | .frz xs => if D.frees xs then some (.lst (cutD xs lo hi)) else none
  | .shr xs => if D.frees xs then some (.lst (cutD xs lo hi)) else none
  | _ => none
def pCut (pa : Env → Option D) (pl ph : Env → Option (Option Int)) : Env → Option D := fun ρ => (pa ρ).bind fun d => (pl ρ).bind fun lo => (ph ρ).bind fun hi => dCut d lo hi
theorem reps_cut {K : PySem.W.Frag} {Wr : Addr → Prop} {H : Hp} {xs : List D} {vs : List V} (r : Reps K Wr H xs vs []) (f : D.frees xs = true) (lo hi : Option Int) : Reps K Wr H (cutD xs lo hi) (cutV vs lo hi) [] := by
  unfold cutD cutV
  rw [← r.length]
  refine Reps.take (r.drop f _) ?_ _
  rw [D.frees_all] at f ⊢
  exact fun d hd => f d (List.mem_of_mem_drop hd)
theorem df_cut {lo hi : Option Expr} {p2 : Pos} {pa : Env → Option D} {pl ph : Env → Option (Option Int)} (ha : DB X a pa) (hl : DPo X lo pl) (hh : DPo X hi ph) : DF X (.Subscript a (.Slice lo hi none p2) pos) (pCut pa pl ph) := by
  obtain ⟨t, h1, h2⟩ := ha.ex
  obtain ⟨u, k1, k2⟩ := hl.ex
  obtain ⟨w, j1, j2⟩ := hh.ex
  refine ⟨_, pe_slice (sl_list.or sl_tupX) h1 k1 j1, fun σ H Q ⟨W, ρ, fs, d, er, hp, q⟩ => ?_⟩
  obtain ⟨x, hx, hp⟩ := Option.bind_eq_some_iff.mp hp
  obtain ⟨l, hl, hp⟩ := Option.bind_eq_some_iff.mp hp
  obtain ⟨h, hh, hp⟩ := Option.bind_eq_some_iff.mp hp
  refine h2 σ H _ ⟨W, ρ, fs, x, er, hx, fun v H1 F e1 r1 n1 => ?_⟩
  refine k2 σ H1 _ ⟨W, ρ, fs, l, er.ext e1, hl, fun H2 e2 => ?_⟩
  refine j2 σ H2 _ ⟨W, ρ, fs, h, er.ext (e1.trans e2), hh, fun H3 e3 => ?_⟩
  have r3 := r1.ext (e2.trans e3)
  have er3 := er.ext ((e1.trans e2).trans e3)
  have nw : New X.K W.Wr H3 d Q := fun u H' E e4 r4 n4 f4 => q u H' E (((e1.trans e2).trans e3).trans e4) r4 n4 fun a ha => ((e1.trans e2).trans e3).back (f4 a ha)
  cases x with
  | tup xs =>
    simp only [dCut] at hp
    split at hp
    · rename_i f
      cases hp
      have r3' := r3
      rw [Rep] at r3
      obtain ⟨p, vs, rfl, s, rs⟩ := r3
      obtain rfl := rs.free f
      refine .inr ⟨p, vs, rfl, s.sq, fun ⟨z1, z2⟩ => ?_, fun _ => nw.tup (reps_cut rs f l h)⟩
      have : cutD xs l h = xs := by
        unfold cutD
        rw [← rs.length] at z1 z2
        rw [z1, z2, List.drop_zero, Nat.sub_zero, List.take_length]
      rw [this] at nw
      exact nw.sc (by rw [Rep]; exact ⟨p, vs, rfl, s, rs⟩)
    · cases hp
  | lst xs =>
    simp only [dCut] at hp
    split at hp
    · rename_i f
      cases hp
      rw [Rep] at r3
      obtain ⟨p, vs, G, rfl, s, _, rs, _⟩ := r3
      obtain rfl := rs.free f
      exact .inl ⟨p, vs, rfl, .inl (.inl s), fun p' hp' => nw.lst er3.free (reps_cut rs f l h) hp'⟩
    · cases hp
  | frz xs =>
    simp only [dCut] at hp
    split at hp
    · rename_i f
      cases hp
      rw [Rep] at r3
      obtain ⟨p, vs, G, rfl, s, _, rs, _⟩ := r3
      obtain rfl := rs.free f
      exact .inl ⟨p, vs, rfl, .inl (.inl s), fun p' hp' => nw.lst er3.free (reps_cut rs f l h) hp'⟩
    · cases hp
  | shr xs =>
    simp only [dCut] at hp
    split at hp
    · rename_i f
      cases hp
      rw [Rep] at r3
      obtain ⟨p, vs, rfl, s, _, rs⟩ := r3
      obtain rfl := rs.free f
      exact .inl ⟨p, vs, rfl, s, fun p' hp' => nw.lst er3.free (reps_cut rs f l h) hp'⟩
    · cases hp
  | _ => cases hp
/-! ### x op= e of ints and texts; xs[i] op= e -/
def addI : D → D → Option D := fun x y => match x, y with | .int i, .int j => some (.int (i + j)) | _, _ => none
theorem po_addI : PO2 X.K (rI0 fun i j => .int (i + j)) addI := by
  intro Wr H x y v w F G d Q fr rx ry e q
  unfold addI at e
  split at e
  · cases e; cases rep_int rx; cases rep_int ry; exact ⟨_, _, rfl, rfl, q.int⟩
  · cases e
theorem ds_augadd (i : Nat) {x : Str} {pos' : Pos} {m : Env → Option (D × Env)} (hN : X.N.Nodup) (h : DE X e m) (hi : X.N[i]? = some x := by rfl) (hx : Loc X.env.scope x := by first | exact Or.inl rfl | exact Or.inr rfl)
    (hf : X.fn x = true ∨ X.env.scope.names.lookup x = some .local := by first | exact .inl rfl | exact .inr rfl | assumption) (hmp : i ∉ mp := by decide) : DS X mp (.AugAssign (.Name x pos') .Add e pos) (augS i addI m) :=
  ds_aug i hN iop_add po_addI h hi hx hf hmp
theorem ds_augsub (i : Nat) {x : Str} {pos' : Pos} {m : Env → Option (D × Env)} (hN : X.N.Nodup) (h : DE X e m) (hi : X.N[i]? = some x := by rfl) (hx : Loc X.env.scope x := by first | exact Or.inl rfl | exact Or.inr rfl)
    (hf : X.fn x = true ∨ X.env.scope.names.lookup x = some .local := by first | exact .inl rfl | exact .inr rfl | assumption) (hmp : i ∉ mp := by decide) : DS X mp (.AugAssign (.Name x pos') .Sub e pos) (augS i dSub m) :=
  ds_aug i hN iop_sub po_sub h hi hx hf hmp
theorem pget_list : PGet X (rIxL X.K) := by
  intro pins s σ H o i ov iv Q I rx ry h
  obtain ⟨p, xs, i, z, rfl, rfl, hq, he, q⟩ := h
  cases rx
  obtain ⟨t, rfl⟩ := ry
  obtain ⟨its, r, pl, hz⟩ := I.list hq
  obtain ⟨j, h1, h2, h3, h4, h5⟩ := atI_get he
  obtain ⟨w, ew, rw'⟩ := r.get h2
  have hl := r.length
  have hn := line63
  have fin : EP X pins σ Q w s := ⟨z, H, I, rw', q⟩
  by_cases h0 : 0 ≤ i
  · have hj : i.toNat = j := by
      rw [seqIndex_of h0 h5] at h1
      exact Option.some.inj h1
    exact wpAny_getItem_list pl.isList h0 (by omega) (by rw [hj]; simpa using ew) fin
  · have hj : (i + (its.toArray.size : Int)).toNat = j := by
      rw [seqIndex_neg (by omega) h4] at h1
      rw [List.size_toArray, ← hl]
      exact Option.some.inj h1
    exact wpAny_getItem_list_neg pl.isList (by omega) (by rw [List.size_toArray] <;> omega) (by omega) (by rw [hj]; simpa using ew) fin
/-- xs[i] op= e, calm parts, ints -/
def augIxS (k : Nat) (f : D → D → Option D) (pi pe : Env → Option D) : Env → Option Out := fun ρ => (lstAt ρ k).bind fun xs => (pi ρ).bind fun i => match i with
  | .int i => (ixN xs.length i).bind fun j => if D.frees xs then (xs[j]?).bind fun x => (pe ρ).bind fun y => (f x y).bind fun z => if z.free then some (.nx (ρ.set k (some (.lst (xs.set j z))))) else none else none
  | _ => none
theorem ds_augix (k : Nat) {x : Str} {op : Operator} {r : R2} {f : D → D → Option D} {px tpos : Pos} {i : Expr} {pi pe : Env → Option D} (ho : OpR X (inplaceOp op) r) (hr : PO2 X.K r f) (hi : DB X i pi) (he : DB X e pe)
    (hN : X.N[k]? = some x := by rfl) (hv : Vis X.env.scope x := by first | exact Or.inl rfl | exact Or.inr (Or.inl rfl) | exact Or.inr (Or.inr rfl)) (hd : (x == ("__debug__" : Str)) = false := by decide) (hcd : (x == ("__classdict__" : Str)) = false := by decide)
    (ha : ∀ ov iv new, augStore i ov iv new = (do holding [new, ov, iv] (setItem ov iv new); release [new, ov, iv] []; pure .next) := by intros; rfl) : DS X mp (.AugAssign (.Subscript (.Name x px) i tpos) op e pos) (augIxS k f pi pe) := by
  obtain ⟨ti, i1, i2⟩ := hi.ex
  obtain ⟨te, e1, e2⟩ := he.ex
  refine ⟨_, ps_augS (pe_var hN hv hd hcd) i1 pget_list e1 (tip := r) (fun pins s σ H x y v u Q I rx ry hq => ho pins s σ H x y v u Q I rx ry hq) set_list ha, fun En σ H ⟨W, ρ, fs, o, hm, er, hp, q⟩ => ?_⟩
  obtain ⟨xs, hk, hp⟩ := Option.bind_eq_some_iff.mp hp
  obtain ⟨z, hz, hp⟩ := Option.bind_eq_some_iff.mp hp
  cases z with
  | int n =>
    dsimp only at hp
    obtain ⟨j, hj, hp⟩ := Option.bind_eq_some_iff.mp hp
    split at hp
    · rename_i f1
      obtain ⟨x, hx, hp⟩ := Option.bind_eq_some_iff.mp hp
      obtain ⟨y, hy, hp⟩ := Option.bind_eq_some_iff.mp hp
      obtain ⟨z, hz2, hp⟩ := Option.bind_eq_some_iff.mp hp
      split at hp
      · rename_i f2
        cases hp
        obtain ⟨p, vs, G, e0, hH, hw, rg, hG⟩ := er.lst_get (lstAt_some hk)
        obtain rfl := rg.free f1
        refine ⟨.ref p, e0, i2 σ H _ ⟨W, ρ, fs, _, er, hz, fun iv H1 F1 x1 r1 n1 => ?_⟩⟩
        cases rep_int r1
        have rg1 := rg.ext x1
        obtain ⟨u, eu, ru⟩ := rg1.get_free hx (D.frees_all.mp f1 x (List.mem_of_getElem? hx))
        have eat : L2.atI vs n = some u := by
          unfold L2.atI
          rw [← rg.length, hj]
          exact eu
        refine ⟨p, vs, n, u, rfl, rfl, .inl (.inl (x1 _ _ hH)), eat, ?_⟩
        refine e2 σ H1 _ ⟨W, ρ, fs, y, er.ext x1, hy, fun w H2 F2 x2 r2 n2 => ?_⟩
        have er2 := er.ext (x1.trans x2)
        refine hr W.Wr H2 x y u w [] F2 z _ er2.free (ru.ext x2) r2 hz2 fun v H3 E x3 r3 n3 f3 => ?_
        obtain rfl := r3.free f2
        have x123 := (x1.trans x2).trans x3
        have er3 := er.ext x123
        have hH3 := x123 _ _ hH
        refine ⟨p, vs, n, j, rfl, rfl, hH3, by rw [← rg.length]; exact hj, ?_⟩
        obtain ⟨er4, _, _, s4⟩ := er3.lst_chg (E := []) (F1 := []) (G' := []) (H2 := upd H3 p (.lst (vs.set j v))) e0 hG hw (fun a ha => by cases ha) (fun a o hn e => by rw [upd_ne hn]; exact e) upd_same
          (Reps.set1 (r3.upd hH3 hw fun z => by cases z) ((rg.ext x123).upd hH3 hw fun z => by cases z) f1 (ixN_lt hj)) (by simp) (fun a ha => by cases ha)
        refine q σ _ _ er4 ?_
        have st : Step fs.has H (fun a => fs.has a ∨ a ∈ ([] : List Addr)) H3 := Step.of_ext x123 fun a ha => ha.elim .inl fun z => by cases z
        exact (st.trans s4).mono fun a ha => .inl ha
      · cases hp
    · cases hp
  | _ => cases hp
theorem df_sorted {p : Pos} {ps : Env → Option (List D)} (hg : Gl X "sorted") (hm : X.mg "sorted" = none) (ha : DBs X (e :: es) ps) (he : starEach (e :: es) X.env = (false, eval e X.env) :: starEach es X.env := by rfl) (hpl : (backTo pos (starEach es X.env)).any (·.1) = false := by rfl) : DF X (.Call (.Name "sorted" p) (e :: es) [] pos) (pn dSorted ps) := df_callB (cr_sortedI.or cr_sortedPT) po_sorted hg hm (by decide +kernel) ha (by decide) (by decide) he hpl
theorem de_sorted {p : Pos} {ms : Env → Option (List Tm × Env)} (hg : Gl X "sorted") (hm : X.mg "sorted" = none) (ha : DAs X (e :: es) ms) (he : starEach (e :: es) X.env = (false, eval e X.env) :: starEach es X.env := by rfl) (hpl : (backTo pos (starEach es X.env)).any (·.1) = false := by rfl) : DE X (.Call (.Name "sorted" p) (e :: es) [] pos) (opEn dSorted ms) := de_callB (cr_sortedI.or cr_sortedPT) po_sorted hg hm (by decide +kernel) ha (by decide) (by decide) he hpl
theorem de_append (k : Nat) {x : Str} {px apos : Pos} {ms : Env → Option (List Tm × Env)} (ha : DAs X [e] ms)
    (hN : X.N[k]? = some x := by rfl) (hv : Vis X.env.scope x := by first | exact Or.inl rfl | exact Or.inr (Or.inl rfl) | exact Or.inr (Or.inr rfl)) (hd : (x == ("__debug__" : Str)) = false := by decide) (hcd : (x == ("__classdict__" : Str)) = false := by decide)
    (hbase : attributeBase (.Name x px) "append" X.env (eval (.Name x px) X.env) = eval (.Name x px) X.env := by rfl)
    (hfew : ((backTo pos (starEach [e] X.env)).all (fun x => !x.1) && (backToKw pos (keywordEach [] X.env)).all (fun x => x.1.isSome) && decide ([e].length + ([] : List Keyword).length + (if ([] : List Keyword).isEmpty then 0 else 1) < 30)) = true := by rfl)
    (hline : (apos.endLine == pos.line) = true := by rfl) (hs : starEach [e] X.env = (false, eval e X.env) :: starEach [] X.env := by rfl) (hplain : (backTo pos (starEach [] X.env)).any (·.1) = false := by rfl) :
    DE X (.Call (.Attribute (.Name x px) "append" apos) [e] [] pos) (mtE k lAppend ms) := de_bm k ml_append PySem.F.plainAttrs_list PySem.F.slot_list_append PySem.F.type_list_append mt_append ha hN hv hd hcd hbase hfew hline hs hplain
theorem de_popAt (k : Nat) {x : Str} {px apos : Pos} {ms : Env → Option (List Tm × Env)} (ha : DAs X [e] ms)
    (hN : X.N[k]? = some x := by rfl) (hv : Vis X.env.scope x := by first | exact Or.inl rfl | exact Or.inr (Or.inl rfl) | exact Or.inr (Or.inr rfl)) (hd : (x == ("__debug__" : Str)) = false := by decide) (hcd : (x == ("__classdict__" : Str)) = false := by decide)
    (hbase : attributeBase (.Name x px) "pop" X.env (eval (.Name x px) X.env) = eval (.Name x px) X.env := by rfl)
    (hfew : ((backTo pos (starEach [e] X.env)).all (fun x => !x.1) && (backToKw pos (keywordEach [] X.env)).all (fun x => x.1.isSome) && decide ([e].length + ([] : List Keyword).length + (if ([] : List Keyword).isEmpty then 0 else 1) < 30)) = true := by rfl)
    (hline : (apos.endLine == pos.line) = true := by rfl) (hs : starEach [e] X.env = (false, eval e X.env) :: starEach [] X.env := by rfl) (hplain : (backTo pos (starEach [] X.env)).any (·.1) = false := by rfl) :
    DE X (.Call (.Attribute (.Name x px) "pop" apos) [e] [] pos) (mtE k lPopAt ms) := de_bm k ml_popAt PySem.F.plainAttrs_list PySem.F.slot_list_pop PySem.F.type_list_pop mt_popAt ha hN hv hd hcd hbase hfew hline hs hplain
theorem de_pop (k : Nat) {x : Str} {px apos : Pos}
    (hN : X.N[k]? = some x := by rfl) (hv : Vis X.env.scope x := by first | exact Or.inl rfl | exact Or.inr (Or.inl rfl) | exact Or.inr (Or.inr rfl)) (hd : (x == ("__debug__" : Str)) = false := by decide) (hcd : (x == ("__classdict__" : Str)) = false := by decide)
    (hbase : attributeBase (.Name x px) "pop" X.env (eval (.Name x px) X.env) = eval (.Name x px) X.env := by rfl) (hline : (apos.endLine == pos.line) = true := by rfl) :
    DE X (.Call (.Attribute (.Name x px) "pop" apos) [] [] pos) (mtE k lPop asNil) := de_bm0 k ml_pop PySem.F.plainAttrs_list PySem.F.slot_list_pop PySem.F.type_list_pop mt_pop hN hv hd hcd hbase hline
theorem de_reverse (k : Nat) {x : Str} {px apos : Pos}
    (hN : X.N[k]? = some x := by rfl) (hv : Vis X.env.scope x := by first | exact Or.inl rfl | exact Or.inr (Or.inl rfl) | exact Or.inr (Or.inr rfl)) (hd : (x == ("__debug__" : Str)) = false := by decide) (hcd : (x == ("__classdict__" : Str)) = false := by decide)
    (hbase : attributeBase (.Name x px) "reverse" X.env (eval (.Name x px) X.env) = eval (.Name x px) X.env := by rfl) (hline : (apos.endLine == pos.line) = true := by rfl) :
    DE X (.Call (.Attribute (.Name x px) "reverse" apos) [] [] pos) (mtE k lReverse asNil) := de_bm0 k ml_reverse PySem.F.plainAttrs_list PySem.F.slot_list_reverse PySem.F.type_list_reverse mt_reverse hN hv hd hcd hbase hline
theorem de_insert (k : Nat) {x : Str} {px apos : Pos} {e2 : Expr} {ms : Env → Option (List Tm × Env)} (ha : DAs X [e, e2] ms)
    (hN : X.N[k]? = some x := by rfl) (hv : Vis X.env.scope x := by first | exact Or.inl rfl | exact Or.inr (Or.inl rfl) | exact Or.inr (Or.inr rfl)) (hd : (x == ("__debug__" : Str)) = false := by decide) (hcd : (x == ("__classdict__" : Str)) = false := by decide)
    (hbase : attributeBase (.Name x px) "insert" X.env (eval (.Name x px) X.env) = eval (.Name x px) X.env := by rfl)
    (hfew : ((backTo pos (starEach [e, e2] X.env)).all (fun x => !x.1) && (backToKw pos (keywordEach [] X.env)).all (fun x => x.1.isSome) && decide ([e, e2].length + ([] : List Keyword).length + (if ([] : List Keyword).isEmpty then 0 else 1) < 30)) = true := by rfl)
    (hline : (apos.endLine == pos.line) = true := by rfl) (hs : starEach [e, e2] X.env = (false, eval e X.env) :: starEach [e2] X.env := by rfl) (hplain : (backTo pos (starEach [e2] X.env)).any (·.1) = false := by rfl) :
    DE X (.Call (.Attribute (.Name x px) "insert" apos) [e, e2] [] pos) (mtE k lInsert ms) := de_bm k ml_insert PySem.F.plainAttrs_list PySem.F.slot_list_insert PySem.F.type_list_insert mt_insert ha hN hv hd hcd hbase hfew hline hs hplain
end
end FL

end

section
set_option Elab.async false
set_option linter.all false
set_option maxRecDepth 100000
set_option maxHeartbeats 4000000
namespace FL
open PySem PySem.Spec PyProof.Rows L2
theorem fn_no {P : Program} {w : World} {K : PySem.W.Frag} {mg : Str → Option Value} {base : Heap} {CX : CXT} {k : Nat} {f : Addr} {fd : FuncData} {ps : List Str} {mp : List Nat} {fm : List D → Option (D × List D)} (h : ∀ ds, fm ds = none) : FnOk P w K mg base CX k f fd ps (spF K mp fm) := by
  have no : ∀ vs H Q E, ¬ spF K mp fm vs H Q E := fun vs H Q E ⟨_, ds, _, _, _, _, _, _, hf, _⟩ => by rw [h] at hf; cases hf
  exact ⟨fun vs H Q E h => absurd h (no vs H Q E), fun A outer s H args us vs Q E _ _ _ _ h => absurd h (no vs H Q E)⟩
theorem law_walk {l : PySem.W.OpenLaw} {k : Nat} {q : Program} {loose : List Str} {XP : (Str → Option Value) → Heap → Prop} {YP : World → Heap → Prop} {d : DefRec} {K : Params → PySem.W.Frag} {fm : List D → Option (D × List D)}
    (hn : l.most = some 63) (hdf : d.params.defaults = []) (hr : Room k callerA) (hY : ∀ (w : World) (h : Heap), YP w h → (K w.params).In h)
    (F : ∀ (w : World) (mg : Str → Option Value) (fa : Addr) (h : Heap), (K w.params).In h → h.Ns mainGlobals mg → mg d.name = some (.ref fa) →
      ∃ fd : FuncData, (∀ (s : Shared) (u : Value), BindsTo s fd ⟨[u], []⟩ [("script", u)]) ∧
        ∀ base : Heap, (K w.params).In base → base.Ns mainGlobals mg → FnOk l.prog w (K w.params) mg base CX0 k fa fd ["script"] (spF (K w.params) [] fm))
    (h : ∀ ns : List Int, ns.length ≤ 63 → fm [.shr (ns.map .int)] = some (.bl true, [])) :
    PySem.W.WalkO q loose XP YP l.row.toRowW d [] (fun f vs => PySem.call f vs) := by
  refine L2.walk_of (n := 63) (k := k) (x := "script") (CX := fun _ => CX0) (sp := fun w => spF (K w.params) [] fm) hn (by decide) hdf hr hY F (fun w H a ns hl hO hS => ?_) (fun _ _ _ _ _ z => z)
  refine ⟨fun b => H b = none, [.shr (ns.map .int)], [], .bl true, [], ?_, List.nodup_nil, fun _ z => z, h ns hl, fun v H' E G r _ _ _ _ _ => rep_b r⟩
  refine Reps.one ?_
  rw [Rep]
  refine ⟨a, ns.map V.int, rfl, hS, ?_, reps_of_ints ns⟩
  rcases hS with (hS | ⟨o, hS⟩) | hS
  · exact .inl fun z => by rw [hS] at z; cases z
  · exact .inl fun z => by rw [hS] at z; cases z
  · exact .inr hS
section
variable {X : Cx} {a : Expr} {pos : Pos}
theorem de_isN {j pos'} {m : Env → Option (Tm × Env)} (h : DO X a m) : DE X (.Compare a [.Is] [.Constant .none j pos'] pos) (opE1 dIsN m) := by
  obtain ⟨t, h1, h2⟩ := h.ex
  exact ⟨_, pe_cmp (pc_isN h1) (nobehind _ (by decide) (by decide)), fun σ H Q h => eff1 po_isN h2 h⟩
theorem de_notN {j pos'} {m : Env → Option (Tm × Env)} (h : DO X a m) : DE X (.Compare a [.IsNot] [.Constant .none j pos'] pos) (opE1 dNotN m) := by
  obtain ⟨t, h1, h2⟩ := h.ex
  exact ⟨_, pe_cmp (pc_notN h1) (nobehind _ (by decide) (by decide)), fun σ H Q h => eff1 po_notN h2 h⟩
end
end FL

end

section
set_option Elab.async false
set_option linter.all false
set_option maxRecDepth 100000
set_option maxHeartbeats 4000000
namespace FL
open PySem PySem.Spec PyProof.Rows L2
/-! ### a list that is used up by its loop: its items are the loop's own -/
def forC (g : D → Env → Option Env) (m : Env → Option Out) (me : Env → Option (D × Env)) : Env → Option Out := fun ρ => (me ρ).bind fun x => match x.1 with
  | .lst ds => forM g m ds x.2
  | _ => none
section
variable {X : Cx} {mp : List Nat} {tg a b c e : Expr} {es : List Expr} {pos : Pos}
theorem ds_forC {iter : Expr} {body : List Stmt} {g : D → Env → Option Env} {m : Env → Option Out} {me : Env → Option (D × Env)} (hp : PassesOwn (model X.prog X.w) X.A X.env X.xe) (hc : X.calm = true) (hi : DE X iter me) (hg : DG X mp tg g) (hb : DSs X mp body m)
    (hs : ∀ x, foldedSetIterable iter X.env x = pure x := by intro _; rfl) : DS X mp (.For tg iter body [] pos) (forC g m me) := by
  obtain ⟨ti, i1, i2⟩ := hi.ex
  obtain ⟨tg', g1, g2⟩ := hg.ex
  obtain ⟨tb, b1, b2⟩ := hb.ex
  refine ⟨_, ps_for hp hc (pi_seq i1) g1 b1 hs, fun E σ H ⟨W, ρ, fs, o, hm, er, hp, q⟩ => ?_⟩
  obtain ⟨⟨d, ρ1⟩, hx, hp⟩ := Option.bind_eq_some_iff.mp hp
  cases d with
  | lst ds =>
    refine i2 σ H _ ⟨W, ρ, fs, .lst ds, ρ1, er, hx, fun v H1 fs1 F1 er1 r1 n1 a1 st1 => ?_⟩
    rw [Rep] at r1
    obtain ⟨l, vs, G, rfl, s, w, r, rfl⟩ := r1
    refine ⟨l, rfl, .inl ⟨⟨vs, .inl (.inl s)⟩, ?_⟩⟩
    rw [List.nodup_cons] at n1
    have hlen : ds.length = vs.length := r.length
    refine ⟨fun i n σ' H' => n = ds.length - i ∧ i ≤ ds.length ∧ ∃ ρ' fs' G', ER X.K W σ' H' ρ' fs' ∧ H' l = some (.lst vs) ∧ Reps X.K W.Wr H' (ds.drop i) (vs.drop i) G' ∧ G'.Nodup ∧ l ∉ G' ∧ (∀ a, a ∈ G' → ¬ Fs.has fs' a) ∧ ¬ Fs.has fs' l ∧ Step (Fs.has fs) H (fun a => Fs.has fs' a ∨ a ∈ G' ∨ a = l) H' ∧ forM g m (ds.drop i) ρ' = some o, ⟨_, rfl, Nat.zero_le _, ρ1, fs1, G, er1, s, r, n1.2, n1.1, (fun a ha => a1 a (List.mem_cons_of_mem _ ha)), a1 l List.mem_cons_self, st1.mono (fun a ha => ha.imp id fun z => z.elim (fun z => List.mem_cons_of_mem _ z) fun z => z ▸ List.mem_cons_self), hp⟩, ?_⟩
    rintro i n σ' H' ⟨rfl, hi, ρ', fs', G', er', s', r', nd', nl, ap', al, st', hr⟩
    by_cases hlt : i < ds.length
    · have hlt2 : i < vs.length := by omega
      rw [List.drop_eq_getElem_cons hlt] at hr r'
      rw [List.drop_eq_getElem_cons hlt2] at r'
      rw [Reps] at r'
      obtain ⟨v0, vr, F0, G0, ev, r0, rr, rfl⟩ := r'
      cases ev
      obtain ⟨ρ2, h1, hr⟩ := Option.bind_eq_some_iff.mp hr
      obtain ⟨o2, h2, hr⟩ := Option.bind_eq_some_iff.mp hr
      rw [List.nodup_append] at nd'
      obtain ⟨nF, nG, nFG⟩ := nd'
      refine .inr ⟨⟨vs, vs[i], .inl (.inl s'), List.getElem?_eq_getElem hlt2⟩, fun σ4 H4 => ∃ ρ4 fs4 G4, ER X.K W σ4 H4 ρ4 fs4 ∧ H4 l = some (.lst vs) ∧ Reps X.K W.Wr H4 (ds.drop (i + 1)) (vs.drop (i + 1)) G4 ∧ G4.Nodup ∧ l ∉ G4 ∧ (∀ a, a ∈ G4 → ¬ Fs.has fs4 a) ∧ ¬ Fs.has fs4 l ∧ Step (Fs.has fs) H (fun a => Fs.has fs4 a ∨ a ∈ G4 ∨ a = l) H4 ∧ forM g m (ds.drop (i + 1)) ρ4 = some o, fun σ4 H4 h => ⟨ds.length - (i + 1), by omega, rfl, hlt, h⟩, fun x H3 y => ?_⟩
      obtain ⟨rfl, y⟩ := y
      have ex := y vs (.inl (.inl s'))
      rw [List.getElem?_eq_getElem hlt2] at ex
      cases ex
      have fl : ∀ a, a ∈ F0 → ¬ Fs.has fs' a := fun a ha => ap' a (List.mem_append_left _ ha)
      have gl : ∀ a, a ∈ G0 → ¬ Fs.has fs' a := fun a ha => ap' a (List.mem_append_right _ ha)
      refine g2 _ σ' H3 _ ⟨W, ρ', fs', ds[i], F0, ρ2, hm, er', r0, nF, fl, h1, fun σ3 fs3 er3 h3 => ?_⟩
      have g3 : ∀ a, a ∈ G0 → ¬ Fs.has fs3 a := fun a ha z => by
        rcases h3 a z with z | z
        · exact gl a ha z
        · exact nFG a z a ha rfl
      have l3 : ¬ Fs.has fs3 l := fun z => by
        rcases h3 l z with z | z
        · exact al z
        · exact nl (List.mem_append_left _ z)
      have st3 : Step (Fs.has fs) H (fun a => Fs.has fs3 a ∨ a ∈ G0 ∨ a = l) H3 := st'.mono fun a ha => by
        rcases ha with z | z | z
        · rcases h3 a z with z | z
          · exact .inl z
          · exact .inr (.inl (List.mem_append_left _ z))
        · exact .inr (.inl (List.mem_append_right _ z))
        · exact .inr (.inr z)
      -- a state behind the body
      have goon : ∀ {H4 : Hp} {F4 : Addr → Prop}, Step (Fs.has fs3) H3 F4 H4 → H4 l = some (.lst vs) ∧ Reps X.K W.Wr H4 (ds.drop (i + 1)) (vs.drop (i + 1)) G0 ∧ (∀ a, a ∈ G0 → ¬ F4 a) ∧ ¬ F4 l ∧ Step (Fs.has fs) H (fun a => F4 a ∨ a ∈ G0 ∨ a = l) H4 := fun {H4 F4} st4 => by
        refine ⟨st4.keep l _ l3 s', rr.keep er3.owned st4.keep g3, fun a ha z => ?_, fun z => ?_, ?_⟩
        · rcases st4.new a z with z | z
          · exact g3 a ha z
          · obtain ⟨_, _, e⟩ := rr.owned a ha
            rw [z] at e; cases e
        · rcases st4.new l z with z | z
          · exact l3 z
          · rw [z] at s'; cases s'
        · refine st3.trans ⟨fun a o hn e => st4.keep a o (fun z => hn (.inl z)) e, fun a ha => ?_⟩
          rcases ha with z | z | z
          · exact (st4.new a z).imp .inl id
          · exact .inl (.inr (.inl z))
          · exact .inl (.inr (.inr z))
      refine b2 _ σ3 H3 ⟨W, ρ2, fs3, o2, hm, er3, h2, ?_⟩
      cases o2 with
      | nx ρ4 =>
        intro σ4 H4 fs4 er4 st4
        obtain ⟨k1, k2, k3, k4, k5⟩ := goon st4
        exact ⟨ρ4, fs4, G0, er4, k1, k2, nG, (fun z => nl (List.mem_append_right _ z)), k3, k4, k5, hr⟩
      | ct ρ4 =>
        intro σ4 H4 fs4 er4 st4
        obtain ⟨k1, k2, k3, k4, k5⟩ := goon st4
        exact ⟨ρ4, fs4, G0, er4, k1, k2, nG, (fun z => nl (List.mem_append_right _ z)), k3, k4, k5, hr⟩
      | bk ρ4 => cases hr; exact fun σ4 H4 fs4 er4 st4 => q σ4 H4 fs4 er4 ((goon st4).2.2.2.2.mono fun a ha => .inl ha)
      | rt x ρ4 => cases hr; exact fun σ4 H4 fs4 v F er4 r4 n4 a4 st4 => q σ4 H4 fs4 v F er4 r4 n4 a4 ((goon st4).2.2.2.2.mono fun a ha => .inl ha)
    · have e : i = ds.length := by omega
      subst e
      rw [List.drop_length] at hr
      cases hr
      exact .inl ⟨⟨vs, .inl (.inl s'), by omega⟩, q σ' H' fs' er' (st'.mono fun a ha => .inl ha)⟩
  | _ => cases hp
/-! ### a < b < c -/
def pChain (f f' : D → D → Option D) (pa pb pc : Env → Option D) : Env → Option D := fun ρ => (pa ρ).bind fun x => (pb ρ).bind fun y => (f x y).bind fun z => match z with
  | .bl true => (pc ρ).bind fun w => f' y w
  | .bl false => some (.bl false)
  | _ => none
theorem chain_den {r r' : R2} {f f' : D → D → Option D} {pa pb pc : Env → Option D} {ta tb tc : TE} (hf : PO2 X.K r f) (hf' : PO2 X.K r' f') (ha : ∀ σ H Q, DenB X.K pa σ H Q → ta σ H Q) (hb : ∀ σ H Q, DenB X.K pb σ H Q → tb σ H Q) (hc : ∀ σ H Q, DenB X.K pc σ H Q → tc σ H Q) {σ : L2.St} {H : Hp} {Q : VK} (h : DenF X.K (pChain f f' pa pb pc) σ H Q) :
    tChain r r' ta tb tc σ H Q := by
  obtain ⟨W, ρ, fs, d, er, hp, q⟩ := h
  obtain ⟨x, hx, hp⟩ := Option.bind_eq_some_iff.mp hp
  obtain ⟨y, hy, hp⟩ := Option.bind_eq_some_iff.mp hp
  obtain ⟨z, hz, hp⟩ := Option.bind_eq_some_iff.mp hp
  refine ha σ H _ ⟨W, ρ, fs, x, er, hx, fun v H1 F e1 r1 n1 => ?_⟩
  refine hb σ H1 _ ⟨W, ρ, fs, y, er.ext e1, hy, fun w H2 G e2 r2 n2 => ?_⟩
  refine hf W.Wr H2 x y v w F G z _ (er.ext (e1.trans e2)).free (r1.ext e2) r2 hz fun u H3 E e3 r3 n3 f3 => ?_
  cases z with
  | bl k =>
    cases rep_b r3
    refine ⟨k, rfl, ?_⟩
    cases k with
    | true =>
      rw [if_pos rfl]
      obtain ⟨c, hcc, hp⟩ := Option.bind_eq_some_iff.mp hp
      have e123 := (e1.trans e2).trans e3
      refine hc σ H3 _ ⟨W, ρ, fs, c, er.ext e123, hcc, fun u' H4 G' e4 r4 n4 => ?_⟩
      exact hf' W.Wr H4 y c w u' G G' d Q (er.ext (e123.trans e4)).free (r2.ext (e3.trans e4)) r4 hp fun u5 H5 E5 e5 r5 n5 f5 => q u5 H5 E5 ((e123.trans e4).trans e5) r5 n5 fun a ha => (e123.trans e4).back (f5 a ha)
    | false =>
      rw [if_neg (by decide)]
      cases hp
      exact q _ H3 [] ((e1.trans e2).trans e3) (by rw [Rep]; exact ⟨rfl, rfl⟩) List.nodup_nil fun _ z => by cases z
  | _ => cases hp
theorem df_chain {op op' : CmpOp} {r r' : R2} {f f' : D → D → Option D} {pa pb pc : Env → Option D} (ho : OpR X (compareOp op) r) (hf : PO2 X.K r f) (ho' : OpR X (compareOp op') r') (hf' : PO2 X.K r' f') (ha : DB X a pa) (hb : DB X b pb) (hc : DB X c pc)
    (hm : lastMarks [op, op'] [b, c] = false := by with_unfolding_all rfl) : DF X (.Compare a [op, op'] [b, c] pos) (pChain f f' pa pb pc) := by
  obtain ⟨t, h1, h2⟩ := ha.ex
  obtain ⟨u, k1, k2⟩ := hb.ex
  obtain ⟨w, l1, l2⟩ := hc.ex
  exact ⟨_, pe_chain ho ho' h1 k1 l1 hm, fun σ H Q h => chain_den hf hf' h2 k2 l2 h⟩
theorem dt_chain {op op' : CmpOp} {r r' : R2} {f f' : D → D → Option D} {pa pb pc : Env → Option D} (ho : OpR X (compareOp op) r) (hf : PO2 X.K r f) (ho' : OpR X (compareOp op') r') (hf' : PO2 X.K r' f') (ha : DB X a pa) (hb : DB X b pb) (hc : DB X c pc)
    (hm : lastMarks [op, op'] [b, c] = false := by with_unfolding_all rfl) : DT X (.Compare a [op, op'] [b, c] pos) (tB' (pChain f f' pa pb pc)) := by
  obtain ⟨t, h1, h2⟩ := ha.ex
  obtain ⟨u, k1, k2⟩ := hb.ex
  obtain ⟨w, l1, l2⟩ := hc.ex
  exact dt_of (pt_chain ho ho' h1 k1 l1 hm) (want_f fun σ H Q h => chain_den hf hf' h2 k2 l2 h)
end
end FL

end

section
set_option Elab.async false
set_option linter.all false
set_option maxRecDepth 100000
set_option maxHeartbeats 4000000
namespace FL
open PySem PySem.Spec PyProof.Rows L2
/-! ### scalars -/
def scV : D → Option V
  | .non => some .non
  | .bl b => some (.bl b)
  | .int i => some (.int i)
  | .str s => some (.str s)
  | _ => none
def isSc (d : D) : Bool := (scV d).isSome
def eqS (x y : D) : Bool := match scV x, scV y with
  | some a, some b => eqV a b
  | _, _ => false
def scs (xs : List D) : Bool := xs.all isSc
theorem rep_sc {K : PySem.W.Frag} {Wr : Addr → Prop} {H : Hp} {d : D} {v : V} {F : List Addr} (r : Rep K Wr H d v F) (h : isSc d = true) : scV d = some v ∧ flatV v = true ∧ F = [] := by
  cases d with
  | non => rw [Rep] at r; obtain ⟨rfl, rfl⟩ := r; exact ⟨rfl, rfl, rfl⟩
  | bl b => rw [Rep] at r; obtain ⟨rfl, rfl⟩ := r; exact ⟨rfl, rfl, rfl⟩
  | int b => rw [Rep] at r; obtain ⟨rfl, rfl⟩ := r; exact ⟨rfl, rfl, rfl⟩
  | str b => rw [Rep] at r; obtain ⟨rfl, rfl⟩ := r; exact ⟨rfl, rfl, rfl⟩
  | _ => cases h
theorem eqS_of {x y : D} {v w : V} (h1 : scV x = some v) (h2 : scV y = some w) : eqS x y = eqV v w := by unfold eqS; rw [h1, h2]
theorem reps_sc {K : PySem.W.Frag} {Wr : Addr → Prop} {H : Hp} : ∀ {ds : List D} {vs : List V} {F : List Addr}, Reps K Wr H ds vs F → scs ds = true → Paired (fun v d => scV d = some v ∧ flatV v = true) vs ds ∧ F = []
  | [], vs, F, r, _ => by rw [Reps] at r; obtain ⟨rfl, rfl⟩ := r; exact ⟨.nil, rfl⟩
  | d :: ds, vs, F, r, h => by
    rw [Reps] at r
    obtain ⟨v, us, F1, F2, rfl, r1, r2, rfl⟩ := r
    have h' : isSc d = true ∧ scs ds = true := by simpa [scs] using h
    obtain ⟨a1, a2, rfl⟩ := rep_sc r1 h'.1
    obtain ⟨b1, rfl⟩ := reps_sc r2 h'.2
    exact ⟨.cons ⟨a1, a2⟩ b1, rfl⟩
theorem paired_flat : ∀ {vs : List V} {ds : List D}, Paired (fun v d => scV d = some v ∧ flatV v = true) vs ds → vs.all flatV = true
  | _, _, .nil => rfl
  | _, _, .cons r t => by rw [List.all_cons, r.2, paired_flat t]; rfl
theorem paired_any {y : D} {w : V} (hy : scV y = some w) : ∀ {vs : List V} {ds : List D}, Paired (fun v d => scV d = some v ∧ flatV v = true) vs ds → (vs.any fun v => eqV v w) = ds.any fun d => eqS d y
  | _, _, .nil => rfl
  | _, _, .cons r t => by rw [List.any_cons, List.any_cons, paired_any hy t, eqS_of r.1 hy]
theorem paired_count {y : D} {w : V} (hy : scV y = some w) : ∀ {vs : List V} {ds : List D}, Paired (fun v d => scV d = some v ∧ flatV v = true) vs ds → (vs.countP fun v => eqV v w) = ds.countP fun d => eqS d y
  | _, _, .nil => rfl
  | _, _, .cons r t => by rw [List.countP_cons, List.countP_cons, paired_count hy t, eqS_of r.1 hy]
theorem paired_get {R : V → D → Prop} : ∀ {vs : List V} {ds : List D}, Paired R vs ds → ∀ {m : Nat} {d : D}, ds[m]? = some d → ∃ z, vs[m]? = some z ∧ R z d
  | _, _, .nil, m, d, e => by simp at e
  | _, _, .cons r t, 0, d, e => by simp at e; subst e; exact ⟨_, rfl, r⟩
  | _, _, .cons r t, m + 1, d, e => by
    obtain ⟨z, h1, h2⟩ := paired_get t (m := m) (d := d) (by simpa using e)
    exact ⟨z, by simpa using h1, h2⟩
/-! ### in -/
def dIn (y s : D) : Option D := (seqD s).bind fun xs => if scs xs && isSc y then some (.bl (xs.any fun d => eqS d y)) else none
def dNin (y s : D) : Option D := (seqD s).bind fun xs => if scs xs && isSc y then some (.bl (!xs.any fun d => eqS d y)) else none
section
variable {X : Cx} {a b e o : Expr} {es : List Expr} {t : TA} {te to : TE} {pos apos cpos : Pos}
theorem po_in : PO2 X.K (rIn X.K false) dIn := by
  intro Wr H x y v w F G d Q fr rx ry e q
  obtain ⟨xs, e1, e⟩ := Option.bind_eq_some_iff.mp e
  split at e
  · rename_i h
    cases e
    rw [Bool.and_eq_true] at h
    obtain ⟨p, vs, G', rfl, s, rs, _⟩ := seq_read ry e1
    obtain ⟨a1, a2, _⟩ := rep_sc rx h.2
    obtain ⟨b1, _⟩ := reps_sc rs h.1
    refine ⟨p, vs, rfl, s, a2, paired_flat b1, ?_⟩
    have := paired_any a1 b1
    show Q (.bl (if false = true then _ else (vs.any fun z => eqV z v))) H
    rw [if_neg (by decide), this]
    exact q.bl
  · cases e
theorem po_nin : PO2 X.K (rIn X.K true) dNin := by
  intro Wr H x y v w F G d Q fr rx ry e q
  obtain ⟨xs, e1, e⟩ := Option.bind_eq_some_iff.mp e
  split at e
  · rename_i h
    cases e
    rw [Bool.and_eq_true] at h
    obtain ⟨p, vs, G', rfl, s, rs, _⟩ := seq_read ry e1
    obtain ⟨a1, a2, _⟩ := rep_sc rx h.2
    obtain ⟨b1, _⟩ := reps_sc rs h.1
    refine ⟨p, vs, rfl, s, a2, paired_flat b1, ?_⟩
    have := paired_any a1 b1
    show Q (.bl (if true = true then !(vs.any fun z => eqV z v) else _)) H
    rw [if_pos rfl, this]
    exact q.bl
  · cases e
theorem df_in {pa pb : Env → Option D} (ha : DB X a pa) (hb : DB X b pb) (hm : behindInMarks .In b = false := by rfl) : DF X (.Compare a [.In] [b] pos) (p2 dIn pa pb) := df_cmp op_in_seq po_in ha hb hm
theorem df_nin {pa pb : Env → Option D} (ha : DB X a pa) (hb : DB X b pb) (hm : behindInMarks .NotIn b = false := by rfl) : DF X (.Compare a [.NotIn] [b] pos) (p2 dNin pa pb) := df_cmp op_notIn_seq po_nin ha hb hm
theorem dt_in {pa pb : Env → Option D} (ha : DB X a pa) (hb : DB X b pb) (hm : behindInMarks .In b = false := by rfl) : DT X (.Compare a [.In] [b] pos) (tB' (p2 dIn pa pb)) := dt_cmp op_in_seq po_in ha hb hm
theorem dt_nin {pa pb : Env → Option D} (ha : DB X a pa) (hb : DB X b pb) (hm : behindInMarks .NotIn b = false := by rfl) : DT X (.Compare a [.NotIn] [b] pos) (tB' (p2 dNin pa pb)) := dt_cmp op_notIn_seq po_nin ha hb hm
/-! ### a method of a tuple -/
theorem sqx_is {pins : List (Addr × Obj)} {σ : L2.St} {H : Hp} {s : Shared} {p : Addr} {ys : List V} (I : Inv X pins σ H s) (h : SqX X.K H p ys) : s.TypeIs (.ref p) "tuple" ∧ ∃ ob, s.heap.get? p = some ob ∧ ob.dict = none := by
  rcases h with ⟨o, h, hd⟩ | ⟨o, its, n, h1, h2, hd, _⟩
  · obtain ⟨e, z, its, r, pl⟩ := I.hok p _ h
    exact ⟨pl.typeIs, o, e, hd⟩
  · exact ⟨⟨o, I.kIn p o h1, h2⟩, o, I.kIn p o h1, hd⟩
def tBMT (K : PySem.W.Frag) (r : V → List V → Hp → VK → Prop) (to : TE) (t : TA) : TE := fun σ H Q => to σ H fun x H1 => (∃ p ys, x = .ref p ∧ SqX K H1 p ys) ∧ t σ H1 fun xs H2 => r x xs H2 Q
theorem pe_bmT {name : Str} {id : String} {r : V → List V → Hp → VK → Prop} (slot : PySem.Slot "tuple" name id) (hty : typeOf (.builtin id) = pure (.type "method_descriptor")) (hm : MtR X id r) (ho : PE X o to) (ha : PA X (e :: es) t)
    (hbase : attributeBase o name X.env (eval o X.env) = eval o X.env)
    (hfew : ((backTo cpos (starEach (e :: es) X.env)).all (fun x => !x.1) && (backToKw cpos (keywordEach [] X.env)).all (fun x => x.1.isSome)
      && decide ((e :: es).length + ([] : List Keyword).length + (if ([] : List Keyword).isEmpty then 0 else 1) < 30)) = true)
    (hline : (apos.endLine == cpos.line) = true) (hs : starEach (e :: es) X.env = (false, eval e X.env) :: starEach es X.env) (hplain : (backTo cpos (starEach es X.env)).any (·.1) = false) :
    PE X (.Call (.Attribute o name apos) (e :: es) [] cpos) (tBMT X.K r to t) := by
  constructor
  intro pins s σ H Q I h
  apply wpAny_Call_method_late hbase hfew hline rfl
  refine thn (ho.run pins s σ H _ I h) ?_
  rintro v s1 ⟨x, H1, I1, r1, ⟨p, ys, rfl, hq⟩, q1⟩
  cases r1
  obtain ⟨h1, ob, h2, h3⟩ := sqx_is I1 hq
  refine ⟨"tuple", id, PySem.F.plainAttrs_tuple, slot, hty, h1, fun c z => by cases z; exact ⟨ob, h2, h3⟩, ?_⟩
  have hA := ha.run cpos pins s1 σ H1 _ I1 q1
  rw [hs] at hA ⊢
  refine Calls.callWith_builtin ?_ (Calls.evalArgs_plain ?_)
  · show (false || _) = false
    rw [Bool.false_or]; exact hplain
  · exact thn hA fun us s2 ⟨vs, H2, I2, r2, q2⟩ => hm pins s2 σ H2 (.ref p) vs (.ref p) us Q I2 rfl r2 q2
/-! ### t.index(x), t.count(x) -/
def rIdxT (K : PySem.W.Frag) : V → List V → Hp → VK → Prop := fun x xs H Q => ∃ p ys y j z, x = .ref p ∧ xs = [y] ∧ SqT K H p ys ∧ flatV y = true ∧ ys.all flatV = true ∧ ys[j]? = some z ∧ eqV z y = true ∧
  (∀ m z', m < j → ys[m]? = some z' → eqV z' y = false) ∧ Q (.int (j : Nat)) H
theorem mt_tindex : MtR X "tuple.index" (rIdxT X.K) := by
  rintro pins s σ H x xs v us Q I rx rs ⟨p, ys, y, j, z, rfl, rfl, hq, fy, fys, hz, hzj, hno, q⟩
  cases rx
  obtain ⟨u, rfl, ry⟩ := vals1 rs
  obtain ⟨its, r, ⟨⟨cls, dd, dt, sl⟩, ho, hc, n, hd⟩, hsz⟩ := I.tuple hq
  simp only at hc hd
  subst hc hd
  have at' : ∀ (m : Nat) (hm : m < its.toArray.size) (hm2 : m < ys.length), eqU y its.toArray[m] = eqV ys[m] y := fun m hm hm2 => by
    obtain ⟨w, hw, rw'⟩ := r.get (List.getElem?_eq_getElem hm2)
    have e := (List.getElem?_eq_some_iff.mp hw).2
    have e2 : its.toArray[m] = w := by rw [← e]; simp
    rw [e2]
    exact eqU_of rw' (flat_at fys (List.getElem?_eq_getElem hm2))
  obtain ⟨hj2, hj3⟩ := List.getElem?_eq_some_iff.mp hz
  have hl : its.toArray.size = ys.length := by rw [List.size_toArray]; exact r.length.symm
  have hj : j < its.toArray.size := by omega
  refine call_meets PySem.F.slot_tuple_index ⟨_, ho, rfl⟩ PySem.F.entry_tuple_index (PySem.F.args_tuple_index_2 _ _) (TI.tuple_indexAt p its.toArray n dd sl u (eqU y) j hj ?_ ?_)
    ⟨ho, fun w hw => mem_eqAt ry fy r fys w (by simpa using hw), ⟨.int (j : Nat), H, I.tok _, ⟨_, rfl⟩, q⟩⟩
  · rw [at' j hj hj2, hj3]; exact hzj
  · intro m hm hmj
    rw [at' m hm (by omega)]
    exact hno m _ hmj (List.getElem?_eq_getElem (by omega))
theorem count_eqU {x : V} : ∀ {xs : List V} {us : List Value}, Vals xs us → xs.all flatV = true → us.countP (eqU x) = xs.countP fun y => eqV y x
  | _, _, .nil, _ => rfl
  | y :: xs, u :: us, .cons r t, f => by
    rw [List.all_cons, Bool.and_eq_true] at f
    rw [List.countP_cons, List.countP_cons, eqU_of r f.1, count_eqU t f.2]
def rCntF (sq : Hp → Addr → List V → Prop) : V → List V → Hp → VK → Prop := fun x xs H Q => ∃ p ys y, x = .ref p ∧ xs = [y] ∧ sq H p ys ∧ flatV y = true ∧ ys.all flatV = true ∧ Q (.int (ys.countP (fun z => eqV z y) : Nat)) H
theorem mt_tcount : MtR X "tuple.count" (rCntF (SqT X.K)) := by
  rintro pins s σ H x xs v us Q I rx rs ⟨p, ys, y, rfl, rfl, hq, fy, fys, q⟩
  cases rx
  obtain ⟨u, rfl, ry⟩ := vals1 rs
  obtain ⟨its, r, ⟨⟨cls, dd, dt, sl⟩, ho, hc, n, hd⟩, hsz⟩ := I.tuple hq
  simp only at hc hd
  subst hc hd
  refine call_meets PySem.F.slot_tuple_count ⟨_, ho, rfl⟩ PySem.F.entry_tuple_count (PySem.F.args_tuple_count_2 _ _) (SeqAt.tuple_countAt p its.toArray n dd sl u (eqU y))
    ⟨ho, fun w hw => mem_eqAt ry fy r fys w (by simpa using hw), ?_⟩
  refine ⟨.int (ys.countP (fun z => eqV z y) : Nat), H, I.tok _, ⟨s.toks, ?_⟩, q⟩
  rw [← count_eqU r fys]
theorem mt_lcountF : MtR X "list.count" (rCntF (SqL X.K)) := by
  rintro pins s σ H x xs v us Q I rx rs ⟨p, ys, y, rfl, rfl, hq, fy, fys, q⟩
  cases rx
  obtain ⟨u, rfl, ry⟩ := vals1 rs
  obtain ⟨its, r, ⟨⟨cls, dd, dt, sl⟩, n, ho, hc, hdn, hd⟩, hsz⟩ := I.list hq
  simp only at hc hd
  subst hc hd
  refine call_meets PySem.F.slot_list_count ⟨_, ho, rfl⟩ PySem.F.entry_list_count (PySem.F.args_list_count_2 _ _) (SeqAt.list_countAt p its.toArray n dd sl u (eqU y))
    ⟨ho, fun w hw => mem_eqAt ry fy r fys w (by simpa using hw), ?_⟩
  refine ⟨.int (ys.countP (fun z => eqV z y) : Nat), H, I.tok _, ⟨s.toks, ?_⟩, q⟩
  rw [← count_eqU r fys]
def dIndex (s y : D) : Option D := (seqD s).bind fun xs => if scs xs && isSc y then (xs.findIdx? fun d => eqS d y).map fun j => .int (j : Nat) else none
def dCount (s y : D) : Option D := (seqD s).bind fun xs => if scs xs && isSc y then some (.int (xs.countP (fun d => eqS d y) : Nat)) else none
theorem PE.or {t u : TE} (h1 : PE X e t) (h2 : PE X e u) : PE X e (fun σ H Q => t σ H Q ∨ u σ H Q) :=
  ⟨fun pins s σ H Q I h => h.elim (h1.run pins s σ H Q I) (h2.run pins s σ H Q I)⟩
/-- which kind of sequence a value is -/
theorem seq_kind {K : PySem.W.Frag} {Wr : Addr → Prop} {H : Hp} {d : D} {v : V} {F : List Addr} {ds : List D} (r : Rep K Wr H d v F) (e : seqD d = some ds) : ∃ a vs G, v = .ref a ∧ Reps K Wr H ds vs G ∧ ((SqX K H a vs ∧ ∃ zs, d = .tup zs) ∨ (SqL K H a vs ∧ ∀ zs, d ≠ .tup zs)) := by
  cases d with
  | tup xs => cases e; rw [Rep] at r; obtain ⟨a, vs, rfl, s, q⟩ := r; exact ⟨a, vs, F, rfl, q, .inl ⟨s, _, rfl⟩⟩
  | lst xs => cases e; rw [Rep] at r; obtain ⟨a, vs, G, rfl, s, _, q, rfl⟩ := r; exact ⟨a, vs, G, rfl, q, .inr ⟨.inl (.inl s), fun _ z => by cases z⟩⟩
  | frz xs => cases e; rw [Rep] at r; obtain ⟨a, vs, G, rfl, s, _, q, rfl⟩ := r; exact ⟨a, vs, G, rfl, q, .inr ⟨.inl (.inl s), fun _ z => by cases z⟩⟩
  | shr xs => cases e; rw [Rep] at r; obtain ⟨a, vs, rfl, s, _, q⟩ := r; exact ⟨a, vs, F, rfl, q, .inr ⟨s, fun _ z => by cases z⟩⟩
  | _ => cases e
/-- o.name(e) on a list or a tuple of scalars -/
theorem df_mth {name : Str} {f : D → D → Option D} {idT idL : String} {rT rL : V → List V → Hp → VK → Prop} {pa pe : Env → Option D} (slT : PySem.Slot "tuple" name idT) (slL : PySem.Slot "list" name idL) (tyT : typeOf (.builtin idT) = pure (.type "method_descriptor")) (tyL : typeOf (.builtin idL) = pure (.type "method_descriptor"))
    (mT : MtR X idT rT) (mL : MtR X idL rL)
    (hs0 : ∀ x y d, f x y = some d → ∃ xs, seqD x = some xs)
    (hfT : ∀ Wr H x y p vs w F G d Q, (∀ a, H a = none → Wr a) → Rep X.K Wr H x (.ref p) F → SqX X.K H p vs → (∃ zs, x = .tup zs) → Rep X.K Wr H y w G → f x y = some d → New X.K Wr H d Q → rT (.ref p) [w] H Q)
    (hfL : ∀ Wr H x y p vs w F G d Q, (∀ a, H a = none → Wr a) → Rep X.K Wr H x (.ref p) F → SqL X.K H p vs → (∀ zs, x ≠ .tup zs) → Rep X.K Wr H y w G → f x y = some d → New X.K Wr H d Q → rL (.ref p) [w] H Q)
    (ho : DB X o pa) (he : DB X e pe)
    (hbase : attributeBase o name X.env (eval o X.env) = eval o X.env := by rfl)
    (hfew : ((backTo cpos (starEach [e] X.env)).all (fun x => !x.1) && (backToKw cpos (keywordEach [] X.env)).all (fun x => x.1.isSome)
      && decide ([e].length + ([] : List Keyword).length + (if ([] : List Keyword).isEmpty then 0 else 1) < 30)) = true := by rfl)
    (hline : (apos.endLine == cpos.line) = true := by rfl) (hs : starEach [e] X.env = (false, eval e X.env) :: starEach [] X.env := by rfl) (hplain : (backTo cpos (starEach [] X.env)).any (·.1) = false := by rfl) :
    DF X (.Call (.Attribute o name apos) [e] [] cpos) (p2 f pa pe) := by
  obtain ⟨t, h1, h2⟩ := ho.ex
  obtain ⟨u, k1, k2⟩ := he.ex
  refine ⟨_, PE.or (pe_bmT slT tyT mT h1 (pa_cons k1 pa_nil hs) hbase hfew hline hs hplain) (pe_bm PySem.F.plainAttrs_list slL tyL mL h1 (pa_cons k1 pa_nil hs) hbase hfew hline hs hplain), fun σ H Q ⟨W, ρ, fs, d, er, hp, q⟩ => ?_⟩
  obtain ⟨x, hx, hp⟩ := Option.bind_eq_some_iff.mp hp
  obtain ⟨y, hy, hp⟩ := Option.bind_eq_some_iff.mp hp
  obtain ⟨xs, hxs⟩ := hs0 x y d hp
  by_cases hk : ∃ zs, x = .tup zs
  · obtain ⟨zs, rfl⟩ := hk
    refine .inl (h2 σ H _ ⟨W, ρ, fs, _, er, hx, fun v H1 F e1 r1 n1 => ?_⟩)
    have r1' := r1
    rw [Rep] at r1'
    obtain ⟨p, vs, rfl, sx, rs⟩ := r1'
    refine ⟨⟨p, vs, rfl, sx⟩, k2 σ H1 _ ⟨W, ρ, fs, y, er.ext e1, hy, fun w H2 G e2 r2 n2 => ?_⟩⟩
    have r3 := r1.ext e2
    have r3' := r3
    rw [Rep] at r3'
    obtain ⟨p', vs', e3, sx', rs'⟩ := r3'
    cases e3
    exact hfT W.Wr H2 _ y p vs' w F G d Q (er.ext (e1.trans e2)).free r3 sx' ⟨zs, rfl⟩ r2 hp fun u H3 E e3 r5 n5 f5 => q u H3 E ((e1.trans e2).trans e3) r5 n5 fun a ha => (e1.trans e2).back (f5 a ha)
  · refine .inr (h2 σ H _ ⟨W, ρ, fs, _, er, hx, fun v H1 F e1 r1 n1 => ?_⟩)
    obtain ⟨p, vs, G0, rfl, rs, ⟨_, zs, hz⟩ | ⟨sl, hz⟩⟩ := seq_kind r1 hxs
    · exact absurd ⟨zs, hz⟩ hk
    refine ⟨.inl ⟨rfl, vs, sl⟩, k2 σ H1 _ ⟨W, ρ, fs, y, er.ext e1, hy, fun w H2 G e2 r2 n2 => ?_⟩⟩
    have r3 := r1.ext e2
    obtain ⟨p', vs', G1, e3, rs', ⟨_, zs, hz'⟩ | ⟨sl', _⟩⟩ := seq_kind r3 hxs
    · exact absurd ⟨zs, hz'⟩ hk
    cases e3
    exact hfL W.Wr H2 _ y p vs' w F G d Q (er.ext (e1.trans e2)).free r3 sl' hz r2 hp fun u H3 E e3 r5 n5 f5 => q u H3 E ((e1.trans e2).trans e3) r5 n5 fun a ha => (e1.trans e2).back (f5 a ha)
theorem idx_facts {K : PySem.W.Frag} {Wr : Addr → Prop} {H : Hp} {xs : List D} {vs : List V} {F G : List Addr} {y : D} {w : V} {j : Nat} (rs : Reps K Wr H xs vs F) (ry : Rep K Wr H y w G) (h : (scs xs && isSc y) = true) (hj : (xs.findIdx? fun d => eqS d y) = some j) :
    flatV w = true ∧ vs.all flatV = true ∧ ∃ z, vs[j]? = some z ∧ eqV z w = true ∧ ∀ m z', m < j → vs[m]? = some z' → eqV z' w = false := by
  rw [Bool.and_eq_true] at h
  obtain ⟨a1, a2, _⟩ := rep_sc ry h.2
  obtain ⟨b1, _⟩ := reps_sc rs h.1
  refine ⟨a2, paired_flat b1, ?_⟩
  have at' : ∀ (m : Nat) (d : D), xs[m]? = some d → ∃ z, vs[m]? = some z ∧ eqV z w = eqS d y := fun m d e => by
    have := paired_get b1 e
    obtain ⟨z, h1, h2, _⟩ := this
    exact ⟨z, h1, (eqS_of h2 a1).symm⟩
  obtain ⟨hlt, h1, h2⟩ := List.findIdx?_eq_some_iff_getElem.mp hj
  obtain ⟨z, z1, z2⟩ := at' j _ (List.getElem?_eq_getElem hlt)
  refine ⟨z, z1, by rw [z2]; exact h1, fun m z' hm hz' => ?_⟩
  obtain ⟨z3, z4, z5⟩ := at' m _ (List.getElem?_eq_getElem (by omega))
  rw [z4] at hz'; cases hz'
  rw [z5]
  have := h2 m hm
  simpa using this
theorem df_index {pa pe : Env → Option D} (ho : DB X o pa) (he : DB X e pe)
    (hbase : attributeBase o "index" X.env (eval o X.env) = eval o X.env := by rfl)
    (hfew : ((backTo cpos (starEach [e] X.env)).all (fun x => !x.1) && (backToKw cpos (keywordEach [] X.env)).all (fun x => x.1.isSome)
      && decide ([e].length + ([] : List Keyword).length + (if ([] : List Keyword).isEmpty then 0 else 1) < 30)) = true := by rfl)
    (hline : (apos.endLine == cpos.line) = true := by rfl) (hs : starEach [e] X.env = (false, eval e X.env) :: starEach [] X.env := by rfl) (hplain : (backTo cpos (starEach [] X.env)).any (·.1) = false := by rfl) :
    DF X (.Call (.Attribute o "index" apos) [e] [] cpos) (p2 dIndex pa pe) := by
  refine df_mth PySem.F.slot_tuple_index PySem.F.slot_list_index PySem.F.type_tuple_index PySem.F.type_list_index mt_tindex mt_index (fun x y d h => ?_) (fun Wr H x y p vs w F G d Q fr rx sx hx ry h q => ?_) (fun Wr H x y p vs w F G d Q fr rx sl hz ry h q => ?_) ho he hbase hfew hline hs hplain
  · obtain ⟨xs, h1, _⟩ := Option.bind_eq_some_iff.mp h
    exact ⟨xs, h1⟩
  · obtain ⟨xs, h1, h⟩ := Option.bind_eq_some_iff.mp h
    split at h
    · rename_i hc
      obtain ⟨j, hj, rfl⟩ := Option.map_eq_some_iff.mp h
      obtain ⟨p', vs', G', e1, rs, ⟨sx', zs, rfl⟩ | ⟨_, hz⟩⟩ := seq_kind rx h1
      · cases e1
        obtain ⟨a1, a2, z, a3, a4, a5⟩ := idx_facts rs ry hc hj
        exact ⟨p, vs', w, j, z, rfl, rfl, sx'.sq, a1, a2, a3, a4, a5, q.int⟩
      · obtain ⟨zs, e⟩ := hx
        exact absurd e (hz zs)
    · cases h
  · obtain ⟨xs, h1, h⟩ := Option.bind_eq_some_iff.mp h
    split at h
    · rename_i hc
      obtain ⟨j, hj, rfl⟩ := Option.map_eq_some_iff.mp h
      obtain ⟨p', vs', G', e1, rs, ⟨sx', zs, hzz⟩ | ⟨sl', _⟩⟩ := seq_kind rx h1
      · exact absurd hzz (hz zs)
      · cases e1
        obtain ⟨a1, a2, z, a3, a4, a5⟩ := idx_facts rs ry hc hj
        exact ⟨p, vs', w, j, z, rfl, rfl, sl', a1, a2, a3, a4, a5, q.int⟩
    · cases h
theorem df_count {pa pe : Env → Option D} (ho : DB X o pa) (he : DB X e pe)
    (hbase : attributeBase o "count" X.env (eval o X.env) = eval o X.env := by rfl)
    (hfew : ((backTo cpos (starEach [e] X.env)).all (fun x => !x.1) && (backToKw cpos (keywordEach [] X.env)).all (fun x => x.1.isSome)
      && decide ([e].length + ([] : List Keyword).length + (if ([] : List Keyword).isEmpty then 0 else 1) < 30)) = true := by rfl)
    (hline : (apos.endLine == cpos.line) = true := by rfl) (hs : starEach [e] X.env = (false, eval e X.env) :: starEach [] X.env := by rfl) (hplain : (backTo cpos (starEach [] X.env)).any (·.1) = false := by rfl) :
    DF X (.Call (.Attribute o "count" apos) [e] [] cpos) (p2 dCount pa pe) := by
  refine df_mth PySem.F.slot_tuple_count PySem.F.slot_list_count PySem.F.type_tuple_count PySem.F.type_list_count mt_tcount mt_lcountF (fun x y d h => ?_) (fun Wr H x y p vs w F G d Q fr rx sx hx ry h q => ?_) (fun Wr H x y p vs w F G d Q fr rx sl hz ry h q => ?_) ho he hbase hfew hline hs hplain
  · obtain ⟨xs, h1, _⟩ := Option.bind_eq_some_iff.mp h
    exact ⟨xs, h1⟩
  · obtain ⟨xs, h1, h⟩ := Option.bind_eq_some_iff.mp h
    split at h
    · rename_i hc
      cases h
      rw [Bool.and_eq_true] at hc
      obtain ⟨p', vs', G', e1, rs, ⟨sx', zs, rfl⟩ | ⟨_, hz⟩⟩ := seq_kind rx h1
      · cases e1
        obtain ⟨a1, a2, _⟩ := rep_sc ry hc.2
        obtain ⟨b1, _⟩ := reps_sc rs hc.1
        refine ⟨p, vs', w, rfl, rfl, sx'.sq, a2, paired_flat b1, ?_⟩
        rw [paired_count a1 b1]
        exact q.int
      · obtain ⟨zs, e⟩ := hx
        exact absurd e (hz zs)
    · cases h
  · obtain ⟨xs, h1, h⟩ := Option.bind_eq_some_iff.mp h
    split at h
    · rename_i hc
      cases h
      rw [Bool.and_eq_true] at hc
      obtain ⟨p', vs', G', e1, rs, ⟨sx', zs, hzz⟩ | ⟨sl', _⟩⟩ := seq_kind rx h1
      · exact absurd hzz (hz zs)
      · cases e1
        obtain ⟨a1, a2, _⟩ := rep_sc ry hc.2
        obtain ⟨b1, _⟩ := reps_sc rs hc.1
        refine ⟨p, vs', w, rfl, rfl, sl', a2, paired_flat b1, ?_⟩
        rw [paired_count a1 b1]
        exact q.int
    · cases h
end
end FL

end

section
set_option Elab.async false
set_option linter.all false
set_option maxRecDepth 100000
set_option maxHeartbeats 4000000
namespace FL
open PySem PySem.Spec PyProof.Rows L2
/-! ### list(range(..)), tuple(range(..)) -/
section
variable {X : Cx} {a b e o : Expr} {es : List Expr} {pos p p2 : Pos} {te : L2.St → Hp → (Int → Int → Hp → Prop) → Prop}
def tTupRgX (te : L2.St → Hp → (Int → Int → Hp → Prop) → Prop) : TE := fun σ H Q => te σ H fun a b H1 => RgOk a b ∧ NewT H1 (rgV a b) Q
theorem pe_tupRgX (hc : X.calm = true) (hg : Gl X "tuple") (hm : X.mg "tuple" = none) (he : PRg X e te) (na : starEach [e] X.env = (false, eval e X.env) :: starEach [] X.env := by rfl) : PE X (.Call (.Name "tuple" p) [e] [] pos) (tTupRgX te) := by
  constructor
  intro pins s σ H Q I h
  refine Call_ (ld_blt I hg hm boot_tuple (PyProof.Rows.callWith_type1 (args_cons (thn (he pins s σ H _ I h) ?_) na) na))
  rintro x s1 ⟨r, a, b, t, u, v, H1, rfl, hr, I1, ⟨b1, b2, b3, b4, b5⟩, q⟩
  apply args_nil
  refine call_tuple_range (n := (b - a).toNat) (I1.ok.hd hc) hr (small_one b1 b2 b3 b4) (rangeSize_nat a b) b5 ?_
  intro h' tk acc hk hi
  obtain ⟨its, rfl⟩ : ∃ its : List Value, acc = its.toArray := ⟨acc.toList, by simp⟩
  have rv : Vals (rgV a b) its := by simpa using vals_rg hi
  have I2 : Inv X pins σ H1 { s1 with heap := h', toks := tk } := I1.kept hk
  exact ⟨.ref h'.objs.size, _, laidX I2 rv (by rw [rgV_length, sizeLine_eq]; omega), rfl, q _ _ (I2.hok.fresh (Nat.le_refl _)) rfl⟩
def okRg (i j : Int) : Bool := decide (-(2 ^ 62) ≤ i ∧ i < 2 ^ 62 ∧ -(2 ^ 62) ≤ j ∧ j < 2 ^ 62 ∧ (j - i).toNat ≤ 2 ^ 24)
def rgD (c : List D → D) : List D → Option D
  | [.int j] => if okRg 0 j then some (c (rangeD 0 j)) else none
  | [.int i, .int j] => if okRg i j then some (c (rangeD i j)) else none
  | _ => none
theorem rg_reps {K : PySem.W.Frag} {Wr : Addr → Prop} {H : Hp} (i j : Int) : Reps K Wr H (rangeD i j) (rgV i j) [] := by
  unfold rangeD rgV
  refine Reps.of_free (by simp) fun k d hd => ?_
  rw [List.getElem?_map] at hd
  obtain ⟨m, hm, rfl⟩ := Option.map_eq_some_iff.mp hd
  exact ⟨_, by rw [List.getElem?_map, hm]; rfl, by rw [Rep]; exact ⟨rfl, rfl⟩⟩
theorem df_listRg1 {pb : Env → Option D} (hg : Gl X "list") (hm : X.mg "list" = none) (hg2 : Gl X "range") (hm2 : X.mg "range" = none) (hc : X.calm = true) (ha : DB X a pb) (na : starEach [a] X.env = (false, eval a X.env) :: starEach [] X.env := by rfl) (na2 : starEach [.Call (.Name "range" p2) [a] [] pos2] X.env = (false, eval (.Call (.Name "range" p2) [a] [] pos2) X.env) :: starEach [] X.env := by rfl) : DF X (.Call (.Name "list" p) [.Call (.Name "range" p2) [a] [] pos2] [] pos) (pn (rgD .lst) (psCons pb psNil)) := by
  obtain ⟨t, h1, h2⟩ := ha.ex
  refine ⟨_, pe_listRg hc hg hm (prg_1 hg2 hm2 h1 na) na2, fun σ H Q ⟨W, ρ, fs, d, er, hp, q⟩ => ?_⟩
  obtain ⟨xs, hx, hp⟩ := Option.bind_eq_some_iff.mp hp
  obtain ⟨x, hx1, hx⟩ := Option.bind_eq_some_iff.mp hx
  cases hx
  cases x with
  | int j =>
    simp only [rgD] at hp
    split at hp
    · rename_i hk
      cases hp
      refine h2 σ H _ ⟨W, ρ, fs, _, er, hx1, fun v H1 F e1 r1 n1 => ?_⟩
      cases rep_int r1
      have nw : New X.K W.Wr H1 (.lst (rangeD 0 j)) Q := fun u H' E e4 r4 n4 f4 => q u H' E (e1.trans e4) r4 n4 fun a ha => e1.back (f4 a ha)
      exact ⟨j, rfl, (show RgOk 0 j by unfold RgOk; unfold okRg at hk; exact of_decide_eq_true hk), fun p hp => nw.lst (er.ext e1).free (rg_reps 0 j) hp⟩
    · cases hp
  | _ => cases hp
theorem df_tupRg1 {pb : Env → Option D} (hg : Gl X "tuple") (hm : X.mg "tuple" = none) (hg2 : Gl X "range") (hm2 : X.mg "range" = none) (hc : X.calm = true) (ha : DB X a pb) (na : starEach [a] X.env = (false, eval a X.env) :: starEach [] X.env := by rfl) (na2 : starEach [.Call (.Name "range" p2) [a] [] pos2] X.env = (false, eval (.Call (.Name "range" p2) [a] [] pos2) X.env) :: starEach [] X.env := by rfl) : DF X (.Call (.Name "tuple" p) [.Call (.Name "range" p2) [a] [] pos2] [] pos) (pn (rgD .tup) (psCons pb psNil)) := by
  obtain ⟨t, h1, h2⟩ := ha.ex
  refine ⟨_, pe_tupRgX hc hg hm (prg_1 hg2 hm2 h1 na) na2, fun σ H Q ⟨W, ρ, fs, d, er, hp, q⟩ => ?_⟩
  obtain ⟨xs, hx, hp⟩ := Option.bind_eq_some_iff.mp hp
  obtain ⟨x, hx1, hx⟩ := Option.bind_eq_some_iff.mp hx
  cases hx
  cases x with
  | int j =>
    simp only [rgD] at hp
    split at hp
    · rename_i hk
      cases hp
      refine h2 σ H _ ⟨W, ρ, fs, _, er, hx1, fun v H1 F e1 r1 n1 => ?_⟩
      cases rep_int r1
      have nw : New X.K W.Wr H1 (.tup (rangeD 0 j)) Q := fun u H' E e4 r4 n4 f4 => q u H' E (e1.trans e4) r4 n4 fun a ha => e1.back (f4 a ha)
      exact ⟨j, rfl, (show RgOk 0 j by unfold RgOk; unfold okRg at hk; exact of_decide_eq_true hk), nw.tup (rg_reps 0 j)⟩
    · cases hp
  | _ => cases hp
theorem df_listRg2 {pb pc : Env → Option D} (hg : Gl X "list") (hm : X.mg "list" = none) (hg2 : Gl X "range") (hm2 : X.mg "range" = none) (hc : X.calm = true) (ha : DB X a pb) (hb : DB X b pc) (na : starEach [a, b] X.env = (false, eval a X.env) :: starEach [b] X.env := by rfl) (nb : starEach [b] X.env = (false, eval b X.env) :: starEach [] X.env := by rfl) (hpl : (backTo pos2 (starEach [b] X.env)).any (·.1) = false := by rfl) (na2 : starEach [.Call (.Name "range" p2) [a, b] [] pos2] X.env = (false, eval (.Call (.Name "range" p2) [a, b] [] pos2) X.env) :: starEach [] X.env := by rfl) : DF X (.Call (.Name "list" p) [.Call (.Name "range" p2) [a, b] [] pos2] [] pos) (pn (rgD .lst) (psCons pb (psCons pc psNil))) := by
  obtain ⟨t, h1, h2⟩ := ha.ex
  obtain ⟨t', k1, k2⟩ := hb.ex
  refine ⟨_, pe_listRg hc hg hm (prg_2 hg2 hm2 h1 k1 na nb hpl) na2, fun σ H Q ⟨W, ρ, fs, d, er, hp, q⟩ => ?_⟩
  obtain ⟨xs, hx, hp⟩ := Option.bind_eq_some_iff.mp hp
  obtain ⟨x, hx1, hx⟩ := Option.bind_eq_some_iff.mp hx
  obtain ⟨ys, hy, hx2⟩ := Option.bind_eq_some_iff.mp hx
  cases hx2
  obtain ⟨y, hy1, hy2⟩ := Option.bind_eq_some_iff.mp hy
  cases hy2
  cases x with
  | int i =>
    cases y with
    | int j =>
      simp only [rgD] at hp
      split at hp
      · rename_i hk
        cases hp
        refine h2 σ H _ ⟨W, ρ, fs, _, er, hx1, fun v H1 F e1 r1 n1 => ?_⟩
        cases rep_int r1
        refine k2 σ H1 _ ⟨W, ρ, fs, _, er.ext e1, hy1, fun v H2 F e2 r2 n2 => ?_⟩
        cases rep_int r2
        have nw : New X.K W.Wr H2 (.lst (rangeD i j)) Q := fun u H' E e4 r4 n4 f4 => q u H' E ((e1.trans e2).trans e4) r4 n4 fun a ha => (e1.trans e2).back (f4 a ha)
        exact ⟨i, j, rfl, rfl, (show RgOk i j by unfold RgOk; unfold okRg at hk; exact of_decide_eq_true hk), fun p hp => nw.lst (er.ext (e1.trans e2)).free (rg_reps i j) hp⟩
      · cases hp
    | _ => cases hp
  | _ => cases hp
theorem df_tupRg2 {pb pc : Env → Option D} (hg : Gl X "tuple") (hm : X.mg "tuple" = none) (hg2 : Gl X "range") (hm2 : X.mg "range" = none) (hc : X.calm = true) (ha : DB X a pb) (hb : DB X b pc) (na : starEach [a, b] X.env = (false, eval a X.env) :: starEach [b] X.env := by rfl) (nb : starEach [b] X.env = (false, eval b X.env) :: starEach [] X.env := by rfl) (hpl : (backTo pos2 (starEach [b] X.env)).any (·.1) = false := by rfl) (na2 : starEach [.Call (.Name "range" p2) [a, b] [] pos2] X.env = (false, eval (.Call (.Name "range" p2) [a, b] [] pos2) X.env) :: starEach [] X.env := by rfl) : DF X (.Call (.Name "tuple" p) [.Call (.Name "range" p2) [a, b] [] pos2] [] pos) (pn (rgD .tup) (psCons pb (psCons pc psNil))) := by
  obtain ⟨t, h1, h2⟩ := ha.ex
  obtain ⟨t', k1, k2⟩ := hb.ex
  refine ⟨_, pe_tupRgX hc hg hm (prg_2 hg2 hm2 h1 k1 na nb hpl) na2, fun σ H Q ⟨W, ρ, fs, d, er, hp, q⟩ => ?_⟩
  obtain ⟨xs, hx, hp⟩ := Option.bind_eq_some_iff.mp hp
  obtain ⟨x, hx1, hx⟩ := Option.bind_eq_some_iff.mp hx
  obtain ⟨ys, hy, hx2⟩ := Option.bind_eq_some_iff.mp hx
  cases hx2
  obtain ⟨y, hy1, hy2⟩ := Option.bind_eq_some_iff.mp hy
  cases hy2
  cases x with
  | int i =>
    cases y with
    | int j =>
      simp only [rgD] at hp
      split at hp
      · rename_i hk
        cases hp
        refine h2 σ H _ ⟨W, ρ, fs, _, er, hx1, fun v H1 F e1 r1 n1 => ?_⟩
        cases rep_int r1
        refine k2 σ H1 _ ⟨W, ρ, fs, _, er.ext e1, hy1, fun v H2 F e2 r2 n2 => ?_⟩
        cases rep_int r2
        have nw : New X.K W.Wr H2 (.tup (rangeD i j)) Q := fun u H' E e4 r4 n4 f4 => q u H' E ((e1.trans e2).trans e4) r4 n4 fun a ha => (e1.trans e2).back (f4 a ha)
        exact ⟨i, j, rfl, rfl, (show RgOk i j by unfold RgOk; unfold okRg at hk; exact of_decide_eq_true hk), nw.tup (rg_reps i j)⟩
      · cases hp
    | _ => cases hp
  | _ => cases hp
/-! ### slices with a bound that changes things -/
theorem sl_den {Wr : Addr → Prop} {H : Hp} {x d : D} {v : V} {F : List Addr} {l h : Option Int} {Q : VK} (fr : ∀ a, H a = none → Wr a) (r3 : Rep X.K Wr H x v F) (hp : dCut x l h = some d) (nw : New X.K Wr H d Q) : rSlL X.K v l h H Q ∨ rSlX X.K v l h H Q := by
  cases x with
  | tup xs =>
    simp only [dCut] at hp
    split at hp
    · rename_i f
      cases hp
      have r3' := r3
      rw [Rep] at r3
      obtain ⟨p, vs, rfl, s, rs⟩ := r3
      obtain rfl := rs.free f
      refine .inr ⟨p, vs, rfl, s.sq, fun ⟨z1, z2⟩ => ?_, fun _ => nw.tup (reps_cut rs f l h)⟩
      have : cutD xs l h = xs := by
        unfold cutD
        rw [← rs.length] at z1 z2
        rw [z1, z2, List.drop_zero, Nat.sub_zero, List.take_length]
      rw [this] at nw
      exact nw.sc (by rw [Rep]; exact ⟨p, vs, rfl, s, rs⟩)
    · cases hp
  | lst xs =>
    simp only [dCut] at hp
    split at hp
    · rename_i f
      cases hp
      rw [Rep] at r3
      obtain ⟨p, vs, G, rfl, s, _, rs, _⟩ := r3
      obtain rfl := rs.free f
      exact .inl ⟨p, vs, rfl, .inl (.inl s), fun p' hp' => nw.lst fr (reps_cut rs f l h) hp'⟩
    · cases hp
  | frz xs =>
    simp only [dCut] at hp
    split at hp
    · rename_i f
      cases hp
      rw [Rep] at r3
      obtain ⟨p, vs, G, rfl, s, _, rs, _⟩ := r3
      obtain rfl := rs.free f
      exact .inl ⟨p, vs, rfl, .inl (.inl s), fun p' hp' => nw.lst fr (reps_cut rs f l h) hp'⟩
    · cases hp
  | shr xs =>
    simp only [dCut] at hp
    split at hp
    · rename_i f
      cases hp
      rw [Rep] at r3
      obtain ⟨p, vs, rfl, s, _, rs⟩ := r3
      obtain rfl := rs.free f
      exact .inl ⟨p, vs, rfl, s, fun p' hp' => nw.lst fr (reps_cut rs f l h) hp'⟩
    · cases hp
  | _ => cases hp
def dCutHi : D → D → Option D := fun x y => match y with | .int k => dCut x none (some k) | _ => none
def dCutLo : D → D → Option D := fun x y => match y with | .int k => dCut x (some k) none | _ => none
theorem po_cutHi : PO2 X.K (fun x y H Q => ∃ k, y = .int k ∧ (rSlL X.K x none (some k) H Q ∨ rSlX X.K x none (some k) H Q)) dCutHi := by
  intro Wr H x y v w F G d Q fr rx ry e q
  cases y with
  | int k => cases rep_int ry; exact ⟨k, rfl, sl_den fr rx e q⟩
  | _ => cases e
theorem po_cutLo : PO2 X.K (fun x y H Q => ∃ k, y = .int k ∧ (rSlL X.K x (some k) none H Q ∨ rSlX X.K x (some k) none H Q)) dCutLo := by
  intro Wr H x y v w F G d Q fr rx ry e q
  cases y with
  | int k => cases rep_int ry; exact ⟨k, rfl, sl_den fr rx e q⟩
  | _ => cases e
theorem de_cutHi {q2 : Pos} {ma mb : Env → Option (Tm × Env)} (ha : DO X a ma) (hb : DO X b mb) : DE X (.Subscript a (.Slice none (some b) none q2) pos) (opE2 dCutHi ma mb) := by
  obtain ⟨t, h1, h2⟩ := ha.ex
  obtain ⟨u, k1, k2⟩ := hb.ex
  exact ⟨_, pe_slice (sl_list.or sl_tupX) h1 po_none (po_some k1), fun σ H Q h => eff2 po_cutHi h2 k2 h⟩
theorem de_cutLo {q2 : Pos} {ma mb : Env → Option (Tm × Env)} (ha : DO X a ma) (hb : DO X b mb) : DE X (.Subscript a (.Slice (some b) none none q2) pos) (opE2 dCutLo ma mb) := by
  obtain ⟨t, h1, h2⟩ := ha.ex
  obtain ⟨u, k1, k2⟩ := hb.ex
  exact ⟨_, pe_slice (sl_list.or sl_tupX) h1 (po_some k1) po_none, fun σ H Q h => eff2 po_cutLo h2 k2 h⟩
end
end FL

end

section
set_option Elab.async false
set_option linter.all false
set_option maxRecDepth 100000
set_option maxHeartbeats 4000000
namespace FL
open PySem PySem.Spec PyProof.Rows L2
/-! ### for over a list of one's own that the body reads: it is frozen for the loop -/
open Classical in
noncomputable def thaw (k : Nat) (all : List D) : Out → Option Out
  | .nx ρ => if lk ρ k = some (.frz all) then some (.nx (ρ.set k (some (.lst all)))) else none
  | .rt x ρ => if lk ρ k = some (.frz all) then some (.rt x (ρ.set k (some (.lst all)))) else none
  | _ => none
open Classical in
noncomputable def forFM (k : Nat) (all : List D) (g : D → Env → Option Env) (m : Env → Option Out) : List D → Env → Option Out
  | [], ρ => thaw k all (.nx ρ)
  | d :: ds, ρ => if lk ρ k = some (.frz all) then (g d ρ).bind fun ρ1 => (m ρ1).bind fun o => match o with
    | .nx ρ2 => forFM k all g m ds ρ2
    | .ct ρ2 => forFM k all g m ds ρ2
    | .bk ρ2 => thaw k all (.nx ρ2)
    | .rt x ρ2 => thaw k all (.rt x ρ2) else none
noncomputable def forF (k : Nat) (g : D → Env → Option Env) (m : Env → Option Out) : Env → Option Out := fun ρ => (lstAt ρ k).bind fun all => if D.frees all then forFM k all g m all (ρ.set k (some (.frz all))) else none
theorem ER.recast {K : PySem.W.Frag} {W : Wc} {σ : L2.St} {H : Hp} {ρ : Env} {fs : Fs} {k : Nat} {d d' : D} (er : ER K W σ H ρ fs) (h : lk ρ k = some d) (c : ∀ v F, Rep K W.Wr H d v F → Rep K W.Wr H d' v F) : ER K W σ H (ρ.set k (some d')) fs := by
  have hk := lk_some.mp h
  obtain ⟨hlt, _⟩ := List.getElem?_eq_some_iff.mp hk
  refine ⟨by rw [List.length_set]; exact er.len, fun i e hi => ?_, fun i hi => ?_, er.nd, er.dj, er.free, er.lock⟩
  · rw [List.getElem?_set] at hi
    by_cases hik : k = i
    · subst hik
      rw [if_pos rfl, if_pos hlt] at hi
      cases hi
      obtain ⟨v, e1, r⟩ := er.rep k d hk
      exact ⟨v, e1, c v _ r⟩
    · rw [if_neg hik] at hi
      exact er.rep i e hi
  · by_cases hik : k = i
    · subst hik
      exact absurd (by rw [List.getElem?_set, if_pos rfl, if_pos hlt]) (hi d')
    · exact er.out i fun e he => hi e (by rw [List.getElem?_set, if_neg hik]; exact he)
section
variable {X : Cx} {mp : List Nat} {tg a b c e : Expr} {es : List Expr} {pos : Pos}
theorem ds_forF (k : Nat) {x : Str} {px : Pos} {body : List Stmt} {g : D → Env → Option Env} {m : Env → Option Out} (hp : PassesOwn (model X.prog X.w) X.A X.env X.xe) (hc : X.calm = true) (hg : DG X (k :: mp) tg g) (hb : DSs X (k :: mp) body m)
    (hN : X.N[k]? = some x := by rfl) (hv : Vis X.env.scope x := by first | exact Or.inl rfl | exact Or.inr (Or.inl rfl) | exact Or.inr (Or.inr rfl)) (hd : (x == ("__debug__" : Str)) = false := by decide) (hcd : (x == ("__classdict__" : Str)) = false := by decide)
    (hs : ∀ y, foldedSetIterable (.Name x px) X.env y = pure y := by intro _; rfl) : DS X mp (.For tg (.Name x px) body [] pos) (forF k g m) := by
  obtain ⟨tg', g1, g2⟩ := hg.ex
  obtain ⟨tb, b1, b2⟩ := hb.ex
  refine ⟨_, ps_for hp hc (pi_seq (pe_var hN hv hd hcd)) g1 b1 hs, fun E σ H ⟨W, ρ, fs, o, hm, er, hp, q⟩ => ?_⟩
  obtain ⟨all, hall, hp⟩ := Option.bind_eq_some_iff.mp hp
  split at hp
  · rename_i f
    have hlk := lstAt_some hall
    obtain ⟨v, e1, r⟩ := er.get hlk
    have er0 : ER X.K ⟨W.Wr, (k, v) :: W.lk⟩ σ H (ρ.set k (some (.frz all))) fs := by
      have := er.recast (d' := .frz all) hlk fun v F r => (by simp only [Rep] at r ⊢; exact r)
      exact ⟨this.len, this.rep, this.out, this.nd, this.dj, this.free, fun p hp => (List.mem_cons.mp hp).elim (fun z => by rw [z]; exact e1) (er.lock p)⟩
    rw [Rep] at r
    obtain ⟨l, vs0, G0, rfl, s0, _, rs0, _⟩ := r
    refine ⟨.ref l, e1, l, rfl, .inl ⟨⟨vs0, .inl (.inl s0)⟩, ?_⟩⟩
    -- the frozen list, read again at each turn
    have again : ∀ {σ' : L2.St} {H' : Hp} {ρ' : Env} {fs' : Fs}, ER X.K ⟨W.Wr, (k, .ref l) :: W.lk⟩ σ' H' ρ' fs' → lk ρ' k = some (.frz all) → ∃ vs, H' l = some (.lst vs) ∧ Reps X.K W.Wr H' all vs [] := fun {σ' H' ρ' fs'} er' h => by
      obtain ⟨w, e2, r2⟩ := er'.get h
      have e3 := er'.lock (k, .ref l) List.mem_cons_self
      have e4 : w = .ref l := by
        have : some (some w) = some (some (V.ref l)) := e2.symm.trans e3
        cases this; rfl
      subst e4
      rw [Rep] at r2
      obtain ⟨l', vs, G, e5, s, _, rs, _⟩ := r2
      cases e5
      obtain rfl := rs.free f
      exact ⟨vs, s, rs⟩
    have done : ∀ {σ' : L2.St} {H' : Hp} {ρ' : Env} {fs' : Fs}, ER X.K ⟨W.Wr, (k, .ref l) :: W.lk⟩ σ' H' ρ' fs' → lk ρ' k = some (.frz all) → ER X.K W σ' H' (ρ'.set k (some (.lst all))) fs' := fun {σ' H' ρ' fs'} er' h => by
      have := er'.recast (d' := .lst all) h fun v F r => (by simp only [Rep] at r ⊢; exact r)
      exact ⟨this.len, this.rep, this.out, this.nd, this.dj, this.free, fun p hp => this.lock p (List.mem_cons_of_mem _ hp)⟩
    refine ⟨fun i n σ' H' => n = all.length - i ∧ i ≤ all.length ∧ ∃ ρ' fs', ER X.K ⟨W.Wr, (k, .ref l) :: W.lk⟩ σ' H' ρ' fs' ∧ Step fs.has H (Fs.has fs') H' ∧ forFM k all g m (all.drop i) ρ' = some o, ⟨_, rfl, Nat.zero_le _, _, fs, er0, Step.refl _ _, hp⟩, ?_⟩
    rintro i n σ' H' ⟨rfl, hi, ρ', fs', er', st', hr⟩
    by_cases hlt : i < all.length
    · rw [List.drop_eq_getElem_cons hlt] at hr
      unfold forFM at hr
      split at hr
      · rename_i hfz
        obtain ⟨ρ2, h1, hr⟩ := Option.bind_eq_some_iff.mp hr
        obtain ⟨o2, h2, hr⟩ := Option.bind_eq_some_iff.mp hr
        obtain ⟨vs, s, rs⟩ := again er' hfz
        obtain ⟨w, e2, rw'⟩ := rs.get_free (List.getElem?_eq_getElem hlt) (D.frees_all.mp f _ (List.getElem_mem hlt))
        refine .inr ⟨⟨vs, w, .inl (.inl s), e2⟩, fun σ4 H4 => ∃ ρ4 fs4, ER X.K ⟨W.Wr, (k, .ref l) :: W.lk⟩ σ4 H4 ρ4 fs4 ∧ Step fs.has H (Fs.has fs4) H4 ∧ forFM k all g m (all.drop (i + 1)) ρ4 = some o, fun σ4 H4 ⟨ρ4, fs4, h⟩ => ⟨all.length - (i + 1), by omega, rfl, hlt, ρ4, fs4, h⟩, fun x H3 y => ?_⟩
        obtain ⟨rfl, y⟩ := y
        have ex := y vs (.inl (.inl s))
        rw [e2] at ex; cases ex
        refine g2 w σ' H3 _ ⟨⟨W.Wr, (k, .ref l) :: W.lk⟩, ρ', fs', all[i], [], ρ2, by rw [← hm]; rfl, er', rw', List.nodup_nil, (fun _ z => by cases z), h1, fun σ3 fs3 er3 h3 => ?_⟩
        have st3 : Step fs.has H (Fs.has fs3) H3 := st'.mono fun a ha => (h3 a ha).elim id fun z => by cases z
        refine b2 _ σ3 H3 ⟨⟨W.Wr, (k, .ref l) :: W.lk⟩, ρ2, fs3, o2, by rw [← hm]; rfl, er3, h2, ?_⟩
        cases o2 with
        | nx ρ4 => exact fun σ4 H4 fs4 er4 st4 => ⟨ρ4, fs4, er4, st3.trans st4, hr⟩
        | ct ρ4 => exact fun σ4 H4 fs4 er4 st4 => ⟨ρ4, fs4, er4, st3.trans st4, hr⟩
        | bk ρ4 =>
          simp only [thaw] at hr
          split at hr
          · rename_i hf2
            cases hr
            exact fun σ4 H4 fs4 er4 st4 => q σ4 H4 fs4 (done er4 hf2) (st3.trans st4)
          · cases hr
        | rt z ρ4 =>
          simp only [thaw] at hr
          split at hr
          · rename_i hf2
            cases hr
            exact fun σ4 H4 fs4 v F er4 r4 n4 a4 st4 => q σ4 H4 fs4 v F (done er4 hf2) r4 n4 a4 (st3.trans st4)
          · cases hr
      · cases hr
    · have e : i = all.length := by omega
      subst e
      rw [List.drop_length] at hr
      simp only [forFM, thaw] at hr
      split at hr
      · rename_i hf2
        cases hr
        obtain ⟨vs, s, rs⟩ := again er' hf2
        exact .inl ⟨⟨vs, .inl (.inl s), by rw [rs.length]; exact Nat.le_refl _⟩, q σ' H' fs' (done er' hf2) st'⟩
      · cases hr
  · cases hp
end
end FL

end

section
set_option Elab.async false
set_option linter.all false
set_option maxRecDepth 100000
set_option maxHeartbeats 4000000
namespace FL
open PySem PySem.Spec PyProof.Rows L2
/-! ### any([..]), all([..]) of a list of True and False -/
def blsD : List D → Option (List Bool)
  | [] => some []
  | .bl b :: ds => (blsD ds).map (b :: ·)
  | _ :: _ => none
theorem blsD_map : ∀ bs : List Bool, blsD (bs.map .bl) = some bs
  | [] => rfl
  | b :: bs => by show (blsD (bs.map .bl)).map _ = _; rw [blsD_map bs]; rfl
theorem blsD_eq : ∀ {ds : List D} {bs : List Bool}, blsD ds = some bs → ds = bs.map .bl
  | [], bs, h => by cases h; rfl
  | d :: ds, bs, h => by
    cases d with
    | bl b =>
      obtain ⟨cs, e, rfl⟩ := Option.map_eq_some_iff.mp (show (blsD ds).map (b :: ·) = some bs from h)
      rw [blsD_eq e]; rfl
    | _ => cases h
theorem reps_bls {K : PySem.W.Frag} {Wr : Addr → Prop} {H : Hp} : ∀ {bs : List Bool} {vs : List V} {F : List Addr}, Reps K Wr H (bs.map .bl) vs F → vs = bs.map V.bl
  | [], vs, F, h => by rw [List.map_nil, Reps] at h; exact h.1
  | b :: bs, vs, F, h => by
    rw [List.map_cons, Reps] at h
    obtain ⟨v, r, F1, F2, rfl, h1, h2, _⟩ := h
    rw [rep_b h1, reps_bls h2]; rfl
def dAny : List D → Option D
  | [d] => (listD d).bind fun xs => (blsD xs).map fun bs => .bl (bs.any id)
  | _ => none
def dAll : List D → Option D
  | [d] => (listD d).bind fun xs => (blsD xs).map fun bs => .bl (bs.all id)
  | _ => none
section
variable {X : Cx} {e : Expr} {es : List Expr} {pos : Pos}
theorem po_any : POn X.K (rAny X.K) dAny := by
  intro Wr H xs vs F d Q fr r h q
  unfold dAny at h
  split at h
  · obtain ⟨ys, e1, h⟩ := Option.bind_eq_some_iff.mp h
    obtain ⟨bs, e2, rfl⟩ := Option.map_eq_some_iff.mp h
    obtain ⟨v, rfl, rv⟩ := reps1 r
    obtain ⟨a, ws, G, rfl, s, rs⟩ := list_read rv e1
    rw [blsD_eq e2] at rs
    rw [reps_bls rs] at s
    exact ⟨a, bs, rfl, s, q.bl⟩
  · cases h
theorem po_all : POn X.K (rAll X.K) dAll := by
  intro Wr H xs vs F d Q fr r h q
  unfold dAll at h
  split at h
  · obtain ⟨ys, e1, h⟩ := Option.bind_eq_some_iff.mp h
    obtain ⟨bs, e2, rfl⟩ := Option.map_eq_some_iff.mp h
    obtain ⟨v, rfl, rv⟩ := reps1 r
    obtain ⟨a, ws, G, rfl, s, rs⟩ := list_read rv e1
    rw [blsD_eq e2] at rs
    rw [reps_bls rs] at s
    exact ⟨a, bs, rfl, s, q.bl⟩
  · cases h
theorem df_any {p : Pos} {ps : Env → Option (List D)} (hc : X.calm = true) (hg : Gl X "any") (hm : X.mg "any" = none) (ha : DBs X (e :: es) ps) (he : starEach (e :: es) X.env = (false, eval e X.env) :: starEach es X.env := by rfl) (hpl : (backTo pos (starEach es X.env)).any (·.1) = false := by rfl) : DF X (.Call (.Name "any" p) (e :: es) [] pos) (pn dAny ps) := df_callB (cr_any hc) po_any hg hm (by decide +kernel) ha (by decide) (by decide) he hpl
theorem df_all {p : Pos} {ps : Env → Option (List D)} (hc : X.calm = true) (hg : Gl X "all") (hm : X.mg "all" = none) (ha : DBs X (e :: es) ps) (he : starEach (e :: es) X.env = (false, eval e X.env) :: starEach es X.env := by rfl) (hpl : (backTo pos (starEach es X.env)).any (·.1) = false := by rfl) : DF X (.Call (.Name "all" p) (e :: es) [] pos) (pn dAll ps) := df_callB (cr_all hc) po_all hg hm (by decide +kernel) ha (by decide) (by decide) he hpl
end
end FL

end

section
set_option Elab.async false
set_option linter.all false
set_option maxRecDepth 100000
set_option maxHeartbeats 4000000
namespace FL
open PySem PySem.Spec PyProof.Rows L2
/-! ### range(i, j, -1) -/
def downD (i j : Int) : List D := (List.range (i - j).toNat).map fun k => .int (i + (k : Nat) * (-1))
def rg3 (ds : List D) : Option (List D) := match ds with
  | [.int i, .int j, .int c] => if -(2 ^ 62) ≤ i ∧ i < 2 ^ 62 ∧ -(2 ^ 62) ≤ j ∧ j < 2 ^ 62 ∧ c = -1 then some (downD i j) else none
  | _ => none
theorem src_d {K : PySem.W.Frag} {Wr : Addr → Prop} {i j : Int} : Src K Wr (Itc i (-1) (i - j).toNat) (downD i j) fun _ => True where
  go := fun k d H e _ _ => by
    unfold downD at e
    rw [List.getElem?_map] at e
    obtain ⟨m, e1, rfl⟩ := Option.map_eq_some_iff.mp e
    obtain ⟨hlt, e2⟩ := List.getElem?_eq_some_iff.mp e1
    rw [List.length_range] at hlt
    rw [List.getElem_range] at e2
    subst e2
    refine ⟨show k < (i - j).toNat from hlt, fun x H' ⟨e3, e4⟩ => ?_⟩
    subst e3 e4
    exact ⟨Ext.refl _, by rw [Rep]; exact ⟨rfl, rfl⟩⟩
  stop := fun H _ => by
    show (i - j).toNat ≤ (downD i j).length
    unfold downD
    simp
section
variable {X : Cx} {tg a b c : Expr} {pos : Pos}
theorem di_r3 {p : Pos} {ms : Env → Option (List Tm × Env)} (hg : Gl X "range") (hm : X.mg "range" = none) (ha : DAs X [a, b, c] ms) (hs0 : starEach [a, b, c] X.env = (false, eval a X.env) :: starEach [b, c] X.env := by rfl) (hpl0 : (backTo pos (starEach [b, c] X.env)).any (·.1) = false := by rfl) :
    DI X tg (.Call (.Name "range" p) [a, b, c] [] pos) (itA rg3 ms) := by
  obtain ⟨t, h1, h2⟩ := ha.ex
  refine ⟨_, pi_range3 hg hm h1 hs0 hpl0, fun σ H R ⟨W, ρ, fs, ds, ρ', er, hp, q⟩ => ?_⟩
  obtain ⟨⟨ts, ρ1⟩, hx, hp⟩ := Option.bind_eq_some_iff.mp hp
  obtain ⟨xs, hs, hp⟩ := Option.bind_eq_some_iff.mp hp
  obtain ⟨ys, hy, hp⟩ := Option.map_eq_some_iff.mp hp
  cases hp
  unfold rg3 at hy
  split at hy
  · rename_i i j c
    split at hy
    · rename_i k
      obtain ⟨k1, k2, k3, k4, rfl⟩ := k
      cases hy
      refine h2 σ H _ ⟨W, ρ, fs, ts, _, er, hx, fun vs H1 fs1 F1 er1 r1 n1 a1 st1 => ?_⟩
      obtain ⟨G, rs⟩ := r1.raws er1 hs
      rw [Reps] at rs
      obtain ⟨v, r, F3, F4, rfl, rv, rs, _⟩ := rs
      obtain ⟨w, u, F5, F6, rfl, rw', ru, _⟩ := reps2 rs
      cases rep_int rv
      cases rep_int rw'
      cases rep_int ru
      exact ⟨i, j, -1, _, rfl, RgC.neg k1 k2 k3 k4, q _ H1 fs1 _ er1 (st1.mono fun a ha => .inl ha) src_d fun _ _ _ => trivial⟩
    · cases hy
  · cases hy
end
end FL

end

section
set_option Elab.async false
set_option linter.all false
set_option maxRecDepth 100000
set_option maxHeartbeats 4000000
namespace FL
open PySem PySem.Spec PyProof.Rows L2
/-! ### == of data of any depth -/
mutual
def toPy : D → PyData
  | .non => .none
  | .bl b => .bool b
  | .int i => .int i
  | .str s => .str s
  | .tup ds => .tuple (toPys ds)
  | .lst ds => .list (toPys ds)
  | .frz ds => .list (toPys ds)
  | .shr ds => .list (toPys ds)
def toPys : List D → List PyData
  | [] => []
  | d :: ds => toPy d :: toPys ds
end
mutual
theorem rep_dp {K : PySem.W.Frag} {Wr : Addr → Prop} {H : Hp} : ∀ {d : D} {v : V} {F : List Addr}, Rep K Wr H d v F → Dp K H v (toPy d)
  | .non, v, F, h => by rw [Rep] at h; obtain ⟨rfl, _⟩ := h; exact .non
  | .bl b, v, F, h => by rw [Rep] at h; obtain ⟨rfl, _⟩ := h; exact .bl b
  | .int i, v, F, h => by rw [Rep] at h; obtain ⟨rfl, _⟩ := h; exact .int i
  | .str s, v, F, h => by rw [Rep] at h; obtain ⟨rfl, _⟩ := h; exact .str s
  | .tup ds, v, F, h => by rw [Rep] at h; obtain ⟨a, vs, rfl, s, q⟩ := h; rw [toPy]; exact .tup s.sq (reps_dp q)
  | .lst ds, v, F, h => by rw [Rep] at h; obtain ⟨a, vs, G, rfl, s, _, q, _⟩ := h; rw [toPy]; exact .lst (.inl (.inl s)) (reps_dp q)
  | .frz ds, v, F, h => by rw [Rep] at h; obtain ⟨a, vs, G, rfl, s, _, q, _⟩ := h; rw [toPy]; exact .lst (.inl (.inl s)) (reps_dp q)
  | .shr ds, v, F, h => by rw [Rep] at h; obtain ⟨a, vs, rfl, s, _, q⟩ := h; rw [toPy]; exact .lst s (reps_dp q)
theorem reps_dp {K : PySem.W.Frag} {Wr : Addr → Prop} {H : Hp} : ∀ {ds : List D} {vs : List V} {F : List Addr}, Reps K Wr H ds vs F → DpAll K H vs (toPys ds)
  | [], vs, F, h => by rw [Reps] at h; obtain ⟨rfl, _⟩ := h; exact .nil
  | d :: ds, vs, F, h => by rw [Reps] at h; obtain ⟨v, r, F1, F2, rfl, h1, h2, _⟩ := h; rw [toPys]; exact .cons (rep_dp h1) (reps_dp h2)
end
def eqvD (x y : D) : Bool := PyData.eqv (toPy x) (toPy y)
def okD (x : D) : Bool := SeqAt.shaped (toPy x)
def dEqX (x y : D) : Option D := if okD x && okD y then some (.bl (eqvD x y)) else none
def dNeX (x y : D) : Option D := if okD x && okD y then some (.bl (!eqvD x y)) else none
section
variable {X : Cx} {a b e : Expr} {es : List Expr} {pos : Pos} {k : Nat}
theorem room64 (hr : Room k X.A) : X.A.units + 64 < cLine := by have := hr.un; omega
theorem room65 (hr : Room k X.A) : X.A.units + 65 < cLine := by have := hr.un; omega
theorem po_eqX : PO2 X.K (rEqD X.K) dEqX := by
  intro Wr H x y v w F G d Q fr rx ry e q
  unfold dEqX at e
  split at e
  · rename_i h
    rw [Bool.and_eq_true] at h
    cases e
    exact ⟨_, _, rep_dp rx, rep_dp ry, h.1, h.2, q.bl⟩
  · cases e
theorem po_neX : PO2 X.K (rNeD X.K) dNeX := by
  intro Wr H x y v w F G d Q fr rx ry e q
  unfold dNeX at e
  split at e
  · rename_i h
    rw [Bool.and_eq_true] at h
    cases e
    exact ⟨_, _, rep_dp rx, rep_dp ry, h.1, h.2, q.bl⟩
  · cases e
theorem df_eqX (hr : Room k X.A) {pa pb : Env → Option D} (ha : DB X a pa) (hb : DB X b pb) : DF X (.Compare a [.Eq] [b] pos) (p2 dEqX pa pb) := df_cmp (op_eqD (room64 hr)) po_eqX ha hb (nomark _)
theorem dt_eqX (hr : Room k X.A) {pa pb : Env → Option D} (ha : DB X a pa) (hb : DB X b pb) : DT X (.Compare a [.Eq] [b] pos) (tB' (p2 dEqX pa pb)) := dt_cmp (op_eqD (room64 hr)) po_eqX ha hb (nomark _)
theorem de_eqX (hr : Room k X.A) {ma mb : Env → Option (Tm × Env)} (ha : DO X a ma) (hb : DO X b mb) : DE X (.Compare a [.Eq] [b] pos) (opE2 dEqX ma mb) := de_cmp (op_eqD (room64 hr)) po_eqX ha hb (nomark _)
theorem dte_eqX (hr : Room k X.A) {ma mb : Env → Option (Tm × Env)} (ha : DO X a ma) (hb : DO X b mb) : DTE X (.Compare a [.Eq] [b] pos) (blE (opE2 dEqX ma mb)) := dte_cmp (op_eqD (room64 hr)) po_eqX ha hb (nomark _)
theorem df_neX (hr : Room k X.A) {pa pb : Env → Option D} (ha : DB X a pa) (hb : DB X b pb) : DF X (.Compare a [.NotEq] [b] pos) (p2 dNeX pa pb) := df_cmp (op_neD (room64 hr)) po_neX ha hb (nomark _)
theorem dt_neX (hr : Room k X.A) {pa pb : Env → Option D} (ha : DB X a pa) (hb : DB X b pb) : DT X (.Compare a [.NotEq] [b] pos) (tB' (p2 dNeX pa pb)) := dt_cmp (op_neD (room64 hr)) po_neX ha hb (nomark _)
theorem de_neX (hr : Room k X.A) {ma mb : Env → Option (Tm × Env)} (ha : DO X a ma) (hb : DO X b mb) : DE X (.Compare a [.NotEq] [b] pos) (opE2 dNeX ma mb) := de_cmp (op_neD (room64 hr)) po_neX ha hb (nomark _)
theorem dte_neX (hr : Room k X.A) {ma mb : Env → Option (Tm × Env)} (ha : DO X a ma) (hb : DO X b mb) : DTE X (.Compare a [.NotEq] [b] pos) (blE (opE2 dNeX ma mb)) := dte_cmp (op_neD (room64 hr)) po_neX ha hb (nomark _)
/-! ### x in xs, of data of any depth, in a list -/
def dInX (x s : D) : Option D := match s with
  | .lst xs => if okD x && okD (.lst xs) then some (.bl (xs.any fun z => eqvD z x)) else none
  | .frz xs => if okD x && okD (.frz xs) then some (.bl (xs.any fun z => eqvD z x)) else none
  | .shr xs => if okD x && okD (.shr xs) then some (.bl (xs.any fun z => eqvD z x)) else none
  | _ => none
def dNinX (x s : D) : Option D := (dInX x s).bind dNotB where
  dNotB : D → Option D
    | .bl b => some (.bl (!b))
    | _ => none
theorem any_toPys (p : PyData → Bool) : ∀ xs : List D, (toPys xs).any p = xs.any fun z => p (toPy z)
  | [] => rfl
  | x :: xs => by rw [toPys, List.any_cons, List.any_cons, any_toPys p xs]
theorem po_inX : PO2 X.K (rInD X.K) dInX := by
  intro Wr H x y v w F G d Q fr rx ry e q
  unfold dInX at e
  split at e
  all_goals first
    | (split at e
       · rename_i h
         rw [Bool.and_eq_true] at h
         cases e
         have r := rep_dp ry
         rw [toPy] at r
         refine ⟨_, _, rep_dp rx, r, h.1, ?_, ?_⟩
         · have := h.2; unfold okD at this; rw [toPy] at this; exact this
         · rw [any_toPys]; exact q.bl
       · cases e)
    | cases e
theorem po_ninX : PO2 X.K (rNotInD X.K) dNinX := by
  intro Wr H x y v w F G d Q fr rx ry e q
  unfold dNinX at e
  obtain ⟨z, e, e2⟩ := Option.bind_eq_some_iff.mp e
  unfold dInX at e
  split at e
  all_goals first
    | (split at e
       · rename_i h
         rw [Bool.and_eq_true] at h
         cases e
         cases e2
         have r := rep_dp ry
         rw [toPy] at r
         refine ⟨_, _, rep_dp rx, r, h.1, ?_, ?_⟩
         · have := h.2; unfold okD at this; rw [toPy] at this; exact this
         · rw [any_toPys]; exact q.bl
       · cases e)
    | cases e
theorem df_inX (hr : Room k X.A) {pa pb : Env → Option D} (ha : DB X a pa) (hb : DB X b pb) (hm : behindInMarks .In b = false := by rfl) : DF X (.Compare a [.In] [b] pos) (p2 dInX pa pb) := df_cmp (op_inD (room65 hr)) po_inX ha hb hm
theorem df_ninX (hr : Room k X.A) {pa pb : Env → Option D} (ha : DB X a pa) (hb : DB X b pb) (hm : behindInMarks .NotIn b = false := by rfl) : DF X (.Compare a [.NotIn] [b] pos) (p2 dNinX pa pb) := df_cmp (op_notInD (room65 hr)) po_ninX ha hb hm
theorem dt_inX (hr : Room k X.A) {pa pb : Env → Option D} (ha : DB X a pa) (hb : DB X b pb) (hm : behindInMarks .In b = false := by rfl) : DT X (.Compare a [.In] [b] pos) (tB' (p2 dInX pa pb)) := dt_cmp (op_inD (room65 hr)) po_inX ha hb hm
theorem dt_ninX (hr : Room k X.A) {pa pb : Env → Option D} (ha : DB X a pa) (hb : DB X b pb) (hm : behindInMarks .NotIn b = false := by rfl) : DT X (.Compare a [.NotIn] [b] pos) (tB' (p2 dNinX pa pb)) := dt_cmp (op_notInD (room65 hr)) po_ninX ha hb hm
/-! ### and, or, not as calm values -/
def pAnd (p q : Env → Option D) : Env → Option D := fun ρ => (p ρ).bind fun b => match b with | .bl c => if c then q ρ else some (.bl false) | _ => none
def pOr (p q : Env → Option D) : Env → Option D := fun ρ => (p ρ).bind fun b => match b with | .bl c => if c then some (.bl true) else q ρ | _ => none
def pNot (p : Env → Option D) : Env → Option D := fun ρ => (p ρ).bind fun b => match b with | .bl c => some (.bl (!c)) | _ => none
theorem df_one {op} {p : Env → Option D} (h : DF X a p) : DF X (.BoolOp op [a] pos) p := let ⟨t, h1, h2⟩ := h.ex; ⟨t, pe_one h1, h2⟩
theorem df_and {p q : Env → Option D} {rest : List Expr} (h : DB X a p) (kq : DF X (.BoolOp .And (b :: rest) pos) q) : DF X (.BoolOp .And (a :: b :: rest) pos) (pAnd p q) := by
  obtain ⟨t, h1, h2⟩ := h.ex
  obtain ⟨u, k1, k2⟩ := kq.ex
  refine ⟨_, pe_and h1 k1, fun σ H Q ⟨W, ρ, fs, d, er, hp, z⟩ => ?_⟩
  obtain ⟨x, hx, hp⟩ := Option.bind_eq_some_iff.mp hp
  refine h2 σ H _ ⟨W, ρ, fs, x, er, hx, fun v H1 F1 e1 r1 n1 => ?_⟩
  cases x with
  | bl c =>
    rw [Rep] at r1
    refine ⟨c, r1.1, ?_⟩
    cases c with
    | true => exact iteT (k2 σ H1 Q ⟨W, ρ, fs, d, er.ext e1, hp, fun v H' F e r m n => z v H' F (e1.trans e) r m fun a ha => e1.back (n a ha)⟩)
    | false => cases hp; exact iteF (z _ H1 [] e1 rep_bl List.nodup_nil fun _ z => by cases z)
  | _ => cases hp
theorem df_or {p q : Env → Option D} {rest : List Expr} (h : DB X a p) (kq : DF X (.BoolOp .Or (b :: rest) pos) q) : DF X (.BoolOp .Or (a :: b :: rest) pos) (pOr p q) := by
  obtain ⟨t, h1, h2⟩ := h.ex
  obtain ⟨u, k1, k2⟩ := kq.ex
  refine ⟨_, pe_or h1 k1, fun σ H Q ⟨W, ρ, fs, d, er, hp, z⟩ => ?_⟩
  obtain ⟨x, hx, hp⟩ := Option.bind_eq_some_iff.mp hp
  refine h2 σ H _ ⟨W, ρ, fs, x, er, hx, fun v H1 F1 e1 r1 n1 => ?_⟩
  cases x with
  | bl c =>
    rw [Rep] at r1
    refine ⟨c, r1.1, ?_⟩
    cases c with
    | false => exact iteF (k2 σ H1 Q ⟨W, ρ, fs, d, er.ext e1, hp, fun v H' F e r m n => z v H' F (e1.trans e) r m fun a ha => e1.back (n a ha)⟩)
    | true => cases hp; exact iteT (z _ H1 [] e1 rep_bl List.nodup_nil fun _ z => by cases z)
  | _ => cases hp
theorem df_not {p : Env → Option D} (h : DB X a p) : DF X (.UnaryOp .Not a pos) (pNot p) := by
  obtain ⟨t, h1, h2⟩ := h.ex
  refine ⟨_, pe_not h1, fun σ H Q ⟨W, ρ, fs, d, er, hp, z⟩ => ?_⟩
  obtain ⟨x, hx, hp⟩ := Option.bind_eq_some_iff.mp hp
  refine h2 σ H _ ⟨W, ρ, fs, x, er, hx, fun v H1 F1 e1 r1 n1 => ?_⟩
  cases x with
  | bl c =>
    rw [Rep] at r1
    cases hp
    exact ⟨c, r1.1, z _ H1 [] e1 rep_bl List.nodup_nil fun _ z => by cases z⟩
  | _ => cases hp
/-! ### xs.index(e), xs.remove(e), xs.sort() of a list of one's own -/
def lIndex (xs ds : List D) : Option (D × List D) := match ds with
  | [y] => (dIndex (.lst xs) y).map fun d => (d, xs)
  | _ => none
theorem ml_index : MtL X (rIndex X.K) lIndex := by
  intro Wr H xs ds p vs as G F d ys Q fr hH hw rg rs nd hf q
  unfold lIndex at hf
  split at hf
  · rename_i y
    obtain ⟨d', e, hf⟩ := Option.map_eq_some_iff.mp hf
    cases hf
    obtain ⟨xs', h1, e⟩ := Option.bind_eq_some_iff.mp e
    cases h1
    split at e
    · rename_i hc
      obtain ⟨j, hj, rfl⟩ := Option.map_eq_some_iff.mp e
      obtain ⟨v, r, F1, F2, rfl, q1, q2, rfl⟩ := (by rw [Reps] at rs; exact rs : ∃ v r F1 F2, as = v :: r ∧ Rep X.K Wr H y v F1 ∧ Reps X.K Wr H [] r F2 ∧ F = F1 ++ F2)
      rw [Reps] at q2
      obtain ⟨rfl, rfl⟩ := q2
      obtain ⟨a1, a2, z, a3, a4, a5⟩ := idx_facts rg q1 hc hj
      refine ⟨p, vs, v, j, z, rfl, rfl, .inl (.inl hH), a1, a2, a3, a4, a5, ?_⟩
      refine q (.int (j : Nat)) vs H G [] (fun a o _ e => e) hH rg (by rw [Rep]; exact ⟨rfl, rfl⟩) ?_ fun a ha => .inl ?_
      · rw [List.append_nil]
        rw [List.nodup_cons] at nd ⊢
        refine ⟨fun z => nd.1 (List.mem_append_left _ z), (List.nodup_append.mp nd.2).1⟩
      · rw [List.append_nil] at ha; exact List.mem_append_left _ ha
    · cases e
  · cases hf
theorem intsD_some {xs : List D} {ns : List Int} (h : intsD xs = some ns) : xs = ns.map .int := intsD_eq h
def lRemove (xs ds : List D) : Option (D × List D) := match ds with
  | [.int k] => (intsD xs).bind fun ns => if k ∈ ns then some (.non, (ns.eraseIdx (ns.findIdx (· == k))).map .int) else none
  | _ => none
theorem ml_remove : MtL X rRemI lRemove := by
  intro Wr H xs ds p vs as G F d ys Q fr hH hw rg rs nd hf q
  unfold lRemove at hf
  split at hf
  · rename_i k
    obtain ⟨ns, e, hf⟩ := Option.bind_eq_some_iff.mp hf
    split at hf
    · rename_i hk
      cases hf
      rw [intsD_eq e] at rg
      obtain rfl := rg.free (D.frees_all.mpr fun d hd => by obtain ⟨i, _, rfl⟩ := List.mem_map.mp hd; rfl)
      rw [reps_ints rg] at hH
      obtain ⟨v, rfl, rv⟩ := reps1 rs
      obtain ⟨v, r, F1, F2, e0, q1, q2, rfl⟩ := (by rw [Reps] at rs; exact rs : ∃ v' r F1 F2, [v] = v' :: r ∧ Rep X.K Wr H (.int k) v' F1 ∧ Reps X.K Wr H [] r F2 ∧ F = F1 ++ F2)
      cases rep_int rv
      have hlt : ns.findIdx (· == k) < ns.length := List.findIdx_lt_length_of_exists ⟨k, hk, by simp⟩
      have hget : ns[ns.findIdx (· == k)] = k := by simpa using List.findIdx_getElem (p := (· == k)) (w := hlt)
      refine ⟨p, ns, k, ns.findIdx (· == k), rfl, rfl, hH, by rw [List.getElem?_eq_getElem hlt, hget], fun m hm hmk => ?_, ?_⟩
      · have := List.not_of_lt_findIdx hm
        obtain ⟨hml, e2⟩ := List.getElem?_eq_some_iff.mp hmk
        rw [e2] at this
        simp at this
      · refine q .non _ _ [] [] (fun a o n e => by rw [upd_ne n]; exact e) upd_same ?_ rep_non (by simp) fun a ha => by cases ha
        exact reps_of_ints _
    · cases hf
  · cases hf
def lSort (xs ds : List D) : Option (D × List D) := match ds with
  | [] => (intsD xs).map fun ns => (.non, (iSort ns).map .int)
  | _ => none
theorem ml_sort : MtL X rSortI lSort := by
  intro Wr H xs ds p vs as G F d ys Q fr hH hw rg rs nd hf q
  unfold lSort at hf
  split at hf
  · obtain ⟨ns, e, hf⟩ := Option.map_eq_some_iff.mp hf
    cases hf
    rw [Reps] at rs
    obtain ⟨rfl, rfl⟩ := rs
    rw [intsD_eq e] at rg
    obtain rfl := rg.free (D.frees_all.mpr fun d hd => by obtain ⟨i, _, rfl⟩ := List.mem_map.mp hd; rfl)
    rw [reps_ints rg] at hH
    refine ⟨p, ns, rfl, rfl, hH, fun ns' h1 h2 => ?_⟩
    rw [iSort_uniq h1 h2]
    exact q .non _ _ [] [] (fun a o n e => by rw [upd_ne n]; exact e) upd_same (reps_of_ints _) rep_non (by simp) fun a ha => by cases ha
  · cases hf
theorem de_index1 (k : Nat) {x : Str} {px apos : Pos} {ms : Env → Option (List Tm × Env)} (ha : DAs X [e] ms)
    (hN : X.N[k]? = some x := by rfl) (hv : Vis X.env.scope x := by first | exact Or.inl rfl | exact Or.inr (Or.inl rfl) | exact Or.inr (Or.inr rfl)) (hd : (x == ("__debug__" : Str)) = false := by decide) (hcd : (x == ("__classdict__" : Str)) = false := by decide)
    (hbase : attributeBase (.Name x px) "index" X.env (eval (.Name x px) X.env) = eval (.Name x px) X.env := by rfl)
    (hfew : ((backTo pos (starEach [e] X.env)).all (fun x => !x.1) && (backToKw pos (keywordEach [] X.env)).all (fun x => x.1.isSome) && decide ([e].length + ([] : List Keyword).length + (if ([] : List Keyword).isEmpty then 0 else 1) < 30)) = true := by rfl)
    (hline : (apos.endLine == pos.line) = true := by rfl) (hs : starEach [e] X.env = (false, eval e X.env) :: starEach [] X.env := by rfl) (hplain : (backTo pos (starEach [] X.env)).any (·.1) = false := by rfl) :
    DE X (.Call (.Attribute (.Name x px) "index" apos) [e] [] pos) (mtE k lIndex ms) := de_bm k ml_index PySem.F.plainAttrs_list PySem.F.slot_list_index PySem.F.type_list_index mt_index ha hN hv hd hcd hbase hfew hline hs hplain
theorem de_remove (k : Nat) {x : Str} {px apos : Pos} {ms : Env → Option (List Tm × Env)} (ha : DAs X [e] ms)
    (hN : X.N[k]? = some x := by rfl) (hv : Vis X.env.scope x := by first | exact Or.inl rfl | exact Or.inr (Or.inl rfl) | exact Or.inr (Or.inr rfl)) (hd : (x == ("__debug__" : Str)) = false := by decide) (hcd : (x == ("__classdict__" : Str)) = false := by decide)
    (hbase : attributeBase (.Name x px) "remove" X.env (eval (.Name x px) X.env) = eval (.Name x px) X.env := by rfl)
    (hfew : ((backTo pos (starEach [e] X.env)).all (fun x => !x.1) && (backToKw pos (keywordEach [] X.env)).all (fun x => x.1.isSome) && decide ([e].length + ([] : List Keyword).length + (if ([] : List Keyword).isEmpty then 0 else 1) < 30)) = true := by rfl)
    (hline : (apos.endLine == pos.line) = true := by rfl) (hs : starEach [e] X.env = (false, eval e X.env) :: starEach [] X.env := by rfl) (hplain : (backTo pos (starEach [] X.env)).any (·.1) = false := by rfl) :
    DE X (.Call (.Attribute (.Name x px) "remove" apos) [e] [] pos) (mtE k lRemove ms) := de_bm k ml_remove PySem.F.plainAttrs_list PySem.F.slot_list_remove PySem.F.type_list_remove mt_remove ha hN hv hd hcd hbase hfew hline hs hplain
theorem de_sort (k : Nat) {x : Str} {px apos : Pos}
    (hN : X.N[k]? = some x := by rfl) (hv : Vis X.env.scope x := by first | exact Or.inl rfl | exact Or.inr (Or.inl rfl) | exact Or.inr (Or.inr rfl)) (hd : (x == ("__debug__" : Str)) = false := by decide) (hcd : (x == ("__classdict__" : Str)) = false := by decide)
    (hbase : attributeBase (.Name x px) "sort" X.env (eval (.Name x px) X.env) = eval (.Name x px) X.env := by rfl) (hline : (apos.endLine == pos.line) = true := by rfl) :
    DE X (.Call (.Attribute (.Name x px) "sort" apos) [] [] pos) (mtE k lSort asNil) := de_bm0 k ml_sort PySem.F.plainAttrs_list PySem.F.slot_list_sort PySem.F.type_list_sort mt_sortI hN hv hd hcd hbase hline
end
end FL

end

section
set_option Elab.async false
set_option linter.all false
set_option maxRecDepth 100000
set_option maxHeartbeats 4000000
/-! set(xs) of a list of ints, sorted(set(xs)) -/
namespace FL
open PySem PySem.Spec PyProof.Rows L2
section
variable {P : Program} {w : World} {A : Around} {E : Value → Shared → Prop} {s : Shared}
/-- an empty set, as set.__new__ makes it -/
abbrev noSet (w : World) : Obj := { cls := .type "set", dict := none, data := .set #[] 0 (.fresh 0 0 (!w.params.followText "set-order")) }
set_option maxHeartbeats 3200000 in
/-- the filling of a new set from a list (the kit's call_set_tupI has the like for tuples) -/
theorem fill_list {l : Addr} {items : Array Value} (ns : List Int) {R : Result → Shared → Prop} (hh : A.handled = none) (hl : s.heap.IsList l items) (hi : IntsAre items.toList ns) (hb : ns.length + 1 < scanBound)
    (hR : ∀ (h' : Heap) (tk c : Nat), SetR w h' s.heap.objs.size (fun j => decide (j ∈ ns)) c → c ≤ ns.length → (∀ b o, s.heap.get? b = some o → h'.get? b = some o) → R (.ok (.ret .none)) { s with heap := h', toks := tk }) :
    codeAny (model P w) A (.builtin "set.update.loop" ⟨[.ref s.heap.objs.size, .ref (s.heap.push (noSet w)).objs.size], []⟩) R
      { s with heap := (s.heap.push (noSet w)).push { cls := .type "list_iterator", data := .fields #[.ref l, .int 0 0] } } := by
  have hz : items.size = ns.length := by
    have q := IntsAre.length hi
    rwa [Array.length_toList] at q
  have h1 : (s.heap.push (noSet w)).IsList l items := hl.push _
  have h0 : (s.heap.push (noSet w)).get? s.heap.objs.size = some (noSet w) := Heap.get?_push_size _ rfl
  have hl0 : l < s.heap.objs.size := by obtain ⟨o, e, _⟩ := hl; exact Heap.lt_size e
  have e1 : (s.heap.push (noSet w)).objs.size = s.heap.objs.size + 1 := Heap.size_push ..
  have nI : l ≠ (s.heap.push (noSet w)).objs.size := by rw [e1]; exact Nat.ne_of_lt (Nat.lt_succ_of_lt hl0)
  have nS : s.heap.objs.size ∉ [(s.heap.push (noSet w)).objs.size, l] := by
    rw [e1]
    intro z
    rcases List.mem_cons.mp z with z | z
    · exact absurd z (Nat.ne_of_lt (Nat.lt_succ_self _))
    · exact absurd (List.mem_singleton.mp z) (Nat.ne_of_gt hl0)
  have at1 : ∀ (i : Nat) (v : Value), items[i]? = some v → ∃ k t, ns[i]? = some k ∧ v = .int k t := fun i v hv => by
    have lt : i < ns.length := by rw [← hz]; exact (Array.getElem?_eq_some_iff.mp hv).1
    obtain ⟨t, e⟩ := PyProof.Rows.IntsAre.int_at hi i v (by rw [Array.getElem?_toList]; exact hv)
    exact ⟨ns[i], t, List.getElem?_eq_getElem lt, by rw [e, List.getD_eq_getElem?_getD, List.getElem?_eq_getElem lt] <;> rfl⟩
  refine set_update_ints ((Walks.list (by simp [hh]) _ l nI items).toS) s.heap.objs.size nS ns hz hb at1 (items.size - 0) 0 _ (by omega) (Nat.zero_le _) ⟨⟨_, Heap.get?_push_size _ rfl, rfl, rfl⟩, h1.push _⟩
    ⟨0, Nat.le_refl 0, setR_new_at (Heap.get?_push_of_some _ h0)⟩ fun s' c m hc r => ?_
  have eg : s'.gens = s.gens := m.gens
  have ed : s'.drawn = s.drawn := m.drawn
  have eo : s'.os = s.os := m.os
  have es : s' = { s with heap := s'.heap, toks := s'.toks } := by
    cases s'
    cases s
    cases eg
    cases ed
    cases eo
    rfl
  rw [es]
  refine hR s'.heap s'.toks c r (by omega) fun b o e => m.heap b o (fun z => ?_) (Heap.get?_push_of_some _ (Heap.get?_push_of_some _ e))
  have hb := Heap.lt_size e
  rcases List.mem_cons.mp z with z | z
  · exact absurd z (Nat.ne_of_lt hb)
  · rcases List.mem_cons.mp z with z | z
    · exact absurd z (by rw [e1]; exact Nat.ne_of_lt (Nat.lt_succ_of_lt hb))
    · cases z
set_option maxHeartbeats 3200000 in
theorem call_set_listI {l : Addr} {items : Array Value} (ns : List Int) {Q : Value → Shared → Prop} (hh : A.handled = none) (hl : s.heap.IsList l items) (hi : IntsAre items.toList ns) (hb : ns.length + 1 < scanBound)
    (h : ∀ (h' : Heap) (tk c : Nat), SetR w h' s.heap.objs.size (fun j => decide (j ∈ ns)) c → c ≤ ns.length → (∀ b o, s.heap.get? b = some o → h'.get? b = some o) → Q (.ref s.heap.objs.size) { s with heap := h', toks := tk }) :
    wpAny (model P w) A (call (.type "set") [.ref l]) Q E s := by
  obtain ⟨c, tl, hmro⟩ := F.called_set.mro
  have hmade := F.called_set.made
  have hsub := F.called_set.sub
  have h1 := F.called_set.notType
  have h2 := F.called_set.canCreate
  have hct := F.typeCall_set_1 (.ref l)
  refine wpAny_call (codeAny_of_tree ?_)
  show wpAny _ _ (callAny (.type "set") _) _ _ _
  refine wpAny_pure ⟨Code.quiet_builtin _ (by decide +kernel), codeAny_builtin F.entry_type_call ?_⟩
  rw [Around.under_plain (weight_type_call_type "set" [.ref l] []) rfl]
  repeat (any_goals (first | assumption | wp_step))
  refine codeAny_mono (code_set_led1 (.ref l) (E := E) (Q₁ := fun obj s₁ => obj = .ref s.heap.objs.size ∧ s₁ = { s with heap := s.heap.push (noSet w) }) ⟨rfl, rfl⟩) fun r s₁ hr => ?_
  rcases r with e | fl
  · exact hr
  cases fl
  case ret obj =>
    obtain ⟨rfl, rfl⟩ := hr
    have hT : Shared.TypeIs { s with heap := s.heap.push (noSet w) } (.ref s.heap.objs.size) "set" := ⟨_, Heap.get?_push_size _ rfl, rfl⟩
    have hli := F.called_set.init.lookup
    have hbi := F.called_set.init.bind (.ref s.heap.objs.size)
    repeat (any_goals (first | assumption | wp_step))
    refine codeAny_mono (codeAny_call_builtin (R := wants (fun r s₂ => r = .none ∧ ∃ h' tk c, s₂ = { s with heap := h', toks := tk } ∧ SetR w h' s.heap.objs.size (fun j => decide (j ∈ ns)) c ∧ c ≤ ns.length ∧
        (∀ b o, s.heap.get? b = some o → h'.get? b = some o)) E) F.called_set.init.plain F.entry_set_init (check_set_init_1 hT ?_)) fun r₂ s₂ hr₂ => ?_
    · have hl0 := hl
      obtain ⟨⟨ocls, odict, odata, oslots⟩, hol, hcl, nl, hdl⟩ := hl
      simp only at hcl hdl
      subst hcl
      subst hdl
      have hol' : (s.heap.push (noSet w)).get? l = some { cls := .type "list", dict := odict, data := .seq items nl, slots := oslots } := Heap.get?_push_of_some _ hol
      have hl1 : (s.heap.push (noSet w)).IsList l items := ⟨_, hol', rfl, nl, rfl⟩
      have hS : (s.heap.push (noSet w)).get? s.heap.objs.size = some (noSet w) := Heap.get?_push_size _ rfl
      have hsls := PySem.F.sub_list_set
      have hslf := PySem.F.sub_list_frozenset
      have hne : (Value.type "list" == Value.type "dict") = false := by decide
      unfold Builtin.«set.__init__» noKeywords Builtin.Frozenset.updateFrom
      generalize hPI : pyIter = PI
      wp_walk
      subst hPI
      refine wpAny_pyIter_list hl1 ?_
      refine wpAny_bind (wpAny_runValue ?_)
      refine fill_list ns (by simp [hh]) hl0 hi hb fun h' tk c r hc k => ?_
      show wpAny _ _ _ _ _ _
      refine wpAny_pure ?_
      show wpAny _ _ (ret Value.none) _ _ _
      exact wpAny_pure ⟨rfl, h', tk, c, rfl, r, hc, k⟩
    · rcases r₂ with e | fl₂
      · exact hr₂
      cases fl₂
      case ret r =>
        obtain ⟨rfl, h', tk, c', rfl, r, hc', k⟩ := hr₂
        repeat (any_goals (first | assumption | wp_step))
        exact h _ _ _ r hc' k
      all_goals exact hr₂.elim
  all_goals exact hr.elim
end
def insU (x : Int) : List Int → List Int
  | [] => [x]
  | y :: l => if x < y then x :: y :: l else if x = y then y :: l else y :: insU x l
def sSet (ns : List Int) : List Int := ns.foldr insU []
theorem mem_insU {x k : Int} : ∀ {l : List Int}, k ∈ insU x l ↔ k = x ∨ k ∈ l
  | [] => by simp [insU]
  | y :: l => by
    unfold insU
    split
    · simp
    · split
      · rename_i h; subst h; simp
      · rw [List.mem_cons, mem_insU, List.mem_cons]; constructor
        · rintro (h | h | h) <;> simp [h]
        · rintro (h | h | h) <;> simp [h]
theorem insU_asc {x : Int} : ∀ {l : List Int}, l.Pairwise (· < ·) → (insU x l).Pairwise (· < ·)
  | [], _ => by simp [insU]
  | y :: l, h => by
    obtain ⟨h1, h2⟩ := List.pairwise_cons.mp h
    unfold insU
    split
    · rename_i c
      refine List.pairwise_cons.mpr ⟨fun z hz => ?_, h⟩
      rcases List.mem_cons.mp hz with rfl | hz
      · exact c
      · have := h1 z hz; omega
    · split
      · exact h
      · refine List.pairwise_cons.mpr ⟨fun z hz => ?_, insU_asc h2⟩
        rcases mem_insU.mp hz with rfl | hz
        · omega
        · exact h1 z hz
theorem mem_sSet {k : Int} : ∀ {ns : List Int}, k ∈ sSet ns ↔ k ∈ ns
  | [] => by simp [sSet]
  | n :: ns => by
    show k ∈ insU n (sSet ns) ↔ _
    rw [mem_insU, mem_sSet, List.mem_cons]
theorem sSet_asc : ∀ (ns : List Int), (sSet ns).Pairwise (· < ·)
  | [] => List.Pairwise.nil
  | n :: ns => insU_asc (sSet_asc ns)
theorem asc_uniq : ∀ {l l' : List Int}, l.Pairwise (· < ·) → l'.Pairwise (· < ·) → (∀ k, k ∈ l ↔ k ∈ l') → l = l' := fun {l l'} h h' m =>
  List.Perm.eq_of_pairwise (le := fun a b => a < b) (fun a b _ _ h1 h2 => absurd h1 (by omega)) h h' ((List.perm_ext_iff_of_nodup (h.imp fun h => by omega) (h'.imp fun h => by omega)).mpr m)
theorem sSet_uniq {ns l : List Int} (h : l.Pairwise (· < ·)) (m : ∀ k, k ∈ l ↔ k ∈ ns) : l = sSet ns := asc_uniq h (sSet_asc ns) fun k => by rw [m, mem_sSet]
section
variable {X : Cx}
/-- set(xs), xs a list of ints -/
def rSetL (K : PySem.W.Frag) (w : World) : List V → Hp → VK → Prop := fun xs H Q => ∃ (l : Addr) (ns : List Int), xs = [V.ref l] ∧ SqL K H l (ns.map V.int) ∧ ns.length ≤ 1000 ∧ ∀ a S, (∀ k : Int, S k = true ↔ k ∈ ns) → H a = none → Q (.ref a) (upd H a (SetO w a S (sSet ns).length))
theorem cr_setL (hc : X.calm = true) : CallR X (.type "set") (rSetL X.K X.w) := by
  intro pins s σ H xs us Q I r h
  obtain ⟨l, ns, rfl, hl, hn, q⟩ := h
  rw [Vals.ref1 r]
  obtain ⟨its, rv, pl, hz⟩ := I.list hl
  have hf : H s.heap.objs.size = none := I.hok.fresh (Nat.le_refl _)
  refine call_set_listI (P := X.prog) (w := X.w) ns (I.ok.hd hc) pl.isList (by simpa using ints_of_vals rv) (by unfold scanBound; omega) fun h' tk c R hc k => ?_
  have hn : c = (sSet ns).length := by
    obtain ⟨o, es, ep, t, _, _, _, _, nd, hm, _, _, hz, _⟩ := R
    rw [← hz, ← Array.length_toList, ← List.length_map (as := es.toList) (f := keyOf)]
    exact ((List.perm_ext_iff_of_nodup nd ((sSet_asc ns).imp fun h => by omega)).mpr fun k => by rw [← hm k, mem_sSet]; simp).length_eq
  subst hn
  exact ⟨.ref s.heap.objs.size, upd H s.heap.objs.size (SetO X.w s.heap.objs.size _ (sSet ns).length), I.laid (t' := tk) k (Nat.le_refl _) (setO_new R), rfl, q _ _ (fun k => by simp) hf⟩
end
end FL

end

section
set_option Elab.async false
set_option linter.all false
set_option maxRecDepth 100000
set_option maxHeartbeats 4000000
/-! two fors, two ifs, xs[::-1], sorted(set(xs)), t[i][j] = v, tuple * int -/
namespace FL
open PySem PySem.Spec PyProof.Rows L2

/-! ### two tests of a clause -/
def andC (p q : Env → Option Bool) : Env → Option Bool := fun ρ => (p ρ).bind fun a => if a then q ρ else some false
section
variable {X : Cx} {c1 c2 : Expr} {p q : Env → Option Bool}
theorem pts_two {t1 t2 : TT} (h1 : PT X c1 t1) (h2 : PT X c2 t2) : PTs X [c1, c2] (fun σ H Q => t1 σ H fun b H' => if b = true then t2 σ H' Q else Q false H') := by
  refine ⟨fun pins s σ H Q I hw => ?_⟩
  simp only [List.forIn_cons, List.forIn_nil, if_true]
  refine wpAny_bind (wpAny_bind (wpAny_mono (h1.run pins s σ H _ I hw) (fun b s' hb => wpAny_pure ?_) fun _ _ x => x))
  obtain ⟨H1, I1, q1⟩ := hb
  cases b with
  | false =>
    rw [if_neg Bool.false_ne_true] at q1
    dsimp only
    rw [if_neg Bool.false_ne_true]
    exact wpAny_bind (wpAny_pure (wpAny_pure ⟨H1, I1, q1⟩))
  | true =>
    rw [if_pos rfl] at q1
    dsimp only
    rw [if_pos rfl]
    exact wpAny_bind (wpAny_bind (wpAny_mono (h2.run pins s' σ H1 _ I1 q1) (fun b s' hb => wpAny_pure (wpAny_pure hb)) fun _ _ x => x))
theorem dtc_two (h1 : DT X c1 p) (h2 : DT X c2 q) : DTc X [c1, c2] (andC p q) := by
  obtain ⟨t1, a1, b1⟩ := h1.ex
  obtain ⟨t2, a2, b2⟩ := h2.ex
  refine ⟨_, pts_two a1 a2, fun σ H Q ⟨W, ρ, fs, b, er, hp, qq⟩ => ?_⟩
  obtain ⟨x, hx, hp⟩ := Option.bind_eq_some_iff.mp hp
  refine b1 σ H _ ⟨W, ρ, fs, x, er, hx, fun H1 e1 => ?_⟩
  cases x with
  | false =>
    cases hp
    exact iteF (qq H1 e1)
  | true =>
    exact iteT (b2 σ H1 _ ⟨W, ρ, fs, b, er.ext e1, hp, fun H2 e2 => qq H2 (e1.trans e2)⟩)
end

/-! ### xs[::-1] -/
def dRev (d : D) : Option D := (listD d).bind fun xs => if D.frees xs then some (.lst xs.reverse) else none
def rRev (K : PySem.W.Frag) : V → Hp → VK → Prop := fun x H Q => ∃ a xs, x = .ref a ∧ SqL K H a xs ∧ ∀ p, H p = none → Q (.ref p) (upd H p (.lst xs.reverse))
theorem Reps.rev0 {K : PySem.W.Frag} {Wr : Addr → Prop} {H : Hp} : ∀ {xs : List D} {vs : List V}, Reps K Wr H xs vs [] → Reps K Wr H xs.reverse vs.reverse []
  | [], vs, h => by rw [Reps] at h; obtain ⟨rfl, _⟩ := h; exact Reps.nil
  | x :: xs, vs, h => by
    rw [Reps] at h
    obtain ⟨v, r, F1, F2, rfl, h1, h2, e⟩ := h
    obtain ⟨rfl, rfl⟩ := List.append_eq_nil_iff.mp e.symm
    rw [List.reverse_cons, List.reverse_cons]
    exact (Reps.rev0 h2).append (Reps.one h1)
section
variable {X : Cx} {e : Expr} {pos : Pos}
theorem po_rev : PO1 X.K (rRev X.K) dRev := by
  intro Wr H x v F d Q fr r e nw
  unfold dRev at e
  obtain ⟨xs, e1, e⟩ := Option.bind_eq_some_iff.mp e
  split at e
  · rename_i f
    cases e
    obtain ⟨a, vs, G, rfl, s, rs⟩ := list_read r e1
    obtain rfl := rs.free f
    exact ⟨a, vs, rfl, s, fun p hp => nw.lst fr rs.rev0 hp⟩
  · cases e
theorem df_rev {k : Nat} {p1 p2 p3 : Pos} {pa : Env → Option D} (ha : DB X e pa) : DF X (.Subscript e (.Slice none none (some (.UnaryOp .USub (.Constant (.int 1) k p1) p2)) p3) pos) (FL.p1 dRev pa) := by
  obtain ⟨t, h1, h2⟩ := ha.ex
  exact ⟨_, pe_revL h1, fun σ H Q h => calm1 (r := rRev X.K) po_rev h2 h⟩
theorem de_rev {k : Nat} {p1 p2 p3 : Pos} {ma : Env → Option (Tm × Env)} (ha : DO X e ma) : DE X (.Subscript e (.Slice none none (some (.UnaryOp .USub (.Constant (.int 1) k p1) p2)) p3) pos) (opE1 dRev ma) := by
  obtain ⟨t, h1, h2⟩ := ha.ex
  exact ⟨_, pe_revL h1, fun σ H Q h => eff1 (r := rRev X.K) po_rev h2 h⟩
end

/-! ### sorted(set(xs)) -/
def rSrtS (K : PySem.W.Frag) (w : World) : List V → Hp → VK → Prop := fun vs H Q => rSetL K w vs H fun x H2 => rSortedSet w [x] H2 Q
def dSrtS : List D → Option D
  | [d] => (listD d).bind fun xs => (intsD xs).bind fun ns => if ns.length ≤ 1000 ∧ (sSet ns).length < 64 then some (.lst ((sSet ns).map .int)) else none
  | _ => none
section
variable {X : Cx} {e : Expr} {es : List Expr} {pos : Pos}
theorem po_srtS : POn X.K (rSrtS X.K X.w) dSrtS := by
  intro Wr H xs vs F d Q fr r e nw
  unfold dSrtS at e
  split at e
  · obtain ⟨ys, e1, e⟩ := Option.bind_eq_some_iff.mp e
    obtain ⟨ns, e2, e⟩ := Option.bind_eq_some_iff.mp e
    split at e
    · rename_i c
      cases e
      obtain ⟨v, rfl, rv⟩ := reps1 r
      obtain ⟨a, ws, G, rfl, s, rs⟩ := list_read rv e1
      rw [intsD_eq e2] at rs
      rw [reps_ints rs] at s
      refine ⟨a, ns, rfl, s, c.1, fun b S hS hb => ?_⟩
      · refine ⟨b, S, _, rfl, upd_same, c.2, fun ks p h1 h2 h3 hp => ?_⟩
        have ek : ks = sSet ns := sSet_uniq h1 fun k => (h2 k).trans (hS k)
        subst ek
        have hp0 : H p = none := by
          cases z : H p with
          | none => rfl
          | some o => rw [Ext.new hb _ _ z] at hp; cases hp
        refine nw _ _ [p] ((Ext.new hb).trans (Ext.new hp)) ?_ (by simp) fun a ha => by rw [List.mem_singleton.mp ha]; exact hp0
        rw [Rep]
        refine ⟨p, _, [], rfl, upd_same, fr p hp0, ?_, rfl⟩
        exact reps_of_ints _
    · cases e
  · cases e
theorem de_srtS {p q : Pos} {pos2 : Pos} {ms : Env → Option (List Tm × Env)} (hc : X.calm = true) (hg : Gl X "sorted") (hm : X.mg "sorted" = none) (hg2 : Gl X "set") (hm2 : X.mg "set" = none) (ha : DAs X [e] ms)
    (h1 : starEach [e] X.env = (false, eval e X.env) :: starEach [] X.env := by rfl) (h2 : (backTo pos2 (starEach [] X.env)).any (·.1) = false := by rfl)
    (h3 : starEach [.Call (.Name "set" q) [e] [] pos2] X.env = (false, eval (.Call (.Name "set" q) [e] [] pos2) X.env) :: starEach [] X.env := by rfl) (h4 : (backTo pos (starEach [] X.env)).any (·.1) = false := by rfl) :
    DE X (.Call (.Name "sorted" p) [.Call (.Name "set" q) [e] [] pos2] [] pos) (opEn dSrtS ms) := by
  obtain ⟨t, k1, k2⟩ := ha.ex
  exact ⟨_, pe_callB (cr_sortedSet hc) hg hm (by decide +kernel) (pa_cons (pe_callTy (cr_setL hc) hg2 hm2 (by decide +kernel) k1 (by decide) (by decide) h1 h2) pa_nil h3) (by decide) (by decide) h3 h4, fun σ H Q h => effn (r := rSrtS X.K X.w) po_srtS k2 h⟩
theorem df_srtS {p q : Pos} {pos2 : Pos} {ps : Env → Option (List D)} (hc : X.calm = true) (hg : Gl X "sorted") (hm : X.mg "sorted" = none) (hg2 : Gl X "set") (hm2 : X.mg "set" = none) (ha : DBs X [e] ps)
    (h1 : starEach [e] X.env = (false, eval e X.env) :: starEach [] X.env := by rfl) (h2 : (backTo pos2 (starEach [] X.env)).any (·.1) = false := by rfl)
    (h3 : starEach [.Call (.Name "set" q) [e] [] pos2] X.env = (false, eval (.Call (.Name "set" q) [e] [] pos2) X.env) :: starEach [] X.env := by rfl) (h4 : (backTo pos (starEach [] X.env)).any (·.1) = false := by rfl) :
    DF X (.Call (.Name "sorted" p) [.Call (.Name "set" q) [e] [] pos2] [] pos) (pn dSrtS ps) := by
  obtain ⟨t, k1, k2⟩ := ha.ex
  exact ⟨_, pe_callB (cr_sortedSet hc) hg hm (by decide +kernel) (pa_cons (pe_callTy (cr_setL hc) hg2 hm2 (by decide +kernel) k1 (by decide) (by decide) h1 h2) pa_nil h3) (by decide) (by decide) h3 h4, fun σ H Q h => calmn (r := rSrtS X.K X.w) po_srtS k2 h⟩
end

/-! ### two fors -/
mutual
/-- no list in it -/
def D.nl : D → Bool
  | .tup ds => D.nls ds
  | .lst _ => false
  | .frz _ => false
  | .shr _ => false
  | _ => true
def D.nls : List D → Bool
  | [] => true
  | d :: ds => d.nl && D.nls ds
end
/-- what is no list stays -/
def Nl (H H' : Hp) : Prop := ∀ a o, (∀ vs, o ≠ .lst vs) → H a = some o → H' a = some o
section
variable {K : PySem.W.Frag} {Wr : Addr → Prop} {H H' : Hp}
theorem sqx_nl {a : Addr} {vs : List V} (k : Nl H H') (h : SqX K H a vs) : SqX K H' a vs := by
  rcases h with ⟨u, h, hd⟩ | h
  · exact .inl ⟨u, k _ _ (fun _ z => by cases z) h, hd⟩
  · exact .inr h
mutual
theorem Rep.nlk (k : Nl H H') : ∀ {d : D} {v : V} {F : List Addr}, Rep K Wr H d v F → d.nl = true → Rep K Wr H' d v F ∧ F = []
  | .non, v, F, h, _ => by rw [Rep] at h ⊢; exact ⟨h, h.2⟩
  | .bl _, v, F, h, _ => by rw [Rep] at h ⊢; exact ⟨h, h.2⟩
  | .int _, v, F, h, _ => by rw [Rep] at h ⊢; exact ⟨h, h.2⟩
  | .str _, v, F, h, _ => by rw [Rep] at h ⊢; exact ⟨h, h.2⟩
  | .tup ds, v, F, h, n => by
    rw [Rep] at h ⊢
    obtain ⟨a, vs, e, s, q⟩ := h
    rw [D.nl] at n
    obtain ⟨q1, q2⟩ := Reps.nlk k q n
    exact ⟨⟨a, vs, e, sqx_nl k s, q1⟩, q2⟩
  | .lst ds, v, F, h, n => by rw [D.nl] at n; cases n
  | .frz ds, v, F, h, n => by rw [D.nl] at n; cases n
  | .shr ds, v, F, h, n => by rw [D.nl] at n; cases n
theorem Reps.nlk (k : Nl H H') : ∀ {ds : List D} {vs : List V} {F : List Addr}, Reps K Wr H ds vs F → D.nls ds = true → Reps K Wr H' ds vs F ∧ F = []
  | [], vs, F, h, _ => by rw [Reps] at h ⊢; exact ⟨h, h.2⟩
  | d :: ds, vs, F, h, n => by
    rw [Reps] at h ⊢
    obtain ⟨v, r, F1, F2, e, h1, h2, rfl⟩ := h
    rw [D.nls, Bool.and_eq_true] at n
    obtain ⟨a1, a2⟩ := Rep.nlk k h1 n.1
    obtain ⟨b1, b2⟩ := Reps.nlk k h2 n.2
    subst a2
    subst b2
    exact ⟨⟨v, r, [], [], e, a1, b1, rfl⟩, rfl⟩
end
mutual
theorem D.nl_free : ∀ {d : D}, d.nl = true → d.free = true
  | .non, _ => rfl
  | .bl _, _ => rfl
  | .int _, _ => rfl
  | .str _, _ => rfl
  | .tup ds, n => by rw [D.free]; rw [D.nl] at n; exact D.nls_free n
  | .lst ds, n => by rw [D.nl] at n; cases n
  | .frz ds, n => by rw [D.nl] at n; cases n
  | .shr ds, n => by rw [D.nl] at n; cases n
theorem D.nls_free : ∀ {ds : List D}, D.nls ds = true → D.frees ds = true
  | [], _ => rfl
  | d :: ds, n => by
    rw [D.nls, Bool.and_eq_true] at n
    rw [D.frees, D.nl_free n.1, D.nls_free n.2]; rfl
end
end
/-- sources that no list's change touches -/
def DenIt (K : PySem.W.Frag) (pi : Env → Option (List D)) : TI := fun σ H R => ∃ (W : Wc) (ρ : Env) (fs : Fs) (ds : List D), ER K W σ H ρ fs ∧ pi ρ = some ds ∧
  ∀ J H1 G, Ext H H1 → Src K W.Wr J ds G → (∀ H', Nl H1 H' → G H') → R J H1
structure DIt (X : Cx) (tg iter : Expr) (pi : Env → Option (List D)) : Prop where
  ex : ∃ wi, PI X tg iter wi ∧ ∀ σ H R, DenIt X.K pi σ H R → wi σ H R
def icT (p : Env → Option D) : Env → Option (List D) := fun ρ => (p ρ).bind fun d => match d with
  | .tup ds => if D.nls ds then some ds else none
  | _ => none
section
variable {X : Cx} {tg a b e : Expr} {pos : Pos}
theorem DIt.pi {m : Env → Option (List D)} (h : DIt X tg e m) : PI X tg e (DenIt X.K m) := let ⟨t, h1, h2⟩ := h.ex; ⟨fun pins s σ H Q I q => h1.run pins s σ H Q I (h2 σ H Q q)⟩
theorem dit_b {p : Env → Option D} (h : DB X e p) : DIt X tg e (icT p) := by
  obtain ⟨t, h1, h2⟩ := h.ex
  refine ⟨_, pi_seq h1, fun σ H R ⟨W, ρ, fs, ds, er, hp, q⟩ => ?_⟩
  obtain ⟨x, hx, hp⟩ := Option.bind_eq_some_iff.mp hp
  cases x with
  | tup xs =>
    dsimp only at hp
    split at hp
    · rename_i f
      cases hp
      refine h2 σ H _ ⟨W, ρ, fs, _, er, hx, fun v H1 F1 e1 r1 n1 => ?_⟩
      rw [Rep] at r1
      obtain ⟨a, vs, rfl, s, rs⟩ := r1
      refine ⟨a, rfl, .inr ⟨⟨vs, s.sq⟩, q _ H1 _ e1 (src_t (D.nls_free f)) fun H' k => ?_⟩⟩
      obtain ⟨r2, rfl⟩ := rs.nlk k f
      exact ⟨vs, (sqx_nl k s).sq, r2⟩
    · cases hp
  | _ => cases hp
theorem dit_r1 {p : Pos} {ps : Env → Option (List D)} (hg : Gl X "range") (hm : X.mg "range" = none) (ha : DBs X [a] ps) (hs : starEach [a] X.env = [(false, eval a X.env)] := by rfl) : DIt X tg (.Call (.Name "range" p) [a] [] pos) (icA rg1 ps) := by
  obtain ⟨t, h1, h2⟩ := ha.ex
  refine ⟨_, pi_range1 hg hm h1 hs, fun σ H R ⟨W, ρ, fs, ds, er, hp, q⟩ => ?_⟩
  obtain ⟨xs, hx, hy⟩ := Option.bind_eq_some_iff.mp hp
  unfold rg1 at hy
  split at hy
  · rename_i j
    unfold itR at hy
    split at hy
    · rename_i c
      cases hy
      refine h2 σ H _ ⟨W, ρ, fs, _, er, hx, fun vs H1 F1 e1 rs n1 => ?_⟩
      obtain ⟨v, rfl, rv⟩ := reps1 rs
      cases rep_int rv
      have src := src_r (K := X.K) (Wr := W.Wr) (lo := 0) (hi0 := j)
      rw [Int.sub_zero] at src
      exact ⟨j, rfl, c.2.2.1, c.2.2.2, q _ H1 _ e1 src fun _ _ => trivial⟩
    · cases hy
  · cases hy
theorem dit_r2 {p : Pos} {ps : Env → Option (List D)} (hg : Gl X "range") (hm : X.mg "range" = none) (ha : DBs X [a, b] ps) (hs : starEach [a, b] X.env = [(false, eval a X.env), (false, eval b X.env)] := by rfl) (hs2 : starEach [b] X.env = [(false, eval b X.env)] := by rfl) :
    DIt X tg (.Call (.Name "range" p) [a, b] [] pos) (icA rg2 ps) := by
  obtain ⟨t, h1, h2⟩ := ha.ex
  refine ⟨_, pi_range2 hg hm h1 hs hs2, fun σ H R ⟨W, ρ, fs, ds, er, hp, q⟩ => ?_⟩
  obtain ⟨xs, hx, hy⟩ := Option.bind_eq_some_iff.mp hp
  unfold rg2 at hy
  split at hy
  · rename_i i j
    unfold itR at hy
    split at hy
    · rename_i c
      cases hy
      refine h2 σ H _ ⟨W, ρ, fs, _, er, hx, fun vs H1 F1 e1 rs n1 => ?_⟩
      obtain ⟨v, w, F3, F4, rfl, rv, rw', _⟩ := reps2 rs
      cases rep_int rv
      cases rep_int rw'
      exact ⟨i, j, rfl, c, q _ H1 _ e1 src_r fun _ _ => trivial⟩
    · cases hy
  · cases hy
end
def compC2 (vs1 : List Nat) (g : D → Env → Option Env) (t : Env → Option Bool) (pi1 : Env → Option (List D)) (g1 : D → Env → Option Env) (t1 : Env → Option Bool) (p : Env → Option D) (ρ : Env) : List D → Option (List D)
  | [] => some []
  | d :: ds => (g d ρ).bind fun ρ1 => (t ρ1).bind fun b => if b then (pi1 ρ1).bind fun es => (compC g1 t1 p (wipeE ρ1 vs1) es).bind fun ys => (compC2 vs1 g t pi1 g1 t1 p ρ ds).bind fun xs => some (ys ++ xs) else compC2 vs1 g t pi1 g1 t1 p ρ ds
def pComp2 (vs vs1 : List Nat) (pi : Env → Option (List D)) (g : D → Env → Option Env) (t : Env → Option Bool) (pi1 : Env → Option (List D)) (g1 : D → Env → Option Env) (t1 : Env → Option Bool) (p : Env → Option D) : Env → Option D := fun ρ => (pi ρ).bind fun ds => (compC2 vs1 g t pi1 g1 t1 p (wipeE ρ vs) ds).bind fun xs => if xs.length ≤ 1000000 then some (.lst xs) else none
/-- the list that grows: L, new since H1 -/
structure AccS (K : PySem.W.Frag) (Wr : Addr → Prop) (L : Addr) (H1 H : Hp) (acc : List D) (ws : List V) (F : List Addr) : Prop where
  ex : Ext H1 H
  at_ : H L = some (.lst ws)
  rep : Reps K Wr H acc ws F
  nd : (L :: F).Nodup
  new : ∀ a, a ∈ L :: F → H1 a = none
section
variable {K : PySem.W.Frag} {Wr : Addr → Prop} {L : Addr} {H1 H H' : Hp} {acc : List D} {ws : List V} {F : List Addr}
theorem AccS.mv (h : AccS K Wr L H1 H acc ws F) (e : Ext H H') : AccS K Wr L H1 H' acc ws F := ⟨h.ex.trans e, e _ _ h.at_, h.rep.ext e, h.nd, h.new⟩
theorem AccS.push (h : AccS K Wr L H1 H acc ws F) (wL : Wr L) {d : D} {v : V} {E : List Addr} (e : Ext H H') (r : Rep K Wr H' d v E) (nE : E.Nodup) (fE : ∀ a, a ∈ E → H a = none) :
    AccS K Wr L H1 (upd H' L (.lst (ws ++ [v]))) (acc ++ [d]) (ws ++ [v]) (F ++ E) := by
  have trk : ∀ a, a ∈ L :: F → H a ≠ none := fun a ha z => by
    rcases List.mem_cons.mp ha with rfl | ha
    · rw [h.at_] at z; cases z
    · obtain ⟨_, _, e⟩ := h.rep.owned a ha
      rw [e] at z; cases z
  have hL' := e _ _ h.at_
  have hL := h.new L List.mem_cons_self
  have nLE : L ∉ E := fun z => trk L List.mem_cons_self (fE L z)
  have nLF : L ∉ F := (List.nodup_cons.mp h.nd).1
  refine ⟨fun a o q => ?_, upd_same, ((h.rep.ext e).upd hL' wL nLF).append (Reps.one (r.upd hL' wL nLE)), ?_, fun a ha => ?_⟩
  · rw [upd_ne fun z => by rw [z, hL] at q; cases q]
    exact e _ _ (h.ex _ _ q)
  · rw [← List.cons_append]
    exact nodup_app h.nd nE fun a ha z => trk a ha (fE a z)
  · rw [← List.cons_append] at ha
    rcases List.mem_append.mp ha with z | z
    · exact h.new a z
    · exact h.ex.back (fE a z)
/-- a frame that has not L is kept when L changes -/
theorem ER.other {W : Wc} {σ : L2.St} {ρ : Env} {fs : Fs} (er : ER K W σ H ρ fs) (hL : H L = some (.lst ws)) (wL : W.Wr L) (nL : ¬ fs.has L) (k : ∀ a o, a ≠ L → H a = some o → H' a = some o) (k2 : H' L ≠ none) : ER K W σ H' ρ fs where
  len := er.len
  rep := fun i d e => by
    obtain ⟨v, e1, r⟩ := er.rep i d e
    exact ⟨v, e1, r.keep (F0 := fun a => a = L) (fun a ha => by subst ha; exact ⟨wL, _, hL⟩) k fun a ha z => nL (z ▸ ⟨i, ha⟩)⟩
  out := er.out
  nd := er.nd
  dj := er.dj
  free := fun a ha => er.free a (by
    by_cases e : a = L
    · subst e; exact absurd ha k2
    · cases z : H a with
      | none => rfl
      | some o => rw [k a o e z] at ha; cases ha)
  lock := er.lock
end

theorem denComp2 {K : PySem.W.Frag} {J : It} {ds : List D} {G : Hp → Prop} {g g1 : D → Env → Option Env} {p p1 : Env → Option Bool} {mi1 : Env → Option (List D)} {m : Env → Option D} {vs vs1 : List Nat} {W : Wc} {σ : L2.St} {H1 : Hp} {ρ1 : Env} {fs1 : Fs} {xs : List D} {Q : Addr → Hp → Prop} (hl : W.lk = [])
    (er1 : ER K W (L2.wipe σ vs) H1 ρ1 fs1) (src : Src K W.Wr J ds G) (pers : ∀ H', Ext H1 H' → G H') (run : compC2 vs1 g p mi1 g1 p1 m ρ1 ds = some xs) (hx : xs.length ≤ 1000000)
    (q : ∀ L H' ws F, Ext H1 H' → H' L = some (.lst ws) → Reps K W.Wr H' xs ws F → (L :: F).Nodup → (∀ a, a ∈ L :: F → H1 a = none) → Q L H') :
    ∀ L, H1 L = none → ∃ W : Nat → Nat → Hp → Prop, (∃ m, W 0 m (upd H1 L (.lst []))) ∧ ∀ i m' H, W i m' H →
  (J.stop i H ∧ Q L H) ∨ (J.go i H ∧ ∃ Nx : Hp → Prop, (∀ H', Nx H' → ∃ m2, m2 < m' ∧ W (i + 1) m2 H') ∧ ∀ x H', J.yld i H x H' → DenGc K vs g x (L2.wipe σ vs) H' fun σ2 H2 => L2.wipe σ2 vs = L2.wipe σ vs ∧ DenT K p σ2 H2 fun b H3 =>
    if b = true then DenIt K mi1 σ2 H3 fun J1 H4 => ∃ W1 : Nat → Nat → Hp → Prop, (∃ m, W1 0 m H4) ∧ ∀ j k H, W1 j k H →
      (J1.stop j H ∧ Nx H) ∨ (J1.go j H ∧ ∃ Nx1 : Hp → Prop, (∀ H', Nx1 H' → ∃ k', k' < k ∧ W1 (j + 1) k' H') ∧ ∀ x H', J1.yld j H x H' → DenGc K vs1 g1 x (L2.wipe σ2 vs1) H' fun σ3 H5 => L2.wipe σ3 vs1 = L2.wipe σ2 vs1 ∧ DenT K p1 σ3 H5 fun b H6 =>
        if b = true then DenF K m σ3 H6 fun y H7 => ∃ acc, H7 L = some (.lst acc) ∧ acc.length < sizeLine ∧ Nx1 (upd H7 L (.lst (acc ++ [y]))) else Nx1 H6)
    else Nx H3) := by
  intro L hL
  have wL : W.Wr L := er1.free L hL
  have few : ∀ {acc rest : List D} {d : D}, acc ++ d :: rest = xs → acc.length < 1000000 := fun {acc rest d} e => by
    have : (acc ++ d :: rest).length = xs.length := by rw [e]
    rw [List.length_append, List.length_cons] at this
    omega
  refine ⟨fun i n H => n = ds.length - i ∧ i ≤ ds.length ∧ ∃ acc ws F rest, AccS K W.Wr L H1 H acc ws F ∧ compC2 vs1 g p mi1 g1 p1 m ρ1 (ds.drop i) = some rest ∧ acc ++ rest = xs, ⟨_, rfl, Nat.zero_le _, [], [], [], xs, ⟨Ext.new hL, upd_same, Reps.nil, by simp, fun a ha => by rw [List.mem_singleton.mp ha]; exact hL⟩, run, rfl⟩, ?_⟩
  rintro i n H ⟨rfl, hi, acc, ws, F, rest, A, hr, hcat⟩
  by_cases hlt : i < ds.length
  · rw [List.drop_eq_getElem_cons hlt] at hr
    obtain ⟨ρ3, h1, hr⟩ := Option.bind_eq_some_iff.mp hr
    obtain ⟨b, h2, hr⟩ := Option.bind_eq_some_iff.mp hr
    obtain ⟨hgo, hy⟩ := src.go i ds[i] H (List.getElem?_eq_getElem hlt) (pers H A.ex) (er1.ext A.ex).free
    refine .inr ⟨hgo, fun H' => i + 1 ≤ ds.length ∧ ∃ acc ws F rest, AccS K W.Wr L H1 H' acc ws F ∧ compC2 vs1 g p mi1 g1 p1 m ρ1 (ds.drop (i + 1)) = some rest ∧ acc ++ rest = xs, fun H' z => ⟨ds.length - (i + 1), by omega, rfl, z⟩, fun x H' y => ?_⟩
    obtain ⟨ex2, rx⟩ := hy x H' y
    refine ⟨W, ρ1, ρ3, fs1, ds[i], (fun p hp => by rw [hl] at hp; cases hp), er1.ext (A.ex.trans ex2), rx, h1, fun σ3 fs3 er3 hw3 hh3 => ⟨by rw [hw3, wipe_wipe], ?_⟩⟩
    refine ⟨W, ρ3, fs3, b, er3, h2, fun H4 ex4 => ?_⟩
    have A4 := A.mv (ex2.trans ex4)
    cases b with
    | false => exact iteF ⟨hlt, acc, ws, F, rest, A4, hr, hcat⟩
    | true =>
      rw [if_pos rfl] at hr
      refine iteT ?_
      obtain ⟨es, h3, hr⟩ := Option.bind_eq_some_iff.mp hr
      obtain ⟨ys, h4, hr⟩ := Option.bind_eq_some_iff.mp hr
      obtain ⟨rest', h5, hr⟩ := Option.bind_eq_some_iff.mp hr
      cases hr
      refine ⟨W, ρ3, fs3, es, er3.ext ex4, h3, fun J1 H5 G1 ex5 src1 pers1 => ?_⟩
      have A5 := A4.mv ex5
      have er5 := ((er3.ext ex4).ext ex5).wipe vs1 (fun p hp => by rw [hl] at hp; cases hp)
      have nL : ¬ Fs.has (wipeF fs3 vs1) L := fun z => by
        have z2 := hh3 L (wipeF_has z)
        obtain ⟨_, _, e⟩ := er1.owned L z2
        rw [hL] at e; cases e
      refine ⟨fun j k H => k = es.length - j ∧ j ≤ es.length ∧ ∃ acc' ws' F' rest, (∀ a o, a ≠ L → H5 a = some o → H a = some o) ∧ AccS K W.Wr L H1 H acc' ws' F' ∧ compC g1 p1 m (wipeE ρ3 vs1) (es.drop j) = some rest ∧ acc' ++ rest = acc ++ ys, ⟨_, rfl, Nat.zero_le _, acc, ws, F, ys, fun _ _ _ e => e, A5, h4, rfl⟩, ?_⟩
      rintro j k H6 ⟨rfl, hj, acc6, ws6, F6, rest6, K6, A6, hr6, hc6⟩
      have nl6 : Nl H5 H6 := fun a o n e => K6 a o (fun z => by subst z; rw [A5.at_] at e; cases e; exact n _ rfl) e
      have er6 := er5.other A5.at_ wL nL K6 (by rw [A6.at_]; exact fun z => by cases z)
      by_cases hlt6 : j < es.length
      · rw [List.drop_eq_getElem_cons hlt6] at hr6
        obtain ⟨ρ7, k1, hr6⟩ := Option.bind_eq_some_iff.mp hr6
        obtain ⟨b7, k2, hr6⟩ := Option.bind_eq_some_iff.mp hr6
        obtain ⟨hgo6, hy6⟩ := src1.go j es[j] H6 (List.getElem?_eq_getElem hlt6) (pers1 H6 nl6) er6.free
        refine .inr ⟨hgo6, fun H' => j + 1 ≤ es.length ∧ ∃ acc' ws' F' rest, (∀ a o, a ≠ L → H5 a = some o → H' a = some o) ∧ AccS K W.Wr L H1 H' acc' ws' F' ∧ compC g1 p1 m (wipeE ρ3 vs1) (es.drop (j + 1)) = some rest ∧ acc' ++ rest = acc ++ ys, fun H' z => ⟨es.length - (j + 1), by omega, rfl, z⟩, fun x7 H7 y7 => ?_⟩
        obtain ⟨ex7, rx7⟩ := hy6 x7 H7 y7
        refine ⟨W, wipeE ρ3 vs1, ρ7, wipeF fs3 vs1, es[j], (fun p hp => by rw [hl] at hp; cases hp), er6.ext ex7, rx7, k1, fun σ8 fs8 er8 hw8 hh8 => ⟨by rw [hw8, wipe_wipe], ?_⟩⟩
        refine ⟨W, ρ7, fs8, b7, er8, k2, fun H9 ex9 => ?_⟩
        have A9 := A6.mv (ex7.trans ex9)
        have K9 : ∀ a o, a ≠ L → H5 a = some o → H9 a = some o := fun a o n e => ex9 _ _ (ex7 _ _ (K6 a o n e))
        cases b7 with
        | false => exact iteF ⟨hlt6, acc6, ws6, F6, rest6, K9, A9, hr6, hc6⟩
        | true =>
          rw [if_pos rfl] at hr6
          refine iteT ?_
          obtain ⟨d, k3, hr6⟩ := Option.bind_eq_some_iff.mp hr6
          obtain ⟨rest7, k4, hr6⟩ := Option.bind_eq_some_iff.mp hr6
          cases hr6
          refine ⟨W, ρ7, fs8, d, er8.ext ex9, k3, fun v H10 E ex10 rv nE fE => ?_⟩
          have hlen : acc6.length < 1000000 := few (rest := rest7 ++ rest') (d := d) (by rw [← hcat, ← List.append_assoc, ← hc6, List.append_assoc]; rfl)
          refine ⟨ws6, ex10 _ _ A9.at_, by rw [← A6.rep.length]; exact line1 hlen, hlt6, acc6 ++ [d], ws6 ++ [v], F6 ++ E, rest7, fun a o n e => ?_, A9.push wL ex10 rv nE fE, k4, by rw [List.append_assoc]; exact hc6⟩
          rw [upd_ne n]
          exact ex10 _ _ (K9 a o n e)
      · have e : j = es.length := by omega
        subst e
        rw [List.drop_length] at hr6
        cases hr6
        rw [List.append_nil] at hc6
        subst hc6
        exact .inl ⟨src1.stop H6 (pers1 H6 nl6), hlt, acc ++ ys, ws6, F6, rest', A6, h5, by rw [List.append_assoc]; exact hcat⟩
  · have e : i = ds.length := by omega
    subst e
    rw [List.drop_length] at hr
    cases hr
    rw [List.append_nil] at hcat
    subst hcat
    exact .inl ⟨src.stop H (pers H A.ex), q L H ws F A.ex A.at_ A.rep A.nd A.new⟩
section
variable {X : Cx} {mp : List Nat} {tg tg1 elt iter iter1 : Expr} {ifs ifs1 : List Expr} {pos : Pos}
theorem comp2_den {vs vs1 : List Nat} {g g1 : D → Env → Option Env} {p p1 : Env → Option Bool} {m : Env → Option D} {mi mi1 : Env → Option (List D)} {σ : L2.St} {H : Hp} {Q : VK} (h : DenF X.K (pComp2 vs vs1 mi g p mi1 g1 p1 m) σ H Q) :
    tLc2 (DenIc X.K mi) (DenGc X.K vs g) (DenT X.K p) (DenIt X.K mi1) (DenGc X.K vs1 g1) (DenT X.K p1) (DenF X.K m) vs vs1 σ H Q := by
  obtain ⟨W, ρ, fs, d, er, hp, q⟩ := h
  obtain ⟨ds, hx, hp⟩ := Option.bind_eq_some_iff.mp hp
  obtain ⟨xs, hy, hp⟩ := Option.bind_eq_some_iff.mp hp
  split at hp
  · rename_i hlen
    cases hp
    refine ⟨W, ρ, fs, ds, er, hx, fun J H1 G e1 src pers => ?_⟩
    refine denComp2 (W := ⟨W.Wr, []⟩) (Q := fun L H => Q (.ref L) H) rfl ((er.ext e1).noLk.wipe _ fun _ z => by cases z) src pers hy hlen fun L H' ws F ex hL rx nd ap => ?_
    exact q (.ref L) H' (L :: F) (e1.trans ex) (by rw [Rep]; exact ⟨L, ws, F, rfl, hL, er.free L (e1.back (ap L List.mem_cons_self)), rx, rfl⟩) nd fun a ha => e1.back (ap a ha)
  · cases hp
theorem df_comp2 {scope : Scope} {own : List (Str × Nat)} {vs vs1 : List Nat} {g g1 : D → Env → Option Env} {p p1 : Env → Option Bool} {m : Env → Option D} {mi mi1 : Env → Option (List D)} (hc : X.calm = true) (hN : X.N.Nodup) (hi : DIc X tg iter mi) (ok : BlkOk X.N X.env.scope scope own) (hv : ∀ i ∈ vs1, i ∈ own.map (·.2))
    (hg : ∀ (s : Shared) (H : Hp) (C : Addr) (cl : List (Str × Addr)) (fp : List Addr), DGc (X.blk s H scope (compEnvC scope cl C X.env) fp) vs tg g) (ht : ∀ (s : Shared) (H : Hp) (C : Addr) (cl : List (Str × Addr)) (fp : List Addr), DTc (X.blk s H scope (compEnvC scope cl C X.env) fp) ifs p)
    (hi1 : ∀ (s : Shared) (H : Hp) (C : Addr) (cl : List (Str × Addr)) (fp : List Addr), DIt (X.blk s H scope (compEnvC scope cl C X.env) fp) tg1 iter1 mi1)
    (hg1 : ∀ (s : Shared) (H : Hp) (C : Addr) (cl : List (Str × Addr)) (fp : List Addr), DGc (X.blk s H scope (compEnvC scope cl C X.env) fp) vs1 tg1 g1) (ht1 : ∀ (s : Shared) (H : Hp) (C : Addr) (cl : List (Str × Addr)) (fp : List Addr), DTc (X.blk s H scope (compEnvC scope cl C X.env) fp) ifs1 p1)
    (he : ∀ (s : Shared) (H : Hp) (C : Addr) (cl : List (Str × Addr)) (fp : List Addr), DF (X.blk s H scope (compEnvC scope cl C X.env) fp) elt m) (hs : ∀ x, foldedSetIterable iter X.env x = pure x := by intro _; rfl) (hs1 : ∀ env x, foldedSetIterable iter1 env x = pure x := by intro _ _; rfl) (hvs : own.map (·.2) = vs := by rfl) :
    DF X (.ListComp elt [⟨tg, iter, ifs, 0⟩, ⟨tg1, iter1, ifs1, 0⟩] scope pos) (pComp2 vs vs1 mi g p mi1 g1 p1 m) := by
  subst hvs
  exact ⟨_, pe_lc2 (vs1 := vs1) (wi := DenIc X.K mi) (g := DenGc X.K (own.map (·.2)) g) (tt := DenT X.K p) (wi1 := DenIt X.K mi1) (g1 := DenGc X.K vs1 g1) (tt1 := DenT X.K p1) (te := DenF X.K m) hc hN hi.pi ok hv (fun s H C cl fp => (hg s H C cl fp).pg) (fun s H C cl fp => (ht s H C cl fp).pts) (fun s H C cl fp => (hi1 s H C cl fp).pi) (fun s H C cl fp => (hg1 s H C cl fp).pg) (fun s H C cl fp => (ht1 s H C cl fp).pts) (fun s H C cl fp => (he s H C cl fp).pe) hs hs1, fun σ H Q h => comp2_den h⟩
theorem ds_setLc2C (i : Nat) {y : Str} {py spos : Pos} {scope : Scope} {own : List (Str × Nat)} {vs vs1 : List Nat} {g g1 : D → Env → Option Env} {p p1 : Env → Option Bool} {m : Env → Option D} {mi mi1 : Env → Option (List D)} (hc : X.calm = true) (hN : X.N.Nodup) (hi : DIc X tg iter mi) (ok : BlkOk X.N X.env.scope scope own) (hv : ∀ i ∈ vs1, i ∈ own.map (·.2))
    (hg : ∀ (s : Shared) (H : Hp) (C : Addr) (cl : List (Str × Addr)) (fp : List Addr), DGc (X.blk s H scope (compEnvC scope cl C X.env) fp) vs tg g) (ht : ∀ (s : Shared) (H : Hp) (C : Addr) (cl : List (Str × Addr)) (fp : List Addr), DTc (X.blk s H scope (compEnvC scope cl C X.env) fp) ifs p)
    (hi1 : ∀ (s : Shared) (H : Hp) (C : Addr) (cl : List (Str × Addr)) (fp : List Addr), DIt (X.blk s H scope (compEnvC scope cl C X.env) fp) tg1 iter1 mi1)
    (hg1 : ∀ (s : Shared) (H : Hp) (C : Addr) (cl : List (Str × Addr)) (fp : List Addr), DGc (X.blk s H scope (compEnvC scope cl C X.env) fp) vs1 tg1 g1) (ht1 : ∀ (s : Shared) (H : Hp) (C : Addr) (cl : List (Str × Addr)) (fp : List Addr), DTc (X.blk s H scope (compEnvC scope cl C X.env) fp) ifs1 p1)
    (he : ∀ (s : Shared) (H : Hp) (C : Addr) (cl : List (Str × Addr)) (fp : List Addr), DF (X.blk s H scope (compEnvC scope cl C X.env) fp) elt m) (hy : X.N[i]? = some y := by rfl) (hyl : X.env.scope.names.lookup y = some .local := by rfl)
    (hsw : swapsWith (.ListComp elt [⟨tg, iter, ifs, 0⟩, ⟨tg1, iter1, ifs1, 0⟩] scope pos) (some (.Name y py)) spos.line X.env = pure true := by first | exact sw_true rfl rfl rfl (by decide +kernel)) (hs : ∀ x, foldedSetIterable iter X.env x = pure x := by intro _; rfl) (hs1 : ∀ env x, foldedSetIterable iter1 env x = pure x := by intro _ _; rfl) (hmp : i ∉ mp := by decide) (hvs : own.map (·.2) = vs := by rfl) :
    DS X mp (.Assign [.Name y py] (.ListComp elt [⟨tg, iter, ifs, 0⟩, ⟨tg1, iter1, ifs1, 0⟩] scope pos) spos) (asgS (liftE (pComp2 vs vs1 mi g p mi1 g1 p1 m)) (gN i)) := by
  subst hvs
  refine ⟨_, ps_setLc2 (vs1 := vs1) (wi := DenIc X.K mi) (g := DenGc X.K (own.map (·.2)) g) (tt := DenT X.K p) (wi1 := DenIt X.K mi1) (g1 := DenGc X.K vs1 g1) (tt1 := DenT X.K p1) (te := DenF X.K m) hc hN hy hyl hsw hi.pi ok hv (fun s H C cl fp => (hg s H C cl fp).pg) (fun s H C cl fp => (ht s H C cl fp).pts) (fun s H C cl fp => (hi1 s H C cl fp).pi) (fun s H C cl fp => (hg1 s H C cl fp).pg) (fun s H C cl fp => (ht1 s H C cl fp).pts) (fun s H C cl fp => (he s H C cl fp).pe) hs hs1, ?_⟩
  refine denAsg (g := gN i) (fun σ H Q ⟨W, ρ, fs, d, ρ', er, hp, q⟩ => ?_) fun v σ H Q ⟨W, ρ, fs, d, F, ρ', hm, er, r, nd, ap, hg, q⟩ => ?_
  · obtain ⟨x, hx, hp⟩ := Option.map_eq_some_iff.mp hp
    cases hp
    exact comp2_den ⟨W, ρ, fs, _, er, hx, fun v H' F e1 r n f => q v H' fs F (er.ext e1) r n (er.apart f) (Step.of_ext e1 fun a ha => ha.elim .inl fun z => .inr (f a z))⟩
  · cases hg
    obtain ⟨fs', e1, e2⟩ := er.put' r nd ap (lk_ne hm hmp)
    exact q _ fs' e1 e2
end

/-! ### tuple * int -/
theorem tuple_mul1 (l : Addr) (items : Array Value) (n : Nat) (dd : Option Addr) (sl : Array (Option Value)) (u : Tok) :
    Meets (Builtin.«tuple.__mul__» ⟨[.ref l, .int 1 u], []⟩) (fun _ R s => s.heap.get? l = some { cls := .type "tuple", dict := dd, data := .seq items n, slots := sl } ∧ R (.ok (.ret (Value.ref l))) s) :=
  .of_wp fun prog w A R s h => by
    obtain ⟨hp, g, d, tk, os⟩ := s
    obtain ⟨hl, h⟩ := h
    have f1 := AutoSeq1.idx_int
    wp_walk using wpAny_loadPart' hl
    repeat (first
      | (refine wpAny_ite_false (by decide) ?_; wp_walk using wpAny_loadPart' hl)
      | (refine wpAny_ite_true (by simp) ?_; wp_walk using wpAny_loadPart' hl))
    exact ⟨_, rfl, h⟩
def rRepT1 (K : PySem.W.Frag) : R2 := fun x y H Q => ∃ l xs, x = .ref l ∧ y = .int 1 ∧ SqT K H l xs ∧ Q (.ref l) H
section
variable {X : Cx} {a b : Expr} {pos : Pos}
theorem op_repT1 : OpR X (binaryOp .Mult) (rRepT1 X.K) := by
  intro pins s σ H x y v u Q I rx ry h
  obtain ⟨l, xs, rfl, rfl, hT, q⟩ := h
  cases rx
  obtain ⟨t, rfl⟩ := ry
  obtain ⟨its, r, ⟨⟨cls, dd, data, sl⟩, ho, hc, n, hd⟩, hs⟩ := I.tuple hT
  simp only at hc hd
  subst hc hd
  refine wpAny_binaryOp_repeat_ref (T := "tuple") (U := "int") (by decide) ⟨_, ho, rfl⟩ (fun s' => typeIs_int s' 1 t) noFill_tuple_mul PySem.F.fills_int_mul PySem.F.slot_int_rmul repeat_tuple PySem.F.slot_int_index.lookup
    (call_meets PySem.F.slot_int_rmul (typeIs_int s 1 t) PySem.F.entry_int_rmul (PySem.F.args_int_rmul_2 _ _) (int_rmul_tuple 1 t l its.toArray n dd sl)
      ⟨ho, rfl, ⟨_, ho, rfl⟩, call_meets PySem.F.slot_tuple_mul ⟨_, ho, rfl⟩ PySem.F.entry_tuple_mul (PySem.F.args_tuple_mul_2 _ _) (tuple_mul1 l its.toArray n dd sl t) ⟨ho, ?_⟩⟩)
  exact ⟨.ref l, H, I, rfl, q⟩
/-- xs * k, k at least 2 -/
def rRepTX (K : PySem.W.Frag) : R2 := fun x y H Q => ∃ l k xs, x = .ref l ∧ y = .int k ∧ SqT K H l xs ∧ xs ≠ [] ∧ 2 ≤ k ∧ k ≤ 1000 ∧ xs.length ≤ 1000 ∧ NewT H (List.replicate k.toNat xs).flatten Q
theorem op_repTX : OpR X (binaryOp .Mult) (rRepTX X.K) := by
  intro pins s σ H x y v u Q I rx ry h
  obtain ⟨l, k, xs, rfl, rfl, hT, hne, h1, h2, hz, q⟩ := h
  cases rx
  obtain ⟨t, rfl⟩ := ry
  obtain ⟨its, r, ⟨⟨cls, dd, data, sl⟩, ho, hc, n, hd⟩, hs⟩ := I.tuple hT
  simp only at hc hd
  subst hc hd
  have hl : its.length = xs.length := r.length.symm
  have hn : its ≠ [] := fun e => hne (r.nil_iff.mp e)
  have hi : its.toArray.isEmpty = false := by
    cases its with
    | nil => exact absurd rfl hn
    | cons _ _ => rfl
  have flat : (List.replicate k.toNat xs).flatten.length ≤ sizeLine := by
    rw [PyProof.Rows.lm_len_rep_flat, sizeLine_eq]
    have : k.toNat * xs.length ≤ 1000 * 1000 := Nat.mul_le_mul (by omega) hz
    omega
  have prod : ((its.toArray.size : Nat) : Int) * k ≤ 1000000 := by
    rw [List.size_toArray, hl]
    have : ((xs.length : Nat) : Int) * k ≤ 1000 * k := Int.mul_le_mul_of_nonneg_right (by omega) (by omega)
    omega
  refine wpAny_binaryOp_repeat_ref (T := "tuple") (U := "int") (by decide) ⟨_, ho, rfl⟩ (fun s' => typeIs_int s' k t) noFill_tuple_mul PySem.F.fills_int_mul PySem.F.slot_int_rmul repeat_tuple PySem.F.slot_int_index.lookup
    (call_meets PySem.F.slot_int_rmul (typeIs_int s k t) PySem.F.entry_int_rmul (PySem.F.args_int_rmul_2 _ _) (int_rmul_tuple k t l its.toArray n dd sl)
      ⟨ho, rfl, ⟨_, ho, rfl⟩, call_meets PySem.F.slot_tuple_mul ⟨_, ho, rfl⟩ PySem.F.entry_tuple_mul (PySem.F.args_tuple_mul_2 _ _) (tuple_mulW l its.toArray n dd sl k t
        (by rw [decide_eq_false (by omega), decide_eq_false (by omega)] <;> rfl) (by rw [hi, Bool.false_or]; exact beq_eq_false_iff_ne.mpr (by omega)) (by rw [hi, Bool.or_false]; exact decide_eq_false (by omega)) (by omega)
        (by unfold Builtin.Tuple.tupleTooMany; rw [sizeLine_eq]; exact decide_eq_false (by omega))
        (by rw [size_rep, List.size_toArray]; have := flat; rw [PyProof.Rows.lm_len_rep_flat] at this ⊢; rw [hl]; exact this)) ⟨ho, ?_⟩⟩)
  rw [size_rep]
  exact ⟨.ref s.heap.objs.size, _, laidX I (r.rep k.toNat) flat, rfl, q _ _ (I.hok.fresh (Nat.le_refl _)) rfl⟩
def dMulT : D → D → Option D
  | .tup xs, .int k => if D.frees xs = true ∧ xs.length ≤ 1000 ∧ xs ≠ [] ∧ 1 ≤ k ∧ k ≤ 1000 then some (.tup (List.replicate k.toNat xs).flatten) else none
  | _, _ => none
theorem po_mulT : PO2 X.K (fun x y H Q => rRepTX X.K x y H Q ∨ rRepT1 X.K x y H Q) dMulT := by
  intro Wr H x y v w F G d Q fr rx ry e q
  unfold dMulT at e
  split at e
  · rename_i xs k
    split at e
    · rename_i c
      obtain ⟨f1, hl, ne, h1, h2⟩ := c
      cases e; cases rep_int ry
      have rx' := rx
      rw [Rep] at rx
      obtain ⟨a, vs, rfl, s1, r1⟩ := rx
      obtain rfl := r1.free f1
      by_cases hk : k = 1
      · subst hk
        refine .inr ⟨a, vs, rfl, rfl, s1.sq, ?_⟩
        have : (List.replicate (1 : Int).toNat xs).flatten = xs := by simp [List.replicate]
        rw [this] at q
        exact q.sc rx'
      · refine .inl ⟨a, k, vs, rfl, rfl, s1.sq, fun z => ne (by rw [z] at r1; exact List.eq_nil_of_length_eq_zero r1.length), by omega, h2, by rw [← r1.length]; exact hl, q.tup (r1.rep _)⟩
    · cases e
  · cases e
theorem df_mulT {pa pb : Env → Option D} (ha : DB X a pa) (hb : DB X b pb) : DF X (.BinOp a .Mult b pos) (p2 dMulT pa pb) := df_op (op_repTX.or op_repT1) po_mulT ha hb
theorem de_mulT {ma mb : Env → Option (Tm × Env)} (ha : DO X a ma) (hb : DO X b mb) : DE X (.BinOp a .Mult b pos) (opE2 dMulT ma mb) := de_op (op_repTX.or op_repT1) po_mulT ha hb
end

/-! ### xs += ys of lists -/
def augLS (k : Nat) (p : Env → Option D) : Env → Option Out := fun ρ => (lstAt ρ k).bind fun xs => (p ρ).bind fun d => match d with
  | .lst ys => if D.frees xs && D.frees ys && decide (xs.length + ys.length ≤ 1000000) then some (.nx (ρ.set k (some (.lst (xs ++ ys))))) else none
  | _ => none
section
variable {X : Cx} {mp : List Nat} {e i j : Expr} {pos : Pos}
theorem ds_augext (k : Nat) {x : Str} {pos' : Pos} {p : Env → Option D} (hN : X.N.Nodup) (h : DB X e p) (hi : X.N[k]? = some x := by rfl) (hx : Loc X.env.scope x := by first | exact Or.inl rfl | exact Or.inr rfl)
    (hf : X.fn x = true ∨ X.env.scope.names.lookup x = some .local := by first | exact .inl rfl | exact .inr rfl | assumption) (hmp : k ∉ mp := by decide) : DS X mp (.AugAssign (.Name x pos') .Add e pos) (augLS k p) := by
  obtain ⟨t, h1, h2⟩ := h.ex
  refine ⟨_, ps_aug hN hi hx h1 (ti := rExt2) (fun pins s σ H x y v u Q I rx ry hq => iop_ext pins s σ H x y v u Q I rx ry hq) hf, fun D σ H ⟨W, ρ, fs, o, hm, er, hp, q⟩ => ?_⟩
  obtain ⟨xs, hk, hp⟩ := Option.bind_eq_some_iff.mp hp
  obtain ⟨d, hd, hp⟩ := Option.bind_eq_some_iff.mp hp
  cases d with
  | lst ys =>
    dsimp only at hp
    split at hp
    · rename_i c
      simp only [Bool.and_eq_true, decide_eq_true_eq] at c
      obtain ⟨⟨f1, f2⟩, hl⟩ := c
      cases hp
      obtain ⟨p0, vs, G, e0, hH, hw, rg, hG⟩ := er.lst_get (lstAt_some hk)
      obtain rfl := rg.free f1
      refine ⟨.ref p0, e0, h2 σ H _ ⟨W, ρ, fs, _, er, hd, fun w H1 F1 e1 r1 n1 => ?_⟩⟩
      rw [Rep] at r1
      obtain ⟨p1, us, G1, rfl, hH1, hw1, rs, _⟩ := r1
      obtain rfl := rs.free f2
      have er1 := er.ext e1
      have hHp := e1 _ _ hH
      refine ⟨p0, p1, vs, us, rfl, rfl, hHp, hH1, by rw [← rg.length, ← rs.length]; exact Nat.le_trans hl (by decide), ?_⟩
      obtain ⟨er4, _, _, s4⟩ := er1.lst_chg (E := []) (F1 := []) (G' := []) (H2 := upd H1 p0 (.lst (vs ++ us))) e0 hG hw (fun a ha => by cases ha) (fun a o hn e => by rw [upd_ne hn]; exact e) upd_same
        ((((rg.ext e1).append rs) : Reps X.K W.Wr H1 _ _ []).upd hHp hw fun z => by cases z) (by simp) (fun a ha => by cases ha)
      have same : σ.set k (some (.ref p0)) = σ := by
        obtain ⟨hlt, e⟩ := List.getElem?_eq_some_iff.mp e0
        rw [← e]
        exact List.set_getElem_self hlt
      show D.nx (σ.set k (some (.ref p0))) _
      rw [same]
      refine q σ _ _ er4 ?_
      have st : Step fs.has H (fun a => fs.has a ∨ a ∈ ([] : List Addr)) H1 := Step.of_ext e1 fun a ha => ha.elim .inl fun z => by cases z
      exact (st.trans s4).mono fun a ha => .inl ha
    · cases hp
  | _ => cases hp
end

/-! ### t[i][j] = v -/
section
variable {K : PySem.W.Frag} {Wr : Addr → Prop} {H : Hp}
theorem Reps.inner : ∀ {xs : List D} {vs : List V} {G : List Addr} {a : Nat} {ys : List D}, Reps K Wr H xs vs G → G.Nodup → xs[a]? = some (.lst ys) → D.frees ys = true →
    ∃ p1 us, vs[a]? = some (.ref p1) ∧ H p1 = some (.lst us) ∧ Wr p1 ∧ Reps K Wr H ys us [] ∧ p1 ∈ G ∧ ∀ H' us' ys', (∀ b o, b ≠ p1 → H b = some o → H' b = some o) → H' p1 = some (.lst us') → Reps K Wr H' ys' us' [] → Reps K Wr H' (xs.set a (.lst ys')) vs G
  | [], vs, G, a, ys, h, nd, e, f => by simp at e
  | x :: xs, vs, G, 0, ys, h, nd, e, f => by
    rw [Reps] at h
    obtain ⟨v, r, F1, F2, rfl, h1, h2, rfl⟩ := h
    simp at e
    subst e
    rw [Rep] at h1
    obtain ⟨p1, us, G1, rfl, hH, hw, rs, rfl⟩ := h1
    obtain rfl := rs.free f
    refine ⟨p1, us, rfl, hH, hw, rs, by simp, fun H' us' ys' k hp r' => ?_⟩
    have n1 : p1 ∉ F2 := by
      intro z
      have := List.nodup_append.mp nd
      exact this.2.2 p1 (by simp) p1 z rfl
    refine Reps.cons (F := [p1]) ?_ (h2.keep (F0 := fun b => b = p1) (fun b hb => by subst hb; exact ⟨hw, _, hH⟩) k fun b hb z => n1 (z ▸ hb))
    rw [Rep]
    exact ⟨p1, us', [], rfl, hp, hw, r', rfl⟩
  | x :: xs, vs, G, a + 1, ys, h, nd, e, f => by
    rw [Reps] at h
    obtain ⟨v, r, F1, F2, rfl, h1, h2, rfl⟩ := h
    obtain ⟨n1, n2, n3⟩ := List.nodup_append.mp nd
    obtain ⟨p1, us, e1, e2, e3, e4, e5, e6⟩ := Reps.inner (a := a) h2 n2 (by simpa using e) f
    refine ⟨p1, us, by simpa using e1, e2, e3, e4, List.mem_append_right _ e5, fun H' us' ys' k hp r' => ?_⟩
    refine Reps.cons (h1.keep (F0 := fun b => b = p1) (fun b hb => by subst hb; exact ⟨e3, _, e2⟩) k fun b hb z => n3 b hb p1 e5 z) (e6 H' us' ys' k hp r')
theorem ER.in_chg {W : Wc} {σ : L2.St} {ρ : Env} {fs : Fs} {H2 : Hp} {k : Nat} {p0 p1 : Addr} {G : List Addr} {vs us : List V} {zs : List D} (er : ER K W σ H ρ fs) (e0 : σ[k]? = some (some (.ref p0))) (hG : fs k = p0 :: G) (h0 : H p0 = some (.lst vs)) (w0 : W.Wr p0) (h1 : H p1 = some (.lst us)) (w1 : W.Wr p1) (m1 : p1 ∈ G)
    (kp : ∀ b o, b ≠ p1 → H b = some o → H2 b = some o) (k2 : H2 p1 ≠ none) (r : Reps K W.Wr H2 zs vs G) : ER K W σ H2 (ρ.set k (some (.lst zs))) fs where
  len := by rw [List.length_set]; exact er.len
  rep := fun i d e => by
    rw [List.getElem?_set] at e
    split at e
    · rename_i hi
      subst hi
      split at e
      · cases e
        refine ⟨.ref p0, e0, ?_⟩
        have ne : p0 ≠ p1 := fun z => by
          have := er.nd k
          rw [hG] at this
          exact (List.nodup_cons.mp this).1 (z ▸ m1)
        rw [hG, Rep]
        exact ⟨p0, vs, G, rfl, kp _ _ ne h0, w0, r, rfl⟩
      · cases e
    · rename_i hi
      obtain ⟨v, e1, rv⟩ := er.rep i d e
      exact ⟨v, e1, rv.keep (F0 := fun b => b = p1) (fun b hb => by subst hb; exact ⟨w1, _, h1⟩) kp fun b hb z => er.dj k i hi p1 (by rw [hG]; exact List.mem_cons_of_mem _ m1) (z ▸ hb)⟩
  out := fun i h => by
    by_cases hi : k = i
    · subst hi
      by_cases hl : k < ρ.length
      · exact absurd (by rw [List.getElem?_set]; simp [hl]) (h (.lst zs))
      · exact er.out k fun d e => hl (by obtain ⟨z, _⟩ := List.getElem?_eq_some_iff.mp e; exact z)
    · exact er.out i fun d e => h d (by rw [List.getElem?_set_ne hi]; exact e)
  nd := er.nd
  dj := er.dj
  free := fun a ha => er.free a (by
    by_cases e : a = p1
    · subst e; exact absurd ha k2
    · cases z : H a with
      | none => rfl
      | some o => rw [kp a o e z] at ha; cases ha)
  lock := er.lock
end
def setS2 (k : Nat) (pe pi pj : Env → Option D) : Env → Option Out := fun ρ => (pe ρ).bind fun d => (lstAt ρ k).bind fun xs => (pi ρ).bind fun i => (pj ρ).bind fun j => match i, j with
  | .int i, .int j => (ixN xs.length i).bind fun a => match xs[a]? with
    | some (.lst ys) => if D.frees ys && d.free then (ixN ys.length j).map fun b => .nx (ρ.set k (some (.lst (xs.set a (.lst (ys.set b d)))))) else none
    | _ => none
  | _, _ => none
section
variable {X : Cx} {mp : List Nat} {e i j : Expr} {pos : Pos}
theorem ds_setix2 (k : Nat) {x : Str} {px p2 tpos : Pos} {pe pi pj : Env → Option D} (he : DB X e pe) (hi : DB X i pi) (hj : DB X j pj) (hpi : PlainIx i := by intro _ _; rfl)
    (hN : X.N[k]? = some x := by rfl) (hv : Vis X.env.scope x := by first | exact Or.inl rfl | exact Or.inr (Or.inl rfl) | exact Or.inr (Or.inr rfl)) (hd : (x == ("__debug__" : Str)) = false := by decide) (hcd : (x == ("__classdict__" : Str)) = false := by decide)
    (ha : ∀ v, assign (.Subscript (.Subscript (.Name x px) i p2) j tpos) X.env v = (do
      let ov ← holding [v] (eval (.Subscript (.Name x px) i p2) X.env)
      let iv ← holding [v, ov] (eval j X.env)
      standAt tpos
      holding [v, ov, iv] (setItem ov iv v)
      release [v, ov, iv] []) := by intro _; rfl)
    (hs : swapsWithSole [.Subscript (.Subscript (.Name x px) i p2) j tpos] e pos.line X.env = pure false := by rfl) (hw : swappedStores [.Subscript (.Subscript (.Name x px) i p2) j tpos] e X.env = pure none := by rfl)
    (ha1 : (assignEach [.Subscript (.Subscript (.Name x px) i p2) j tpos] X.env).map (·.2) = [assign (.Subscript (.Subscript (.Name x px) i p2) j tpos) X.env] := by rfl) : DS X mp (.Assign [.Subscript (.Subscript (.Name x px) i p2) j tpos] e pos) (setS2 k pe pi pj) := by
  obtain ⟨te, e1, e2⟩ := he.ex
  obtain ⟨ti, i1, i2⟩ := hi.ex
  obtain ⟨tj, j1, j2⟩ := hj.ex
  refine ⟨_, ps_asg e1 (pg_sub (pe_ix ix_seq (pe_var hN hv hd hcd) i1 hpi) j1 set_list ha) hs hw ha1, fun En σ H ⟨W, ρ, fs, o, hm, er, hp, q⟩ => ?_⟩
  obtain ⟨d, hx, hp⟩ := Option.bind_eq_some_iff.mp hp
  obtain ⟨xs, hk, hp⟩ := Option.bind_eq_some_iff.mp hp
  obtain ⟨di, hy, hp⟩ := Option.bind_eq_some_iff.mp hp
  obtain ⟨dj, hz, hp⟩ := Option.bind_eq_some_iff.mp hp
  have fin : ∀ n m, di = .int n → dj = .int m → tAsg te (gSub (tOp (rIx X.K) (tVar k) ti) tj L2.rSetL) En σ H := fun n m e1 e2' => by
    subst e1
    subst e2'
    obtain ⟨a, ea, hp⟩ := Option.bind_eq_some_iff.mp hp
    split at hp
    · rename_i ys hys
      split at hp
      · rename_i c
        simp only [Bool.and_eq_true] at c
        obtain ⟨c1, c2⟩ := c
        obtain ⟨b, eb, hp⟩ := Option.map_eq_some_iff.mp hp
        cases hp
        refine e2 σ H _ ⟨W, ρ, fs, d, er, hx, fun v H1 F1 x1 r1 n1 => ?_⟩
        obtain rfl := r1.free c2
        obtain ⟨p0, vs, G, e0, hH, hw, rg, hG⟩ := er.lst_get (lstAt_some hk)
        refine ⟨.ref p0, e0, i2 σ H1 _ ⟨W, ρ, fs, _, er.ext x1, hy, fun iv H2 F2 x2 r2 n2 => ?_⟩⟩
        cases rep_int r2
        have x12 := x1.trans x2
        have ndG : G.Nodup := by
          have := er.nd k
          rw [hG] at this
          exact (List.nodup_cons.mp this).2
        obtain ⟨p1, us, ev, h1, w1, rs, m1, bk⟩ := Reps.inner (rg.ext x12) ndG hys c1
        have eat : L2.atI vs n = some (.ref p1) := by
          unfold L2.atI
          rw [← rg.length, ea]
          exact ev
        refine .inl ⟨p0, vs, n, .ref p1, rfl, rfl, .inl (.inl (x12 _ _ hH)), eat, ?_⟩
        refine j2 σ H2 _ ⟨W, ρ, fs, _, er.ext x12, hz, fun jv H3 F3 x3 r3 n3 => ?_⟩
        cases rep_int r3
        have x123 := x12.trans x3
        have er3 := er.ext x123
        refine ⟨p1, us, m, b, rfl, rfl, x3 _ _ h1, by rw [← rs.length]; exact eb, ?_⟩
        have h13 := x3 _ _ h1
        obtain ⟨p1', us', ev', h1', w1', rs', m1', bk'⟩ := Reps.inner (rg.ext x123) ndG hys c1
        rw [ev] at ev'
        cases ev'
        rw [h13] at h1'
        cases h1'
        have new : Reps X.K W.Wr (upd H3 p1 (.lst (us.set b v))) (xs.set a (.lst (ys.set b d))) vs G := bk' _ _ _ (fun c o hn e => by rw [upd_ne hn]; exact e) upd_same
          (Reps.set1 ((r1.ext (x2.trans x3)).upd h13 w1 fun z => by cases z) (rs'.upd h13 w1 fun z => by cases z) c1 (ixN_lt eb))
        have er4 := er3.in_chg e0 hG (x123 _ _ hH) hw h13 w1 m1 (fun c o hn e => by rw [upd_ne hn]; exact e) (by rw [upd_same]; exact fun z => by cases z) new
        have hp1 : fs.has p1 := ⟨k, by rw [hG]; exact List.mem_cons_of_mem _ m1⟩
        refine q σ _ _ er4 ⟨fun c o nc e => ?_, fun c hc => .inl hc⟩
        rw [upd_ne fun z => nc (by rw [z]; exact hp1)]
        exact x123 _ _ e
      · cases hp
    · cases hp
  cases di with
  | int n => cases dj with
    | int m => exact fin n m rfl rfl
    | _ => cases hp
  | _ => cases dj <;> cases hp
end
end FL

end

section
set_option Elab.async false
set_option linter.all false
set_option maxRecDepth 100000
set_option maxHeartbeats 4000000
namespace FL
open PySem L2

/-! ### equations by which the mirrors are run: every rule speaks of an applied combinator, what follows stays a name -/
def seqO : Option Out → (Env → Option Out) → Option Out
  | some (.nx ρ), n => n ρ
  | o, _ => o
theorem seqS_ap (m n ρ) : seqS m n ρ = seqO (m ρ) n := by unfold seqS seqO; cases m ρ with | none => rfl | some o => cases o <;> rfl
@[simp] theorem seqO_nx (ρ n) : seqO (some (.nx ρ)) n = n ρ := rfl
@[simp] theorem seqO_rt (d ρ n) : seqO (some (.rt d ρ)) n = some (.rt d ρ) := rfl
@[simp] theorem seqO_bk (ρ n) : seqO (some (.bk ρ)) n = some (.bk ρ) := rfl
@[simp] theorem seqO_ct (ρ n) : seqO (some (.ct ρ)) n = some (.ct ρ) := rfl
def ifO : Option (Bool × Env) → (Env → Option Out) → (Env → Option Out) → Option Out
  | some (b, ρ), m, n => if b then m ρ else n ρ
  | none, _, _ => none
theorem ifS_ap (c m n ρ) : ifS c m n ρ = ifO (c ρ) m n := by unfold ifS ifO; cases c ρ with | none => rfl | some o => rfl
@[simp] theorem ifO_some (b ρ m n) : ifO (some (b, ρ)) m n = if b = true then m ρ else n ρ := rfl
def asgO : Option (D × Env) → (D → Env → Option Env) → Option Out
  | some (d, ρ), g => (g d ρ).map .nx
  | none, _ => none
theorem asgS_ap (m g ρ) : asgS m g ρ = asgO (m ρ) g := by unfold asgS asgO; cases m ρ with | none => rfl | some o => rfl
@[simp] theorem asgO_some (d ρ g) : asgO (some (d, ρ)) g = (g d ρ).map .nx := rfl
theorem gN_ap (i d ρ) : gN i d ρ = some (ρ.set i (some d)) := rfl
theorem gTupN_ap (is ds ρ) : gTupN is (.tup ds) ρ = gNs is ds ρ := rfl
theorem gNs_nil (ρ) : gNs [] [] ρ = some ρ := rfl
theorem gNs_cons (i is d ds ρ) : gNs (i :: is) (d :: ds) ρ = gNs is ds (ρ.set i (some d)) := rfl
def retO : Option (D × Env) → Option Out
  | some (d, ρ) => some (.rt d ρ)
  | none => none
theorem retS_ap (m ρ) : retS m ρ = retO (m ρ) := by unfold retS retO; cases m ρ with | none => rfl | some o => rfl
@[simp] theorem retO_some (d ρ) : retO (some (d, ρ)) = some (.rt d ρ) := rfl
def exprO : Option (D × Env) → Option Out
  | some (_, ρ) => some (.nx ρ)
  | none => none
theorem exprS_ap (m ρ) : exprS m ρ = exprO (m ρ) := by unfold exprS exprO; cases m ρ with | none => rfl | some o => rfl
@[simp] theorem exprO_some (d ρ) : exprO (some (d, ρ)) = some (.nx ρ) := rfl
theorem skipS_ap (ρ) : skipS ρ = some (.nx ρ) := rfl
def parO (i j : Nat) : Option (List Tm × Env) → Option Out
  | some ([.v d1, .v d2], ρ) => some (.nx ((ρ.set i (some d1)).set j (some d2)))
  | _ => none
theorem parS_ap {i j ms ρ d1 d2 ρ'} (h : ms ρ = some ([.v d1, .v d2], ρ')) : parS i j ms ρ = some (.nx ((ρ'.set i (some d1)).set j (some d2))) := by unfold parS; rw [h]; rfl
/-- calm expressions -/
theorem p1_ap (f a ρ) : p1 f a ρ = (a ρ).bind f := rfl
def b2 (f : D → D → Option D) : Option D → Option D → Option D
  | some x, some y => f x y
  | _, _ => none
theorem p2_ap (f a b ρ) : p2 f a b ρ = b2 f (a ρ) (b ρ) := by unfold p2 b2; cases a ρ with | none => rfl | some x => cases b ρ <;> rfl
@[simp] theorem b2_some (f x y) : b2 f (some x) (some y) = f x y := rfl
theorem pn_ap (f a ρ) : pn f a ρ = (a ρ).bind f := rfl
theorem psNil_ap (ρ) : psNil ρ = some [] := rfl
def c2 : Option D → Option (List D) → Option (List D)
  | some x, some y => some (x :: y)
  | _, _ => none
theorem psCons_ap (p q ρ) : psCons p q ρ = c2 (p ρ) (q ρ) := by unfold psCons c2; cases p ρ with | none => rfl | some x => cases q ρ <;> rfl
@[simp] theorem c2_some (x y) : c2 (some x) (some y) = some (x :: y) := rfl
theorem pV_ap (i ρ) : pV i ρ = lk ρ i := rfl
theorem pC_ap (d ρ) : pC d ρ = some d := rfl
theorem lk_zero (x : Option D) (ρ) : lk (x :: ρ) 0 = x := by cases x <;> rfl
theorem lk_succ (x : Option D) (ρ i) : lk (x :: ρ) (i + 1) = lk ρ i := by unfold lk; rw [List.getElem?_cons_succ]
theorem pIx_ap {pa pb ρ d xs i} (ha : pa ρ = some d) (hs : seqD d = some xs) (hb : pb ρ = some (.int i)) : pIx pa pb ρ = atI xs i := by unfold pIx; rw [ha, hb]; show (seqD d).bind _ = _; rw [hs]; rfl
def ixO : Option D → Option D → Option D
  | some d, some (.int i) => (seqD d).bind fun xs => atI xs i
  | _, _ => none
theorem pIx_ap' (pa pb ρ) : pIx pa pb ρ = ixO (pa ρ) (pb ρ) := by
  unfold pIx ixO; cases pa ρ with
  | none => rfl
  | some d => cases pb ρ with
    | none => rfl
    | some e => cases e <;> rfl
@[simp] theorem ixO_tup (xs i) : ixO (some (.tup xs)) (some (.int i)) = atI xs i := rfl
@[simp] theorem ixO_lst (xs i) : ixO (some (.lst xs)) (some (.int i)) = atI xs i := rfl
@[simp] theorem ixO_shr (xs i) : ixO (some (.shr xs)) (some (.int i)) = atI xs i := rfl
def lE : Option D → Env → Option (D × Env)
  | some d, ρ => some (d, ρ)
  | none, _ => none
theorem liftE_ap (p ρ) : liftE p ρ = lE (p ρ) ρ := by unfold liftE lE; cases p ρ <;> rfl
@[simp] theorem lE_some (d ρ) : lE (some d) ρ = some (d, ρ) := rfl
def lC : Option D → Env → Option (D × Env)
  | some d, ρ => if d.free then some (d, ρ) else none
  | none, _ => none
theorem liftC_ap (p ρ) : liftC p ρ = lC (p ρ) ρ := by unfold liftC lC; cases p ρ <;> rfl
@[simp] theorem lC_int (i ρ) : lC (some (.int i)) ρ = some (.int i, ρ) := rfl
@[simp] theorem lC_bl (i ρ) : lC (some (.bl i)) ρ = some (.bl i, ρ) := rfl
@[simp] theorem lC_str (i ρ) : lC (some (.str i)) ρ = some (.str i, ρ) := rfl
@[simp] theorem lC_non (ρ) : lC (some .non) ρ = some (.non, ρ) := rfl
theorem lC_free {d} (h : d.free = true) (ρ) : lC (some d) ρ = some (d, ρ) := by show (if d.free = true then some (d, ρ) else none) = _; rw [if_pos h]
theorem pIf_ap (c p q ρ) : pIf c p q ρ = (c ρ).bind fun b => if b then p ρ else q ρ := rfl
/-- tests -/
def tb : Option D → Option Bool
  | some (.bl b) => some b
  | _ => none
theorem tB'_ap (p ρ) : tB' p ρ = tb (p ρ) := by unfold tB' tb; cases p ρ with | none => rfl | some d => cases d <;> rfl
@[simp] theorem tb_bl (b) : tb (some (.bl b)) = some b := rfl
def andO : Option Bool → (Env → Option Bool) → Env → Option Bool
  | some b, q, ρ => if b then q ρ else some false
  | none, _, _ => none
theorem tAnd'_ap (p q ρ) : tAnd' p q ρ = andO (p ρ) q ρ := by unfold tAnd' andO; cases p ρ <;> rfl
@[simp] theorem andO_some (b q ρ) : andO (some b) q ρ = if b = true then q ρ else some false := rfl
def orO : Option Bool → (Env → Option Bool) → Env → Option Bool
  | some b, q, ρ => if b then some true else q ρ
  | none, _, _ => none
theorem tOr'_ap (p q ρ) : tOr' p q ρ = orO (p ρ) q ρ := by unfold tOr' orO; cases p ρ <;> rfl
@[simp] theorem orO_some (b q ρ) : orO (some b) q ρ = if b = true then some true else q ρ := rfl
theorem tNot'_ap (p ρ) : tNot' p ρ = (p ρ).map (!·) := rfl
def lT : Option Bool → Env → Option (Bool × Env)
  | some b, ρ => some (b, ρ)
  | none, _ => none
theorem liftT_ap (p ρ) : liftT p ρ = lT (p ρ) ρ := by unfold liftT lT; cases p ρ <;> rfl
@[simp] theorem lT_some (b ρ) : lT (some b) ρ = some (b, ρ) := rfl
def bE : Option (D × Env) → Option (Bool × Env)
  | some (.bl b, ρ) => some (b, ρ)
  | _ => none
theorem blE_ap (m ρ) : blE m ρ = bE (m ρ) := by
  unfold blE bE; cases m ρ with
  | none => rfl
  | some x => obtain ⟨d, ρ'⟩ := x; cases d <;> rfl
@[simp] theorem bE_bl (b ρ) : bE (some (.bl b, ρ)) = some (b, ρ) := rfl
def andEO : Option (Bool × Env) → (Env → Option (Bool × Env)) → Option (Bool × Env)
  | some (b, ρ), q => if b then q ρ else some (false, ρ)
  | none, _ => none
theorem andE_ap (p q ρ) : andE p q ρ = andEO (p ρ) q := by unfold andE andEO; cases p ρ <;> rfl
@[simp] theorem andEO_some (b ρ q) : andEO (some (b, ρ)) q = if b = true then q ρ else some (false, ρ) := rfl
def orEO : Option (Bool × Env) → (Env → Option (Bool × Env)) → Option (Bool × Env)
  | some (b, ρ), q => if b then some (true, ρ) else q ρ
  | none, _ => none
theorem orE_ap (p q ρ) : orE p q ρ = orEO (p ρ) q := by unfold orE orEO; cases p ρ <;> rfl
@[simp] theorem orEO_some (b ρ q) : orEO (some (b, ρ)) q = if b = true then some (true, ρ) else q ρ := rfl
def notEO : Option (Bool × Env) → Option (Bool × Env)
  | some (b, ρ) => some (!b, ρ)
  | none => none
theorem notE_ap (p ρ) : notE p ρ = notEO (p ρ) := by unfold notE notEO; cases p ρ <;> rfl
@[simp] theorem notEO_some (b ρ) : notEO (some (b, ρ)) = some (!b, ρ) := rfl
/-- effectful expressions -/
def tE : Option (D × Env) → Option (Tm × Env)
  | some (d, ρ) => some (.v d, ρ)
  | none => none
theorem toE_ap (m ρ) : toE m ρ = tE (m ρ) := by unfold toE tE; cases m ρ <;> rfl
@[simp] theorem tE_some (d ρ) : tE (some (d, ρ)) = some (.v d, ρ) := rfl
def sO : Option D → Nat → Env → Option (Tm × Env)
  | some _, i, ρ => some (.s i, ρ)
  | none, _, _ => none
theorem toS'_ap (i ρ) : toS' i ρ = sO (lk ρ i) i ρ := by unfold toS' sO; cases lk ρ i <;> rfl
@[simp] theorem sO_some (d i ρ) : sO (some d) i ρ = some (.s i, ρ) := rfl
def mO : Option D → Nat → Env → Option (Tm × Env)
  | some _, i, ρ => some (.m i, ρ)
  | none, _, _ => none
theorem toM'_ap (i ρ) : toM' i ρ = mO (lk ρ i) i ρ := by unfold toM' mO; cases lk ρ i <;> rfl
@[simp] theorem mO_some (d i ρ) : mO (some d) i ρ = some (.m i, ρ) := rfl
theorem asNil_ap (ρ) : asNil ρ = some ([], ρ) := rfl
def acT (t : Tm) : Option (List Tm × Env) → Option (List Tm × Env)
  | some (ts, ρ) => some (t :: ts, ρ)
  | none => none
def acO : Option (Tm × Env) → (Env → Option (List Tm × Env)) → Option (List Tm × Env)
  | some (t, ρ), r => acT t (r ρ)
  | none, _ => none
theorem asCons_ap (m r ρ) : asCons m r ρ = acO (m ρ) r := by
  unfold asCons acO acT; cases m ρ with
  | none => rfl
  | some x => cases h : r x.2 with
    | none => simp [h]
    | some y => simp [h]
@[simp] theorem acO_some (t ρ r) : acO (some (t, ρ)) r = acT t (r ρ) := rfl
@[simp] theorem acT_some (t ts ρ) : acT t (some (ts, ρ)) = some (t :: ts, ρ) := rfl
def o2F (f : D → D → Option D) : Option D → Option D → Env → Option (D × Env)
  | some x, some y, ρ => lE (f x y) ρ
  | _, _, _ => none
def o2T (f : D → D → Option D) (t : Tm) : Option (Tm × Env) → Option (D × Env)
  | some (u, ρ) => o2F f (t.raw ρ) (u.raw ρ) ρ
  | none => none
def o2O (f : D → D → Option D) : Option (Tm × Env) → (Env → Option (Tm × Env)) → Option (D × Env)
  | some (t, ρ), mb => o2T f t (mb ρ)
  | none, _ => none
theorem opE2_ap (f ma mb ρ) : opE2 f ma mb ρ = o2O f (ma ρ) mb := by
  unfold opE2 o2O o2T o2F lE; cases ma ρ with
  | none => rfl
  | some x => cases h : mb x.2 with
    | none => simp [h]
    | some y =>
      simp only [h, Option.bind_some]
      cases x.1.raw y.2 with
      | none => rfl
      | some d1 => cases y.1.raw y.2 with
        | none => rfl
        | some d2 => simp only [Option.bind_some]; cases f d1 d2 <;> rfl
@[simp] theorem o2O_some (f t ρ mb) : o2O f (some (t, ρ)) mb = o2T f t (mb ρ) := rfl
@[simp] theorem o2T_some (f t u ρ) : o2T f t (some (u, ρ)) = o2F f (t.raw ρ) (u.raw ρ) ρ := rfl
@[simp] theorem o2F_some (f x y ρ) : o2F f (some x) (some y) ρ = lE (f x y) ρ := rfl
def o1F (f : D → Option D) : Option D → Env → Option (D × Env)
  | some x, ρ => lE (f x) ρ
  | _, _ => none
def o1O (f : D → Option D) : Option (Tm × Env) → Option (D × Env)
  | some (t, ρ) => o1F f (t.raw ρ) ρ
  | none => none
theorem opE1_ap (f ma ρ) : opE1 f ma ρ = o1O f (ma ρ) := by
  unfold opE1 o1O o1F lE; cases ma ρ with
  | none => rfl
  | some x =>
    simp only [Option.bind_some]
    cases x.1.raw x.2 with
    | none => rfl
    | some d1 => simp only [Option.bind_some]; cases f d1 <;> rfl
@[simp] theorem o1O_some (f t ρ) : o1O f (some (t, ρ)) = o1F f (t.raw ρ) ρ := rfl
@[simp] theorem o1F_some (f x ρ) : o1F f (some x) ρ = lE (f x) ρ := rfl
def onF (f : List D → Option D) : Option (List D) → Env → Option (D × Env)
  | some x, ρ => lE (f x) ρ
  | _, _ => none
def onO (f : List D → Option D) : Option (List Tm × Env) → Option (D × Env)
  | some (t, ρ) => onF f (raws ρ t) ρ
  | none => none
theorem opEn_ap (f ma ρ) : opEn f ma ρ = onO f (ma ρ) := by
  unfold opEn onO onF lE; cases ma ρ with
  | none => rfl
  | some x =>
    simp only [Option.bind_some]
    cases raws x.2 x.1 with
    | none => rfl
    | some d1 => simp only [Option.bind_some]; cases f d1 <;> rfl
@[simp] theorem onO_some (f t ρ) : onO f (some (t, ρ)) = onF f (raws ρ t) ρ := rfl
@[simp] theorem onF_some (f x ρ) : onF f (some x) ρ = lE (f x) ρ := rfl
theorem raw_v (d ρ) : (Tm.v d).raw ρ = some d := rfl
theorem raw_s (i ρ) : (Tm.s i).raw ρ = lk ρ i := rfl
theorem raw_m (i ρ) : (Tm.m i).raw ρ = lk ρ i := rfl
theorem raws_nil (ρ) : raws ρ [] = some [] := rfl
theorem raws_cons (ρ t ts) : raws ρ (t :: ts) = c2 (t.raw ρ) (raws ρ ts) := by
  show (t.raw ρ).bind _ = _
  cases t.raw ρ with | none => rfl | some x => simp only [Option.bind_some, c2]; cases raws ρ ts <;> rfl
theorem valsOf_nil : valsOf [] = some [] := rfl
theorem valsOf_v (d ts) : valsOf (.v d :: ts) = (valsOf ts).map (d :: ·) := rfl
def diO (c : List D → D) : Option (List Tm × Env) → Option (D × Env)
  | some (ts, ρ) => (valsOf ts).bind fun ds => if ds.length ≤ 1000 then some (c ds, ρ) else none
  | none => none
theorem dispE_ap (c ms ρ) : dispE c ms ρ = diO c (ms ρ) := by unfold dispE diO; cases ms ρ <;> rfl
@[simp] theorem diO_some (c ts ρ) : diO c (some (ts, ρ)) = (valsOf ts).bind fun ds => if ds.length ≤ 1000 then some (c ds, ρ) else none := rfl
def ifEO : Option (Bool × Env) → (Env → Option (D × Env)) → (Env → Option (D × Env)) → Option (D × Env)
  | some (b, ρ), p, q => if b then p ρ else q ρ
  | none, _, _ => none
theorem ifE_ap (c p q ρ) : ifE c p q ρ = ifEO (c ρ) p q := by unfold ifE ifEO; cases c ρ <;> rfl
@[simp] theorem ifEO_some (b ρ p q) : ifEO (some (b, ρ)) p q = if b = true then p ρ else q ρ := rfl
def andVO : Option (D × Env) → (Env → Option (D × Env)) → Option (D × Env)
  | some (.bl c, ρ), q => if c then q ρ else some (.bl false, ρ)
  | _, _ => none
theorem andV_ap (p q ρ) : andV p q ρ = andVO (p ρ) q := by
  unfold andV andVO; cases p ρ with
  | none => rfl
  | some x => obtain ⟨d, ρ'⟩ := x; cases d <;> rfl
@[simp] theorem andVO_bl (c ρ q) : andVO (some (.bl c, ρ)) q = if c = true then q ρ else some (.bl false, ρ) := rfl
def orVO : Option (D × Env) → (Env → Option (D × Env)) → Option (D × Env)
  | some (.bl c, ρ), q => if c then some (.bl true, ρ) else q ρ
  | _, _ => none
theorem orV_ap (p q ρ) : orV p q ρ = orVO (p ρ) q := by
  unfold orV orVO; cases p ρ with
  | none => rfl
  | some x => obtain ⟨d, ρ'⟩ := x; cases d <;> rfl
@[simp] theorem orVO_bl (c ρ q) : orVO (some (.bl c, ρ)) q = if c = true then some (.bl true, ρ) else q ρ := rfl
def notVO : Option (D × Env) → Option (D × Env)
  | some (.bl c, ρ) => some (.bl (!c), ρ)
  | _ => none
theorem notV_ap (p ρ) : notV p ρ = notVO (p ρ) := by
  unfold notV notVO; cases p ρ with
  | none => rfl
  | some x => obtain ⟨d, ρ'⟩ := x; cases d <;> rfl
@[simp] theorem notVO_bl (c ρ) : notVO (some (.bl c, ρ)) = some (.bl (!c), ρ) := rfl
theorem mvV_lst {ρ i xs} (h : lk ρ i = some (.lst xs)) : mvV i ρ = some (.lst xs, ρ.set i none) := by unfold mvV; rw [h]; rfl
def mvO : Option D → Nat → Env → Option (D × Env)
  | some (.frz _), _, _ => none
  | some d, i, ρ => some (d, ρ.set i none)
  | none, _, _ => none
theorem mvV_ap (i ρ) : mvV i ρ = mvO (lk ρ i) i ρ := by
  unfold mvV mvO; cases lk ρ i with
  | none => rfl
  | some d => cases d <;> rfl
@[simp] theorem mvO_lst (xs i ρ) : mvO (some (.lst xs)) i ρ = some (.lst xs, ρ.set i none) := rfl
@[simp] theorem mvO_tup (xs i ρ) : mvO (some (.tup xs)) i ρ = some (.tup xs, ρ.set i none) := rfl
@[simp] theorem mvO_shr (xs i ρ) : mvO (some (.shr xs)) i ρ = some (.shr xs, ρ.set i none) := rfl
/-- methods -/
theorem lstAt_zero (xs ρ) : lstAt (some (.lst xs) :: ρ) 0 = some xs := rfl
theorem lstAt_succ (x ρ i) : lstAt (x :: ρ) (i + 1) = lstAt ρ i := by unfold lstAt; rw [lk_succ]
def mtF (k : Nat) (f : List D → List D → Option (D × List D)) (ρ : Env) : Option (List D) → Option (List D) → Option (D × Env)
  | some ds, some xs => (f xs ds).map fun y => (y.1, ρ.set k (some (.lst y.2)))
  | _, _ => none
def mtT (k : Nat) (f : List D → List D → Option (D × List D)) : Option (List Tm × Env) → Option (D × Env)
  | some (ts, ρ) => mtF k f ρ (valsOf ts) (lstAt ρ k)
  | none => none
def mtO (k : Nat) (f : List D → List D → Option (D × List D)) : Option (List D) → Option (List Tm × Env) → Option (D × Env)
  | some _, x => mtT k f x
  | none, _ => none
theorem mtE_ap (k f ms ρ) : mtE k f ms ρ = mtO k f (lstAt ρ k) (ms ρ) := by
  unfold mtE mtO mtT mtF; cases lstAt ρ k with
  | none => rfl
  | some xs => cases ms ρ with
    | none => rfl
    | some x =>
      simp only [Option.bind_some]
      cases valsOf x.1 with
      | none => rfl
      | some ds => simp only [Option.bind_some]; cases lstAt x.2 k <;> rfl
@[simp] theorem mtO_some (k f xs x) : mtO k f (some xs) x = mtT k f x := rfl
@[simp] theorem mtT_some (k f ts ρ) : mtT k f (some (ts, ρ)) = mtF k f ρ (valsOf ts) (lstAt ρ k) := rfl
@[simp] theorem mtF_some (k f ρ ds xs) : mtF k f ρ (some ds) (some xs) = (f xs ds).map fun y => (y.1, ρ.set k (some (.lst y.2))) := rfl
/-- calls -/
def callF (fm : List D → Option (D × List D)) (M : List Nat) (ρ : Env) : Option (List D) → Option (D × Env)
  | some ds => (fm ds).bind fun r => (putM M r.2 (dropM M ρ)).map fun ρ' => (r.1, ρ')
  | none => none
def callO (fm : List D → Option (D × List D)) (mp : List Nat) : Option (List Tm × Env) → Option (D × Env)
  | some (ts, ρ) => if okT mp ts then callF fm (mSlots ts) ρ (argsD ρ ts) else none
  | none => none
theorem callE_ap (fm mp ms ρ) : callE fm mp ms ρ = callO fm mp (ms ρ) := by
  unfold callE callO callF; cases ms ρ with
  | none => rfl
  | some x =>
    simp only [Option.bind_some]
    split
    · cases argsD x.2 x.1 <;> rfl
    · rfl
@[simp] theorem callO_some (fm mp ts ρ) : callO fm mp (some (ts, ρ)) = if okT mp ts = true then callF fm (mSlots ts) ρ (argsD ρ ts) else none := rfl
@[simp] theorem callF_some (fm M ρ ds) : callF fm M ρ (some ds) = (fm ds).bind fun r => (putM M r.2 (dropM M ρ)).map fun ρ' => (r.1, ρ') := rfl
theorem argsD_nil (ρ) : argsD ρ [] = some [] := rfl
theorem argsD_cons (ρ t ts) : argsD ρ (t :: ts) = c2 (argD ρ t) (argsD ρ ts) := by
  show (argD ρ t).bind _ = _
  cases argD ρ t with | none => rfl | some x => simp only [Option.bind_some, c2]; cases argsD ρ ts <;> rfl
theorem argD_v (d ρ) : argD ρ (.v d) = some d := rfl
theorem argD_s (i ρ) : argD ρ (.s i) = (lk ρ i).map D.share := rfl
theorem argD_m (i ρ) : argD ρ (.m i) = lk ρ i := rfl
def pcF (f : List D → Option (D × List D)) : Option (List D) → Option D
  | some ds => (f (D.shares ds)).map (·.1)
  | none => none
theorem pCall_ap (f qs ρ) : pCall f qs ρ = pcF f (qs ρ) := by unfold pCall pcF; cases qs ρ <;> rfl
@[simp] theorem pcF_some (f ds) : pcF f (some ds) = (f (D.shares ds)).map (·.1) := rfl
/-- sources -/
def itEO : Option (D × Env) → Option (List D × Env)
  | some (d, ρ) => (seqD d).bind fun ds => if D.frees ds then some (ds, ρ) else none
  | none => none
theorem itE_ap (m ρ) : itE m ρ = itEO (m ρ) := by unfold itE itEO; cases m ρ <;> rfl
theorem itEO_tup {xs} (h : D.frees xs = true) (ρ) : itEO (some (.tup xs, ρ)) = some (xs, ρ) := by show (if D.frees xs then _ else _) = _; rw [h]; rfl
theorem itEO_lst {xs} (h : D.frees xs = true) (ρ) : itEO (some (.lst xs, ρ)) = some (xs, ρ) := by show (if D.frees xs then _ else _) = _; rw [h]; rfl
theorem itEO_shr {xs} (h : D.frees xs = true) (ρ) : itEO (some (.shr xs, ρ)) = some (xs, ρ) := by show (if D.frees xs then _ else _) = _; rw [h]; rfl
def itAF (f : List D → Option (List D)) : Option (List D) → Env → Option (List D × Env)
  | some ds, ρ => (f ds).map fun y => (y, ρ)
  | none, _ => none
def itAO (f : List D → Option (List D)) : Option (List Tm × Env) → Option (List D × Env)
  | some (ts, ρ) => itAF f (raws ρ ts) ρ
  | none => none
theorem itA_ap (f ms ρ) : itA f ms ρ = itAO f (ms ρ) := by unfold itA itAO itAF; cases ms ρ with | none => rfl | some x => simp only [Option.bind_some]; cases raws x.2 x.1 <;> rfl
@[simp] theorem itAO_some (f ts ρ) : itAO f (some (ts, ρ)) = itAF f (raws ρ ts) ρ := rfl
@[simp] theorem itAF_some (f ds ρ) : itAF f (some ds) ρ = (f ds).map fun y => (y, ρ) := rfl
theorem icA_ap (f ps ρ) : icA f ps ρ = (ps ρ).bind f := rfl
def icBO : Option D → Option (List D)
  | some d => (seqD d).bind fun ds => if D.frees ds then some ds else none
  | none => none
theorem icB_ap (p ρ) : icB p ρ = icBO (p ρ) := by unfold icB icBO; cases p ρ <;> rfl
theorem icBO_tup {xs} (h : D.frees xs = true) : icBO (some (.tup xs)) = some xs := by show (if D.frees xs then _ else _) = _; rw [h]; rfl
theorem icBO_lst {xs} (h : D.frees xs = true) : icBO (some (.lst xs)) = some xs := by show (if D.frees xs then _ else _) = _; rw [h]; rfl
theorem icBO_shr {xs} (h : D.frees xs = true) : icBO (some (.shr xs)) = some xs := by show (if D.frees xs then _ else _) = _; rw [h]; rfl
def forO (g : D → Env → Option Env) (m : Env → Option Out) : Option (List D × Env) → Option Out
  | some (ds, ρ) => forM g m ds ρ
  | none => none
theorem forS_ap (g m mi ρ) : forS g m mi ρ = forO g m (mi ρ) := by unfold forS forO; cases mi ρ <;> rfl
@[simp] theorem forO_some (g m ds ρ) : forO g m (some (ds, ρ)) = forM g m ds ρ := rfl
theorem rg1_ap (j) : rg1 [.int j] = itR 0 j := rfl
theorem rg2_ap (i j) : rg2 [.int i, .int j] = itR i j := rfl
/-- range(n) of a list's length and the like -/
def upto (n : Nat) : List D := (List.range n).map fun i => .int (i : Nat)
theorem itR_nat {n : Nat} (h : n < 2 ^ 62) : itR 0 (n : Int) = some (upto n) := by
  unfold itR
  rw [if_pos ⟨by omega, by omega, by omega, by omega⟩]
  unfold rangeD upto
  simp
theorem itR_of {i j : Int} (h1 : -(2 ^ 62) ≤ i) (h2 : i < 2 ^ 62) (h3 : -(2 ^ 62) ≤ j) (h4 : j < 2 ^ 62) : itR i j = some (rangeD i j) := by
  unfold itR
  rw [if_pos ⟨h1, h2, h3, h4⟩]
theorem upto_frees (n : Nat) : D.frees (upto n) = true := by
  rw [D.frees_all]; intro d hd; obtain ⟨i, _, rfl⟩ := List.mem_map.mp hd; rfl
/-- loops by an invariant -/
theorem forM_inv {g : D → Env → Option Env} {m : Env → Option Out} (I : Nat → Env → Prop) {ds : List D} {ρ : Env} (h0 : I 0 ρ) (hs : ∀ i d ρ, ds[i]? = some d → I i ρ → ∃ ρ1 ρ2, g d ρ = some ρ1 ∧ (m ρ1 = some (.nx ρ2) ∨ m ρ1 = some (.ct ρ2)) ∧ I (i + 1) ρ2) :
    ∃ ρ', forM g m ds ρ = some (.nx ρ') ∧ I ds.length ρ' := by
  have go : ∀ (k : Nat) (ds' : List D) (i : Nat) (ρ : Env), ds' = ds.drop i → ds.length - i = k → i ≤ ds.length → I i ρ → ∃ ρ', forM g m ds' ρ = some (.nx ρ') ∧ I ds.length ρ' := by
    intro k
    induction k with
    | zero =>
      intro ds' i ρ e hk hi hI
      have : i = ds.length := by omega
      subst this
      rw [List.drop_length] at e
      subst e
      exact ⟨ρ, rfl, hI⟩
    | succ k ih =>
      intro ds' i ρ e hk hi hI
      have hlt : i < ds.length := by omega
      rw [List.drop_eq_getElem_cons hlt] at e
      subst e
      obtain ⟨ρ1, ρ2, h1, h2, h3⟩ := hs i ds[i] ρ (List.getElem?_eq_getElem hlt) hI
      obtain ⟨ρ', h4, h5⟩ := ih _ (i + 1) ρ2 rfl (by omega) hlt h3
      refine ⟨ρ', ?_, h5⟩
      show (g ds[i] ρ).bind _ = _
      rw [h1]
      show (m ρ1).bind _ = _
      rcases h2 with h2 | h2 <;> rw [h2] <;> exact h4
  exact go _ ds 0 ρ rfl rfl (Nat.zero_le _) h0
/-- the same over 0, 1, .. -/
theorem forM_upto {g : D → Env → Option Env} {m : Env → Option Out} (I : Nat → Env → Prop) {n : Nat} {ρ : Env} (h0 : I 0 ρ) (hs : ∀ i ρ, i < n → I i ρ → ∃ ρ1 ρ2, g (.int (i : Nat)) ρ = some ρ1 ∧ (m ρ1 = some (.nx ρ2) ∨ m ρ1 = some (.ct ρ2)) ∧ I (i + 1) ρ2) :
    ∃ ρ', forM g m (upto n) ρ = some (.nx ρ') ∧ I n ρ' := by
  have hl : (upto n).length = n := by unfold upto; simp
  have := forM_inv (g := g) (m := m) I (ds := upto n) h0 fun i d ρ e hI => by
    unfold upto at e
    rw [List.getElem?_map] at e
    obtain ⟨j, e1, rfl⟩ := Option.map_eq_some_iff.mp e
    obtain ⟨hlt, e2⟩ := List.getElem?_eq_some_iff.mp e1
    rw [List.getElem_range] at e2
    rw [List.length_range] at hlt
    subst e2
    exact hs _ ρ hlt hI
  rw [hl] at this
  exact this
theorem whS_stop {c m ρ ρ'} (h : c ρ = some (false, ρ')) : whS c m ρ = some (.nx ρ') := whS_of (.stop h)
theorem whS_nx {c m ρ ρ1 ρ2 o} (h : c ρ = some (true, ρ1)) (h2 : m ρ1 = some (.nx ρ2)) (h3 : whS c m ρ2 = some o) : whS c m ρ = some o := whS_of (.nx h h2 (whS_wh h3))
/-- defs -/
def fnO (mp : List Nat) : Option Out → Option (D × List D)
  | some (.rt d ρ) => finM mp d ρ
  | some (.nx ρ) => finM mp .non ρ
  | _ => none
theorem fnM_ap {n np mp m} {ds : List D} (h : ds.length = np) : fnM n np mp m ds = fnO mp (m (ds.map some ++ List.replicate (n - np) none)) := by
  unfold fnM fnO
  rw [if_pos h]
  cases m (ds.map some ++ List.replicate (n - np) none) with
  | none => rfl
  | some o => cases o <;> rfl
@[simp] theorem fnO_rt (mp d ρ) : fnO mp (some (.rt d ρ)) = finM mp d ρ := rfl
@[simp] theorem fnO_nx (mp ρ) : fnO mp (some (.nx ρ)) = finM mp .non ρ := rfl
theorem finM_nil {d ρ} (h : d.own = true) : finM [] d ρ = some (d, []) := by unfold finM; rw [h]; rfl
theorem finM_one {d ρ j x} (h : d.own = true) (e : lk ρ j = some x) (hx : x.own = true) : finM [j] d ρ = some (d, [x]) := by
  unfold finM outs; rw [h, e]; show (if true = true then Option.map _ (if x.own then _ else _) else _) = _; rw [hx]; rfl
/-! ### data of ints -/
abbrev tI (ns : List Int) : D := .tup (ns.map .int)
abbrev lI (ns : List Int) : D := .lst (ns.map .int)
theorem frees_ints (ns : List Int) : D.frees (ns.map .int) = true := by rw [D.frees_all]; intro d hd; obtain ⟨i, _, rfl⟩ := List.mem_map.mp hd; rfl
theorem owns_ints (ns : List Int) : D.owns (ns.map .int) = true := by rw [D.owns_all]; intro d hd; obtain ⟨i, _, rfl⟩ := List.mem_map.mp hd; rfl
theorem shares_ints (ns : List Int) : D.shares (ns.map .int) = ns.map .int := by rw [D.shares_map, List.map_map]; rfl
theorem free_tI (ns : List Int) : (tI ns).free = true := by rw [D.free]; exact frees_ints ns
theorem own_tI (ns : List Int) : (tI ns).own = true := by rw [D.own]; exact owns_ints ns
theorem own_lI (ns : List Int) : (lI ns).own = true := by rw [D.own]; exact owns_ints ns
theorem share_tI (ns : List Int) : (tI ns).share = tI ns := by rw [D.share, shares_ints]
theorem share_lI (ns : List Int) : (lI ns).share = .shr (ns.map .int) := by rw [D.share, shares_ints]
theorem atI_map {α β : Type} (f : α → β) (xs : List α) (i : Int) : atI (xs.map f) i = (atI xs i).map f := by
  unfold L2.atI
  rw [List.length_map]
  cases ixN xs.length i with
  | none => rfl
  | some j => show (xs.map f)[j]? = _; rw [List.getElem?_map]; rfl
theorem atI_nat' {α : Type} (xs : List α) (i : Nat) : atI xs (i : Int) = xs[i]? := by
  unfold L2.atI ixN
  rw [if_pos (by omega)]
  by_cases h : i < xs.length
  · rw [if_pos (by omega)]; simp
  · rw [if_neg (by omega), List.getElem?_eq_none (by omega)]; rfl
theorem ixN_nat {n i : Nat} (h : i < n) : ixN n (i : Int) = some i := by
  unfold ixN; rw [if_pos (by omega), if_pos (by omega)]; simp
theorem mulOk_small {i j : Int} (h : (-(2 ^ 64) < i ∧ i < 2 ^ 64) ∨ (-(2 ^ 64) < j ∧ j < 2 ^ 64)) : MulOk i j := .inl h
theorem log2_le {n k : Nat} (h : n < 2 ^ k) : n.log2 ≤ k := by
  by_cases h0 : n = 0
  · subst h0; simp
  · exact Nat.le_of_lt ((Nat.log2_lt h0).mpr h)
theorem mulOk_big {i j : Int} {a b : Nat} (h1 : i.natAbs < 2 ^ a) (h2 : j.natAbs < 2 ^ b) (h : a + b < 1000000) : MulOk i j := .inr (by
  have := log2_le h1; have := log2_le h2; omega)
theorem divOk_big {j : Int} {b : Nat} (h0 : 0 < j) (h : j.natAbs < 2 ^ b) (hb : b < 9000) : DivOk j := ⟨h0, by have := log2_le h; omega⟩
/-! ### operations on known values -/
theorem dAdd_i (i j) : dAdd (.int i) (.int j) = some (.int (i + j)) := rfl
theorem dSub_i (i j) : dSub (.int i) (.int j) = some (.int (i - j)) := rfl
theorem addI_i (i j) : addI (.int i) (.int j) = some (.int (i + j)) := rfl
theorem dMul_i {i j} (h : MulOk i j) : dMul (.int i) (.int j) = some (.int (i * j)) := if_pos h
theorem dDiv_i {i j} (h : DivOk j) : dDiv (.int i) (.int j) = some (.int (i / j)) := if_pos h
theorem dMod_i {i j : Int} (h : 0 < j) : dMod (.int i) (.int j) = some (.int (i % j)) := if_pos h
theorem dNeg_i (i) : dNeg (.int i) = some (.int (-i)) := rfl
theorem dLt_i (i j) : dLt (.int i) (.int j) = some (.bl (decide (i < j))) := rfl
theorem dLe_i (i j) : dLe (.int i) (.int j) = some (.bl (decide (i ≤ j))) := rfl
theorem dGt_i (i j) : dGt (.int i) (.int j) = some (.bl (decide (j < i))) := rfl
theorem dGe_i (i j) : dGe (.int i) (.int j) = some (.bl (decide (j ≤ i))) := rfl
theorem dEq_i (i j) : dEq (.int i) (.int j) = some (.bl (decide (i = j))) := rfl
theorem dEq_s (i j) : dEq (.str i) (.str j) = some (.bl (decide (i = j))) := rfl
theorem dEq_b (i j) : dEq (.bl i) (.bl j) = some (.bl (decide (i = j))) := rfl
theorem dNe_i (i j) : dNe (.int i) (.int j) = some (.bl (!decide (i = j))) := rfl
theorem dNe_s (i j) : dNe (.str i) (.str j) = some (.bl (!decide (i = j))) := rfl
theorem dIsN_non : dIsN .non = some (.bl true) := rfl
theorem dIsN_int (i) : dIsN (.int i) = some (.bl false) := rfl
theorem dIsN_tup (i) : dIsN (.tup i) = some (.bl false) := rfl
theorem dIsN_lst (i) : dIsN (.lst i) = some (.bl false) := rfl
theorem dIsN_bl (i) : dIsN (.bl i) = some (.bl false) := rfl
theorem dIsN_str (i) : dIsN (.str i) = some (.bl false) := rfl
theorem dNotN_non : dNotN .non = some (.bl false) := rfl
theorem dNotN_int (i) : dNotN (.int i) = some (.bl true) := rfl
theorem dNotN_tup (i) : dNotN (.tup i) = some (.bl true) := rfl
theorem dLen_lst (xs) : dLen [.lst xs] = some (.int xs.length) := rfl
theorem dLen_tup (xs) : dLen [.tup xs] = some (.int xs.length) := rfl
theorem dLen_shr (xs) : dLen [.shr xs] = some (.int xs.length) := rfl
theorem dSum_tI (ns : List Int) : dSum [.tup (ns.map .int)] = some (.int ns.sum) := by show (intsD (ns.map .int)).map _ = _; rw [intsD_map]; rfl
theorem dSum_lI (ns : List Int) : dSum [.lst (ns.map .int)] = some (.int ns.sum) := by show (intsD (ns.map .int)).map _ = _; rw [intsD_map]; rfl
theorem dSum_sI (ns : List Int) : dSum [.shr (ns.map .int)] = some (.int ns.sum) := by show (intsD (ns.map .int)).map _ = _; rw [intsD_map]; rfl
theorem dInt_i (i) : dInt [.int i] = some (.int i) := rfl
theorem dInt_b (b : Bool) : dInt [.bl b] = some (.int (if b then 1 else 0)) := rfl
theorem dAbs_i (i : Int) : dAbs [.int i] = some (.int (if i < 0 then -i else i)) := rfl
theorem dTuple_lI (ns : List Int) : dTuple [.lst (ns.map .int)] = some (.tup (ns.map .int)) := by show (if D.frees (ns.map .int) then _ else _) = _; rw [if_pos (frees_ints ns)]
theorem dTuple_sI (ns : List Int) : dTuple [.shr (ns.map .int)] = some (.tup (ns.map .int)) := by show (if D.frees (ns.map .int) then _ else _) = _; rw [if_pos (frees_ints ns)]
theorem dList_lI (ns : List Int) : dList [.lst (ns.map .int)] = some (.lst (ns.map .int)) := by show (if D.frees (ns.map .int) then _ else _) = _; rw [if_pos (frees_ints ns)]
theorem dList_tI (ns : List Int) : dList [.tup (ns.map .int)] = some (.lst (ns.map .int)) := by show (if D.frees (ns.map .int) then _ else _) = _; rw [if_pos (frees_ints ns)]
theorem dList_sI (ns : List Int) : dList [.shr (ns.map .int)] = some (.lst (ns.map .int)) := by show (if D.frees (ns.map .int) then _ else _) = _; rw [if_pos (frees_ints ns)]
theorem dMax_lI {ns : List Int} (h : ns ≠ []) : dMax [.lst (ns.map .int)] = some (.int (maxI ns)) := by show (intsD (ns.map .int)).bind _ = _; rw [intsD_map]; exact if_pos h
theorem dMax_2 (i j) : dMax [.int i, .int j] = some (.int (if j > i then j else i)) := rfl
theorem dMin_2 (i j) : dMin [.int i, .int j] = some (.int (if j < i then j else i)) := rfl
theorem mkTup_2 (i j) : mkTup [.int i, .int j] = some (.tup [.int i, .int j]) := rfl
theorem mkTup_3 (i j k) : mkTup [.int i, .int j, .int k] = some (.tup [.int i, .int j, .int k]) := rfl
theorem mkLst_2 (i j) : mkLst [.int i, .int j] = some (.lst [.int i, .int j]) := rfl
theorem mkLst_0 : mkLst [] = some (.lst []) := rfl
theorem mkLst_1 (i) : mkLst [.int i] = some (.lst [.int i]) := rfl
theorem kit_ib : kitB "int" "bool" = some false := by decide +kernel
theorem kit_ii : kitB "int" "int" = some true := by decide +kernel
theorem kit_is : kitB "int" "str" = some false := by decide +kernel
theorem kit_it : kitB "int" "tuple" = some false := by decide +kernel
theorem kit_bb : kitB "bool" "bool" = some true := by decide +kernel
theorem kit_bi : kitB "bool" "int" = some true := by decide +kernel
theorem kit_tb : kitB "tuple" "bool" = some false := by decide +kernel
theorem kit_ti : kitB "tuple" "int" = some false := by decide +kernel
theorem kit_ts : kitB "tuple" "str" = some false := by decide +kernel
theorem kit_tt : kitB "tuple" "tuple" = some true := by decide +kernel
theorem kit_nb : kitB "NoneType" "bool" = some false := by decide +kernel
theorem kit_ni : kitB "NoneType" "int" = some false := by decide +kernel
theorem kit_ns : kitB "NoneType" "str" = some false := by decide +kernel
theorem kit_nt : kitB "NoneType" "tuple" = some false := by decide +kernel
theorem kit_sb : kitB "str" "bool" = some false := by decide +kernel
theorem kit_si : kitB "str" "int" = some false := by decide +kernel
theorem kit_ss : kitB "str" "str" = some true := by decide +kernel
theorem kit_st : kitB "str" "tuple" = some false := by decide +kernel
theorem isi_int (n i) : dIsi n (.int i) = (kitB "int" n).map .bl := rfl
theorem isi_bl (n i) : dIsi n (.bl i) = (kitB "bool" n).map .bl := rfl
theorem isi_str (n i) : dIsi n (.str i) = (kitB "str" n).map .bl := rfl
theorem isi_tup (n i) : dIsi n (.tup i) = (kitB "tuple" n).map .bl := rfl
theorem isi_non (n) : dIsi n .non = (kitB "NoneType" n).map .bl := rfl
theorem lPop_snoc (xs : List D) (x : D) : lPop (xs ++ [x]) [] = some (x, xs) := by simp [lPop]
theorem lReverse_ints (ns : List Int) : lReverse (ns.map .int) [] = some (.non, ns.reverse.map .int) := by
  unfold lReverse; rw [if_pos (frees_ints ns), List.map_reverse]
theorem lAppend_of {xs : List D} (h : xs.length < 1000000) (d : D) : lAppend xs [d] = some (.non, xs ++ [d]) := by show (if xs.length < 1000000 then _ else _) = _; rw [if_pos h]
/-! ### equality of kinds: the law's own _law_same is told of by its mirror's shape -/
end FL

end

section
set_option Elab.async false
set_option linter.all false
set_option maxRecDepth 100000
set_option maxHeartbeats 4000000
namespace FL
open PySem L2
theorem atI_z (x : D) (xs : List D) : atI (x :: xs) 0 = some x := by
  unfold L2.atI ixN; simp
theorem atI_o (x y : D) (xs : List D) : atI (x :: y :: xs) 1 = some y := by
  unfold L2.atI ixN; rw [if_pos (by omega), if_pos (by simp; omega)]; rfl
theorem atI_t (x y z : D) (xs : List D) : atI (x :: y :: z :: xs) 2 = some z := by
  unfold L2.atI ixN; rw [if_pos (by omega), if_pos (by simp; omega)]; rfl
theorem atI_int {ns : List Int} {j : Nat} (h : j < ns.length) : atI (ns.map D.int) (j : Int) = some (.int ns[j]) := by
  rw [atI_nat', List.getElem?_map, List.getElem?_eq_getElem h]; rfl
/-- a, b = .. -/
def parV (i j : Nat) (ρ : Env) : Option (List D) → Option Out
  | some ds => match ds with | [d1, d2] => some (.nx ((ρ.set i (some d1)).set j (some d2))) | _ => none
  | none => none
def parT (i j : Nat) : Option (List Tm × Env) → Option Out
  | some (ts, ρ) => parV i j ρ (valsOf ts)
  | none => none
theorem parS_eq (i j ms ρ) : parS i j ms ρ = parT i j (ms ρ) := by
  unfold parS parT parV; cases ms ρ with
  | none => rfl
  | some x => simp only [Option.bind_some]; cases valsOf x.1 <;> rfl
theorem parT_some (i j ts ρ) : parT i j (some (ts, ρ)) = parV i j ρ (valsOf ts) := rfl
theorem parV_some (i j ρ d1 d2) : parV i j ρ (some [d1, d2]) = some (.nx ((ρ.set i (some d1)).set j (some d2))) := rfl
/-- xs[i] = e -/
def stF (k : Nat) (d : D) (ρ : Env) : Option D → Option (List D) → Option Out
  | some i, some xs => match i with
    | .int i => if D.frees xs then (ixN xs.length i).map fun j => .nx (ρ.set k (some (.lst (xs.set j d)))) else none
    | _ => none
  | _, _ => none
def stT (k : Nat) (d : D) : Option (Tm × Env) → Option Out
  | some (t, ρ) => stF k d ρ (t.raw ρ) (lstAt ρ k)
  | none => none
def stL (k : Nat) (d : D) : Option (List D) → Option (Tm × Env) → Option Out
  | some _, x => stT k d x
  | none, _ => none
def stO (k : Nat) (mi : Env → Option (Tm × Env)) : Option (D × Env) → Option Out
  | some (d, ρ) => stL k d (lstAt ρ k) (mi ρ)
  | none => none
theorem setS_ap (k me mi ρ) : setS k me mi ρ = stO k mi (me ρ) := by
  unfold setS stO stL stT stF
  cases me ρ with
  | none => rfl
  | some x =>
    simp only [Option.bind_some]
    cases lstAt x.2 k with
    | none => rfl
    | some _ =>
      simp only [Option.bind_some]
      cases mi x.2 with
      | none => rfl
      | some y =>
        simp only [Option.bind_some]
        cases y.1.raw y.2 with
        | none => rfl
        | some i => simp only [Option.bind_some]; cases lstAt y.2 k <;> rfl
theorem stO_some (k mi d ρ) : stO k mi (some (d, ρ)) = stL k d (lstAt ρ k) (mi ρ) := rfl
theorem stL_some (k d xs x) : stL k d (some xs) x = stT k d x := rfl
theorem stT_some (k d t ρ) : stT k d (some (t, ρ)) = stF k d ρ (t.raw ρ) (lstAt ρ k) := rfl
theorem stF_int {k : Nat} {v : Int} {ρ : Env} {ns : List Int} {j : Nat} (h : j < ns.length) : stF k (.int v) ρ (some (.int (j : Int))) (some (ns.map .int)) = some (.nx (ρ.set k (some (.lst ((ns.set j v).map .int))))) := by
  show (if D.frees (ns.map .int) then (ixN (ns.map D.int).length (j : Int)).map _ else none) = _
  rw [if_pos (frees_ints ns), List.length_map, ixN_nat h, List.map_set]; rfl
/-- xs[i] op= e -/
def agF (k : Nat) (f : D → D → Option D) (ρ : Env) : Option (List D) → Option D → Option D → Option Out
  | some xs, some i, some y => match i with
    | .int i => (ixN xs.length i).bind fun j => if D.frees xs then (xs[j]?).bind fun x => (f x y).bind fun z => if z.free then some (.nx (ρ.set k (some (.lst (xs.set j z))))) else none else none
    | _ => none
  | _, _, _ => none
theorem augIxS_ap (k f pi pe ρ) : augIxS k f pi pe ρ = agF k f ρ (lstAt ρ k) (pi ρ) (pe ρ) := by
  unfold augIxS agF
  cases lstAt ρ k with
  | none => rfl
  | some xs =>
    cases pi ρ with
    | none => rfl
    | some i =>
      cases i <;> cases pe ρ <;> try rfl
      rename_i i
      simp only [Option.bind_some]
      cases ixN xs.length i with
      | none => rfl
      | some j =>
        simp only [Option.bind_some]
        split
        · cases xs[j]? <;> rfl
        · rfl
theorem agF_int {k : Nat} {v : Int} {ρ : Env} {ns : List Int} {j : Nat} (h : j < ns.length) : agF k addI ρ (some (ns.map .int)) (some (.int (j : Int))) (some (.int v)) = some (.nx (ρ.set k (some (.lst ((ns.set j (ns[j] + v)).map .int))))) := by
  show (ixN (ns.map D.int).length (j : Int)).bind _ = _
  rw [List.length_map, ixN_nat h]
  show (if D.frees (ns.map .int) then ((ns.map D.int)[j]?).bind _ else none) = _
  rw [if_pos (frees_ints ns), List.getElem?_map, List.getElem?_eq_getElem h, List.map_set]; rfl
/-- slices -/
def cuO : Option D → Option (Option Int) → Option (Option Int) → Option D
  | some d, some lo, some hi => dCut d lo hi
  | _, _, _ => none
theorem pCut_ap (pa pl ph ρ) : pCut pa pl ph ρ = cuO (pa ρ) (pl ρ) (ph ρ) := by
  unfold pCut cuO; cases pa ρ with
  | none => rfl
  | some d => cases pl ρ with
    | none => rfl
    | some lo => cases ph ρ <;> rfl
theorem cuO_some (d lo hi) : cuO (some d) (some lo) (some hi) = dCut d lo hi := rfl
theorem pNo_ap (ρ) : pNo ρ = some none := rfl
def soO : Option D → Option (Option Int)
  | some (.int i) => some (some i)
  | _ => none
theorem pSo_ap (p ρ) : pSo p ρ = soO (p ρ) := by
  unfold pSo soO; cases p ρ with
  | none => rfl
  | some d => cases d <;> rfl
theorem soO_int (i) : soO (some (.int i)) = some (some i) := rfl
/-- comprehensions -/
def fcO : Option D → Option D
  | some d => if d.free then some d else none
  | none => none
theorem freeC_ap (p ρ) : freeC p ρ = fcO (p ρ) := by unfold freeC fcO; cases p ρ <;> rfl
theorem fcO_int (i) : fcO (some (.int i)) = some (.int i) := rfl
theorem fcO_str (i) : fcO (some (.str i)) = some (.str i) := rfl
theorem fcO_of {d} (h : D.free d = true) : fcO (some d) = some d := by show (if d.free then _ else _) = _; rw [if_pos h]
theorem yesC_ap (ρ) : yesC ρ = some true := rfl
theorem wipeE_nil (ρ) : wipeE ρ [] = ρ := rfl
theorem wipeE_cons (ρ v vs) : wipeE ρ (v :: vs) = (wipeE ρ vs).set v none := rfl
def cpL : Option (List D) → Option D
  | some xs => if xs.length ≤ 1000000 then some (.lst xs) else none
  | none => none
def cpO (g : D → Env → Option Env) (t : Env → Option Bool) (p : Env → Option D) (ρ : Env) : Option (List D) → Option D
  | some ds => cpL (compC g t p ρ ds)
  | none => none
theorem pComp_ap (vs pi g t p ρ) : pComp vs pi g t p ρ = cpO g t p (wipeE ρ vs) (pi ρ) := by
  unfold pComp cpO cpL; cases pi ρ with
  | none => rfl
  | some ds => simp only [Option.bind_some]; cases compC g t p (wipeE ρ vs) ds <;> rfl
theorem cpO_some (g t p ρ ds) : cpO g t p ρ (some ds) = cpL (compC g t p ρ ds) := rfl
theorem cpL_of {xs : List D} (h : xs.length ≤ 1000000) : cpL (some xs) = some (.lst xs) := if_pos h
theorem compC_gen {α : Type} {a : α → D} {c : α → Bool} {f : α → D} {g : D → Env → Option Env} {t : Env → Option Bool} {p : Env → Option D} {ρ : Env} : ∀ {ns : List α}, (∀ n, n ∈ ns → ∃ ρ1, g (a n) ρ = some ρ1 ∧ t ρ1 = some (c n) ∧ (c n = true → p ρ1 = some (f n))) → compC g t p ρ (ns.map a) = some ((ns.filter c).map f)
  | [], _ => rfl
  | n :: ns, h => by
    obtain ⟨ρ1, h1, h2, h3⟩ := h n List.mem_cons_self
    have ih := compC_gen (ns := ns) fun m hm => h m (List.mem_cons_of_mem _ hm)
    show (g (a n) ρ).bind _ = _
    rw [h1]
    show (t ρ1).bind _ = _
    rw [h2, ih]
    rw [List.filter_cons]
    cases hc : c n with
    | true => show (p ρ1).bind _ = _; rw [h3 hc]; rfl
    | false => rfl
theorem compC_map {α : Type} {a : α → D} (f : α → D) {g : D → Env → Option Env} {p : Env → Option D} {ρ : Env} {ns : List α} (h : ∀ n, n ∈ ns → ∃ ρ1, g (a n) ρ = some ρ1 ∧ p ρ1 = some (f n)) : compC g yesC p ρ (ns.map a) = some (ns.map f) := by
  have := compC_gen (a := a) (c := fun _ => true) (f := f) (g := g) (t := yesC) (p := p) (ρ := ρ) (ns := ns) fun n hn => by
    obtain ⟨ρ1, h1, h2⟩ := h n hn
    exact ⟨ρ1, h1, rfl, fun _ => h2⟩
  rw [this, List.filter_eq_self.mpr (by simp)]
theorem icB_sI (ns : List Int) : icBO (some (.shr (ns.map .int))) = some (ns.map .int) := icBO_shr (frees_ints ns)
theorem icB_tI (ns : List Int) : icBO (some (.tup (ns.map .int))) = some (ns.map .int) := icBO_tup (frees_ints ns)
theorem icB_lI (ns : List Int) : icBO (some (.lst (ns.map .int))) = some (ns.map .int) := icBO_lst (frees_ints ns)
theorem itE_sI (ns : List Int) (ρ) : itEO (some (.shr (ns.map .int), ρ)) = some (ns.map .int, ρ) := itEO_shr (frees_ints ns) ρ
theorem itE_tI (ns : List Int) (ρ) : itEO (some (.tup (ns.map .int), ρ)) = some (ns.map .int, ρ) := itEO_tup (frees_ints ns) ρ
theorem itE_lI (ns : List Int) (ρ) : itEO (some (.lst (ns.map .int), ρ)) = some (ns.map .int, ρ) := itEO_lst (frees_ints ns) ρ
/-- calls -/
def noM : List Tm → Bool
  | [] => true
  | .m _ :: _ => false
  | .v _ :: ts => noM ts
  | .s _ :: ts => noM ts
def noMS (i : Nat) : List Tm → Bool
  | [] => true
  | .m _ :: _ => false
  | .v _ :: ts => noMS i ts
  | .s j :: ts => !(j == i) && noMS i ts
theorem noM_m : ∀ {ts : List Tm}, noM ts = true → mSlots ts = []
  | [], _ => rfl
  | .v _ :: ts, h => noM_m (ts := ts) h
  | .s _ :: ts, h => noM_m (ts := ts) h
theorem noM_p : ∀ {ts : List Tm} (n : Nat), noM ts = true → mPos n ts = []
  | [], _, _ => rfl
  | .v _ :: ts, n, h => noM_p (ts := ts) (n + 1) h
  | .s _ :: ts, n, h => noM_p (ts := ts) (n + 1) h
theorem noMS_m {i : Nat} : ∀ {ts : List Tm}, noMS i ts = true → noM ts = true
  | [], _ => rfl
  | .v _ :: ts, h => noMS_m (ts := ts) h
  | .s j :: ts, h => noMS_m (ts := ts) ((Bool.and_eq_true _ _ ▸ h : _ ∧ _).2)
theorem noMS_s {i : Nat} : ∀ {ts : List Tm}, noMS i ts = true → ∀ j, j ∈ sSlots ts → j ≠ i
  | [], _, _, h => by cases h
  | .v _ :: ts, h, j, hj => noMS_s (ts := ts) h j hj
  | .s k :: ts, h, j, hj => by
    have h' := (Bool.and_eq_true _ _ ▸ h : (!(k == i)) = true ∧ noMS i ts = true)
    rcases List.mem_cons.mp hj with rfl | hj
    · have := h'.1; simpa using this
    · exact noMS_s (ts := ts) h'.2 j hj
theorem okT_no {ts} (h : noM ts = true) : okT [] ts = true := by
  unfold okT; rw [noM_p 0 h, noM_m h]; simp
theorem okT_m0 {i ts} (h : noMS i ts = true) : okT [0] (.m i :: ts) = true := by
  have h1 := noMS_m h
  unfold okT
  show (decide (0 :: mPos 1 ts = [0]) && decide (i :: mSlots ts).Nodup && (sSlots ts).all fun j => !(i :: mSlots ts).contains j) = true
  rw [noM_p 1 h1, noM_m h1]
  simp only [decide_true, List.nodup_cons, List.not_mem_nil, not_false_eq_true, List.nodup_nil, and_self, Bool.true_and, List.all_eq_true]
  intro j hj
  have := noMS_s h j hj
  simpa using this
theorem noM_nil : noM [] = true := rfl
theorem noM_v (d ts) : noM (.v d :: ts) = noM ts := rfl
theorem noM_s (d ts) : noM (.s d :: ts) = noM ts := rfl
theorem noMS_nil (i) : noMS i [] = true := rfl
theorem noMS_v (i d ts) : noMS i (.v d :: ts) = noMS i ts := rfl
theorem noMS_c (i d ts) : noMS i (.s d :: ts) = (!(d == i) && noMS i ts) := rfl
theorem callO_no (fm ts ρ) (h : noM ts = true) : callO fm [] (some (ts, ρ)) = callF fm [] ρ (argsD ρ ts) := by rw [callO_some, if_pos (okT_no h), noM_m h]
theorem callO_m0 (fm i ts ρ) (h : noMS i ts = true) : callO fm [0] (some (.m i :: ts, ρ)) = callF fm [i] ρ (argsD ρ (.m i :: ts)) := by
  rw [callO_some, if_pos (okT_m0 h)]
  show callF fm (i :: mSlots ts) ρ _ = _
  rw [noM_m (noMS_m h)]
theorem putM_nil (ρ) : putM [] [] ρ = some ρ := rfl
theorem putM_cons (i is d ds ρ) : putM (i :: is) (d :: ds) ρ = putM is ds (ρ.set i (some d)) := rfl
theorem dropM_nil (ρ) : dropM [] ρ = ρ := rfl
theorem dropM_cons (i is ρ) : dropM (i :: is) ρ = dropM is (ρ.set i none) := rfl
theorem shares_nil : D.shares [] = [] := rfl
theorem shares_cons (d ds) : D.shares (d :: ds) = d.share :: D.shares ds := by rw [D.shares]
theorem share_int (i) : (D.int i).share = .int i := by rw [D.share]; all_goals simp
theorem share_bl (i) : (D.bl i).share = .bl i := by rw [D.share]; all_goals simp
theorem share_str (i) : (D.str i).share = .str i := by rw [D.share]; all_goals simp
theorem share_non : (D.non).share = .non := by rw [D.share]; all_goals simp
theorem share_tup (xs) : (D.tup xs).share = .tup (D.shares xs) := by rw [D.share]
theorem share_lst (xs) : (D.lst xs).share = .shr (D.shares xs) := by rw [D.share]
theorem share_shr_ (xs) : (D.shr xs).share = .shr (D.shares xs) := by rw [D.share]
theorem mulOk_l {i j : Int} (h1 : -(2 ^ 64) < i) (h2 : i < 2 ^ 64) : MulOk i j := .inl (.inl ⟨h1, h2⟩)
theorem mulOk_r {i j : Int} (h1 : -(2 ^ 64) < j) (h2 : j < 2 ^ 64) : MulOk i j := .inl (.inr ⟨h1, h2⟩)
theorem divOk_s {j : Int} (h0 : 0 < j) (h : j < 2 ^ 64) : DivOk j := divOk_big h0 (b := 64) (by omega) (by decide)
theorem dPow_nat {i : Int} {k : Nat} (h : i.natAbs < 2 ^ 64) (h2 : k ≤ 1000000) : dPow (.int i) (.int k) = some (.int (i ^ k)) := by
  show (if 0 ≤ (k : Int) ∧ (k : Int) ≤ 1000000 ∧ i.natAbs < 2 ^ 64 then _ else none) = _
  rw [if_pos ⟨by omega, by omega, h⟩]; simp
/-- a loop that may end the def -/
theorem forM_find {g : D → Env → Option Env} {m : Env → Option Out} (I : Nat → Env → Prop) (R : D → Prop) {ds : List D} {ρ : Env} (h0 : I 0 ρ) (hs : ∀ i d ρ, ds[i]? = some d → I i ρ → ∃ ρ1, g d ρ = some ρ1 ∧ ((∃ ρ2, (m ρ1 = some (.nx ρ2) ∨ m ρ1 = some (.ct ρ2)) ∧ I (i + 1) ρ2) ∨ ∃ x ρ2, m ρ1 = some (.rt x ρ2) ∧ R x)) :
    (∃ ρ', forM g m ds ρ = some (.nx ρ') ∧ I ds.length ρ') ∨ ∃ x ρ', forM g m ds ρ = some (.rt x ρ') ∧ R x := by
  have go : ∀ (k : Nat) (ds' : List D) (i : Nat) (ρ : Env), ds' = ds.drop i → ds.length - i = k → i ≤ ds.length → I i ρ → (∃ ρ', forM g m ds' ρ = some (.nx ρ') ∧ I ds.length ρ') ∨ ∃ x ρ', forM g m ds' ρ = some (.rt x ρ') ∧ R x := by
    intro k
    induction k with
    | zero =>
      intro ds' i ρ e hk hi hI
      have : i = ds.length := by omega
      subst this
      rw [List.drop_length] at e
      subst e
      exact .inl ⟨ρ, rfl, hI⟩
    | succ k ih =>
      intro ds' i ρ e hk hi hI
      have hlt : i < ds.length := by omega
      rw [List.drop_eq_getElem_cons hlt] at e
      subst e
      obtain ⟨ρ1, h1, h2⟩ := hs i ds[i] ρ (List.getElem?_eq_getElem hlt) hI
      have e1 : forM g m (ds[i] :: ds.drop (i + 1)) ρ = (m ρ1).bind fun o => match o with
        | .nx ρ2 => forM g m (ds.drop (i + 1)) ρ2
        | .ct ρ2 => forM g m (ds.drop (i + 1)) ρ2
        | .bk ρ2 => some (.nx ρ2)
        | .rt x ρ2 => some (.rt x ρ2) := by show (g ds[i] ρ).bind _ = _; rw [h1]; rfl
      rcases h2 with ⟨ρ2, h2, h3⟩ | ⟨x, ρ2, h2, h3⟩
      · have := ih _ (i + 1) ρ2 rfl (by omega) hlt h3
        rcases h2 with h2 | h2 <;> rw [e1, h2] <;> exact this
      · exact .inr ⟨x, ρ2, by rw [e1, h2]; rfl, h3⟩
  exact go _ ds 0 ρ rfl rfl (Nat.zero_le _) h0
theorem forM_nil (g m ρ) : forM g m [] ρ = some (.nx ρ) := rfl
theorem forM_cons_nx {g m d ds ρ ρ1 ρ2} (h1 : g d ρ = some ρ1) (h2 : m ρ1 = some (.nx ρ2)) : forM g m (d :: ds) ρ = forM g m ds ρ2 := by
  show (g d ρ).bind _ = _; rw [h1]; show (m ρ1).bind _ = _; rw [h2]; rfl
theorem forM_cons_rt {g m d ds ρ ρ1 ρ2 x} (h1 : g d ρ = some ρ1) (h2 : m ρ1 = some (.rt x ρ2)) : forM g m (d :: ds) ρ = some (.rt x ρ2) := by
  show (g d ρ).bind _ = _; rw [h1]; show (m ρ1).bind _ = _; rw [h2]; rfl
theorem upto_get {n i : Nat} {d : D} (h : (upto n)[i]? = some d) : i < n ∧ d = .int (i : Nat) := by
  unfold upto at h
  rw [List.getElem?_map] at h
  obtain ⟨j, e1, rfl⟩ := Option.map_eq_some_iff.mp h
  obtain ⟨hlt, e2⟩ := List.getElem?_eq_some_iff.mp e1
  rw [List.getElem_range] at e2
  rw [List.length_range] at hlt
  subst e2
  exact ⟨hlt, rfl⟩
theorem upto_len (n) : (upto n).length = n := by unfold upto; simp
/-- range(a, b) of ints, 0 <= a -/
theorem rangeD_nat (a b : Nat) : rangeD (a : Int) (b : Int) = (List.range' a (b - a)).map fun i => .int (i : Nat) := by
  unfold rangeD
  rw [List.range'_eq_map_range, List.map_map]
  congr 1
  have : ((b : Int) - (a : Int)).toNat = b - a := by omega
  rw [this]
theorem pow15 : dPow (.int 10) (.int 15) = some (.int 1000000000000000) := (dPow_nat (i := 10) (k := 15) (by decide) (by decide)).trans rfl
theorem pow18 : dPow (.int 10) (.int 18) = some (.int 1000000000000000000) := (dPow_nat (i := 10) (k := 18) (by decide) (by decide)).trans rfl
theorem pow60 : dPow (.int 10) (.int 60) = some (.int 1000000000000000000000000000000000000000000000000000000000000) := (dPow_nat (i := 10) (k := 60) (by decide) (by decide)).trans rfl
theorem intIdx {i : Int} {n : Nat} (h0 : 0 ≤ i) (h1 : i < n) : ∃ j : Nat, i = (j : Int) ∧ j < n := ⟨i.toNat, by omega, by omega⟩
theorem dIx_sI {ns : List Int} {j : Nat} (h : j < ns.length) : dIx (.shr (ns.map .int)) (.int (j : Int)) = some (.int ns[j]) := by
  show itemD (ns.map .int) (j : Int) = _
  unfold itemD; rw [atI_int h]; rfl
theorem dIx_lI {ns : List Int} {j : Nat} (h : j < ns.length) : dIx (.lst (ns.map .int)) (.int (j : Int)) = some (.int ns[j]) := by
  show itemD (ns.map .int) (j : Int) = _
  unfold itemD; rw [atI_int h]; rfl
theorem dIx_tI {ns : List Int} {j : Nat} (h : j < ns.length) : dIx (.tup (ns.map .int)) (.int (j : Int)) = some (.int ns[j]) := by
  show itemD (ns.map .int) (j : Int) = _
  unfold itemD; rw [atI_int h]; rfl
/-- a middle state: what stands before the rest, told by an invariant -/
theorem seqO_step {X : Option Out} {N : Env → Option Out} (G : Option Out → Prop) (I : Env → Prop) (h1 : ∃ ρ, X = some (.nx ρ) ∧ I ρ) (h2 : ∀ ρ, I ρ → G (N ρ)) : G (seqO X N) := by
  obtain ⟨ρ, rfl, h⟩ := h1
  exact h2 ρ h
theorem dMul_rep {x : Int} {n : Nat} (h : n ≤ 1000000) : dMul (.lst [.int x]) (.int n) = some (.lst ((List.replicate n x).map .int)) := by
  unfold dMul
  simp only
  rw [if_pos ⟨by omega, by omega, by simp; omega, frees_ints [x]⟩]
  simp
/-- a loop that asks something of each number -/
theorem forM_allL {g : D → Env → Option Env} {m : Env → Option Out} (I : Env → Prop) (P : Nat → Bool) : ∀ (l : List Nat), (∀ i ρ, i ∈ l → I ρ → ∃ ρ1 ρ2, g (.int (i : Nat)) ρ = some ρ1 ∧ m ρ1 = some (if P i = true then .nx ρ2 else .rt (.bl false) ρ2) ∧ I ρ2) → ∀ ρ, I ρ → ∃ ρ', forM g m (l.map fun i => .int (i : Nat)) ρ = some (if l.all P = true then .nx ρ' else .rt (.bl false) ρ') ∧ I ρ'
  | [], _, ρ, h0 => ⟨ρ, rfl, h0⟩
  | i :: l, h, ρ, h0 => by
    obtain ⟨ρ1, ρ2, h1, h2, h3⟩ := h i ρ List.mem_cons_self h0
    rw [List.map_cons, List.all_cons]
    cases hp : P i with
    | true =>
      obtain ⟨ρ', h4, h5⟩ := forM_allL I P l (fun j ρ hj => h j ρ (List.mem_cons_of_mem _ hj)) ρ2 h3
      rw [hp] at h2
      exact ⟨ρ', (forM_cons_nx h1 h2).trans h4, h5⟩
    | false =>
      rw [hp] at h2
      exact ⟨ρ2, forM_cons_rt h1 h2, h3⟩
theorem forM_all {g : D → Env → Option Env} {m : Env → Option Out} (I : Env → Prop) (P : Nat → Bool) {n : Nat} {ρ : Env} (h0 : I ρ) (h : ∀ i ρ, i < n → I ρ → ∃ ρ1 ρ2, g (.int (i : Nat)) ρ = some ρ1 ∧ m ρ1 = some (if P i = true then .nx ρ2 else .rt (.bl false) ρ2) ∧ I ρ2) : ∃ ρ', forM g m (upto n) ρ = some (if (List.range n).all P = true then .nx ρ' else .rt (.bl false) ρ') ∧ I ρ' :=
  forM_allL I P (List.range n) (fun i ρ hi => h i ρ (List.mem_range.mp hi)) ρ h0
/-- < <= -/
def chO (f f' : D → D → Option D) (pc : Env → Option D) (ρ : Env) : Option D → Option D → Option D
  | some x, some y => (f x y).bind fun z => match z with
    | .bl true => (pc ρ).bind fun w => f' y w
    | .bl false => some (.bl false)
    | _ => none
  | _, _ => none
theorem pChain_ap (f f' pa pb pc ρ) : pChain f f' pa pb pc ρ = chO f f' pc ρ (pa ρ) (pb ρ) := by
  unfold pChain chO; cases pa ρ with
  | none => rfl
  | some x => cases pb ρ <;> rfl
def chB (f' : D → D → Option D) (y : D) (pc : Env → Option D) (ρ : Env) : Option D → Option D
  | some (.bl b) => if b = true then b2 f' (some y) (pc ρ) else some (.bl false)
  | _ => none
theorem chO_some (f f' pc ρ x y) : chO f f' pc ρ (some x) (some y) = chB f' y pc ρ (f x y) := by
  show (f x y).bind _ = chB f' y pc ρ (f x y)
  generalize f x y = o
  cases o with
  | none => rfl
  | some z => cases z with
    | bl b => cases b with
      | false => rfl
      | true => show (pc ρ).bind _ = b2 f' (some y) (pc ρ); cases pc ρ <;> rfl
    | _ => rfl
theorem chB_bl (f' y pc ρ b) : chB f' y pc ρ (some (.bl b)) = if b = true then b2 f' (some y) (pc ρ) else some (.bl false) := rfl
/-- comprehensions whose parts change things -/
def ceO (vs : List Nat) (g : D → Env → Option Env) (t : Env → Option (Bool × Env)) (m : Env → Option (D × Env)) : Option (List D × Env) → Option (D × Env)
  | some (ds, ρ) => (compM g t m vs ds (wipeE ρ vs) []).map fun y => (.lst y.1, restE ρ vs y.2)
  | none => none
theorem compE_ap (vs mi g t m ρ) : compE vs mi g t m ρ = ceO vs g t m (mi ρ) := by unfold compE ceO; cases mi ρ <;> rfl
theorem ceO_some (vs g t m ds ρ) : ceO vs g t m (some (ds, ρ)) = (compM g t m vs ds (wipeE ρ vs) []).map fun y => (.lst y.1, restE ρ vs y.2) := rfl
theorem compM_gen {g : D → Env → Option Env} {m : Env → Option (D × Env)} {vs : List Nat} (I : Env → Prop) (P : D → Prop) : ∀ (ds : List D) (ρ : Env) (acc : List D), (∀ d ρ, d ∈ ds → I ρ → ∃ ρ1 x ρ2, g d (wipeE ρ vs) = some ρ1 ∧ m ρ1 = some (x, ρ2) ∧ P x ∧ I (wipeE ρ2 vs)) → I ρ → acc.length + ds.length ≤ 1000000 → ∃ out ρ', compM g yesE m vs ds ρ acc = some (acc ++ out, ρ') ∧ I ρ' ∧ out.length = ds.length ∧ ∀ d, d ∈ out → P d
  | [], ρ, acc, _, h0, _ => ⟨[], ρ, by rw [List.append_nil]; rfl, h0, rfl, fun d h => by cases h⟩
  | d :: ds, ρ, acc, h, h0, hl => by
    obtain ⟨ρ1, x, ρ2, h1, h2, h3, h4⟩ := h d ρ List.mem_cons_self h0
    rw [List.length_cons] at hl
    obtain ⟨out, ρ', h5, h6, h7, h8⟩ := compM_gen (m := m) I P ds (wipeE ρ2 vs) (acc ++ [x]) (fun e ρ he => h e ρ (List.mem_cons_of_mem _ he)) h4 (by simp; omega)
    refine ⟨x :: out, ρ', ?_, h6, by simp [h7], fun e he => ?_⟩
    · show (g d (wipeE ρ vs)).bind _ = _
      rw [h1]
      show (m ρ1).bind _ = _
      rw [h2]
      show (if acc.length < 1000000 then compM g yesE m vs ds (wipeE ρ2 vs) (acc ++ [x]) else none) = _
      rw [if_pos (by omega), h5, List.append_assoc]; rfl
    · rcases List.mem_cons.mp he with rfl | he
      · exact h3
      · exact h8 e he
theorem restE_nil (ρ0 ρ) : restE ρ0 [] ρ = ρ := rfl
theorem restE_none {ρ0 v vs ρ} (h : lk ρ0 v = none) : restE ρ0 (v :: vs) ρ = restE ρ0 vs ρ := by rw [restE, h]
def rsO (o : Option D) (v : Nat) (ρ : Env) : Env := match o with
  | some d => if d.free then ρ.set v (some d) else ρ
  | none => ρ
theorem restE_cons (ρ0 v vs ρ) : restE ρ0 (v :: vs) ρ = rsO (lk ρ0 v) v (restE ρ0 vs ρ) := by rw [restE]; unfold rsO; cases lk ρ0 v <;> rfl
theorem rsO_none (v ρ) : rsO none v ρ = ρ := rfl
theorem rsO_int (i v ρ) : rsO (some (.int i)) v ρ = ρ.set v (some (.int i)) := rfl
/-- for over a list of one's own, and over one that is used up -/
def flO (k : Nat) (g : D → Env → Option Env) (m : Env → Option Out) (ρ : Env) : Option D → Option Out
  | some d => (seqD d).bind fun ds => if D.frees ds then (forM g m ds (ρ.set k none)).map (backO k d) else none
  | none => none
theorem forL_ap (k g m ρ) : forL k g m ρ = flO k g m ρ (lk ρ k) := by unfold forL flO; cases lk ρ k <;> rfl
theorem flO_lst {k g m ρ ds} (h : D.frees ds = true) : flO k g m ρ (some (.lst ds)) = (forM g m ds (ρ.set k none)).map (backO k (.lst ds)) := by
  show (if D.frees ds then _ else none) = _; rw [if_pos h]
theorem flO_int {k g m ρ} {ns : List Int} : flO k g m ρ (some (.lst (ns.map .int))) = (forM g m (ns.map .int) (ρ.set k none)).map (backO k (.lst (ns.map .int))) := flO_lst (frees_ints ns)
theorem backO_nx (k d ρ) : backO k d (.nx ρ) = .nx (ρ.set k (some d)) := rfl
theorem backO_rt (k d x ρ) : backO k d (.rt x ρ) = .rt x ρ := rfl
def fcS (g : D → Env → Option Env) (m : Env → Option Out) : Option (D × Env) → Option Out
  | some (.lst ds, ρ) => forM g m ds ρ
  | _ => none
theorem forC_ap (g m me ρ) : forC g m me ρ = fcS g m (me ρ) := by
  unfold forC fcS; cases me ρ with
  | none => rfl
  | some x => obtain ⟨d, ρ'⟩ := x; cases d <;> rfl
theorem fcS_lst (g m ds ρ) : fcS g m (some (.lst ds, ρ)) = forM g m ds ρ := rfl
end FL

end

section
set_option Elab.async false
set_option linter.all false
set_option maxRecDepth 100000
set_option maxHeartbeats 4000000
namespace FL
open PySem L2
theorem scs_ints (ns : List Int) : scs (ns.map .int) = true := by
  unfold scs
  rw [List.all_map]
  exact List.all_eq_true.mpr fun _ _ => rfl
theorem eqS_ints (i j : Int) : eqS (.int i) (.int j) = (i == j) := rfl
theorem any_ints (x : Int) : ∀ ns : List Int, ((ns.map D.int).any fun d => eqS d (.int x)) = decide (x ∈ ns)
  | [] => rfl
  | n :: ns => by
    rw [List.map_cons, List.any_cons, any_ints x ns, eqS_ints]
    by_cases h : n = x
    · subst h; simp
    · have : (n == x) = false := by simpa using h
      rw [this]; simp [Ne.symm h]
theorem in_ints {x : Int} {ns : List Int} {d : D} (h : seqD d = some (ns.map .int)) : dIn (.int x) d = some (.bl (decide (x ∈ ns))) := by
  unfold dIn
  rw [h]
  show (if (scs (ns.map .int) && true) = true then some (D.bl ((ns.map D.int).any fun d => eqS d (.int x))) else none) = _
  rw [scs_ints, any_ints]; rfl
theorem nin_ints {x : Int} {ns : List Int} {d : D} (h : seqD d = some (ns.map .int)) : dNin (.int x) d = some (.bl (!decide (x ∈ ns))) := by
  unfold dNin
  rw [h]
  show (if (scs (ns.map .int) && true) = true then some (D.bl (!(ns.map D.int).any fun d => eqS d (.int x))) else none) = _
  rw [scs_ints, any_ints]; rfl
theorem dIn_lI (x : Int) (ns : List Int) : dIn (.int x) (.lst (ns.map .int)) = some (.bl (decide (x ∈ ns))) := in_ints rfl
theorem dIn_tI (x : Int) (ns : List Int) : dIn (.int x) (.tup (ns.map .int)) = some (.bl (decide (x ∈ ns))) := in_ints rfl
theorem dIn_sI (x : Int) (ns : List Int) : dIn (.int x) (.shr (ns.map .int)) = some (.bl (decide (x ∈ ns))) := in_ints rfl
theorem dIn_fI (x : Int) (ns : List Int) : dIn (.int x) (.frz (ns.map .int)) = some (.bl (decide (x ∈ ns))) := in_ints rfl
theorem dNin_lI (x : Int) (ns : List Int) : dNin (.int x) (.lst (ns.map .int)) = some (.bl (!decide (x ∈ ns))) := nin_ints rfl
theorem dNin_tI (x : Int) (ns : List Int) : dNin (.int x) (.tup (ns.map .int)) = some (.bl (!decide (x ∈ ns))) := nin_ints rfl
theorem dNin_sI (x : Int) (ns : List Int) : dNin (.int x) (.shr (ns.map .int)) = some (.bl (!decide (x ∈ ns))) := nin_ints rfl
theorem dNin_fI (x : Int) (ns : List Int) : dNin (.int x) (.frz (ns.map .int)) = some (.bl (!decide (x ∈ ns))) := nin_ints rfl
theorem idx_ints (x : Int) : ∀ ns : List Int, ((ns.map D.int).findIdx? fun d => eqS d (.int x)) = ns.findIdx? (· == x)
  | [] => rfl
  | n :: ns => by rw [List.map_cons, List.findIdx?_cons, List.findIdx?_cons, idx_ints x ns, eqS_ints]
theorem index_ints {x : Int} {ns : List Int} {d : D} {j : Nat} (h : seqD d = some (ns.map .int)) (hj : ns.findIdx? (· == x) = some j) : dIndex d (.int x) = some (.int j) := by
  unfold dIndex
  rw [h]
  show (if (scs (ns.map .int) && true) = true then ((ns.map D.int).findIdx? fun d => eqS d (.int x)).map fun j => D.int (j : Nat) else none) = _
  rw [scs_ints, idx_ints, hj]; rfl
theorem cnt_ints (x : Int) : ∀ ns : List Int, ((ns.map D.int).countP fun d => eqS d (.int x)) = ns.count x
  | [] => rfl
  | n :: ns => by rw [List.map_cons, List.countP_cons, cnt_ints x ns, eqS_ints, List.count_cons]
theorem count_ints {x : Int} {ns : List Int} {d : D} (h : seqD d = some (ns.map .int)) : dCount d (.int x) = some (.int (ns.count x : Nat)) := by
  unfold dCount
  rw [h]
  show (if (scs (ns.map .int) && true) = true then some (D.int (((ns.map D.int).countP fun d => eqS d (.int x)) : Nat)) else none) = _
  rw [scs_ints, cnt_ints]; rfl
theorem rangeD_upto (n : Nat) : rangeD 0 (n : Int) = upto n := by unfold rangeD upto; simp
theorem rgD_nat {c : List D → D} {n : Nat} (h : n ≤ 2 ^ 24) : rgD c [.int (n : Nat)] = some (c (upto n)) := by
  have h1 : okRg 0 (n : Int) = true := by
    unfold okRg
    refine decide_eq_true ⟨by omega, by omega, by omega, by omega, by omega⟩
  have e : rgD c [.int (n : Nat)] = some (c (rangeD 0 (n : Int))) := by simp only [rgD, h1, ↓reduceIte]
  exact e.trans (congrArg (fun x => some (c x)) (rangeD_upto n))
/-- a list as the numbers below n -/
theorem upto_ints (n : Nat) : upto n = ((List.range n).map fun i : Nat => (i : Int)).map D.int := by unfold upto; rw [List.map_map]; rfl
/-- forF by an invariant that keeps the list frozen -/
theorem forF_inv {k : Nat} {g : D → Env → Option Env} {m : Env → Option Out} {all : List D} (I : Nat → Env → Prop) {ρ : Env} (hk : lk ρ k = some (.lst all)) (f : D.frees all = true) (h0 : I 0 (ρ.set k (some (.frz all)))) (hz : ∀ i ρ, I i ρ → lk ρ k = some (.frz all))
    (hs : ∀ i d ρ, all[i]? = some d → I i ρ → ∃ ρ1 ρ2, g d ρ = some ρ1 ∧ (m ρ1 = some (.nx ρ2) ∨ m ρ1 = some (.ct ρ2)) ∧ I (i + 1) ρ2) : ∃ ρ', forF k g m ρ = some (.nx (ρ'.set k (some (.lst all)))) ∧ I all.length ρ' := by
  have go : ∀ (n : Nat) (ds' : List D) (i : Nat) (ρ : Env), ds' = all.drop i → all.length - i = n → i ≤ all.length → I i ρ → ∃ ρ', forFM k all g m ds' ρ = some (.nx (ρ'.set k (some (.lst all)))) ∧ I all.length ρ' := by
    intro n
    induction n with
    | zero =>
      intro ds' i ρ e hn hi hI
      have : i = all.length := by omega
      subst this
      rw [List.drop_length] at e
      subst e
      exact ⟨ρ, by simp only [forFM, thaw]; rw [if_pos (hz _ _ hI)], hI⟩
    | succ n ih =>
      intro ds' i ρ e hn hi hI
      have hlt : i < all.length := by omega
      rw [List.drop_eq_getElem_cons hlt] at e
      subst e
      obtain ⟨ρ1, ρ2, h1, h2, h3⟩ := hs i all[i] ρ (List.getElem?_eq_getElem hlt) hI
      obtain ⟨ρ', h4, h5⟩ := ih _ (i + 1) ρ2 rfl (by omega) hlt h3
      refine ⟨ρ', ?_, h5⟩
      rw [forFM, if_pos (hz _ _ hI), h1]
      show (m ρ1).bind _ = _
      rcases h2 with h2 | h2 <;> rw [h2] <;> exact h4
  obtain ⟨ρ', h1, h2⟩ := go _ all 0 _ rfl rfl (Nat.zero_le _) h0
  refine ⟨ρ', ?_, h2⟩
  unfold forF lstAt
  rw [hk]
  show (if D.frees all = true then forFM k all g m all (ρ.set k (some (.frz all))) else none) = _
  rw [if_pos f, h1]
end FL

end

section
set_option Elab.async false
set_option linter.all false
set_option maxRecDepth 100000
set_option maxHeartbeats 4000000
namespace FL
open PySem L2
/-! ### loops that may end early -/
theorem forM_first {α : Type} {a : α → D} {g : D → Env → Option Env} {m : Env → Option Out} (I : Env → Prop) (P : α → Bool) (r : α → D) : ∀ (xs : List α) (ρ : Env), (∀ x ρ, x ∈ xs → I ρ → ∃ ρ1 ρ2, g (a x) ρ = some ρ1 ∧ m ρ1 = some (if P x = true then .rt (r x) ρ2 else .nx ρ2) ∧ (P x = false → I ρ2)) → I ρ →
    ∃ ρ', forM g m (xs.map a) ρ = some (match xs.find? P with | some x => .rt (r x) ρ' | none => .nx ρ') ∧ (xs.find? P = none → I ρ')
  | [], ρ, _, h0 => ⟨ρ, rfl, fun _ => h0⟩
  | x :: xs, ρ, h, h0 => by
    obtain ⟨ρ1, ρ2, h1, h2, h3⟩ := h x ρ List.mem_cons_self h0
    rw [List.map_cons, List.find?_cons]
    cases e : P x with
    | true =>
      rw [e] at h2
      exact ⟨ρ2, forM_cons_rt h1 h2, fun z => by cases z⟩
    | false =>
      rw [e] at h2
      obtain ⟨ρ', h4, h5⟩ := forM_first I P r xs ρ2 (fun y ρ hy => h y ρ (List.mem_cons_of_mem _ hy)) (h3 e)
      exact ⟨ρ', (forM_cons_nx h1 h2).trans h4, h5⟩
theorem forM_ufind {g : D → Env → Option Env} {m : Env → Option Out} (I : Nat → Env → Prop) (P : Nat → Bool) (r : Nat → D) {n : Nat} {ρ : Env} (h0 : I 0 ρ) (hs : ∀ i ρ, i < n → (∀ j, j < i → P j = false) → I i ρ → ∃ ρ1 ρ2, g (.int (i : Nat)) ρ = some ρ1 ∧ m ρ1 = some (if P i = true then .rt (r i) ρ2 else .nx ρ2) ∧ (P i = false → I (i + 1) ρ2)) :
    ∃ ρ', forM g m (upto n) ρ = some (match (List.range n).find? P with | some i => .rt (r i) ρ' | none => .nx ρ') ∧ ((List.range n).find? P = none → I n ρ') := by
  have go : ∀ k i ρ, i + k = n → (∀ j, j < i → P j = false) → I i ρ → ∃ ρ', forM g m ((List.range' i k).map fun j => D.int (j : Nat)) ρ = some (match (List.range' i k).find? P with | some i => .rt (r i) ρ' | none => .nx ρ') ∧ ((List.range' i k).find? P = none → I n ρ') := by
    intro k
    induction k with
    | zero => intro i ρ e _ h; exact ⟨ρ, rfl, fun _ => by rw [show n = i by omega]; exact h⟩
    | succ k ih =>
      intro i ρ e hP hI
      obtain ⟨ρ1, ρ2, h1, h2, h3⟩ := hs i ρ (by omega) hP hI
      rw [List.range'_succ, List.map_cons, List.find?_cons]
      cases e2 : P i with
      | true =>
        rw [e2] at h2
        exact ⟨ρ2, forM_cons_rt h1 h2, fun z => by cases z⟩
      | false =>
        rw [e2] at h2
        obtain ⟨ρ', h4, h5⟩ := ih (i + 1) ρ2 (by omega) (fun j hj => by
          by_cases hji : j = i
          · rw [hji]; exact e2
          · exact hP j (by omega)) (h3 e2)
        exact ⟨ρ', (forM_cons_nx h1 h2).trans h4, h5⟩
  have := go n 0 ρ (by omega) (fun j hj => by omega) h0
  unfold upto
  rw [List.range_eq_range']
  exact this
/-- a loop as a fold -/
theorem forM_fold {α σ : Type} {a : α → D} {g : D → Env → Option Env} {m : Env → Option Out} (I : σ → Env → Prop) (f : σ → α → σ) : ∀ (xs : List α) (s : σ) (ρ : Env), (∀ x s ρ, x ∈ xs → I s ρ → ∃ ρ1 ρ2, g (a x) ρ = some ρ1 ∧ (m ρ1 = some (.nx ρ2) ∨ m ρ1 = some (.ct ρ2)) ∧ I (f s x) ρ2) → I s ρ → ∃ ρ', forM g m (xs.map a) ρ = some (.nx ρ') ∧ I (xs.foldl f s) ρ'
  | [], s, ρ, _, h0 => ⟨ρ, rfl, h0⟩
  | x :: xs, s, ρ, h, h0 => by
    obtain ⟨ρ1, ρ2, h1, h2, h3⟩ := h x s ρ List.mem_cons_self h0
    obtain ⟨ρ', h4, h5⟩ := forM_fold I f xs (f s x) ρ2 (fun y s ρ hy => h y s ρ (List.mem_cons_of_mem _ hy)) h3
    refine ⟨ρ', ?_, h5⟩
    rw [List.map_cons]
    rcases h2 with h2 | h2
    · exact (forM_cons_nx h1 h2).trans h4
    · show (g (a x) ρ).bind _ = _
      rw [h1]
      show (m ρ1).bind _ = _
      rw [h2]; exact h4
/-! ### data without lists -/
mutual
def D.pure : D → Bool
  | .tup ds => D.pures ds
  | .lst _ => false
  | .frz _ => false
  | .shr _ => false
  | _ => true
def D.pures : List D → Bool
  | [] => true
  | d :: ds => d.pure && D.pures ds
end
theorem D.pures_all : ∀ {ds : List D}, D.pures ds = true ↔ ∀ d, d ∈ ds → d.pure = true
  | [] => by simp [D.pures]
  | d :: ds => by rw [D.pures, Bool.and_eq_true, D.pures_all]; simp
mutual
theorem D.pure_free : ∀ {d : D}, d.pure = true → d.free = true
  | .tup ds, h => by rw [D.pure] at h; rw [D.free]; exact D.pures_frees h
  | .lst ds, h => by rw [D.pure] at h; cases h
  | .frz ds, h => by rw [D.pure] at h; cases h
  | .shr ds, h => by rw [D.pure] at h; cases h
  | .non, _ => rfl
  | .bl _, _ => rfl
  | .int _, _ => rfl
  | .str _, _ => rfl
theorem D.pures_frees : ∀ {ds : List D}, D.pures ds = true → D.frees ds = true
  | [], _ => rfl
  | d :: ds, h => by
    rw [D.pures, Bool.and_eq_true] at h
    rw [D.frees, D.pure_free h.1, D.pures_frees h.2]; rfl
end
mutual
theorem D.pure_own : ∀ {d : D}, d.pure = true → d.own = true
  | .tup ds, h => by rw [D.pure] at h; rw [D.own]; exact D.pures_owns h
  | .lst ds, h => by rw [D.pure] at h; cases h
  | .frz ds, h => by rw [D.pure] at h; cases h
  | .shr ds, h => by rw [D.pure] at h; cases h
  | .non, _ => rfl
  | .bl _, _ => rfl
  | .int _, _ => rfl
  | .str _, _ => rfl
theorem D.pures_owns : ∀ {ds : List D}, D.pures ds = true → D.owns ds = true
  | [], _ => rfl
  | d :: ds, h => by
    rw [D.pures, Bool.and_eq_true] at h
    rw [D.owns, D.pure_own h.1, D.pures_owns h.2]; rfl
end
mutual
theorem D.pure_share : ∀ {d : D}, d.pure = true → d.share = d
  | .tup ds, h => by rw [D.pure] at h; rw [share_tup, D.pures_shares h]
  | .lst ds, h => by rw [D.pure] at h; cases h
  | .frz ds, h => by rw [D.pure] at h; cases h
  | .shr ds, h => by rw [D.pure] at h; cases h
  | .non, _ => share_non
  | .bl _, _ => share_bl _
  | .int _, _ => share_int _
  | .str _, _ => share_str _
theorem D.pures_shares : ∀ {ds : List D}, D.pures ds = true → D.shares ds = ds
  | [], _ => rfl
  | d :: ds, h => by
    rw [D.pures, Bool.and_eq_true] at h
    rw [shares_cons, D.pure_share h.1, D.pures_shares h.2]
end
theorem pures_map {α : Type} {f : α → D} (h : ∀ x, (f x).pure = true) (xs : List α) : D.pures (xs.map f) = true := by
  rw [D.pures_all]; intro d hd; obtain ⟨x, _, rfl⟩ := List.mem_map.mp hd; exact h x
theorem pure_tup {α : Type} {f : α → D} (h : ∀ x, (f x).pure = true) (xs : List α) : (D.tup (xs.map f)).pure = true := by rw [D.pure]; exact pures_map h xs
abbrev eI (ns : List Int) : D := .tup (ns.map .int)
abbrev eW (W : List (List Int)) : D := .tup (W.map fun ns => .tup (ns.map .int))
theorem pure_int (i : Int) : (D.int i).pure = true := rfl
theorem pure_eI (ns : List Int) : (D.tup (ns.map .int)).pure = true := pure_tup pure_int ns
theorem pure_eW (W : List (List Int)) : (D.tup (W.map fun ns => .tup (ns.map .int))).pure = true := pure_tup pure_eI W
theorem pures_eI (W : List (List Int)) : D.pures (W.map fun ns => .tup (ns.map .int)) = true := pures_map pure_eI W
theorem pures_ints (W : List Int) : D.pures (W.map .int) = true := pures_map pure_int W
/-! of pure data, for the walks -/
theorem dTuple_lP {xs : List D} (h : D.pures xs = true) : dTuple [.lst xs] = some (.tup xs) := by show (if D.frees xs then _ else _) = _; rw [if_pos (D.pures_frees h)]
theorem dList_tP {xs : List D} (h : D.pures xs = true) : dList [.tup xs] = some (.lst xs) := by show (if D.frees xs then _ else _) = _; rw [if_pos (D.pures_frees h)]
theorem dList_lP {xs : List D} (h : D.pures xs = true) : dList [.lst xs] = some (.lst xs) := by show (if D.frees xs then _ else _) = _; rw [if_pos (D.pures_frees h)]
theorem lC_P {d : D} (h : d.pure = true) (ρ) : lC (some d) ρ = some (d, ρ) := lC_free (D.pure_free h) ρ
theorem fcO_P {d : D} (h : d.pure = true) : fcO (some d) = some d := fcO_of (D.pure_free h)
theorem itEO_tP {xs : List D} (h : D.pures xs = true) (ρ) : itEO (some (.tup xs, ρ)) = some (xs, ρ) := itEO_tup (D.pures_frees h) ρ
theorem itEO_lP {xs : List D} (h : D.pures xs = true) (ρ) : itEO (some (.lst xs, ρ)) = some (xs, ρ) := itEO_lst (D.pures_frees h) ρ
theorem icBO_tP {xs : List D} (h : D.pures xs = true) : icBO (some (.tup xs)) = some xs := icBO_tup (D.pures_frees h)
theorem icBO_lP {xs : List D} (h : D.pures xs = true) : icBO (some (.lst xs)) = some xs := icBO_lst (D.pures_frees h)
theorem finM_P {d : D} (h : d.pure = true) (ρ) : finM [] d ρ = some (d, []) := finM_nil (D.pure_own h)
theorem lC_tI (ns : List Int) (ρ) : lC (some (.tup (ns.map .int))) ρ = some (.tup (ns.map .int), ρ) := lC_P (pure_eI ns) ρ
theorem lC_sI (ns : List Int) (ρ) : lC (some (.shr (ns.map .int))) ρ = some (.shr (ns.map .int), ρ) := lC_free (by rw [D.free]; exact frees_ints ns) ρ
theorem lC_sP {xs : List D} (h : D.pures xs = true) (ρ) : lC (some (.shr xs)) ρ = some (.shr xs, ρ) := lC_free (by rw [D.free]; exact D.pures_frees h) ρ
theorem itEO_sP {xs : List D} (h : D.pures xs = true) (ρ) : itEO (some (.shr xs, ρ)) = some (xs, ρ) := itEO_shr (D.pures_frees h) ρ
theorem dLen_frz (xs) : dLen [.frz xs] = some (.int xs.length) := rfl
theorem lpos {α : Type} {xs : List α} (h : xs ≠ []) : 0 < xs.length := List.length_pos_iff.mpr h
theorem fcO_tI (ns : List Int) : fcO (some (.tup (ns.map .int))) = some (.tup (ns.map .int)) := fcO_P (pure_eI ns)
theorem shares_eI (W : List (List Int)) : D.shares (W.map fun ns => .tup (ns.map .int)) = W.map fun ns => .tup (ns.map .int) := D.pures_shares (pures_eI W)
/-- atI -/
theorem atI_in {α : Type} (f : α → D) {xs : List α} {j : Nat} (h : j < xs.length) : atI (xs.map f) (j : Int) = some (f xs[j]) := by
  rw [atI_nat', List.getElem?_map, List.getElem?_eq_getElem h]; rfl
theorem atI_last {α : Type} (f : α → D) (xs : List α) (x : α) : atI ((xs ++ [x]).map f) (-1) = some (f x) := by
  rw [List.map_append, List.map_cons, List.map_nil]
  unfold atI
  have h1 : ((1 : Int) ≤ (xs.length : Int) + 1) := by omega
  have h2 : ((-1 : Int) + ((xs.length : Int) + 1)).toNat = xs.length := by omega
  simp [ixN, h1, h2]
/-- insert -/
def insI (xs : List Int) (p : Nat) (v : Int) : List Int := xs.take p ++ [v] ++ xs.drop p
theorem lInsert_ints {xs : List Int} {p : Int} {v : Int} (h0 : 0 ≤ p) (h1 : p < 1000000) (hl : xs.length < 1000000) : lInsert (xs.map .int) [.int p, .int v] = some (.non, (insI xs p.toNat v).map .int) := by
  unfold lInsert
  have e : (D.frees (xs.map .int) && (D.int v).free && decide (0 ≤ p) && decide (p < 1000000) && decide ((xs.map D.int).length < 1000000)) = true := by
    rw [frees_ints, decide_eq_true h0, decide_eq_true h1, decide_eq_true (by simpa using hl)]; rfl
  simp only [e, if_true]
  unfold insI
  rw [List.map_append, List.map_append, List.map_take, List.map_drop]; rfl
theorem insI_perm (xs : List Int) (p : Nat) (v : Int) : (insI xs p v).Perm (v :: xs) := by
  unfold insI
  rw [List.append_assoc]
  refine List.perm_append_comm.trans ?_
  rw [List.append_assoc, List.singleton_append]
  refine List.Perm.cons v ?_
  refine List.perm_append_comm.trans ?_
  rw [List.take_append_drop]
/-- numbers below n -/
def ru (n : Nat) : List Int := (List.range n).map fun i : Nat => (i : Int)
theorem ru_mem {n : Nat} {x : Int} : x ∈ ru n ↔ 0 ≤ x ∧ x < n := by
  unfold ru
  rw [List.mem_map]
  constructor
  · rintro ⟨i, hi, rfl⟩
    have := List.mem_range.mp hi
    omega
  · rintro ⟨h0, h1⟩
    exact ⟨x.toNat, List.mem_range.mpr (by omega), by omega⟩
theorem ru_len (n : Nat) : (ru n).length = n := by unfold ru; simp
theorem ru_nodup (n : Nat) : (ru n).Nodup := by
  unfold ru
  rw [List.Nodup, List.pairwise_map]
  exact (List.pairwise_lt_range).imp fun h e => by omega
theorem upto_ru (n : Nat) : upto n = (ru n).map .int := upto_ints n
theorem ru_get {n i : Nat} (h : i < n) : (ru n)[i]'(by rw [ru_len]; exact h) = (i : Int) := by simp [ru]
theorem ru_succ (n : Nat) : ru (n + 1) = ru n ++ [(n : Int)] := by unfold ru; rw [List.range_succ, List.map_append]; rfl
/-- a table of n numbers, changed at one place -/
theorem tab_set {n : Nat} (g : Int → Int) {i : Nat} (hi : i < n) (v : Int) : ((ru n).map g).set i v = (ru n).map fun q => if q = (i : Int) then v else g q := by
  apply List.ext_getElem
  · simp
  · intro j h1 h2
    have hj : j < n := by simpa [ru_len] using h2
    rw [List.getElem_set, List.getElem_map, List.getElem_map, ru_get hj]
    by_cases e : i = j
    · subst e; rw [if_pos rfl, if_pos rfl]
    · rw [if_neg e, if_neg (by omega)]
theorem tab_congr {n : Nat} {g h : Int → Int} (e : ∀ q : Int, 0 ≤ q → q < n → g q = h q) : (ru n).map g = (ru n).map h :=
  List.map_congr_left fun q hq => e q (ru_mem.mp hq).1 (ru_mem.mp hq).2
theorem tab_len (n : Nat) (g : Int → Int) : ((ru n).map g).length = n := by rw [List.length_map, ru_len]
theorem tab_id (n : Nat) : (ru n).map (fun q => q) = ru n := List.map_id _
theorem rgD_ru {c : List D → D} {n : Nat} (h : n ≤ 2 ^ 24) : rgD c [.int (n : Nat)] = some (c ((ru n).map .int)) := by rw [rgD_nat h, upto_ru]
/-- the frozen list's loop, over typed data, as a fold -/
theorem forF_fold {α σ : Type} {a : α → D} {k : Nat} {g : D → Env → Option Env} {m : Env → Option Out} (xs : List α) (I : σ → Env → Prop) (f : σ → α → σ) {s : σ} {ρ : Env} (hk : lk ρ k = some (.lst (xs.map a))) (fr : D.frees (xs.map a) = true) (h0 : I s (ρ.set k (some (.frz (xs.map a))))) (hz : ∀ s ρ, I s ρ → lk ρ k = some (.frz (xs.map a)))
    (hs : ∀ x s ρ, x ∈ xs → I s ρ → ∃ ρ1 ρ2, g (a x) ρ = some ρ1 ∧ (m ρ1 = some (.nx ρ2) ∨ m ρ1 = some (.ct ρ2)) ∧ I (f s x) ρ2) : ∃ ρ', forF k g m ρ = some (.nx (ρ'.set k (some (.lst (xs.map a))))) ∧ I (xs.foldl f s) ρ' := by
  obtain ⟨ρ', h1, h2⟩ := forF_inv (g := g) (m := m) (all := xs.map a) (fun i ρ => I ((xs.take i).foldl f s) ρ) hk fr (by simpa using h0) (fun i ρ h => hz _ ρ h) (fun i d ρ hd hI => by
    rw [List.getElem?_map] at hd
    obtain ⟨x, hx, rfl⟩ := Option.map_eq_some_iff.mp hd
    obtain ⟨ρ1, ρ2, e1, e2, e3⟩ := hs x _ ρ (List.mem_of_getElem? hx) hI
    refine ⟨ρ1, ρ2, e1, e2, ?_⟩
    rw [List.take_add_one, hx, List.foldl_append]
    exact e3)
  refine ⟨ρ', h1, ?_⟩
  rw [List.length_map, List.take_length] at h2
  exact h2
/-! slices -/
def cutT {α : Type} (xs : List α) (lo hi : Option Int) : List α := (xs.drop (HT.sIx xs.length 0 lo)).take (HT.sIx xs.length xs.length hi - HT.sIx xs.length 0 lo)
theorem cutD_map {α : Type} (f : α → D) (xs : List α) (lo hi : Option Int) : cutD (xs.map f) lo hi = (cutT xs lo hi).map f := by
  unfold cutD cutT
  rw [List.length_map, List.map_take, List.map_drop]
theorem dCut_tP {α : Type} {f : α → D} (hf : ∀ x, (f x).pure = true) (xs : List α) (lo hi : Option Int) : dCut (.tup (xs.map f)) lo hi = some (.tup ((cutT xs lo hi).map f)) := by
  show (if D.frees (xs.map f) then _ else _) = _
  rw [if_pos (D.pures_frees (pures_map hf xs)), cutD_map]
theorem dCut_lP {α : Type} {f : α → D} (hf : ∀ x, (f x).pure = true) (xs : List α) (lo hi : Option Int) : dCut (.lst (xs.map f)) lo hi = some (.lst ((cutT xs lo hi).map f)) := by
  show (if D.frees (xs.map f) then _ else _) = _
  rw [if_pos (D.pures_frees (pures_map hf xs)), cutD_map]
theorem dCut_sP {α : Type} {f : α → D} (hf : ∀ x, (f x).pure = true) (xs : List α) (lo hi : Option Int) : dCut (.shr (xs.map f)) lo hi = some (.lst ((cutT xs lo hi).map f)) := by
  show (if D.frees (xs.map f) then _ else _) = _
  rw [if_pos (D.pures_frees (pures_map hf xs)), cutD_map]
theorem cutT_hi {α : Type} (xs : List α) {k : Int} (h : 0 ≤ k) : cutT xs none (some k) = xs.take k.toNat := by
  obtain ⟨j, rfl⟩ := Int.eq_ofNat_of_zero_le h
  unfold cutT
  rw [HT.sIx_none, HT.sIx_nat, Int.toNat_natCast, List.drop_zero, Nat.sub_zero]
  by_cases hl : j ≤ xs.length
  · rw [Nat.min_eq_left hl]
  · rw [Nat.min_eq_right (by omega), List.take_length, List.take_of_length_le (by omega)]
theorem cutT_lo {α : Type} (xs : List α) {k : Int} (h : 0 ≤ k) : cutT xs (some k) none = xs.drop k.toNat := by
  obtain ⟨j, rfl⟩ := Int.eq_ofNat_of_zero_le h
  unfold cutT
  rw [HT.sIx_none, HT.sIx_nat, Int.toNat_natCast]
  by_cases hl : j ≤ xs.length
  · rw [Nat.min_eq_left hl, List.take_of_length_le (by rw [List.length_drop]; omega)]
  · rw [Nat.min_eq_right (by omega), List.drop_length, List.drop_of_length_le (by omega), List.take_nil]
theorem cutT_last {α : Type} (xs : List α) (x : α) : cutT (xs ++ [x]) none (some (-1)) = xs := by
  unfold cutT
  rw [HT.sIx_none (xs ++ [x]).length 0]
  have : HT.sIx (xs ++ [x]).length (xs ++ [x]).length (some (-1)) = xs.length := by
    show (if (-1 : Int) < 0 then ((-1 : Int) + ((xs ++ [x]).length : Int)).toNat else min ((-1 : Int)).toNat (xs ++ [x]).length) = _
    rw [if_pos (by omega), List.length_append, List.length_singleton]; omega
  rw [this, List.drop_zero, Nat.sub_zero, List.take_left]
theorem cutHi_t {α : Type} {f : α → D} (hf : ∀ x, (f x).pure = true) (xs : List α) {k : Int} (h : 0 ≤ k) : dCut (.tup (xs.map f)) none (some k) = some (.tup ((xs.take k.toNat).map f)) := by rw [dCut_tP hf, cutT_hi _ h]
theorem cutHi_l {α : Type} {f : α → D} (hf : ∀ x, (f x).pure = true) (xs : List α) {k : Int} (h : 0 ≤ k) : dCut (.lst (xs.map f)) none (some k) = some (.lst ((xs.take k.toNat).map f)) := by rw [dCut_lP hf, cutT_hi _ h]
theorem cutLo_t {α : Type} {f : α → D} (hf : ∀ x, (f x).pure = true) (xs : List α) {k : Int} (h : 0 ≤ k) : dCut (.tup (xs.map f)) (some k) none = some (.tup ((xs.drop k.toNat).map f)) := by rw [dCut_tP hf, cutT_lo _ h]
theorem cutLo_l {α : Type} {f : α → D} (hf : ∀ x, (f x).pure = true) (xs : List α) {k : Int} (h : 0 ≤ k) : dCut (.lst (xs.map f)) (some k) none = some (.lst ((xs.drop k.toNat).map f)) := by rw [dCut_lP hf, cutT_lo _ h]
theorem cutLast_t {α : Type} {f : α → D} (hf : ∀ x, (f x).pure = true) (xs : List α) (x : α) : dCut (.tup ((xs ++ [x]).map f)) none (some (-1)) = some (.tup (xs.map f)) := by rw [dCut_tP hf, cutT_last xs x]
theorem cutLast_l {α : Type} {f : α → D} (hf : ∀ x, (f x).pure = true) (xs : List α) (x : α) : dCut (.lst ((xs ++ [x]).map f)) none (some (-1)) = some (.lst (xs.map f)) := by rw [dCut_lP hf, cutT_last xs x]
/-! sums of lists -/
theorem dAdd_lP {xs ys : List D} (hx : D.pures xs = true) (hy : D.pures ys = true) (h : xs.length + ys.length ≤ 1000000) : dAdd (.lst xs) (.lst ys) = some (.lst (xs ++ ys)) := if_pos ⟨h, D.pures_frees hx, D.pures_frees hy⟩
theorem dAdd_tP {xs ys : List D} (hx : D.pures xs = true) (hy : D.pures ys = true) (h : xs.length + ys.length ≤ 1000000) : dAdd (.tup xs) (.tup ys) = some (.tup (xs ++ ys)) := if_pos ⟨h, D.pures_frees hx, D.pures_frees hy⟩
theorem dAdd_lI {xs ys : List Int} (h : xs.length + ys.length ≤ 1000000) : dAdd (.lst (xs.map .int)) (.lst (ys.map .int)) = some (.lst ((xs ++ ys).map .int)) := by rw [dAdd_lP (pures_ints xs) (pures_ints ys) (by simpa using h), List.map_append]
theorem dAdd_tI {xs ys : List Int} (h : xs.length + ys.length ≤ 1000000) : dAdd (.tup (xs.map .int)) (.tup (ys.map .int)) = some (.tup ((xs ++ ys).map .int)) := by rw [dAdd_tP (pures_ints xs) (pures_ints ys) (by simpa using h), List.map_append]
/-- a comprehension that keeps some -/
theorem comp_filter {c : Int → Bool} {g : D → Env → Option Env} {t : Env → Option Bool} {p : Env → Option D} {ρ : Env} {ns : List Int} (h : ∀ n, n ∈ ns → ∃ ρ1, g (.int n) ρ = some ρ1 ∧ t ρ1 = some (c n) ∧ p ρ1 = some (.int n)) (hl : ns.length ≤ 1000000) : cpL (compC g t p ρ (ns.map .int)) = some (.lst ((ns.filter c).map .int)) := by
  rw [compC_gen (a := D.int) (c := c) (f := D.int) fun n hn => let ⟨ρ1, h1, h2, h3⟩ := h n hn; ⟨ρ1, h1, h2, fun _ => h3⟩]
  exact cpL_of (by have := List.length_filter_le c ns; rw [List.length_map]; omega)
theorem comp_map {α : Type} {a : α → D} (f : α → D) {g : D → Env → Option Env} {p : Env → Option D} {ρ : Env} {ns : List α} (h : ∀ n, n ∈ ns → ∃ ρ1, g (a n) ρ = some ρ1 ∧ p ρ1 = some (f n)) (hl : ns.length ≤ 1000000) : cpL (compC g yesC p ρ (ns.map a)) = some (.lst (ns.map f)) := by
  rw [compC_map f h]
  exact cpL_of (by rw [List.length_map]; omega)
/-! tables of any data -/
theorem tabG_set {β : Type} {n : Nat} (g : Int → β) {i : Nat} (hi : i < n) (v : β) : ((ru n).map g).set i v = (ru n).map fun q => if q = (i : Int) then v else g q := by
  apply List.ext_getElem
  · simp
  · intro j h1 h2
    have hj : j < n := by simpa [ru_len] using h2
    rw [List.getElem_set, List.getElem_map, List.getElem_map, ru_get hj]
    by_cases e : i = j
    · subst e; rw [if_pos rfl, if_pos rfl]
    · rw [if_neg e, if_neg (by omega)]
theorem tabG_congr {β : Type} {n : Nat} {g h : Int → β} (e : ∀ q : Int, 0 ≤ q → q < n → g q = h q) : (ru n).map g = (ru n).map h :=
  List.map_congr_left fun q hq => e q (ru_mem.mp hq).1 (ru_mem.mp hq).2
theorem tabG_len {β : Type} (n : Nat) (g : Int → β) : ((ru n).map g).length = n := by rw [List.length_map, ru_len]
theorem tabG_get {β : Type} {n : Nat} (g : Int → β) {i : Nat} (hi : i < n) : ((ru n).map g)[i]'(by rw [tabG_len]; exact hi) = g (i : Int) := by rw [List.getElem_map, ru_get hi]
theorem stF_P {α : Type} {f : α → D} (hf : ∀ x, (f x).pure = true) {k : Nat} {v : α} {ρ : Env} {xs : List α} {j : Nat} (h : j < xs.length) : stF k (f v) ρ (some (.int (j : Int))) (some (xs.map f)) = some (.nx (ρ.set k (some (.lst ((xs.set j v).map f))))) := by
  show (if D.frees (xs.map f) then (ixN (xs.map f).length (j : Int)).map _ else none) = _
  rw [if_pos (D.pures_frees (pures_map hf xs)), List.length_map, ixN_nat h, List.map_set]; rfl
theorem tabF_set {β : Type} {f : β → D} (hf : ∀ x, (f x).pure = true) {n : Nat} {g : Int → β} {k : Nat} {ρ : Env} {p : Int} {v : β} (h0 : 0 ≤ p) (h1 : p < n) : stF k (f v) ρ (some (.int p)) (some (((ru n).map g).map f)) = some (.nx (ρ.set k (some (.lst (((ru n).map fun q => if q = p then v else g q).map f))))) := by
  obtain ⟨j, rfl, hj⟩ := intIdx h0 h1
  rw [stF_P hf (by rw [tabG_len]; exact hj), tabG_set g hj]
theorem tabF_at {β : Type} {f : β → D} {n : Nat} (g : Int → β) {p : Int} (h0 : 0 ≤ p) (h1 : p < n) : atI (((ru n).map g).map f) p = some (f (g p)) := by
  obtain ⟨j, rfl, hj⟩ := intIdx h0 h1
  rw [atI_in f (by rw [tabG_len]; exact hj), tabG_get g hj]
theorem atI_neg1 {α : Type} (f : α → D) {xs : List α} (h : 0 < xs.length) : atI (xs.map f) (-1) = some (f (xs[xs.length - 1]'(by omega))) := by
  obtain ⟨ys, y, rfl⟩ : ∃ ys y, xs = ys ++ [y] := ⟨xs.dropLast, xs.getLast (List.ne_nil_of_length_pos h), (List.dropLast_concat_getLast _).symm⟩
  rw [atI_last]
  simp
theorem mkTup_P {ds : List D} (h : D.pures ds = true) (hl : ds.length ≤ 1000) : mkTup ds = some (.tup ds) := by
  unfold mkTup tupF
  rw [if_pos hl, if_pos (D.pures_frees h)]
theorem mkLst_P {ds : List D} (h : D.pures ds = true) (hl : ds.length ≤ 1000) : mkLst ds = some (.lst ds) := by
  unfold mkLst lstF
  rw [if_pos hl, if_pos (D.pures_frees h)]
theorem prev_at {o : List Int} {k : Nat} (hk : k < o.length) : ∃ (j : Nat) (hj : j < o.length), (j + 1) % o.length = k ∧ atI (o.map D.int) ((k : Int) - 1) = some (.int o[j]) := by
  by_cases e : k = 0
  · subst e
    refine ⟨o.length - 1, by omega, by rw [show o.length - 1 + 1 = o.length by omega, Nat.mod_self], ?_⟩
    rw [show ((0 : Nat) : Int) - 1 = -1 by omega]
    exact atI_neg1 D.int hk
  · refine ⟨k - 1, by omega, by rw [show k - 1 + 1 = k by omega, Nat.mod_eq_of_lt hk], ?_⟩
    rw [show (k : Int) - 1 = ((k - 1 : Nat) : Int) by omega, atI_in D.int (by omega)]
theorem dAdd_tM {α : Type} {f : α → D} (hf : ∀ x, (f x).pure = true) {xs ys : List α} (h : xs.length + ys.length ≤ 1000000) : dAdd (.tup (xs.map f)) (.tup (ys.map f)) = some (.tup ((xs ++ ys).map f)) := by rw [dAdd_tP (pures_map hf xs) (pures_map hf ys) (by simpa using h), List.map_append]
theorem dAdd_lM {α : Type} {f : α → D} (hf : ∀ x, (f x).pure = true) {xs ys : List α} (h : xs.length + ys.length ≤ 1000000) : dAdd (.lst (xs.map f)) (.lst (ys.map f)) = some (.lst ((xs ++ ys).map f)) := by rw [dAdd_lP (pures_map hf xs) (pures_map hf ys) (by simpa using h), List.map_append]
theorem app_M {α : Type} (f : α → D) {xs : List α} (h : xs.length < 1000000) (x : α) : lAppend (xs.map f) [f x] = some (.non, (xs ++ [x]).map f) := by
  rw [lAppend_of (by simpa using h)]; simp
theorem flO_P {k g m ρ} {d : D} {ds : List D} (h : seqD d = some ds) (hp : D.pures ds = true) : flO k g m ρ (some d) = (forM g m ds (ρ.set k none)).map (backO k d) := by
  show (seqD d).bind _ = _
  rw [h]
  show (if D.frees ds then _ else none) = _; rw [if_pos (D.pures_frees hp)]
end FL

end

section
set_option Elab.async false
set_option linter.all false
set_option maxRecDepth 100000
set_option maxHeartbeats 4000000
namespace FL
open PySem L2
def anO (q : Env → Option D) (ρ : Env) : Option D → Option D
  | some (.bl c) => if c then q ρ else some (.bl false)
  | _ => none
def orC (q : Env → Option D) (ρ : Env) : Option D → Option D
  | some (.bl c) => if c then some (.bl true) else q ρ
  | _ => none
def noC : Option D → Option D
  | some (.bl c) => some (.bl (!c))
  | _ => none
theorem pAnd_ap (p q ρ) : pAnd p q ρ = anO q ρ (p ρ) := by unfold pAnd anO; cases p ρ with | none => rfl | some d => cases d <;> rfl
theorem pOr_ap (p q ρ) : pOr p q ρ = orC q ρ (p ρ) := by unfold pOr orC; cases p ρ with | none => rfl | some d => cases d <;> rfl
theorem pNot_ap (p ρ) : pNot p ρ = noC (p ρ) := by unfold pNot noC; cases p ρ with | none => rfl | some d => cases d <;> rfl
theorem anO_bl (q ρ c) : anO q ρ (some (.bl c)) = if c = true then q ρ else some (.bl false) := rfl
theorem orC_bl (q ρ c) : orC q ρ (some (.bl c)) = if c = true then some (.bl true) else q ρ := rfl
theorem noC_bl (c) : noC (some (.bl c)) = some (.bl (!c)) := rfl
/-! == of tuples of ints -/
theorem toPys_ints : ∀ ns : List Int, toPys (ns.map .int) = ns.map PyData.int
  | [] => rfl
  | n :: ns => by rw [List.map_cons, toPys, toPys_ints ns]; rfl
theorem lay_ints : ∀ ns : List Int, PyData.canLayAll0 (ns.map PyData.int) = true
  | [] => rfl
  | n :: ns => by rw [List.map_cons, PyData.canLayAll0, lay_ints ns]; rfl
theorem depth_ints : ∀ ns : List Int, PyData.depthAll (ns.map PyData.int) ≤ 1
  | [] => by simp [PyData.depthAll]
  | n :: ns => by
    have := depth_ints ns
    rw [List.map_cons]
    simp only [PyData.depthAll, PyData.depth]
    omega
theorem eqv_ints : ∀ xs ys : List Int, PyData.eqvAll (xs.map PyData.int) (ys.map PyData.int) = decide (xs = ys)
  | [], [] => rfl
  | [], y :: ys => rfl
  | x :: xs, [] => rfl
  | x :: xs, y :: ys => by
    rw [List.map_cons, List.map_cons, PyData.eqvAll, eqv_ints xs ys]
    show ((x == y) && _) = _
    rw [Bool.eq_iff_iff]; simp
theorem okD_tI (ns : List Int) : okD (.tup (ns.map .int)) = true := by
  unfold okD SeqAt.shaped
  rw [toPy, toPys_ints, Bool.and_eq_true]
  refine ⟨by rw [PyData.canLay0]; exact lay_ints ns, decide_eq_true ?_⟩
  have := depth_ints ns
  simp only [PyData.depth]
  omega
theorem dEqX_tI (xs ys : List Int) : dEqX (.tup (xs.map .int)) (.tup (ys.map .int)) = some (.bl (decide (xs = ys))) := by
  unfold dEqX eqvD
  rw [okD_tI, okD_tI, toPy, toPy, toPys_ints, toPys_ints, PyData.eqv, eqv_ints]; rfl
theorem dNeX_tI (xs ys : List Int) : dNeX (.tup (xs.map .int)) (.tup (ys.map .int)) = some (.bl (!decide (xs = ys))) := by
  unfold dNeX eqvD
  rw [okD_tI, okD_tI, toPy, toPy, toPys_ints, toPys_ints, PyData.eqv, eqv_ints]; rfl
/-- True in a list of truth values -/
theorem scs_bls (bs : List Bool) : scs (bs.map .bl) = true := by
  unfold scs
  rw [List.all_map]
  exact List.all_eq_true.mpr fun _ _ => rfl
theorem any_bls (x : Bool) : ∀ bs : List Bool, ((bs.map D.bl).any fun d => eqS d (.bl x)) = decide (x ∈ bs)
  | [] => rfl
  | b :: bs => by
    rw [List.map_cons, List.any_cons, any_bls x bs]
    have : eqS (.bl b) (.bl x) = (b == x) := rfl
    rw [this]
    cases b <;> cases x <;> simp
theorem dIn_lB (x : Bool) (bs : List Bool) : dIn (.bl x) (.lst (bs.map .bl)) = some (.bl (decide (x ∈ bs))) := by
  show (if (scs (bs.map .bl) && true) = true then some (D.bl ((bs.map D.bl).any fun d => eqS d (.bl x))) else none) = _
  rw [scs_bls, any_bls]; rfl
theorem dNin_lB (x : Bool) (bs : List Bool) : dNin (.bl x) (.lst (bs.map .bl)) = some (.bl (!decide (x ∈ bs))) := by
  show (if (scs (bs.map .bl) && true) = true then some (D.bl (!(bs.map D.bl).any fun d => eqS d (.bl x))) else none) = _
  rw [scs_bls, any_bls]; rfl
theorem pure_bl (b : Bool) : (D.bl b).pure = true := rfl
theorem dMin_tI {ns : List Int} (h : ns ≠ []) : dMin [.tup (ns.map .int)] = some (.int (minI ns)) := by show (intsD (ns.map .int)).bind _ = _; rw [intsD_map]; exact if_pos h
theorem dMax_tI {ns : List Int} (h : ns ≠ []) : dMax [.tup (ns.map .int)] = some (.int (maxI ns)) := by show (intsD (ns.map .int)).bind _ = _; rw [intsD_map]; exact if_pos h
theorem dMin_lI {ns : List Int} (h : ns ≠ []) : dMin [.lst (ns.map .int)] = some (.int (minI ns)) := by show (intsD (ns.map .int)).bind _ = _; rw [intsD_map]; exact if_pos h
/-- index in a list of one's own -/
theorem lIndex_ints {x : Int} {ns : List Int} {j : Nat} (hj : ns.findIdx? (· == x) = some j) : lIndex (ns.map .int) [.int x] = some (.int j, ns.map .int) := by
  show (dIndex (.lst (ns.map .int)) (.int x)).map _ = _
  rw [index_ints rfl hj]; rfl
theorem findIdx_of {l : List Int} {x : Int} (h : x ∈ l) : l.findIdx? (· == x) = some (l.idxOf x) := by
  rw [List.idxOf, List.findIdx?_eq_some_iff_findIdx_eq]
  exact ⟨List.findIdx_lt_length_of_exists ⟨x, h, by simp⟩, rfl⟩
/-- ranges from a place -/
theorem itR_up {n : Nat} (hn : n ≤ 1000000) {p : Int} (h0 : 0 ≤ p) (h1 : p < n) : itR (p + 1) (n : Int) = some (((ru n).filter fun q => decide (p < q)).map .int) := by
  rw [itR_of (by omega) (by omega) (by omega) (by omega)]
  obtain ⟨a, rfl, ha⟩ := intIdx h0 h1
  rw [show ((a : Nat) : Int) + 1 = ((a + 1 : Nat) : Int) by omega, rangeD_nat]
  have : (ru n).filter (fun q => decide (((a : Nat) : Int) < q)) = (List.range' (a + 1) (n - (a + 1))).map fun i : Nat => (i : Int) := by
    unfold ru
    rw [List.filter_map]
    refine congrArg (List.map fun i : Nat => (i : Int)) ?_
    have e : List.range n = List.range (a + 1) ++ List.range' (a + 1) (n - (a + 1)) := by
      rw [List.range_eq_range', List.range_eq_range']
      have := List.range'_append (s := 0) (m := a + 1) (n := n - (a + 1)) (step := 1)
      rw [show 0 + 1 * (a + 1) = a + 1 by omega, show a + 1 + (n - (a + 1)) = n by omega] at this
      exact this.symm
    rw [e, List.filter_append]
    have e1 : (List.range (a + 1)).filter ((fun q => decide (((a : Nat) : Int) < q)) ∘ fun i : Nat => (i : Int)) = [] := by
      rw [List.filter_eq_nil_iff]
      intro x hx
      have := List.mem_range.mp hx
      simp; omega
    have e2 : (List.range' (a + 1) (n - (a + 1))).filter ((fun q => decide (((a : Nat) : Int) < q)) ∘ fun i : Nat => (i : Int)) = List.range' (a + 1) (n - (a + 1)) := by
      rw [List.filter_eq_self]
      intro x hx
      have := (List.mem_range'_1.mp hx).1
      simp; omega
    rw [e1, e2, List.nil_append]
  rw [this, List.map_map, Function.comp_def]
/-- the last one as a slice -/
theorem cutT_one {α : Type} (xs : List α) (x : α) : cutT (xs ++ [x]) (some (-1)) none = [x] := by
  have : HT.sIx (xs ++ [x]).length 0 (some (-1)) = xs.length := by
    show (if (-1 : Int) < 0 then ((-1 : Int) + ((xs ++ [x]).length : Int)).toNat else min ((-1 : Int)).toNat (xs ++ [x]).length) = _
    rw [if_pos (by omega), List.length_append, List.length_singleton]; omega
  unfold cutT
  rw [this, HT.sIx_none (xs ++ [x]).length (xs ++ [x]).length, List.drop_left' rfl]
  simp
/-- loops whose env keeps its shape, over any list, with a list that grows -/
theorem forM_all_list {α : Type} {a : α → D} {g : D → Env → Option Env} {m : Env → Option Out} (I : Env → Prop) (xs : List α) (ρ : Env) (h : ∀ x ρ, x ∈ xs → I ρ → ∃ ρ1 ρ2, g (a x) ρ = some ρ1 ∧ m ρ1 = some (.nx ρ2) ∧ I ρ2) (h0 : I ρ) : ∃ ρ', forM g m (xs.map a) ρ = some (.nx ρ') ∧ I ρ' := by
  obtain ⟨ρ', h1, h2⟩ := forM_fold (σ := Unit) (fun _ ρ => I ρ) (fun _ _ => ()) xs () ρ (fun x _ ρ hx hI => let ⟨ρ1, ρ2, a1, a2, a3⟩ := h x ρ hx hI; ⟨ρ1, ρ2, a1, .inl a2, a3⟩) h0
  exact ⟨ρ', h1, h2⟩
end FL

end

section
set_option Elab.async false
set_option linter.all false
set_option maxRecDepth 100000
set_option maxHeartbeats 8000000
namespace FL
open PySem PySem.Spec PyProof.Rows L2
theorem index_tI {x : Int} {ns : List Int} (h : x ∈ ns) : dIndex (.tup (ns.map .int)) (.int x) = some (.int (ns.idxOf x : Nat)) := index_ints rfl (findIdx_of h)
theorem index_lI {x : Int} {ns : List Int} (h : x ∈ ns) : dIndex (.lst (ns.map .int)) (.int x) = some (.int (ns.idxOf x : Nat)) := index_ints rfl (findIdx_of h)
theorem index_sI {x : Int} {ns : List Int} (h : x ∈ ns) : dIndex (.shr (ns.map .int)) (.int x) = some (.int (ns.idxOf x : Nat)) := index_ints rfl (findIdx_of h)
/-! two fors -/
def cp2O (vs1 : List Nat) (g : D → Env → Option Env) (t : Env → Option Bool) (pi1 : Env → Option (List D)) (g1 : D → Env → Option Env) (t1 : Env → Option Bool) (p : Env → Option D) (ρ : Env) : Option (List D) → Option D
  | some ds => cpL (compC2 vs1 g t pi1 g1 t1 p ρ ds)
  | none => none
theorem pComp2_ap (vs vs1 pi g t pi1 g1 t1 p ρ) : pComp2 vs vs1 pi g t pi1 g1 t1 p ρ = cp2O vs1 g t pi1 g1 t1 p (wipeE ρ vs) (pi ρ) := by
  unfold pComp2 cp2O cpL
  cases pi ρ with
  | none => rfl
  | some ds => simp only [Option.bind_some]; cases compC2 vs1 g t pi1 g1 t1 p (wipeE ρ vs) ds <;> rfl
theorem cp2O_some (vs1 g t pi1 g1 t1 p ρ ds) : cp2O vs1 g t pi1 g1 t1 p ρ (some ds) = cpL (compC2 vs1 g t pi1 g1 t1 p ρ ds) := rfl
theorem compC2_gen {α β : Type} {a : α → D} {b : β → D} {l : α → List β} {c : α → β → Bool} {f : α → β → D} {vs1 : List Nat} {g g1 : D → Env → Option Env} {t t1 : Env → Option Bool} {pi1 : Env → Option (List D)} {p : Env → Option D} {ρ : Env} : ∀ {ns : List α},
    (∀ n, n ∈ ns → ∃ ρ1, g (a n) ρ = some ρ1 ∧ t ρ1 = some true ∧ pi1 ρ1 = some ((l n).map b) ∧ ∀ m, m ∈ l n → ∃ ρ2, g1 (b m) (wipeE ρ1 vs1) = some ρ2 ∧ t1 ρ2 = some (c n m) ∧ (c n m = true → p ρ2 = some (f n m))) →
    compC2 vs1 g t pi1 g1 t1 p ρ (ns.map a) = some (ns.flatMap fun n => ((l n).filter (c n)).map (f n))
  | [], _ => rfl
  | n :: ns, h => by
    obtain ⟨ρ1, h1, h2, h3, h4⟩ := h n List.mem_cons_self
    have ih := compC2_gen (ns := ns) fun m hm => h m (List.mem_cons_of_mem _ hm)
    show (g (a n) ρ).bind _ = _
    rw [h1, Option.bind_some, h2, Option.bind_some, if_pos rfl, h3, Option.bind_some, compC_gen h4, Option.bind_some]
    show (compC2 vs1 g t pi1 g1 t1 p ρ (ns.map a)).bind _ = _
    rw [ih]; rfl
theorem dSrtS_lI {ns : List Int} (h1 : ns.length ≤ 1000) (h2 : (sSet ns).length < 64) : dSrtS [.lst (ns.map .int)] = some (.lst ((sSet ns).map .int)) := by
  show (intsD (ns.map .int)).bind _ = _
  rw [intsD_map]
  exact if_pos ⟨h1, h2⟩
theorem dRev_lI (ns : List Int) : dRev (.lst (ns.map .int)) = some (.lst (ns.reverse.map .int)) := by
  show (if D.frees (ns.map .int) then some (D.lst (ns.map .int).reverse) else none) = _
  rw [if_pos (frees_ints ns), List.map_reverse]
theorem dSorted_lI (ns : List Int) : dSorted [.lst (ns.map .int)] = some (.lst ((iSort ns).map .int)) := by
  show (sortDs (ns.map .int)).map _ = _
  unfold sortDs
  rw [intsD_map]; rfl
/-! xs += ys -/
def alO (k : Nat) (ρ : Env) : Option (List D) → Option D → Option Out
  | some xs, some (.lst ys) => if D.frees xs && D.frees ys && decide (xs.length + ys.length ≤ 1000000) then some (.nx (ρ.set k (some (.lst (xs ++ ys))))) else none
  | _, _ => none
theorem augLS_ap (k p ρ) : augLS k p ρ = alO k ρ (lstAt ρ k) (p ρ) := by
  unfold augLS alO
  cases lstAt ρ k with
  | none => rfl
  | some xs => cases p ρ with
    | none => rfl
    | some d => cases d <;> rfl
theorem alO_I {k : Nat} {ρ : Env} {xs ys : List Int} (h : xs.length + ys.length ≤ 1000000) : alO k ρ (some (xs.map .int)) (some (.lst (ys.map .int))) = some (.nx (ρ.set k (some (.lst ((xs ++ ys).map .int))))) := by
  show (if _ then _ else _) = _
  rw [frees_ints, frees_ints, decide_eq_true (by simpa using h), List.map_append]; rfl
/-! t[i][j] = v -/
def s2O (k : Nat) (ρ : Env) : Option D → Option (List D) → Option D → Option D → Option Out
  | some d, some xs, some (.int i), some (.int j) => (ixN xs.length i).bind fun a => match xs[a]? with
    | some (.lst ys) => if D.frees ys && d.free then (ixN ys.length j).map fun b => .nx (ρ.set k (some (.lst (xs.set a (.lst (ys.set b d)))))) else none
    | _ => none
  | _, _, _, _ => none
theorem setS2_ap (k pe pi pj ρ) : setS2 k pe pi pj ρ = s2O k ρ (pe ρ) (lstAt ρ k) (pi ρ) (pj ρ) := by
  unfold setS2 s2O
  cases pe ρ with
  | none => rfl
  | some d => cases lstAt ρ k with
    | none => rfl
    | some xs => cases pi ρ with
      | none => rfl
      | some i => cases pj ρ with
        | none => cases i <;> rfl
        | some j => cases i <;> cases j <;> rfl
theorem s2_tab {β : Type} {f : β → D} (hf : ∀ x, (f x).pure = true) {n : Nat} {g : Int → Int → β} {k : Nat} {ρ : Env} {i j : Int} {v : β} (h0 : 0 ≤ i) (h1 : i < n) (h2 : 0 ≤ j) (h3 : j < n) :
    s2O k ρ (some (f v)) (some (((ru n).map fun a => (ru n).map (g a)).map fun r => .lst (r.map f))) (some (.int i)) (some (.int j)) = some (.nx (ρ.set k (some (.lst (((ru n).map fun a => (ru n).map fun b => if a = i ∧ b = j then v else g a b).map fun r => .lst (r.map f)))))) := by
  obtain ⟨i', rfl⟩ := Int.eq_ofNat_of_zero_le h0
  obtain ⟨j', rfl⟩ := Int.eq_ofNat_of_zero_le h2
  have hi : i' < n := by omega
  have hj : j' < n := by omega
  unfold s2O
  dsimp only
  rw [ixN_nat (by rw [List.length_map, List.length_map, ru_len]; exact hi), Option.bind_some]
  have e : (((ru n).map fun a => (ru n).map (g a)).map fun r => D.lst (r.map f))[i']? = some (.lst (((ru n).map (g i')).map f)) := by
    rw [List.getElem?_map, List.getElem?_map, List.getElem?_eq_getElem (by rw [ru_len]; exact hi), ru_get hi]; rfl
  rw [e]
  dsimp only
  rw [D.pures_frees (pures_map hf _), D.pure_free (hf v), ixN_nat (by rw [List.length_map, List.length_map, ru_len]; exact hj)]
  have e1 : (((ru n).map (g i')).map f).set j' (f v) = ((ru n).map fun b => if b = (j' : Int) then v else g i' b).map f := by
    rw [← List.map_set, tabG_set (g i') hj]
  show some (Out.nx _) = _
  rw [e1]
  have e2 : (((ru n).map fun a => (ru n).map (g a)).map fun r => D.lst (r.map f)).set i' (.lst (((ru n).map fun b => if b = (j' : Int) then v else g i' b).map f)) = ((ru n).map fun a => (ru n).map fun b => if a = (i' : Int) ∧ b = (j' : Int) then v else g a b).map fun r => .lst (r.map f) := by
    rw [← List.map_set (f := fun r : List β => D.lst (r.map f)), tabG_set (fun a => (ru n).map (g a)) hi]
    congr 1
    refine tabG_congr fun a _ _ => ?_
    by_cases z : a = (i' : Int)
    · subst z; simp
    · simp [z]
  rw [e2]
theorem okD_lI (ns : List Int) : okD (.lst (ns.map .int)) = true := by
  unfold okD SeqAt.shaped
  rw [toPy, toPys_ints, Bool.and_eq_true]
  refine ⟨by rw [PyData.canLay0]; exact lay_ints ns, decide_eq_true ?_⟩
  have := depth_ints ns
  simp only [PyData.depth]
  omega
theorem dEqX_lI (xs ys : List Int) : dEqX (.lst (xs.map .int)) (.lst (ys.map .int)) = some (.bl (decide (xs = ys))) := by
  unfold dEqX eqvD
  rw [okD_lI, okD_lI, toPy, toPy, toPys_ints, toPys_ints, PyData.eqv, eqv_ints]; rfl
/-! any, all of lists of bools -/
theorem dAny_lB (bs : List Bool) : dAny [.lst (bs.map .bl)] = some (.bl (bs.any id)) := by
  show (blsD (bs.map .bl)).map _ = _
  rw [blsD_map]; rfl
theorem dAll_lB (bs : List Bool) : dAll [.lst (bs.map .bl)] = some (.bl (bs.all id)) := by
  show (blsD (bs.map .bl)).map _ = _
  rw [blsD_map]; rfl
/-! tuple * int -/
theorem dMulT_P {α : Type} {f : α → D} (hf : ∀ x, (f x).pure = true) {xs : List α} (h0 : xs ≠ []) (h1 : xs.length ≤ 1000) {k : Nat} (h2 : 1 ≤ k) (h3 : k ≤ 1000) : dMulT (.tup (xs.map f)) (.int (k : Nat)) = some (.tup ((List.replicate k xs).flatten.map f)) := by
  show (if _ then _ else _) = _
  rw [if_pos ⟨D.pures_frees (pures_map hf xs), by simpa using h1, by simpa using h0, by omega, by omega⟩, Int.toNat_natCast, List.map_flatten, List.map_replicate]
theorem forM_allX {α : Type} {a : α → D} {g : D → Env → Option Env} {m : Env → Option Out} (I : Env → Prop) (P : α → Bool) : ∀ (l : List α), (∀ i ρ, i ∈ l → I ρ → ∃ ρ1 ρ2, g (a i) ρ = some ρ1 ∧ m ρ1 = some (if P i = true then .nx ρ2 else .rt (.bl false) ρ2) ∧ I ρ2) → ∀ ρ, I ρ → ∃ ρ', forM g m (l.map a) ρ = some (if l.all P = true then .nx ρ' else .rt (.bl false) ρ') ∧ I ρ'
  | [], _, ρ, h0 => ⟨ρ, rfl, h0⟩
  | i :: l, h, ρ, h0 => by
    obtain ⟨ρ1, ρ2, h1, h2, h3⟩ := h i ρ List.mem_cons_self h0
    cases hp : P i with
    | true =>
      rw [hp, if_pos rfl] at h2
      obtain ⟨ρ', e, q⟩ := forM_allX I P l (fun j ρ hj => h j ρ (List.mem_cons_of_mem _ hj)) ρ2 h3
      refine ⟨ρ', ?_, q⟩
      rw [List.map_cons, forM_cons_nx h1 h2, e, List.all_cons, hp, Bool.true_and]
    | false =>
      rw [hp, if_neg Bool.false_ne_true] at h2
      refine ⟨ρ2, ?_, h3⟩
      rw [List.map_cons, forM_cons_rt h1 h2, List.all_cons, hp, Bool.false_and, if_neg Bool.false_ne_true]
theorem dNe_b (i j : Bool) : dNe (.bl i) (.bl j) = some (.bl (!decide (i = j))) := rfl
/-! lists of lists, lent -/
theorem shares_rows {β : Type} {f : β → D} (hf : ∀ x, (f x).pure = true) (rows : List (List β)) : D.shares (rows.map fun r => D.lst (r.map f)) = rows.map fun r => D.shr (r.map f) := by
  rw [D.shares_map, List.map_map]
  refine List.map_congr_left fun r _ => ?_
  show D.share (.lst (r.map f)) = _
  rw [D.share, D.pures_shares (pures_map hf r)]
theorem owns_rows {β : Type} {f : β → D} (hf : ∀ x, (f x).pure = true) (rows : List (List β)) : D.owns (rows.map fun r => D.lst (r.map f)) = true := by
  rw [D.owns_all]
  intro d hd
  obtain ⟨r, _, rfl⟩ := List.mem_map.mp hd
  rw [D.own]
  exact D.pures_owns (pures_map hf r)
end FL

end

section
set_option Elab.async false
set_option linter.all false
set_option maxRecDepth 100000
set_option maxHeartbeats 8000000
open PySem PySem.Spec PyProof.Rows L2 FL
namespace K58
def top (i : Nat) : Stmt := PySem.Challenge.pw_rotakeep_k58_whole_majorities.main.body.getD i (.Pass ⟨0, 0, 0, 0⟩)
abbrev s_l_draws : Stmt := top 12
abbrev N_l_draws : List Str := ["script", "many", "cells", "rest", "draws", "k", "at", "cell", "once"]
abbrev ps_l_draws : List Str := ["script", "many"]
theorem sc_l_draws : FnScope N_l_draws ps_l_draws (defScope s_l_draws) := ⟨rfl, rfl, rfl, by decide +kernel, rfl, by decide +kernel, by decide +kernel⟩
abbrev s_l_falls : Stmt := top 17
abbrev N_l_falls : List Str := ["vote", "line", "ranks", "best", "at", "choice"]
abbrev ps_l_falls : List Str := ["vote", "line"]
theorem sc_l_falls : FnScope N_l_falls ps_l_falls (defScope s_l_falls) := ⟨rfl, rfl, rfl, by decide +kernel, rfl, by decide +kernel, by decide +kernel⟩
abbrev s_l_fits : Stmt := top 18
abbrev N_l_fits : List Str := ["votes", "line", "vote"]
abbrev ps_l_fits : List Str := ["votes", "line"]
theorem sc_l_fits : FnScope N_l_fits ps_l_fits (defScope s_l_fits) := ⟨rfl, rfl, rfl, by decide +kernel, rfl, by decide +kernel, by decide +kernel⟩
abbrev s_l_take : Stmt := top 13
abbrev N_l_take : List Str := ["draws", "many"]
abbrev ps_l_take : List Str := ["draws", "many"]
theorem sc_l_take : FnScope N_l_take ps_l_take (defScope s_l_take) := ⟨rfl, rfl, rfl, by decide +kernel, rfl, by decide +kernel, by decide +kernel⟩
abbrev s_l_order : Stmt := top 15
abbrev N_l_order : List Str := ["draws", "many", "order", "item"]
abbrev ps_l_order : List Str := ["draws", "many"]
theorem sc_l_order : FnScope N_l_order ps_l_order (defScope s_l_order) := ⟨rfl, rfl, rfl, by decide +kernel, rfl, by decide +kernel, by decide +kernel⟩
abbrev s_l_peaked : Stmt := top 19
abbrev N_l_peaked : List Str := ["draws", "line", "many", "votes", "voter", "left", "right", "vote", "number", "step"]
abbrev ps_l_peaked : List Str := ["draws", "line", "many"]
theorem sc_l_peaked : FnScope N_l_peaked ps_l_peaked (defScope s_l_peaked) := ⟨rfl, rfl, rfl, by decide +kernel, rfl, by decide +kernel, by decide +kernel⟩
abbrev s_l_same : Stmt := top 14
abbrev N_l_same : List Str := ["actual", "due", "k"]
abbrev ps_l_same : List Str := ["actual", "due"]
theorem sc_l_same : FnScope N_l_same ps_l_same (defScope s_l_same) := ⟨rfl, rfl, rfl, by decide +kernel, rfl, by decide +kernel, by decide +kernel⟩
abbrev s_beats : Stmt := top 1
abbrev N_beats : List Str := ["votes", "one", "other", "ahead", "vote"]
abbrev ps_beats : List Str := ["votes", "one", "other"]
theorem sc_beats : FnScope N_beats ps_beats (defScope s_beats) := ⟨rfl, rfl, rfl, by decide +kernel, rfl, by decide +kernel, by decide +kernel⟩
abbrev s_falls_from : Stmt := top 8
abbrev N_falls_from : List Str := ["vote", "line", "places", "best", "left", "right", "choice"]
abbrev ps_falls_from : List Str := ["vote", "line"]
theorem sc_falls_from : FnScope N_falls_from ps_falls_from (defScope s_falls_from) := ⟨rfl, rfl, rfl, by decide +kernel, rfl, by decide +kernel, by decide +kernel⟩
abbrev s_fits_line : Stmt := top 9
abbrev N_fits_line : List Str := ["votes", "line", "vote"]
abbrev ps_fits_line : List Str := ["votes", "line"]
theorem sc_fits_line : FnScope N_fits_line ps_fits_line (defScope s_fits_line) := ⟨rfl, rfl, rfl, by decide +kernel, rfl, by decide +kernel, by decide +kernel⟩
abbrev s_beaten_by : Stmt := top 2
abbrev N_beaten_by : List Str := ["votes", "n", "one", "other"]
abbrev ps_beaten_by : List Str := ["votes", "n"]
theorem sc_beaten_by : FnScope N_beaten_by ps_beaten_by (defScope s_beaten_by) := ⟨rfl, rfl, rfl, by decide +kernel, rfl, by decide +kernel, by decide +kernel⟩
abbrev s_head : Stmt := top 3
abbrev N_head : List Str := ["votes", "n", "table", "found", "one"]
abbrev ps_head : List Str := ["votes", "n"]
theorem sc_head : FnScope N_head ps_head (defScope s_head) := ⟨rfl, rfl, rfl, by decide +kernel, rfl, by decide +kernel, by decide +kernel⟩
abbrev s_middle_choice : Stmt := top 10
abbrev N_middle_choice : List Str := ["votes", "line", "places", "vote"]
abbrev ps_middle_choice : List Str := ["votes", "line"]
theorem sc_middle_choice : FnScope N_middle_choice ps_middle_choice (defScope s_middle_choice) := ⟨rfl, rfl, rfl, by decide +kernel, rfl, by decide +kernel, by decide +kernel⟩
abbrev s_steps_back : Stmt := top 5
abbrev N_steps_back : List Str := ["table", "start", "found", "edge", "later", "one", "at"]
abbrev ps_steps_back : List Str := ["table", "start"]
theorem sc_steps_back : FnScope N_steps_back ps_steps_back (defScope s_steps_back) := ⟨rfl, rfl, rfl, by decide +kernel, rfl, by decide +kernel, by decide +kernel⟩
abbrev s_ring_from : Stmt := top 6
abbrev N_ring_from : List Str := ["table", "start", "back", "ahead", "row", "left", "other"]
abbrev ps_ring_from : List Str := ["table", "start"]
theorem sc_ring_from : FnScope N_ring_from ps_ring_from (defScope s_ring_from) := ⟨rfl, rfl, rfl, by decide +kernel, rfl, by decide +kernel, by decide +kernel⟩
abbrev s_ring_of_votes : Stmt := top 7
abbrev N_ring_of_votes : List Str := ["votes", "n", "table", "found", "told", "start", "one"]
abbrev ps_ring_of_votes : List Str := ["votes", "n"]
theorem sc_ring_of_votes : FnScope N_ring_of_votes ps_ring_of_votes (defScope s_ring_of_votes) := ⟨rfl, rfl, rfl, by decide +kernel, rfl, by decide +kernel, by decide +kernel⟩
abbrev s_top : Stmt := top 4
abbrev N_top : List Str := ["votes", "n", "table", "best", "start", "found", "edge", "later", "one", "other"]
abbrev ps_top : List Str := ["votes", "n"]
theorem sc_top : FnScope N_top ps_top (defScope s_top) := ⟨rfl, rfl, rfl, by decide +kernel, rfl, by decide +kernel, by decide +kernel⟩
abbrev s_l_on_a_line : Stmt := top 24
abbrev N_l_on_a_line : List Str := ["draws", "n", "many", "line", "votes", "turned", "places", "due", "some", "other", "vote"]
abbrev ps_l_on_a_line : List Str := ["draws", "n", "many"]
theorem sc_l_on_a_line : FnScope N_l_on_a_line ps_l_on_a_line (defScope s_l_on_a_line) := ⟨rfl, rfl, rfl, by decide +kernel, rfl, by decide +kernel, by decide +kernel⟩
abbrev s_l_table : Stmt := top 20
abbrev N_l_table : List Str := ["votes", "n", "table", "one", "other", "ahead", "vote"]
abbrev ps_l_table : List Str := ["votes", "n"]
theorem sc_l_table : FnScope N_l_table ps_l_table (defScope s_l_table) := ⟨rfl, rfl, rfl, by decide +kernel, rfl, by decide +kernel, by decide +kernel⟩
abbrev s_l_top : Stmt := top 22
abbrev N_l_top : List Str := ["table", "n", "best", "powers", "choice", "number", "there", "outside", "wins", "other"]
abbrev ps_l_top : List Str := ["table", "n"]
theorem sc_l_top : FnScope N_l_top ps_l_top (defScope s_l_top) := ⟨rfl, rfl, rfl, by decide +kernel, rfl, by decide +kernel, by decide +kernel⟩
abbrev s_l_right : Stmt := top 23
abbrev N_l_right : List Str := ["votes", "n", "table", "one", "due", "told", "other"]
abbrev ps_l_right : List Str := ["votes", "n"]
theorem sc_l_right : FnScope N_l_right ps_l_right (defScope s_l_right) := ⟨rfl, rfl, rfl, by decide +kernel, rfl, by decide +kernel, by decide +kernel⟩
abbrev s_l_turned : Stmt := top 21
abbrev N_l_turned : List Str := ["draws", "n", "order", "at"]
abbrev ps_l_turned : List Str := ["draws", "n"]
theorem sc_l_turned : FnScope N_l_turned ps_l_turned (defScope s_l_turned) := ⟨rfl, rfl, rfl, by decide +kernel, rfl, by decide +kernel, by decide +kernel⟩
abbrev s_l_round : Stmt := top 25
abbrev N_l_round : List Str := ["draws", "n", "times", "turned", "votes", "order", "one", "due", "step", "other"]
abbrev ps_l_round : List Str := ["draws", "n"]
theorem sc_l_round : FnScope N_l_round ps_l_round (defScope s_l_round) := ⟨rfl, rfl, rfl, by decide +kernel, rfl, by decide +kernel, by decide +kernel⟩
abbrev s_l_votes : Stmt := top 16
abbrev N_l_votes : List Str := ["draws", "n", "many", "votes", "voter", "vote", "at"]
abbrev ps_l_votes : List Str := ["draws", "n", "many"]
theorem sc_l_votes : FnScope N_l_votes ps_l_votes (defScope s_l_votes) := ⟨rfl, rfl, rfl, by decide +kernel, rfl, by decide +kernel, by decide +kernel⟩
abbrev s_law : Stmt := top 26
abbrev N_law : List Str := ["script", "draws", "n", "many", "kind", "votes", "few", "turn", "line", "some"]
abbrev ps_law : List Str := ["script"]
theorem sc_law : FnScope N_law ps_law (defScope s_law) := ⟨rfl, rfl, rfl, by decide +kernel, rfl, by decide +kernel, by decide +kernel⟩
/-! what the top has written -/
structure Tx (K : PySem.W.Frag) (mg : Str → Option Value) where
  a_l_draws : Addr
  d_l_draws : FuncData
  F_l_draws : Fun K "_law_draws" "_law_draws" s_l_draws a_l_draws d_l_draws
  m_l_draws : mg "_law_draws" = some (.ref a_l_draws)
  y_l_draws : Binds K d_l_draws ps_l_draws []
  a_l_falls : Addr
  d_l_falls : FuncData
  F_l_falls : Fun K "_law_falls" "_law_falls" s_l_falls a_l_falls d_l_falls
  m_l_falls : mg "_law_falls" = some (.ref a_l_falls)
  y_l_falls : Binds K d_l_falls ps_l_falls []
  a_l_fits : Addr
  d_l_fits : FuncData
  F_l_fits : Fun K "_law_fits" "_law_fits" s_l_fits a_l_fits d_l_fits
  m_l_fits : mg "_law_fits" = some (.ref a_l_fits)
  y_l_fits : Binds K d_l_fits ps_l_fits []
  a_l_take : Addr
  d_l_take : FuncData
  F_l_take : Fun K "_law_take" "_law_take" s_l_take a_l_take d_l_take
  m_l_take : mg "_law_take" = some (.ref a_l_take)
  y_l_take : Binds K d_l_take ps_l_take []
  a_l_order : Addr
  d_l_order : FuncData
  F_l_order : Fun K "_law_order" "_law_order" s_l_order a_l_order d_l_order
  m_l_order : mg "_law_order" = some (.ref a_l_order)
  y_l_order : Binds K d_l_order ps_l_order []
  a_l_peaked : Addr
  d_l_peaked : FuncData
  F_l_peaked : Fun K "_law_peaked" "_law_peaked" s_l_peaked a_l_peaked d_l_peaked
  m_l_peaked : mg "_law_peaked" = some (.ref a_l_peaked)
  y_l_peaked : Binds K d_l_peaked ps_l_peaked []
  a_l_same : Addr
  d_l_same : FuncData
  F_l_same : Fun K "_law_same" "_law_same" s_l_same a_l_same d_l_same
  m_l_same : mg "_law_same" = some (.ref a_l_same)
  y_l_same : Binds K d_l_same ps_l_same []
  a_beats : Addr
  d_beats : FuncData
  F_beats : Fun K "beats" "beats" s_beats a_beats d_beats
  m_beats : mg "beats" = some (.ref a_beats)
  y_beats : Binds K d_beats ps_beats []
  a_falls_from : Addr
  d_falls_from : FuncData
  F_falls_from : Fun K "falls_from" "falls_from" s_falls_from a_falls_from d_falls_from
  m_falls_from : mg "falls_from" = some (.ref a_falls_from)
  y_falls_from : Binds K d_falls_from ps_falls_from []
  a_fits_line : Addr
  d_fits_line : FuncData
  F_fits_line : Fun K "fits_line" "fits_line" s_fits_line a_fits_line d_fits_line
  m_fits_line : mg "fits_line" = some (.ref a_fits_line)
  y_fits_line : Binds K d_fits_line ps_fits_line []
  a_beaten_by : Addr
  d_beaten_by : FuncData
  F_beaten_by : Fun K "beaten_by" "beaten_by" s_beaten_by a_beaten_by d_beaten_by
  m_beaten_by : mg "beaten_by" = some (.ref a_beaten_by)
  y_beaten_by : Binds K d_beaten_by ps_beaten_by []
  a_head : Addr
  d_head : FuncData
  F_head : Fun K "head" "head" s_head a_head d_head
  m_head : mg "head" = some (.ref a_head)
  y_head : Binds K d_head ps_head []
  a_middle_choice : Addr
  d_middle_choice : FuncData
  F_middle_choice : Fun K "middle_choice" "middle_choice" s_middle_choice a_middle_choice d_middle_choice
  m_middle_choice : mg "middle_choice" = some (.ref a_middle_choice)
  y_middle_choice : Binds K d_middle_choice ps_middle_choice []
  a_steps_back : Addr
  d_steps_back : FuncData
  F_steps_back : Fun K "steps_back" "steps_back" s_steps_back a_steps_back d_steps_back
  m_steps_back : mg "steps_back" = some (.ref a_steps_back)
  y_steps_back : Binds K d_steps_back ps_steps_back []
  a_ring_from : Addr
  d_ring_from : FuncData
  F_ring_from : Fun K "ring_from" "ring_from" s_ring_from a_ring_from d_ring_from
  m_ring_from : mg "ring_from" = some (.ref a_ring_from)
  y_ring_from : Binds K d_ring_from ps_ring_from []
  a_ring_of_votes : Addr
  d_ring_of_votes : FuncData
  F_ring_of_votes : Fun K "ring_of_votes" "ring_of_votes" s_ring_of_votes a_ring_of_votes d_ring_of_votes
  m_ring_of_votes : mg "ring_of_votes" = some (.ref a_ring_of_votes)
  y_ring_of_votes : Binds K d_ring_of_votes ps_ring_of_votes []
  a_top : Addr
  d_top : FuncData
  F_top : Fun K "top" "top" s_top a_top d_top
  m_top : mg "top" = some (.ref a_top)
  y_top : Binds K d_top ps_top []
  a_l_on_a_line : Addr
  d_l_on_a_line : FuncData
  F_l_on_a_line : Fun K "_law_on_a_line" "_law_on_a_line" s_l_on_a_line a_l_on_a_line d_l_on_a_line
  m_l_on_a_line : mg "_law_on_a_line" = some (.ref a_l_on_a_line)
  y_l_on_a_line : Binds K d_l_on_a_line ps_l_on_a_line []
  a_l_table : Addr
  d_l_table : FuncData
  F_l_table : Fun K "_law_table" "_law_table" s_l_table a_l_table d_l_table
  m_l_table : mg "_law_table" = some (.ref a_l_table)
  y_l_table : Binds K d_l_table ps_l_table []
  a_l_top : Addr
  d_l_top : FuncData
  F_l_top : Fun K "_law_top" "_law_top" s_l_top a_l_top d_l_top
  m_l_top : mg "_law_top" = some (.ref a_l_top)
  y_l_top : Binds K d_l_top ps_l_top []
  a_l_right : Addr
  d_l_right : FuncData
  F_l_right : Fun K "_law_right" "_law_right" s_l_right a_l_right d_l_right
  m_l_right : mg "_law_right" = some (.ref a_l_right)
  y_l_right : Binds K d_l_right ps_l_right []
  a_l_turned : Addr
  d_l_turned : FuncData
  F_l_turned : Fun K "_law_turned" "_law_turned" s_l_turned a_l_turned d_l_turned
  m_l_turned : mg "_law_turned" = some (.ref a_l_turned)
  y_l_turned : Binds K d_l_turned ps_l_turned []
  a_l_round : Addr
  d_l_round : FuncData
  F_l_round : Fun K "_law_round" "_law_round" s_l_round a_l_round d_l_round
  m_l_round : mg "_law_round" = some (.ref a_l_round)
  y_l_round : Binds K d_l_round ps_l_round []
  a_l_votes : Addr
  d_l_votes : FuncData
  F_l_votes : Fun K "_law_votes" "_law_votes" s_l_votes a_l_votes d_l_votes
  m_l_votes : mg "_law_votes" = some (.ref a_l_votes)
  y_l_votes : Binds K d_l_votes ps_l_votes []
  a_law : Addr
  d_law : FuncData
  F_law : Fun K "law" "law" s_law a_law d_law
  m_law : mg "law" = some (.ref a_law)
  y_law : Binds K d_law ps_law []
  b_any : mg "any" = none
  b_bool : mg "bool" = none
  b_int : mg "int" = none
  b_isinstance : mg "isinstance" = none
  b_len : mg "len" = none
  b_list : mg "list" = none
  b_min : mg "min" = none
  b_range : mg "range" = none
  b_set : mg "set" = none
  b_sorted : mg "sorted" = none
  b_sum : mg "sum" = none
  b_tuple : mg "tuple" = none
section
variable {P : Program} {w : World} {K : PySem.W.Frag} {mg : Str → Option Value} {base : Heap}
noncomputable def b_l_draws_1 : FL.Env → Option Out :=
    (seqS (asgS (liftE (p2 dMod (pV 5) (pn dLen (psCons (pV 2) psNil)))) (gN 6))
    (ifS (liftT (tAnd' (tB' (p2 dGe (pIx (pV 2) (pV 6)) (p2 dPow (pC (.int 10)) (pC (.int 18))))) (tB' (p2 dGt (pIx (pV 3) (pV 6)) (pC (.int 0)))))) (seqS (exprS (mtE 4 lAppend (asCons (toE (liftE (p2 dMod (pn dInt (psCons (pIx (pV 3) (pV 6)) psNil)) (pC (.int 1000))))) asNil)))
    (setS 3 (liftE (p2 dDiv (pIx (pV 3) (pV 6)) (pC (.int 1000)))) (toS' 6))) (seqS (asgS (liftE (p2 dMod (pn dInt (psCons (p2 dAdd (p2 dAdd (p2 dMul (pIx (pV 2) (pV 6)) (pC (.int 48271))) (p2 dMul (pV 5) (pC (.int 69621)))) (pC (.int 11))) psNil)) (pC (.int 2147483647)))) (gN 8))
    (exprS (mtE 4 lAppend (asCons (toE (liftE (p2 dMod (pn dInt (psCons (p2 dAdd (p2 dAdd (p2 dMul (pV 8) (pV 8)) (p2 dMul (pC (.int 3)) (pV 8))) (pV 5)) psNil)) (pC (.int 1000003))))) asNil))))))
noncomputable def m_l_draws : List D → Option (D × List D) := fnM 9 2 []
    (seqS (asgS (liftE (pComp [7] (icB (pV 0)) (gN 7) yesC (pn dInt (psCons (pV 7) psNil)))) (gN 2))
    (seqS (ifS (liftT (tB' (p2 dEq (pn dLen (psCons (pV 2) psNil)) (pC (.int 0))))) (exprS (mtE 2 lAppend (asCons (toE (liftE (pC (.int 0)))) asNil))) skipS)
    (seqS (asgS (liftE (pn dList (psCons (pV 2) psNil))) (gN 3))
    (seqS (asgS (liftE (pn mkLst psNil)) (gN 4))
    (seqS (forS (gN 5) b_l_draws_1 (itA rg1 (asCons (toS' 1) asNil)))
    (seqS (exprS (mtE 4 lReverse asNil))
    (retS (mvV 4))))))))
theorem ok_l_draws (T : Tx K mg) : FnOk P w K mg base CX0 1 T.a_l_draws T.d_l_draws ps_l_draws (spF K [] m_l_draws) :=
  fn_ok T.F_l_draws sc_l_draws rfl rfl (by decide) (by decide) fun cdv A outer s H E hr => (dss_cons (ds_setLcC 2 rfl sc_l_draws.nd (dic_b (db_var 0)) (blkOk_by (own := [("cell", 7)]) (N := N_l_draws) (sc := defScope s_l_draws) (by decide +kernel)) (fun _ _ _ _ _ => (dgc_name 7 sc_l_draws.nd)) (fun _ _ _ _ _ => dtc_nil) (fun _ _ _ _ _ => (df_toint rfl T.b_int (dbs_cons (db_var 7) dbs_nil))))
    (dss_cons (ds_if (dte_t (dt_eq (DF.db (df_len rfl T.b_len (dbs_cons (db_var 2) dbs_nil))) (DF.db df_int))) (dss_one (ds_expr (de_append 2 (das_cons (do_e (de_f df_int)) das_nil)))) dss_nil)
    (dss_cons (ds_set 3 sc_l_draws.nd (de_f (df_list rfl T.b_list (dbs_cons (db_var 2) dbs_nil))))
    (dss_cons (ds_set 4 sc_l_draws.nd (de_f (df_lst dbs_nil)))
    (dss_cons (ds_for PassesOwn.never rfl (di_r1 rfl T.b_range (das_cons (do_s 1) das_nil)) (dg_name 5 sc_l_draws.nd) (dss_cons (ds_set 6 sc_l_draws.nd (de_f (df_mod (db_var 5) (DF.db (df_len rfl T.b_len (dbs_cons (db_var 2) dbs_nil))))))
    (dss_one (ds_if (dte_t (DW.dt (dw_and (dt_ge (db_ix (db_var 2) (db_var 6) (fun _ _ => rfl)) (DF.db (df_pow (DF.db df_int) (DF.db df_int)))) (dw_and1 (dt_gt (db_ix (db_var 3) (db_var 6) (fun _ _ => rfl)) (DF.db df_int)))))) (dss_cons (ds_expr (de_append 4 (das_cons (do_e (de_f (df_mod (DF.db (df_toint rfl T.b_int (dbs_cons (db_ix (db_var 3) (db_var 6) (fun _ _ => rfl)) dbs_nil))) (DF.db df_int)))) das_nil)))
    (dss_one (ds_setix 3 (de_f (df_div (db_ix (db_var 3) (db_var 6) (fun _ _ => rfl)) (DF.db df_int))) (do_s 6)))) (dss_cons (ds_set 8 sc_l_draws.nd (de_f (df_mod (DF.db (df_toint rfl T.b_int (dbs_cons (DF.db (df_add (DF.db (df_add (DF.db (df_mul (db_ix (db_var 2) (db_var 6) (fun _ _ => rfl)) (DF.db df_int))) (DF.db (df_mul (db_var 5) (DF.db df_int))))) (DF.db df_int))) dbs_nil))) (DF.db df_int))))
    (dss_one (ds_expr (de_append 4 (das_cons (do_e (de_f (df_mod (DF.db (df_toint rfl T.b_int (dbs_cons (DF.db (df_add (DF.db (df_add (DF.db (df_mul (db_var 8) (db_var 8))) (DF.db (df_mul (DF.db df_int) (db_var 8))))) (db_var 5))) dbs_nil))) (DF.db df_int)))) das_nil)))))))))
    (dss_cons (ds_expr (de_reverse 4))
    (dss_one (ds_ret (de_mv 4)))))))))
noncomputable def b_l_falls_1 : FL.Env → Option Out :=
    (ifS (liftT (tB' (p2 dNe (p2 dLt (pIx (pV 2) (pV 4)) (pIx (pV 2) (p2 dAdd (pV 4) (pC (.int 1))))) (p2 dGe (pV 4) (pV 3))))) (retS (liftE (pC (.bl false)))) skipS)
noncomputable def m_l_falls : List D → Option (D × List D) := fnM 6 2 []
    (seqS (asgS (liftE (pComp [5] (icB (pV 1)) (gN 5) yesC (p2 dIndex (pV 0) (pV 5)))) (gN 2))
    (seqS (asgS (liftE (p2 dIndex (pV 2) (pC (.int 0)))) (gN 3))
    (seqS (forS (gN 4) b_l_falls_1 (itA rg1 (asCons (toE (liftE (p2 dSub (pn dLen (psCons (pV 2) psNil)) (pC (.int 1))))) asNil)))
    (retS (liftE (pC (.bl true)))))))
theorem ok_l_falls (T : Tx K mg) : FnOk P w K mg base CX0 1 T.a_l_falls T.d_l_falls ps_l_falls (spF K [] m_l_falls) :=
  fn_ok T.F_l_falls sc_l_falls rfl rfl (by decide) (by decide) fun cdv A outer s H E hr => (dss_cons (ds_setLcC 2 rfl sc_l_falls.nd (dic_b (db_var 1)) (blkOk_by (own := [("choice", 5)]) (N := N_l_falls) (sc := defScope s_l_falls) (by decide +kernel)) (fun _ _ _ _ _ => (dgc_name 5 sc_l_falls.nd)) (fun _ _ _ _ _ => dtc_nil) (fun _ _ _ _ _ => (df_index (db_var 0) (db_var 5))))
    (dss_cons (ds_set 3 sc_l_falls.nd (de_f (df_index (db_var 2) (DF.db df_int))))
    (dss_cons (ds_for PassesOwn.never rfl (di_r1 rfl T.b_range (das_cons (do_e (de_f (df_sub (DF.db (df_len rfl T.b_len (dbs_cons (db_var 2) dbs_nil))) (DF.db df_int)))) das_nil)) (dg_name 4 sc_l_falls.nd) (dss_one (ds_if (dte_t (dt_ne (DF.db (df_lt (db_ix (db_var 2) (db_var 4) (fun _ _ => rfl)) (db_ix (db_var 2) (DF.db (df_add (db_var 4) (DF.db df_int))) (fun _ _ => rfl)))) (DF.db (df_ge (db_var 4) (db_var 3))))) (dss_one (ds_ret (de_f df_bl))) dss_nil)))
    (dss_one (ds_ret (de_f df_bl))))))
noncomputable def b_l_fits_1 : FL.Env → Option Out :=
    (ifS (liftT (tNot' (tB' (pCall m_l_falls (psCons (pV 2) (psCons (pV 1) psNil)))))) (retS (liftE (pC (.bl false)))) skipS)
noncomputable def m_l_fits : List D → Option (D × List D) := fnM 3 2 []
    (seqS (forS (gN 2) b_l_fits_1 (itE (liftC (pV 0))))
    (retS (liftE (pC (.bl true)))))
theorem ok_l_fits (T : Tx K mg) : FnOk P w K mg base CX0 2 T.a_l_fits T.d_l_fits ps_l_fits (spF K [] m_l_fits) :=
  fn_ok T.F_l_fits sc_l_fits rfl rfl (by decide) (by decide) fun cdv A outer s H E hr => (dss_cons (ds_for PassesOwn.never rfl (di_e (de_b (db_var 0))) (dg_name 2 sc_l_fits.nd) (dss_one (ds_if (dte_t (dt_not (dt_val (DF.db (df_call (ok_l_falls T) (hr.mono (by decide)) rfl T.m_l_falls T.F_l_falls.kp T.y_l_falls pass0 (dbs_cons (db_var 2) (dbs_cons (db_var 1) dbs_nil))))))) (dss_one (ds_ret (de_f df_bl))) dss_nil)))
    (dss_one (ds_ret (de_f df_bl))))
noncomputable def m_l_take : List D → Option (D × List D) := fnM 2 2 [0]
    (seqS (ifS (liftT (tB' (p2 dEq (pn dLen (psCons (pV 0) psNil)) (pC (.int 0))))) (retS (liftE (pC (.int 0)))) skipS)
    (retS (opE2 dMod (toE (opEn dInt (asCons (toE (mtE 0 lPop asNil)) asNil))) (toS' 1))))
theorem ok_l_take (T : Tx K mg) : FnOk P w K mg base CX0 1 T.a_l_take T.d_l_take ps_l_take (spF K [0] m_l_take) :=
  fn_ok T.F_l_take sc_l_take rfl rfl (by decide) (by decide) fun cdv A outer s H E hr => (dss_cons (ds_if (dte_t (dt_eq (DF.db (df_len rfl T.b_len (dbs_cons (db_var 0) dbs_nil))) (DF.db df_int))) (dss_one (ds_ret (de_f df_int))) dss_nil)
    (dss_one (ds_ret (de_mod (do_e (de_toint rfl T.b_int (das_cons (do_e (de_pop 0)) das_nil))) (do_s 1)))))
noncomputable def b_l_order_1 : FL.Env → Option Out :=
    (exprS (mtE 2 lInsert (asCons (toE (callE m_l_take [0] (asCons (toM' 0) (asCons (toE (liftE (p2 dAdd (pn dLen (psCons (pV 2) psNil)) (pC (.int 1))))) asNil)))) (asCons (toE (liftC (pV 3))) asNil))))
noncomputable def m_l_order : List D → Option (D × List D) := fnM 4 2 [0]
    (seqS (asgS (liftE (pn mkLst psNil)) (gN 2))
    (seqS (forS (gN 3) b_l_order_1 (itA rg1 (asCons (toS' 1) asNil)))
    (retS (mvV 2))))
theorem ok_l_order (T : Tx K mg) : FnOk P w K mg base CX0 2 T.a_l_order T.d_l_order ps_l_order (spF K [0] m_l_order) :=
  fn_ok T.F_l_order sc_l_order rfl rfl (by decide) (by decide) fun cdv A outer s H E hr => (dss_cons (ds_set 2 sc_l_order.nd (de_f (df_lst dbs_nil)))
    (dss_cons (ds_for PassesOwn.never rfl (di_r1 rfl T.b_range (das_cons (do_s 1) das_nil)) (dg_name 3 sc_l_order.nd) (dss_one (ds_expr (de_insert 2 (das_cons (do_e (de_call (ok_l_take T) (hr.mono (by decide)) rfl T.m_l_take T.F_l_take.kp T.y_l_take pass0 (das_cons (do_m 0) (das_cons (do_e (de_f (df_add (DF.db (df_len rfl T.b_len (dbs_cons (db_var 2) dbs_nil))) (DF.db df_int)))) das_nil)))) (das_cons (do_e (de_b (db_var 3))) das_nil))))))
    (dss_one (ds_ret (de_mv 2)))))
noncomputable def b_l_peaked_1 : FL.Env → Option Out :=
    (seqS (ifS (liftT (tOr' (tB' (p2 dGe (pV 6) (pn dLen (psCons (pV 1) psNil)))) (tAnd' (tB' (p2 dGt (pV 5) (pC (.int 0)))) (tB' (p2 dEq (p2 dMod (pn dInt (psCons (pV 8) psNil)) (pC (.int 2))) (pC (.int 0))))))) (seqS (asgS (liftE (p2 dSub (pV 5) (pC (.int 1)))) (gN 5))
    (exprS (mtE 7 lAppend (asCons (toE (liftC (pIx (pV 1) (pV 5)))) asNil)))) (seqS (exprS (mtE 7 lAppend (asCons (toE (liftC (pIx (pV 1) (pV 6)))) asNil)))
    (asgS (liftE (p2 dAdd (pV 6) (pC (.int 1)))) (gN 6))))
    (asgS (liftE (p2 dDiv (pV 8) (pC (.int 2)))) (gN 8)))
noncomputable def b_l_peaked_2 : FL.Env → Option Out :=
    (seqS (asgS (callE m_l_take [0] (asCons (toM' 0) (asCons (toE (liftE (pn dLen (psCons (pV 1) psNil)))) asNil))) (gN 5))
    (seqS (asgS (liftE (p2 dAdd (pV 5) (pC (.int 1)))) (gN 6))
    (seqS (asgS (liftE (pn mkLst (psCons (pIx (pV 1) (pV 5)) psNil))) (gN 7))
    (seqS (asgS (callE m_l_take [0] (asCons (toM' 0) (asCons (toE (liftE (pC (.int 1000)))) asNil))) (gN 8))
    (seqS (forS (gN 9) b_l_peaked_1 (itA rg1 (asCons (toE (liftE (p2 dSub (pn dLen (psCons (pV 1) psNil)) (pC (.int 1))))) asNil)))
    (exprS (mtE 3 lAppend (asCons (toE (liftE (pn dTuple (psCons (pV 7) psNil)))) asNil))))))))
noncomputable def m_l_peaked : List D → Option (D × List D) := fnM 10 3 [0]
    (seqS (asgS (liftE (pn mkLst psNil)) (gN 3))
    (seqS (forS (gN 4) b_l_peaked_2 (itA rg1 (asCons (toS' 2) asNil)))
    (retS (liftE (pn dTuple (psCons (pV 3) psNil))))))
theorem ok_l_peaked (T : Tx K mg) : FnOk P w K mg base CX0 2 T.a_l_peaked T.d_l_peaked ps_l_peaked (spF K [0] m_l_peaked) :=
  fn_ok T.F_l_peaked sc_l_peaked rfl rfl (by decide) (by decide) fun cdv A outer s H E hr => (dss_cons (ds_set 3 sc_l_peaked.nd (de_f (df_lst dbs_nil)))
    (dss_cons (ds_for PassesOwn.never rfl (di_r1 rfl T.b_range (das_cons (do_s 2) das_nil)) (dg_name 4 sc_l_peaked.nd) (dss_cons (ds_set 5 sc_l_peaked.nd (de_call (ok_l_take T) (hr.mono (by decide)) rfl T.m_l_take T.F_l_take.kp T.y_l_take pass0 (das_cons (do_m 0) (das_cons (do_e (de_f (df_len rfl T.b_len (dbs_cons (db_var 1) dbs_nil)))) das_nil))))
    (dss_cons (ds_set 6 sc_l_peaked.nd (de_f (df_add (db_var 5) (DF.db df_int))))
    (dss_cons (ds_set 7 sc_l_peaked.nd (de_f (df_lst (dbs_cons (db_ix (db_var 1) (db_var 5) (fun _ _ => rfl)) dbs_nil))))
    (dss_cons (ds_set 8 sc_l_peaked.nd (de_call (ok_l_take T) (hr.mono (by decide)) rfl T.m_l_take T.F_l_take.kp T.y_l_take pass0 (das_cons (do_m 0) (das_cons (do_e (de_f df_int)) das_nil))))
    (dss_cons (ds_for PassesOwn.never rfl (di_r1 rfl T.b_range (das_cons (do_e (de_f (df_sub (DF.db (df_len rfl T.b_len (dbs_cons (db_var 1) dbs_nil))) (DF.db df_int)))) das_nil)) (dg_name 9 sc_l_peaked.nd) (dss_cons (ds_if (dte_t (DW.dt (dw_or (dt_ge (db_var 6) (DF.db (df_len rfl T.b_len (dbs_cons (db_var 1) dbs_nil)))) (dw_or1 (DW.dt (dw_and (dt_gt (db_var 5) (DF.db df_int)) (dw_and1 (dt_eq (DF.db (df_mod (DF.db (df_toint rfl T.b_int (dbs_cons (db_var 8) dbs_nil))) (DF.db df_int))) (DF.db df_int))))))))) (dss_cons (ds_set 5 sc_l_peaked.nd (de_f (df_sub (db_var 5) (DF.db df_int))))
    (dss_one (ds_expr (de_append 7 (das_cons (do_e (de_b (db_ix (db_var 1) (db_var 5) (fun _ _ => rfl)))) das_nil))))) (dss_cons (ds_expr (de_append 7 (das_cons (do_e (de_b (db_ix (db_var 1) (db_var 6) (fun _ _ => rfl)))) das_nil)))
    (dss_one (ds_set 6 sc_l_peaked.nd (de_f (df_add (db_var 6) (DF.db df_int)))))))
    (dss_one (ds_set 8 sc_l_peaked.nd (de_f (df_div (db_var 8) (DF.db df_int)))))))
    (dss_one (ds_expr (de_append 3 (das_cons (do_e (de_f (df_tuple rfl T.b_tuple (dbs_cons (db_var 7) dbs_nil)))) das_nil))))))))))
    (dss_one (ds_ret (de_f (df_tuple rfl T.b_tuple (dbs_cons (db_var 3) dbs_nil)))))))
noncomputable def b_l_same_1 (mr : List D → Option (D × List D)) : FL.Env → Option Out :=
    (ifS (liftT (tNot' (tB' (pCall mr (psCons (pIx (pV 0) (pV 2)) (psCons (pIx (pV 1) (pV 2)) psNil)))))) (retS (liftE (pC (.bl false)))) skipS)
noncomputable def m_l_same : Nat → List D → Option (D × List D)
  | 0 => fun _ => none
  | n + 1 => fnM 3 2 []
    (seqS (ifS (liftT (tB' (p1 (dIsi "bool") (pV 1)))) (retS (andV (liftE (p1 (dIsi "bool") (pV 0))) (liftE (p2 dEq (pV 0) (pV 1))))) skipS)
    (seqS (ifS (liftT (tB' (p1 (dIsi "int") (pV 1)))) (retS (andV (liftE (p1 (dIsi "int") (pV 0))) (andV (notV (liftE (p1 (dIsi "bool") (pV 0)))) (liftE (p2 dEq (pV 0) (pV 1)))))) skipS)
    (seqS (ifS (liftT (tB' (p1 dIsN (pV 1)))) (retS (liftE (p1 dIsN (pV 0)))) skipS)
    (seqS (ifS (liftT (tOr' (tNot' (tB' (p1 (dIsi "tuple") (pV 0)))) (tB' (p2 dNe (pn dLen (psCons (pV 0) psNil)) (pn dLen (psCons (pV 1) psNil)))))) (retS (liftE (pC (.bl false)))) skipS)
    (seqS (forS (gN 2) (b_l_same_1 (m_l_same n)) (itA rg1 (asCons (toE (liftE (pn dLen (psCons (pV 1) psNil)))) asNil)))
    (retS (liftE (pC (.bl true)))))))))
theorem ok_l_same (T : Tx K mg) : ∀ n : Nat, FnOk P w K mg base CX0 (1 + n) T.a_l_same T.d_l_same ps_l_same (spF K [] (m_l_same n))
  | 0 => fn_no fun _ => rfl
  | n + 1 => by
    have ih := ok_l_same T n
    exact fn_ok T.F_l_same sc_l_same rfl rfl (by decide) (by decide) fun cdv A outer s H E hr => (dss_cons (ds_if (dte_t (dt_val (DF.db (df_isi rfl T.b_isinstance rfl T.b_bool (by decide +kernel) (db_var 1))))) (dss_one (ds_ret (de_and (de_f (df_isi rfl T.b_isinstance rfl T.b_bool (by decide +kernel) (db_var 0))) (de_one (de_f (df_eq (db_var 0) (db_var 1))))))) dss_nil)
    (dss_cons (ds_if (dte_t (dt_val (DF.db (df_isi rfl T.b_isinstance rfl T.b_int (by decide +kernel) (db_var 1))))) (dss_one (ds_ret (de_and (de_f (df_isi rfl T.b_isinstance rfl T.b_int (by decide +kernel) (db_var 0))) (de_and (de_not (de_f (df_isi rfl T.b_isinstance rfl T.b_bool (by decide +kernel) (db_var 0)))) (de_one (de_f (df_eq (db_var 0) (db_var 1)))))))) dss_nil)
    (dss_cons (ds_if (dte_t (dt_isN (db_var 1))) (dss_one (ds_ret (de_f (df_isN (db_var 0))))) dss_nil)
    (dss_cons (ds_if (dte_t (DW.dt (dw_or (dt_not (dt_val (DF.db (df_isi rfl T.b_isinstance rfl T.b_tuple (by decide +kernel) (db_var 0))))) (dw_or1 (dt_ne (DF.db (df_len rfl T.b_len (dbs_cons (db_var 0) dbs_nil))) (DF.db (df_len rfl T.b_len (dbs_cons (db_var 1) dbs_nil)))))))) (dss_one (ds_ret (de_f df_bl))) dss_nil)
    (dss_cons (ds_for PassesOwn.never rfl (di_r1 rfl T.b_range (das_cons (do_e (de_f (df_len rfl T.b_len (dbs_cons (db_var 1) dbs_nil)))) das_nil)) (dg_name 2 sc_l_same.nd) (dss_one (ds_if (dte_t (dt_not (dt_val (DF.db (df_call ih (hr.mono (Nat.le_refl _)) rfl T.m_l_same T.F_l_same.kp T.y_l_same pass0 (dbs_cons (db_ix (db_var 0) (db_var 2) (fun _ _ => rfl)) (dbs_cons (db_ix (db_var 1) (db_var 2) (fun _ _ => rfl)) dbs_nil))))))) (dss_one (ds_ret (de_f df_bl))) dss_nil)))
    (dss_one (ds_ret (de_f df_bl))))))))
noncomputable def m_beats : List D → Option (D × List D) := fnM 5 3 []
    (seqS (asgS (liftE (pn dLen (psCons (pComp [4] (icB (pV 0)) (gN 4) (tB' (p2 dLt (p2 dIndex (pV 4) (pV 1)) (p2 dIndex (pV 4) (pV 2)))) (pC (.int 1))) psNil))) (gN 3))
    (retS (liftE (p2 dGt (p2 dMul (pC (.int 2)) (pV 3)) (pn dLen (psCons (pV 0) psNil))))))
theorem ok_beats (T : Tx K mg) : FnOk P w K mg base CX0 1 T.a_beats T.d_beats ps_beats (spF K [] m_beats) :=
  fn_ok T.F_beats sc_beats rfl rfl (by decide) (by decide) fun cdv A outer s H E hr => (dss_cons (ds_set 3 sc_beats.nd (de_f (df_len rfl T.b_len (dbs_cons (DF.db (df_comp rfl sc_beats.nd (dic_b (db_var 0)) (blkOk_by (own := [("vote", 4)]) (N := N_beats) (sc := defScope s_beats) (by decide +kernel)) (fun _ _ _ _ _ => (dgc_name 4 sc_beats.nd)) (fun _ _ _ _ _ => (dtc_one (dt_lt (DF.db (df_index (db_var 4) (db_var 1))) (DF.db (df_index (db_var 4) (db_var 2)))))) (fun _ _ _ _ _ => df_int))) dbs_nil))))
    (dss_one (ds_ret (de_f (df_gt (DF.db (df_mul (DF.db df_int) (db_var 3))) (DF.db (df_len rfl T.b_len (dbs_cons (db_var 0) dbs_nil))))))))
noncomputable def m_falls_from : List D → Option (D × List D) := fnM 7 2 []
    (seqS (asgS (liftE (pComp [6] (icB (pV 1)) (gN 6) yesC (p2 dIndex (pV 0) (pV 6)))) (gN 2))
    (seqS (asgS (liftE (p2 dIndex (pV 2) (pC (.int 0)))) (gN 3))
    (seqS (parS 4 5 (asCons (toE (liftE (pCut (pV 2) pNo (pSo (p2 dAdd (pV 3) (pC (.int 1))))))) (asCons (toE (liftE (pCut (pV 2) (pSo (pV 3)) pNo))) asNil)))
    (retS (andV (liftE (p2 dEqX (pV 4) (p1 dRev (pn dSorted (psCons (pV 4) psNil))))) (liftE (p2 dEqX (pV 5) (pn dSorted (psCons (pV 5) psNil)))))))))
theorem ok_falls_from (T : Tx K mg) : FnOk P w K mg base CX0 1 T.a_falls_from T.d_falls_from ps_falls_from (spF K [] m_falls_from) :=
  fn_ok T.F_falls_from sc_falls_from rfl rfl (by decide) (by decide) fun cdv A outer s H E hr => (dss_cons (ds_setLcC 2 rfl sc_falls_from.nd (dic_b (db_var 1)) (blkOk_by (own := [("choice", 6)]) (N := N_falls_from) (sc := defScope s_falls_from) (by decide +kernel)) (fun _ _ _ _ _ => (dgc_name 6 sc_falls_from.nd)) (fun _ _ _ _ _ => dtc_nil) (fun _ _ _ _ _ => (df_index (db_var 0) (db_var 6))))
    (dss_cons (ds_set 3 sc_falls_from.nd (de_f (df_index (db_var 2) (DF.db df_int))))
    (dss_cons (ds_par 4 5 rfl sc_falls_from.nd (das_cons (do_e (de_f (df_cut (db_var 2) dpo_no (dpo_so (DF.db (df_add (db_var 3) (DF.db df_int))))))) (das_cons (do_e (de_f (df_cut (db_var 2) (dpo_so (db_var 3)) dpo_no))) das_nil)))
    (dss_one (ds_ret (de_and (de_f (df_eqX hr (db_var 4) (DF.db (df_rev (DF.db (df_sorted rfl T.b_sorted (dbs_cons (db_var 4) dbs_nil))))))) (de_one (de_f (df_eqX hr (db_var 5) (DF.db (df_sorted rfl T.b_sorted (dbs_cons (db_var 5) dbs_nil))))))))))))
noncomputable def b_fits_line_1 : FL.Env → Option Out :=
    (ifS (liftT (tNot' (tB' (pCall m_falls_from (psCons (pV 2) (psCons (pV 1) psNil)))))) (retS (liftE (pC (.bl false)))) skipS)
noncomputable def m_fits_line : List D → Option (D × List D) := fnM 3 2 []
    (seqS (forS (gN 2) b_fits_line_1 (itE (liftC (pV 0))))
    (retS (liftE (pC (.bl true)))))
theorem ok_fits_line (T : Tx K mg) : FnOk P w K mg base CX0 2 T.a_fits_line T.d_fits_line ps_fits_line (spF K [] m_fits_line) :=
  fn_ok T.F_fits_line sc_fits_line rfl rfl (by decide) (by decide) fun cdv A outer s H E hr => (dss_cons (ds_for PassesOwn.never rfl (di_e (de_b (db_var 0))) (dg_name 2 sc_fits_line.nd) (dss_one (ds_if (dte_t (dt_not (dt_val (DF.db (df_call (ok_falls_from T) (hr.mono (by decide)) rfl T.m_falls_from T.F_falls_from.kp T.y_falls_from pass0 (dbs_cons (db_var 2) (dbs_cons (db_var 1) dbs_nil))))))) (dss_one (ds_ret (de_f df_bl))) dss_nil)))
    (dss_one (ds_ret (de_f df_bl))))
noncomputable def m_beaten_by : List D → Option (D × List D) := fnM 4 2 []
    (retS (liftE (pComp [2] (icA rg1 (psCons (pV 1) psNil)) (gN 2) yesC (pComp [3] (icA rg1 (psCons (pV 1) psNil)) (gN 3) (tAnd' (tB' (p2 dNe (pV 3) (pV 2))) (tB' (pCall m_beats (psCons (pV 0) (psCons (pV 2) (psCons (pV 3) psNil)))))) (freeC (pV 3))))))
theorem ok_beaten_by (T : Tx K mg) : FnOk P w K mg base CX0 2 T.a_beaten_by T.d_beaten_by ps_beaten_by (spF K [] m_beaten_by) :=
  fn_ok T.F_beaten_by sc_beaten_by rfl rfl (by decide) (by decide) fun cdv A outer s H E hr => (dss_one (ds_ret (de_f (df_comp rfl sc_beaten_by.nd (dic_r1 rfl T.b_range (dbs_cons (db_var 1) dbs_nil)) (blkOk_by (own := [("one", 2)]) (N := N_beaten_by) (sc := defScope s_beaten_by) (by decide +kernel)) (fun _ _ _ _ _ => (dgc_name 2 sc_beaten_by.nd)) (fun _ _ _ _ _ => dtc_nil) (fun _ _ _ _ _ => (df_comp rfl sc_beaten_by.nd (dic_r1 rfl T.b_range (dbs_cons (db_var 1) dbs_nil)) (blkOk_by (own := [("other", 3)]) (N := N_beaten_by) (by exact Eq.refl true)) (fun _ _ _ _ _ => (dgc_name 3 sc_beaten_by.nd)) (fun _ _ _ _ _ => (dtc_one (DW.dt (dw_and (dt_ne (db_var 3) (db_var 2)) (dw_and1 (dt_val (DF.db (df_call (ok_beats T) (hr.mono (by decide)) rfl T.m_beats T.F_beats.kp T.y_beats pass0 (dbs_cons (db_var 0) (dbs_cons (db_var 2) (dbs_cons (db_var 3) dbs_nil))))))))))) (fun _ _ _ _ _ => (df_free (db_var 3)))))))))
noncomputable def m_head : List D → Option (D × List D) := fnM 5 2 []
    (seqS (asgS (liftE (pCall m_beaten_by (psCons (pV 0) (psCons (pV 1) psNil)))) (gN 2))
    (seqS (asgS (liftE (pComp [4] (icA rg1 (psCons (pV 1) psNil)) (gN 4) (tB' (p2 dEq (pn dLen (psCons (pIx (pV 2) (pV 4)) psNil)) (p2 dSub (pV 1) (pC (.int 1))))) (freeC (pV 4)))) (gN 3))
    (retS (liftC (pIf (tB' (p2 dGt (pn dLen (psCons (pV 3) psNil)) (pC (.int 0)))) (pIx (pV 3) (pC (.int 0))) (pC .non))))))
theorem ok_head (T : Tx K mg) : FnOk P w K mg base CX0 3 T.a_head T.d_head ps_head (spF K [] m_head) :=
  fn_ok T.F_head sc_head rfl rfl (by decide) (by decide) fun cdv A outer s H E hr => (dss_cons (ds_set 2 sc_head.nd (de_f (df_call (ok_beaten_by T) (hr.mono (by decide)) rfl T.m_beaten_by T.F_beaten_by.kp T.y_beaten_by pass0 (dbs_cons (db_var 0) (dbs_cons (db_var 1) dbs_nil)))))
    (dss_cons (ds_setLcC 3 rfl sc_head.nd (dic_r1 rfl T.b_range (dbs_cons (db_var 1) dbs_nil)) (blkOk_by (own := [("one", 4)]) (N := N_head) (sc := defScope s_head) (by decide +kernel)) (fun _ _ _ _ _ => (dgc_name 4 sc_head.nd)) (fun _ _ _ _ _ => (dtc_one (dt_eq (DF.db (df_len rfl T.b_len (dbs_cons (db_ix (db_var 2) (db_var 4) (fun _ _ => rfl)) dbs_nil))) (DF.db (df_sub (db_var 1) (DF.db df_int)))))) (fun _ _ _ _ _ => (df_free (db_var 4))))
    (dss_one (ds_ret (de_b (db_if (dt_gt (DF.db (df_len rfl T.b_len (dbs_cons (db_var 3) dbs_nil))) (DF.db df_int)) (db_ix (db_var 3) (DF.db df_int) (fun _ _ => rfl)) (DF.db df_non)))))))
noncomputable def m_middle_choice : List D → Option (D × List D) := fnM 4 2 []
    (seqS (asgS (liftE (pn dSorted (psCons (pComp [3] (icB (pV 0)) (gN 3) yesC (p2 dIndex (pV 1) (pIx (pV 3) (pC (.int 0))))) psNil))) (gN 2))
    (retS (liftC (pIx (pV 1) (pIx (pV 2) (p2 dDiv (pn dLen (psCons (pV 2) psNil)) (pC (.int 2))))))))
theorem ok_middle_choice (T : Tx K mg) : FnOk P w K mg base CX0 1 T.a_middle_choice T.d_middle_choice ps_middle_choice (spF K [] m_middle_choice) :=
  fn_ok T.F_middle_choice sc_middle_choice rfl rfl (by decide) (by decide) fun cdv A outer s H E hr => (dss_cons (ds_set 2 sc_middle_choice.nd (de_f (df_sorted rfl T.b_sorted (dbs_cons (DF.db (df_comp rfl sc_middle_choice.nd (dic_b (db_var 0)) (blkOk_by (own := [("vote", 3)]) (N := N_middle_choice) (sc := defScope s_middle_choice) (by decide +kernel)) (fun _ _ _ _ _ => (dgc_name 3 sc_middle_choice.nd)) (fun _ _ _ _ _ => dtc_nil) (fun _ _ _ _ _ => (df_index (db_var 1) (db_ix (db_var 3) (DF.db df_int) (fun _ _ => rfl)))))) dbs_nil))))
    (dss_one (ds_ret (de_b (db_ix (db_var 1) (db_ix (db_var 2) (DF.db (df_div (DF.db (df_len rfl T.b_len (dbs_cons (db_var 2) dbs_nil))) (DF.db df_int))) (fun _ _ => rfl)) (fun _ _ => rfl))))))
noncomputable def b_steps_back_1 : FL.Env → Option Out :=
    (setS 2 (liftE (p2 dAdd (pIx (pV 2) (pIx (pV 3) (pC (.int 0)))) (pC (.int 1)))) (toS' 5))
noncomputable def b_steps_back_2 : FL.Env → Option Out :=
    (seqS (asgS (liftE (pComp [5] (icA rg1 (psCons (pn dLen (psCons (pV 0) psNil)) psNil)) (gN 5) (tAnd' (tB' (p1 dIsN (pIx (pV 2) (pV 5)))) (tB' (pn dAny (psCons (pComp [6] (icB (pIx (pV 0) (pV 5))) (gN 6) yesC (p2 dIn (pV 6) (pV 3))) psNil)))) (freeC (pV 5)))) (gN 4))
    (seqS (forL 4 (gN 5) b_steps_back_1)
    (asgS (mvV 4) (gN 3))))
noncomputable def m_steps_back : List D → Option (D × List D) := fnM 7 2 []
    (seqS (asgS (liftE (p2 dMul (pn mkLst (psCons (pC .non) psNil)) (pn dLen (psCons (pV 0) psNil)))) (gN 2))
    (seqS (setS 2 (liftE (pC (.int 0))) (toS' 1))
    (seqS (asgS (liftE (pn mkLst (psCons (pV 1) psNil))) (gN 3))
    (seqS (whS (liftT (tB' (p2 dGt (pn dLen (psCons (pV 3) psNil)) (pC (.int 0))))) b_steps_back_2)
    (retS (mvV 2))))))
theorem ok_steps_back (T : Tx K mg) : FnOk P w K mg base CX0 1 T.a_steps_back T.d_steps_back ps_steps_back (spF K [] m_steps_back) :=
  fn_ok T.F_steps_back sc_steps_back rfl rfl (by decide) (by decide) fun cdv A outer s H E hr => (dss_cons (ds_set 2 sc_steps_back.nd (de_f (df_mul (DF.db (df_lst (dbs_cons (DF.db df_non) dbs_nil))) (DF.db (df_len rfl T.b_len (dbs_cons (db_var 0) dbs_nil))))))
    (dss_cons (ds_setix 2 (de_f df_int) (do_s 1))
    (dss_cons (ds_set 3 sc_steps_back.nd (de_f (df_lst (dbs_cons (db_var 1) dbs_nil))))
    (dss_cons (ds_while PassesOwn.never (dte_t (dt_gt (DF.db (df_len rfl T.b_len (dbs_cons (db_var 3) dbs_nil))) (DF.db df_int))) (dss_cons (ds_setLcC 4 rfl sc_steps_back.nd (dic_r1 rfl T.b_range (dbs_cons (DF.db (df_len rfl T.b_len (dbs_cons (db_var 0) dbs_nil))) dbs_nil)) (blkOk_by (own := [("one", 5)]) (N := N_steps_back) (sc := defScope s_steps_back) (by decide +kernel)) (fun _ _ _ _ _ => (dgc_name 5 sc_steps_back.nd)) (fun _ _ _ _ _ => (dtc_one (DW.dt (dw_and (dt_isN (db_ix (db_var 2) (db_var 5) (fun _ _ => rfl))) (dw_and1 (dt_val (DF.db (df_any rfl rfl T.b_any (dbs_cons (DF.db (df_comp rfl sc_steps_back.nd (dic_b (db_ix (db_var 0) (db_var 5) (fun _ _ => rfl))) (blkOk_by (own := [("at", 6)]) (N := N_steps_back) (by exact Eq.refl true)) (fun _ _ _ _ _ => (dgc_name 6 sc_steps_back.nd)) (fun _ _ _ _ _ => dtc_nil) (fun _ _ _ _ _ => (df_in (db_var 6) (db_var 3))))) dbs_nil))))))))) (fun _ _ _ _ _ => (df_free (db_var 5))))
    (dss_cons (ds_forL 4 PassesOwn.never rfl (dg_name 5 sc_steps_back.nd) (dss_one (ds_setix 2 (de_f (df_add (db_ix (db_var 2) (db_ix (db_var 3) (DF.db df_int) (fun _ _ => rfl)) (fun _ _ => rfl)) (DF.db df_int))) (do_s 5))))
    (dss_one (ds_set 3 sc_steps_back.nd (de_mv 4))))))
    (dss_one (ds_ret (de_mv 2)))))))
noncomputable def b_ring_from_1 : FL.Env → Option Out :=
    (exprS (mtE 4 lAppend (asCons (toE (liftC (pIx (pComp [6] (icB (pIx (pV 0) (pIx (pV 4) (p1 dNeg (pC (.int 1)))))) (gN 6) (tB' (p2 dEq (pIx (pV 2) (pV 6)) (pV 5))) (freeC (pV 6))) (pC (.int 0))))) asNil)))
noncomputable def m_ring_from : List D → Option (D × List D) := fnM 7 2 []
    (seqS (asgS (liftE (pCall m_steps_back (psCons (pV 0) (psCons (pV 1) psNil)))) (gN 2))
    (seqS (asgS (liftE (pComp [6] (icB (pIx (pV 0) (pV 1))) (gN 6) (tB' (p1 dNotN (pIx (pV 2) (pV 6)))) (freeC (pV 6)))) (gN 3))
    (seqS (ifS (liftT (tB' (p2 dEq (pn dLen (psCons (pV 3) psNil)) (pC (.int 0))))) (retS (liftE (pC .non))) skipS)
    (seqS (asgS (liftE (pn mkLst (psCons (pV 1) psNil))) (gN 4))
    (seqS (forS (gN 5) b_ring_from_1 (itA rg3 (asCons (toE (liftE (pn dMin (psCons (pComp [6] (icB (pV 3)) (gN 6) yesC (freeC (pIx (pV 2) (pV 6)))) psNil)))) (asCons (toE (liftE (pC (.int 0)))) (asCons (toE (liftE (p1 dNeg (pC (.int 1))))) asNil)))))
    (retS (liftE (pn dTuple (psCons (pV 4) psNil)))))))))
theorem ok_ring_from (T : Tx K mg) : FnOk P w K mg base CX0 2 T.a_ring_from T.d_ring_from ps_ring_from (spF K [] m_ring_from) :=
  fn_ok T.F_ring_from sc_ring_from rfl rfl (by decide) (by decide) fun cdv A outer s H E hr => (dss_cons (ds_set 2 sc_ring_from.nd (de_f (df_call (ok_steps_back T) (hr.mono (by decide)) rfl T.m_steps_back T.F_steps_back.kp T.y_steps_back pass0 (dbs_cons (db_var 0) (dbs_cons (db_var 1) dbs_nil)))))
    (dss_cons (ds_setLcC 3 rfl sc_ring_from.nd (dic_b (db_ix (db_var 0) (db_var 1) (fun _ _ => rfl))) (blkOk_by (own := [("other", 6)]) (N := N_ring_from) (sc := defScope s_ring_from) (by decide +kernel)) (fun _ _ _ _ _ => (dgc_name 6 sc_ring_from.nd)) (fun _ _ _ _ _ => (dtc_one (dt_notN (db_ix (db_var 2) (db_var 6) (fun _ _ => rfl))))) (fun _ _ _ _ _ => (df_free (db_var 6))))
    (dss_cons (ds_if (dte_t (dt_eq (DF.db (df_len rfl T.b_len (dbs_cons (db_var 3) dbs_nil))) (DF.db df_int))) (dss_one (ds_ret (de_f df_non))) dss_nil)
    (dss_cons (ds_set 4 sc_ring_from.nd (de_f (df_lst (dbs_cons (db_var 1) dbs_nil))))
    (dss_cons (ds_for PassesOwn.never rfl (di_r3 rfl T.b_range (das_cons (do_e (de_f (df_min rfl rfl T.b_min (dbs_cons (DF.db (df_comp rfl sc_ring_from.nd (dic_b (db_var 3)) (blkOk_by (own := [("other", 6)]) (N := N_ring_from) (sc := defScope s_ring_from) (by decide +kernel)) (fun _ _ _ _ _ => (dgc_name 6 sc_ring_from.nd)) (fun _ _ _ _ _ => dtc_nil) (fun _ _ _ _ _ => (df_free (db_ix (db_var 2) (db_var 6) (fun _ _ => rfl)))))) dbs_nil)))) (das_cons (do_e (de_f df_int)) (das_cons (do_e (de_f (df_neg (DF.db df_int)))) das_nil)))) (dg_name 5 sc_ring_from.nd) (dss_one (ds_expr (de_append 4 (das_cons (do_e (de_b (db_ix (DF.db (df_comp rfl sc_ring_from.nd (dic_b (db_ix (db_var 0) (db_ix (db_var 4) (DF.db (df_neg (DF.db df_int))) (fun _ _ => rfl)) (fun _ _ => rfl))) (blkOk_by (own := [("other", 6)]) (N := N_ring_from) (sc := defScope s_ring_from) (by decide +kernel)) (fun _ _ _ _ _ => (dgc_name 6 sc_ring_from.nd)) (fun _ _ _ _ _ => (dtc_one (dt_eq (db_ix (db_var 2) (db_var 6) (fun _ _ => rfl)) (db_var 5)))) (fun _ _ _ _ _ => (df_free (db_var 6))))) (DF.db df_int) (fun _ _ => rfl)))) das_nil)))))
    (dss_one (ds_ret (de_f (df_tuple rfl T.b_tuple (dbs_cons (db_var 4) dbs_nil))))))))))
noncomputable def m_ring_of_votes : List D → Option (D × List D) := fnM 7 2 []
    (seqS (asgS (liftE (pCall m_beaten_by (psCons (pV 0) (psCons (pV 1) psNil)))) (gN 2))
    (seqS (asgS (liftE (pComp [5] (icA rg1 (psCons (pV 1) psNil)) (gN 5) yesC (pCall m_ring_from (psCons (pV 2) (psCons (pV 5) psNil))))) (gN 3))
    (seqS (asgS (liftE (pn dSorted (psCons (pComp [6] (icB (pV 3)) (gN 6) (tB' (p1 dNotN (pV 6))) (pn mkTup (psCons (pn dLen (psCons (pV 6) psNil)) (psCons (pV 6) psNil)))) psNil))) (gN 4))
    (retS (liftC (pIf (tB' (p2 dGt (pn dLen (psCons (pV 4) psNil)) (pC (.int 0)))) (pIx (pIx (pV 4) (pC (.int 0))) (pC (.int 1))) (pC .non)))))))
theorem ok_ring_of_votes (T : Tx K mg) : FnOk P w K mg base CX0 3 T.a_ring_of_votes T.d_ring_of_votes ps_ring_of_votes (spF K [] m_ring_of_votes) :=
  fn_ok T.F_ring_of_votes sc_ring_of_votes rfl rfl (by decide) (by decide) fun cdv A outer s H E hr => (dss_cons (ds_set 2 sc_ring_of_votes.nd (de_f (df_call (ok_beaten_by T) (hr.mono (by decide)) rfl T.m_beaten_by T.F_beaten_by.kp T.y_beaten_by pass0 (dbs_cons (db_var 0) (dbs_cons (db_var 1) dbs_nil)))))
    (dss_cons (ds_setLcC 3 rfl sc_ring_of_votes.nd (dic_r1 rfl T.b_range (dbs_cons (db_var 1) dbs_nil)) (blkOk_by (own := [("start", 5)]) (N := N_ring_of_votes) (sc := defScope s_ring_of_votes) (by decide +kernel)) (fun _ _ _ _ _ => (dgc_name 5 sc_ring_of_votes.nd)) (fun _ _ _ _ _ => dtc_nil) (fun _ _ _ _ _ => (df_call (ok_ring_from T) (hr.mono (by decide)) rfl T.m_ring_from T.F_ring_from.kp T.y_ring_from pass0 (dbs_cons (db_var 2) (dbs_cons (db_var 5) dbs_nil)))))
    (dss_cons (ds_set 4 sc_ring_of_votes.nd (de_f (df_sorted rfl T.b_sorted (dbs_cons (DF.db (df_comp rfl sc_ring_of_votes.nd (dic_b (db_var 3)) (blkOk_by (own := [("one", 6)]) (N := N_ring_of_votes) (sc := defScope s_ring_of_votes) (by decide +kernel)) (fun _ _ _ _ _ => (dgc_name 6 sc_ring_of_votes.nd)) (fun _ _ _ _ _ => (dtc_one (dt_notN (db_var 6)))) (fun _ _ _ _ _ => (df_tup (dbs_cons (DF.db (df_len rfl T.b_len (dbs_cons (db_var 6) dbs_nil))) (dbs_cons (db_var 6) dbs_nil)))))) dbs_nil))))
    (dss_one (ds_ret (de_b (db_if (dt_gt (DF.db (df_len rfl T.b_len (dbs_cons (db_var 4) dbs_nil))) (DF.db df_int)) (db_ix (db_ix (db_var 4) (DF.db df_int) (fun _ _ => rfl)) (DF.db df_int) (fun _ _ => rfl)) (DF.db df_non))))))))
noncomputable def b_top_1 : FL.Env → Option Out :=
    (seqS (asgS (liftE (pComp2 [8, 9] [9] (icB (pV 6)) (gN 8) yesC (icA rg1 (psCons (pV 1) psNil)) (gN 9) (tAnd' (tB' (p2 dNin (pV 9) (pIx (pV 2) (pV 8)))) (tB' (p2 dNin (pV 9) (pV 5)))) (freeC (pV 9)))) (gN 7))
    (seqS (asgS (liftE (pn dSrtS (psCons (pV 7) psNil))) (gN 6))
    (augLS 5 (pV 6))))
noncomputable def b_top_2 : FL.Env → Option Out :=
    (seqS (asgS (liftE (pn mkLst (psCons (pV 4) psNil))) (gN 5))
    (seqS (asgS (liftE (pn mkLst (psCons (pV 4) psNil))) (gN 6))
    (seqS (whS (liftT (tB' (p2 dGt (pn dLen (psCons (pV 6) psNil)) (pC (.int 0))))) b_top_1)
    (ifS (liftT (tOr' (tB' (p1 dIsN (pV 3))) (tB' (p2 dLt (pn dLen (psCons (pV 5) psNil)) (pn dLen (psCons (pV 3) psNil)))))) (asgS (liftE (pn dSorted (psCons (pV 5) psNil))) (gN 3)) skipS))))
noncomputable def m_top : List D → Option (D × List D) := fnM 10 2 []
    (seqS (asgS (liftE (pCall m_beaten_by (psCons (pV 0) (psCons (pV 1) psNil)))) (gN 2))
    (seqS (asgS (liftE (pC .non)) (gN 3))
    (seqS (forS (gN 4) b_top_2 (itA rg1 (asCons (toS' 1) asNil)))
    (retS (liftE (pn dTuple (psCons (pV 3) psNil)))))))
theorem ok_top (T : Tx K mg) : FnOk P w K mg base CX0 3 T.a_top T.d_top ps_top (spF K [] m_top) :=
  fn_ok T.F_top sc_top rfl rfl (by decide) (by decide) fun cdv A outer s H E hr => (dss_cons (ds_set 2 sc_top.nd (de_f (df_call (ok_beaten_by T) (hr.mono (by decide)) rfl T.m_beaten_by T.F_beaten_by.kp T.y_beaten_by pass0 (dbs_cons (db_var 0) (dbs_cons (db_var 1) dbs_nil)))))
    (dss_cons (ds_set 3 sc_top.nd (de_f df_non))
    (dss_cons (ds_for PassesOwn.never rfl (di_r1 rfl T.b_range (das_cons (do_s 1) das_nil)) (dg_name 4 sc_top.nd) (dss_cons (ds_set 5 sc_top.nd (de_f (df_lst (dbs_cons (db_var 4) dbs_nil))))
    (dss_cons (ds_set 6 sc_top.nd (de_f (df_lst (dbs_cons (db_var 4) dbs_nil))))
    (dss_cons (ds_while PassesOwn.never (dte_t (dt_gt (DF.db (df_len rfl T.b_len (dbs_cons (db_var 6) dbs_nil))) (DF.db df_int))) (dss_cons (ds_setLc2C 7 rfl sc_top.nd (dic_b (db_var 6)) (blkOk_by (own := [("one", 8), ("other", 9)]) (N := N_top) (sc := defScope s_top) (by decide +kernel)) (by decide) (fun _ _ _ _ _ => (dgc_name 8 sc_top.nd)) (fun _ _ _ _ _ => dtc_nil) (fun _ _ _ _ _ => (dit_r1 rfl T.b_range (dbs_cons (db_var 1) dbs_nil))) (fun _ _ _ _ _ => (dgc_name 9 sc_top.nd)) (fun _ _ _ _ _ => (dtc_one (DW.dt (dw_and (dt_nin (db_var 9) (db_ix (db_var 2) (db_var 8) (fun _ _ => rfl))) (dw_and1 (dt_nin (db_var 9) (db_var 5))))))) (fun _ _ _ _ _ => (df_free (db_var 9))))
    (dss_cons (ds_set 6 sc_top.nd (de_f (df_srtS rfl rfl T.b_sorted rfl T.b_set (dbs_cons (db_var 7) dbs_nil))))
    (dss_one (ds_augext 5 sc_top.nd (db_var 6))))))
    (dss_one (ds_if (dte_t (DW.dt (dw_or (dt_isN (db_var 3)) (dw_or1 (dt_lt (DF.db (df_len rfl T.b_len (dbs_cons (db_var 5) dbs_nil))) (DF.db (df_len rfl T.b_len (dbs_cons (db_var 3) dbs_nil)))))))) (dss_one (ds_set 3 sc_top.nd (de_f (df_sorted rfl T.b_sorted (dbs_cons (db_var 5) dbs_nil))))) dss_nil))))))
    (dss_one (ds_ret (de_f (df_tuple rfl T.b_tuple (dbs_cons (db_var 3) dbs_nil))))))))
noncomputable def b_l_on_a_line_1 : FL.Env → Option Out :=
    (ifS (liftT (tOr' (tNot' (tB' (pCall (m_l_same 8) (psCons (pCall m_fits_line (psCons (pV 4) (psCons (pn dTuple (psCons (pV 8) psNil)) psNil))) (psCons (pC (.bl true)) psNil))))) (tNot' (tB' (pCall (m_l_same 8) (psCons (pCall m_middle_choice (psCons (pV 4) (psCons (pn dTuple (psCons (pV 8) psNil)) psNil))) (psCons (pV 7) psNil))))))) (retS (liftE (pC (.bl false)))) skipS)
noncomputable def b_l_on_a_line_2 : FL.Env → Option Out :=
    (seqS (ifS (liftT (tAnd' (tB' (p2 dNe (pV 9) (pV 7))) (tNot' (tB' (pCall (m_l_same 8) (psCons (pCall m_beats (psCons (pV 4) (psCons (pV 7) (psCons (pV 9) psNil)))) (psCons (pC (.bl true)) psNil))))))) (retS (liftE (pC (.bl false)))) skipS)
    (ifS (liftT (tAnd' (tB' (p2 dNe (pV 9) (pV 7))) (tNot' (tB' (pCall (m_l_same 8) (psCons (pCall m_beats (psCons (pV 4) (psCons (pV 9) (psCons (pV 7) psNil)))) (psCons (pC (.bl false)) psNil))))))) (retS (liftE (pC (.bl false)))) skipS))
noncomputable def m_l_on_a_line : List D → Option (D × List D) := fnM 11 3 [0]
    (seqS (asgS (callE m_l_order [0] (asCons (toM' 0) (asCons (toS' 1) asNil))) (gN 3))
    (seqS (asgS (callE m_l_peaked [0] (asCons (toM' 0) (asCons (toS' 3) (asCons (toS' 2) asNil)))) (gN 4))
    (seqS (asgS (liftE (pn dList (psCons (pV 3) psNil))) (gN 5))
    (seqS (exprS (mtE 5 lReverse asNil))
    (seqS (asgS (liftE (pn dSorted (psCons (pComp [10] (icB (pV 4)) (gN 10) yesC (p2 dIndex (pV 3) (pIx (pV 10) (pC (.int 0))))) psNil))) (gN 6))
    (seqS (asgS (liftC (pIx (pV 3) (pIx (pV 6) (p2 dDiv (pV 2) (pC (.int 2)))))) (gN 7))
    (seqS (forC (gN 8) b_l_on_a_line_1 (dispE .lst (asCons (toE (mvV 3)) (asCons (toE (mvV 5)) asNil))))
    (seqS (forS (gN 9) b_l_on_a_line_2 (itA rg1 (asCons (toS' 1) asNil)))
    (seqS (ifS (liftT (tOr' (tNot' (tB' (pCall (m_l_same 8) (psCons (pCall m_head (psCons (pV 4) (psCons (pV 1) psNil))) (psCons (pV 7) psNil))))) (tNot' (tB' (pCall (m_l_same 8) (psCons (pCall m_top (psCons (pV 4) (psCons (pV 1) psNil))) (psCons (pn mkTup (psCons (pV 7) psNil)) psNil))))))) (retS (liftE (pC (.bl false)))) skipS)
    (retS (liftE (p1 dIsN (pCall m_ring_of_votes (psCons (pV 4) (psCons (pV 1) psNil)))))))))))))))
theorem ok_l_on_a_line (T : Tx K mg) : FnOk P w K mg base CX0 10 T.a_l_on_a_line T.d_l_on_a_line ps_l_on_a_line (spF K [0] m_l_on_a_line) :=
  fn_ok T.F_l_on_a_line sc_l_on_a_line rfl rfl (by decide) (by decide) fun cdv A outer s H E hr => (dss_cons (ds_set 3 sc_l_on_a_line.nd (de_call (ok_l_order T) (hr.mono (by decide)) rfl T.m_l_order T.F_l_order.kp T.y_l_order pass0 (das_cons (do_m 0) (das_cons (do_s 1) das_nil))))
    (dss_cons (ds_set 4 sc_l_on_a_line.nd (de_call (ok_l_peaked T) (hr.mono (by decide)) rfl T.m_l_peaked T.F_l_peaked.kp T.y_l_peaked pass0 (das_cons (do_m 0) (das_cons (do_s 3) (das_cons (do_s 2) das_nil)))))
    (dss_cons (ds_set 5 sc_l_on_a_line.nd (de_f (df_list rfl T.b_list (dbs_cons (db_var 3) dbs_nil))))
    (dss_cons (ds_expr (de_reverse 5))
    (dss_cons (ds_set 6 sc_l_on_a_line.nd (de_f (df_sorted rfl T.b_sorted (dbs_cons (DF.db (df_comp rfl sc_l_on_a_line.nd (dic_b (db_var 4)) (blkOk_by (own := [("vote", 10)]) (N := N_l_on_a_line) (sc := defScope s_l_on_a_line) (by decide +kernel)) (fun _ _ _ _ _ => (dgc_name 10 sc_l_on_a_line.nd)) (fun _ _ _ _ _ => dtc_nil) (fun _ _ _ _ _ => (df_index (db_var 3) (db_ix (db_var 10) (DF.db df_int) (fun _ _ => rfl)))))) dbs_nil))))
    (dss_cons (ds_set 7 sc_l_on_a_line.nd (de_b (db_ix (db_var 3) (db_ix (db_var 6) (DF.db (df_div (db_var 2) (DF.db df_int))) (fun _ _ => rfl)) (fun _ _ => rfl))))
    (dss_cons (ds_forC PassesOwn.never rfl (de_lst (das_cons (do_e (de_mv 3)) (das_cons (do_e (de_mv 5)) das_nil))) (dg_name 8 sc_l_on_a_line.nd) (dss_one (ds_if (dte_t (DW.dt (dw_or (dt_not (dt_val (DF.db (df_call (ok_l_same T 8) (hr.mono (by decide)) rfl T.m_l_same T.F_l_same.kp T.y_l_same pass0 (dbs_cons (DF.db (df_call (ok_fits_line T) (hr.mono (by decide)) rfl T.m_fits_line T.F_fits_line.kp T.y_fits_line pass0 (dbs_cons (db_var 4) (dbs_cons (DF.db (df_tuple rfl T.b_tuple (dbs_cons (db_var 8) dbs_nil))) dbs_nil)))) (dbs_cons (DF.db df_bl) dbs_nil)))))) (dw_or1 (dt_not (dt_val (DF.db (df_call (ok_l_same T 8) (hr.mono (by decide)) rfl T.m_l_same T.F_l_same.kp T.y_l_same pass0 (dbs_cons (DF.db (df_call (ok_middle_choice T) (hr.mono (by decide)) rfl T.m_middle_choice T.F_middle_choice.kp T.y_middle_choice pass0 (dbs_cons (db_var 4) (dbs_cons (DF.db (df_tuple rfl T.b_tuple (dbs_cons (db_var 8) dbs_nil))) dbs_nil)))) (dbs_cons (db_var 7) dbs_nil)))))))))) (dss_one (ds_ret (de_f df_bl))) dss_nil)))
    (dss_cons (ds_for PassesOwn.never rfl (di_r1 rfl T.b_range (das_cons (do_s 1) das_nil)) (dg_name 9 sc_l_on_a_line.nd) (dss_cons (ds_if (dte_t (DW.dt (dw_and (dt_ne (db_var 9) (db_var 7)) (dw_and1 (dt_not (dt_val (DF.db (df_call (ok_l_same T 8) (hr.mono (by decide)) rfl T.m_l_same T.F_l_same.kp T.y_l_same pass0 (dbs_cons (DF.db (df_call (ok_beats T) (hr.mono (by decide)) rfl T.m_beats T.F_beats.kp T.y_beats pass0 (dbs_cons (db_var 4) (dbs_cons (db_var 7) (dbs_cons (db_var 9) dbs_nil))))) (dbs_cons (DF.db df_bl) dbs_nil)))))))))) (dss_one (ds_ret (de_f df_bl))) dss_nil)
    (dss_one (ds_if (dte_t (DW.dt (dw_and (dt_ne (db_var 9) (db_var 7)) (dw_and1 (dt_not (dt_val (DF.db (df_call (ok_l_same T 8) (hr.mono (by decide)) rfl T.m_l_same T.F_l_same.kp T.y_l_same pass0 (dbs_cons (DF.db (df_call (ok_beats T) (hr.mono (by decide)) rfl T.m_beats T.F_beats.kp T.y_beats pass0 (dbs_cons (db_var 4) (dbs_cons (db_var 9) (dbs_cons (db_var 7) dbs_nil))))) (dbs_cons (DF.db df_bl) dbs_nil)))))))))) (dss_one (ds_ret (de_f df_bl))) dss_nil))))
    (dss_cons (ds_if (dte_t (DW.dt (dw_or (dt_not (dt_val (DF.db (df_call (ok_l_same T 8) (hr.mono (by decide)) rfl T.m_l_same T.F_l_same.kp T.y_l_same pass0 (dbs_cons (DF.db (df_call (ok_head T) (hr.mono (by decide)) rfl T.m_head T.F_head.kp T.y_head pass0 (dbs_cons (db_var 4) (dbs_cons (db_var 1) dbs_nil)))) (dbs_cons (db_var 7) dbs_nil)))))) (dw_or1 (dt_not (dt_val (DF.db (df_call (ok_l_same T 8) (hr.mono (by decide)) rfl T.m_l_same T.F_l_same.kp T.y_l_same pass0 (dbs_cons (DF.db (df_call (ok_top T) (hr.mono (by decide)) rfl T.m_top T.F_top.kp T.y_top pass0 (dbs_cons (db_var 4) (dbs_cons (db_var 1) dbs_nil)))) (dbs_cons (DF.db (df_tup (dbs_cons (db_var 7) dbs_nil))) dbs_nil)))))))))) (dss_one (ds_ret (de_f df_bl))) dss_nil)
    (dss_one (ds_ret (de_f (df_isN (DF.db (df_call (ok_ring_of_votes T) (hr.mono (by decide)) rfl T.m_ring_of_votes T.F_ring_of_votes.kp T.y_ring_of_votes pass0 (dbs_cons (db_var 4) (dbs_cons (db_var 1) dbs_nil)))))))))))))))))
noncomputable def b_l_table_1 : FL.Env → Option Out :=
    (seqS (asgS (liftE (pn dLen (psCons (pComp [6] (icB (pV 0)) (gN 6) (tB' (p2 dLt (p2 dIndex (pV 6) (pV 3)) (p2 dIndex (pV 6) (pV 4)))) (pC (.int 1))) psNil))) (gN 5))
    (setS2 2 (pAnd (p2 dNe (pV 3) (pV 4)) (p2 dGt (p2 dMul (pC (.int 2)) (pV 5)) (pn dLen (psCons (pV 0) psNil)))) (pV 3) (pV 4)))
noncomputable def b_l_table_2 : FL.Env → Option Out :=
    (forS (gN 4) b_l_table_1 (itA rg1 (asCons (toS' 1) asNil)))
noncomputable def m_l_table : List D → Option (D × List D) := fnM 7 2 []
    (seqS (asgS (liftE (pComp [3] (icA rg1 (psCons (pV 1) psNil)) (gN 3) yesC (pComp [4] (icA rg1 (psCons (pV 1) psNil)) (gN 4) yesC (pC (.bl false))))) (gN 2))
    (seqS (forS (gN 3) b_l_table_2 (itA rg1 (asCons (toS' 1) asNil)))
    (retS (mvV 2))))
theorem ok_l_table (T : Tx K mg) : FnOk P w K mg base CX0 1 T.a_l_table T.d_l_table ps_l_table (spF K [] m_l_table) :=
  fn_ok T.F_l_table sc_l_table rfl rfl (by decide) (by decide) fun cdv A outer s H E hr => (dss_cons (ds_setLcC 2 rfl sc_l_table.nd (dic_r1 rfl T.b_range (dbs_cons (db_var 1) dbs_nil)) (blkOk_by (own := [("one", 3)]) (N := N_l_table) (sc := defScope s_l_table) (by decide +kernel)) (fun _ _ _ _ _ => (dgc_name 3 sc_l_table.nd)) (fun _ _ _ _ _ => dtc_nil) (fun _ _ _ _ _ => (df_comp rfl sc_l_table.nd (dic_r1 rfl T.b_range (dbs_cons (db_var 1) dbs_nil)) (blkOk_by (own := [("other", 4)]) (N := N_l_table) (by exact Eq.refl true)) (fun _ _ _ _ _ => (dgc_name 4 sc_l_table.nd)) (fun _ _ _ _ _ => dtc_nil) (fun _ _ _ _ _ => df_bl))))
    (dss_cons (ds_for PassesOwn.never rfl (di_r1 rfl T.b_range (das_cons (do_s 1) das_nil)) (dg_name 3 sc_l_table.nd) (dss_one (ds_for PassesOwn.never rfl (di_r1 rfl T.b_range (das_cons (do_s 1) das_nil)) (dg_name 4 sc_l_table.nd) (dss_cons (ds_set 5 sc_l_table.nd (de_f (df_len rfl T.b_len (dbs_cons (DF.db (df_comp rfl sc_l_table.nd (dic_b (db_var 0)) (blkOk_by (own := [("vote", 6)]) (N := N_l_table) (sc := defScope s_l_table) (by decide +kernel)) (fun _ _ _ _ _ => (dgc_name 6 sc_l_table.nd)) (fun _ _ _ _ _ => (dtc_one (dt_lt (DF.db (df_index (db_var 6) (db_var 3))) (DF.db (df_index (db_var 6) (db_var 4)))))) (fun _ _ _ _ _ => df_int))) dbs_nil))))
    (dss_one (ds_setix2 2 (DF.db (df_and (DF.db (df_ne (db_var 3) (db_var 4))) (df_one (df_gt (DF.db (df_mul (DF.db df_int) (db_var 5))) (DF.db (df_len rfl T.b_len (dbs_cons (db_var 0) dbs_nil))))))) (db_var 3) (db_var 4)))))))
    (dss_one (ds_ret (de_mv 2)))))
noncomputable def b_l_top_1 : FL.Env → Option Out :=
    (exprS (mtE 3 lAppend (asCons (toE (liftE (p2 dMul (pC (.int 2)) (pIx (pV 3) (p1 dNeg (pC (.int 1))))))) asNil)))
noncomputable def b_l_top_2 : FL.Env → Option Out :=
    (seqS (asgS (liftE (pComp [4] (icA rg1 (psCons (pV 1) psNil)) (gN 4) (tB' (p2 dEq (p2 dMod (pn dInt (psCons (p2 dDiv (pV 5) (pIx (pV 3) (pV 4))) psNil)) (pC (.int 2))) (pC (.int 1)))) (freeC (pV 4)))) (gN 6))
    (ifS (liftT (tB' (p2 dLt (pn dLen (psCons (pV 6) psNil)) (pn dLen (psCons (pV 2) psNil))))) (seqS (asgS (liftE (pComp [4] (icA rg1 (psCons (pV 1) psNil)) (gN 4) (tB' (p2 dNin (pV 4) (pV 6))) (freeC (pV 4)))) (gN 7))
    (seqS (asgS (liftE (pn dSum (psCons (pComp [4] (icB (pV 6)) (gN 4) yesC (pn dLen (psCons (pComp [9] (icB (pV 7)) (gN 9) (tB' (pIx (pIx (pV 0) (pV 4)) (pV 9))) (pC (.int 1))) psNil))) psNil))) (gN 8))
    (ifS (liftT (tB' (p2 dEq (pV 8) (p2 dMul (pn dLen (psCons (pV 6) psNil)) (pn dLen (psCons (pV 7) psNil)))))) (asgS (mvV 6) (gN 2)) skipS))) skipS))
noncomputable def m_l_top : List D → Option (D × List D) := fnM 10 2 []
    (seqS (asgS (liftE (pn (rgD .lst) (psCons (pV 1) psNil))) (gN 2))
    (seqS (asgS (liftE (pn mkLst (psCons (pC (.int 1)) psNil))) (gN 3))
    (seqS (forS (gN 4) b_l_top_1 (itA rg1 (asCons (toS' 1) asNil)))
    (seqS (forS (gN 5) b_l_top_2 (itA rg2 (asCons (toE (liftE (pC (.int 1)))) (asCons (toE (liftC (pIx (pV 3) (pV 1)))) asNil))))
    (retS (liftE (pn dTuple (psCons (pV 2) psNil))))))))
theorem ok_l_top (T : Tx K mg) : FnOk P w K mg base CX0 1 T.a_l_top T.d_l_top ps_l_top (spF K [] m_l_top) :=
  fn_ok T.F_l_top sc_l_top rfl rfl (by decide) (by decide) fun cdv A outer s H E hr => (dss_cons (ds_set 2 sc_l_top.nd (de_f (df_listRg1 rfl T.b_list rfl T.b_range rfl (db_var 1))))
    (dss_cons (ds_set 3 sc_l_top.nd (de_f (df_lst (dbs_cons (DF.db df_int) dbs_nil))))
    (dss_cons (ds_for PassesOwn.never rfl (di_r1 rfl T.b_range (das_cons (do_s 1) das_nil)) (dg_name 4 sc_l_top.nd) (dss_one (ds_expr (de_append 3 (das_cons (do_e (de_f (df_mul (DF.db df_int) (db_ix (db_var 3) (DF.db (df_neg (DF.db df_int))) (fun _ _ => rfl))))) das_nil)))))
    (dss_cons (ds_for PassesOwn.never rfl (di_r2 rfl T.b_range (das_cons (do_e (de_f df_int)) (das_cons (do_e (de_b (db_ix (db_var 3) (db_var 1) (fun _ _ => rfl)))) das_nil))) (dg_name 5 sc_l_top.nd) (dss_cons (ds_set 6 sc_l_top.nd (de_f (df_comp rfl sc_l_top.nd (dic_r1 rfl T.b_range (dbs_cons (db_var 1) dbs_nil)) (blkOk_by (own := [("choice", 4)]) (N := N_l_top) (sc := defScope s_l_top) (by decide +kernel)) (fun _ _ _ _ _ => (dgc_name 4 sc_l_top.nd)) (fun _ _ _ _ _ => (dtc_one (dt_eq (DF.db (df_mod (DF.db (df_toint rfl T.b_int (dbs_cons (DF.db (df_div (db_var 5) (db_ix (db_var 3) (db_var 4) (fun _ _ => rfl)))) dbs_nil))) (DF.db df_int))) (DF.db df_int)))) (fun _ _ _ _ _ => (df_free (db_var 4))))))
    (dss_one (ds_if (dte_t (dt_lt (DF.db (df_len rfl T.b_len (dbs_cons (db_var 6) dbs_nil))) (DF.db (df_len rfl T.b_len (dbs_cons (db_var 2) dbs_nil))))) (dss_cons (ds_set 7 sc_l_top.nd (de_f (df_comp rfl sc_l_top.nd (dic_r1 rfl T.b_range (dbs_cons (db_var 1) dbs_nil)) (blkOk_by (own := [("choice", 4)]) (N := N_l_top) (sc := defScope s_l_top) (by decide +kernel)) (fun _ _ _ _ _ => (dgc_name 4 sc_l_top.nd)) (fun _ _ _ _ _ => (dtc_one (dt_nin (db_var 4) (db_var 6)))) (fun _ _ _ _ _ => (df_free (db_var 4))))))
    (dss_cons (ds_set 8 sc_l_top.nd (de_f (df_sum rfl rfl T.b_sum (dbs_cons (DF.db (df_comp rfl sc_l_top.nd (dic_b (db_var 6)) (blkOk_by (own := [("choice", 4)]) (N := N_l_top) (sc := defScope s_l_top) (by decide +kernel)) (fun _ _ _ _ _ => (dgc_name 4 sc_l_top.nd)) (fun _ _ _ _ _ => dtc_nil) (fun _ _ _ _ _ => (df_len rfl T.b_len (dbs_cons (DF.db (df_comp rfl sc_l_top.nd (dic_b (db_var 7)) (blkOk_by (own := [("other", 9)]) (N := N_l_top) (by exact Eq.refl true)) (fun _ _ _ _ _ => (dgc_name 9 sc_l_top.nd)) (fun _ _ _ _ _ => (dtc_one (dt_val (db_ix (db_ix (db_var 0) (db_var 4) (fun _ _ => rfl)) (db_var 9) (fun _ _ => rfl))))) (fun _ _ _ _ _ => df_int))) dbs_nil))))) dbs_nil))))
    (dss_one (ds_if (dte_t (dt_eq (db_var 8) (DF.db (df_mul (DF.db (df_len rfl T.b_len (dbs_cons (db_var 6) dbs_nil))) (DF.db (df_len rfl T.b_len (dbs_cons (db_var 7) dbs_nil))))))) (dss_one (ds_set 2 sc_l_top.nd (de_mv 6))) dss_nil)))) dss_nil))))
    (dss_one (ds_ret (de_f (df_tuple rfl T.b_tuple (dbs_cons (db_var 2) dbs_nil)))))))))
noncomputable def b_l_right_1 : FL.Env → Option Out :=
    (ifS (liftT (tAnd' (tB' (p2 dNe (pV 3) (pV 6))) (tNot' (tB' (pCall (m_l_same 8) (psCons (pCall m_beats (psCons (pV 0) (psCons (pV 3) (psCons (pV 6) psNil)))) (psCons (pIx (pIx (pV 2) (pV 3)) (pV 6)) psNil))))))) (retS (liftE (pC (.bl false)))) skipS)
noncomputable def b_l_right_2 : FL.Env → Option Out :=
    (forS (gN 6) b_l_right_1 (itA rg1 (asCons (toS' 1) asNil)))
noncomputable def b_l_right_3 : FL.Env → Option Out :=
    (ifS (liftT (tB' (p2 dEq (pn dLen (psCons (pComp [6] (icA rg1 (psCons (pV 1) psNil)) (gN 6) (tB' (pIx (pIx (pV 2) (pV 3)) (pV 6))) (pC (.int 1))) psNil)) (p2 dSub (pV 1) (pC (.int 1)))))) (asgS (liftC (pV 3)) (gN 4)) skipS)
noncomputable def m_l_right : List D → Option (D × List D) := fnM 7 2 []
    (seqS (asgS (liftE (pCall m_l_table (psCons (pV 0) (psCons (pV 1) psNil)))) (gN 2))
    (seqS (forS (gN 3) b_l_right_2 (itA rg1 (asCons (toS' 1) asNil)))
    (seqS (asgS (liftE (pC .non)) (gN 4))
    (seqS (forS (gN 3) b_l_right_3 (itA rg1 (asCons (toS' 1) asNil)))
    (seqS (asgS (liftE (pCall m_top (psCons (pV 0) (psCons (pV 1) psNil)))) (gN 5))
    (seqS (ifS (liftT (tOr' (tNot' (tB' (pCall (m_l_same 8) (psCons (pCall m_head (psCons (pV 0) (psCons (pV 1) psNil))) (psCons (pV 4) psNil))))) (tNot' (tB' (pCall (m_l_same 8) (psCons (pV 5) (psCons (pCall m_l_top (psCons (pV 2) (psCons (pV 1) psNil))) psNil))))))) (retS (liftE (pC (.bl false)))) skipS)
    (retS (andV (liftE (p2 dEq (p1 dNotN (pV 4)) (p2 dEq (pn dLen (psCons (pV 5) psNil)) (pC (.int 1))))) (orV (liftE (p1 dIsN (pV 4))) (liftE (p2 dEqX (pV 5) (pn mkTup (psCons (pV 4) psNil)))))))))))))
theorem ok_l_right (T : Tx K mg) : FnOk P w K mg base CX0 10 T.a_l_right T.d_l_right ps_l_right (spF K [] m_l_right) :=
  fn_ok T.F_l_right sc_l_right rfl rfl (by decide) (by decide) fun cdv A outer s H E hr => (dss_cons (ds_set 2 sc_l_right.nd (de_f (df_call (ok_l_table T) (hr.mono (by decide)) rfl T.m_l_table T.F_l_table.kp T.y_l_table pass0 (dbs_cons (db_var 0) (dbs_cons (db_var 1) dbs_nil)))))
    (dss_cons (ds_for PassesOwn.never rfl (di_r1 rfl T.b_range (das_cons (do_s 1) das_nil)) (dg_name 3 sc_l_right.nd) (dss_one (ds_for PassesOwn.never rfl (di_r1 rfl T.b_range (das_cons (do_s 1) das_nil)) (dg_name 6 sc_l_right.nd) (dss_one (ds_if (dte_t (DW.dt (dw_and (dt_ne (db_var 3) (db_var 6)) (dw_and1 (dt_not (dt_val (DF.db (df_call (ok_l_same T 8) (hr.mono (by decide)) rfl T.m_l_same T.F_l_same.kp T.y_l_same pass0 (dbs_cons (DF.db (df_call (ok_beats T) (hr.mono (by decide)) rfl T.m_beats T.F_beats.kp T.y_beats pass0 (dbs_cons (db_var 0) (dbs_cons (db_var 3) (dbs_cons (db_var 6) dbs_nil))))) (dbs_cons (db_ix (db_ix (db_var 2) (db_var 3) (fun _ _ => rfl)) (db_var 6) (fun _ _ => rfl)) dbs_nil)))))))))) (dss_one (ds_ret (de_f df_bl))) dss_nil)))))
    (dss_cons (ds_set 4 sc_l_right.nd (de_f df_non))
    (dss_cons (ds_for PassesOwn.never rfl (di_r1 rfl T.b_range (das_cons (do_s 1) das_nil)) (dg_name 3 sc_l_right.nd) (dss_one (ds_if (dte_t (dt_eq (DF.db (df_len rfl T.b_len (dbs_cons (DF.db (df_comp rfl sc_l_right.nd (dic_r1 rfl T.b_range (dbs_cons (db_var 1) dbs_nil)) (blkOk_by (own := [("other", 6)]) (N := N_l_right) (sc := defScope s_l_right) (by decide +kernel)) (fun _ _ _ _ _ => (dgc_name 6 sc_l_right.nd)) (fun _ _ _ _ _ => (dtc_one (dt_val (db_ix (db_ix (db_var 2) (db_var 3) (fun _ _ => rfl)) (db_var 6) (fun _ _ => rfl))))) (fun _ _ _ _ _ => df_int))) dbs_nil))) (DF.db (df_sub (db_var 1) (DF.db df_int))))) (dss_one (ds_set 4 sc_l_right.nd (de_b (db_var 3)))) dss_nil)))
    (dss_cons (ds_set 5 sc_l_right.nd (de_f (df_call (ok_top T) (hr.mono (by decide)) rfl T.m_top T.F_top.kp T.y_top pass0 (dbs_cons (db_var 0) (dbs_cons (db_var 1) dbs_nil)))))
    (dss_cons (ds_if (dte_t (DW.dt (dw_or (dt_not (dt_val (DF.db (df_call (ok_l_same T 8) (hr.mono (by decide)) rfl T.m_l_same T.F_l_same.kp T.y_l_same pass0 (dbs_cons (DF.db (df_call (ok_head T) (hr.mono (by decide)) rfl T.m_head T.F_head.kp T.y_head pass0 (dbs_cons (db_var 0) (dbs_cons (db_var 1) dbs_nil)))) (dbs_cons (db_var 4) dbs_nil)))))) (dw_or1 (dt_not (dt_val (DF.db (df_call (ok_l_same T 8) (hr.mono (by decide)) rfl T.m_l_same T.F_l_same.kp T.y_l_same pass0 (dbs_cons (db_var 5) (dbs_cons (DF.db (df_call (ok_l_top T) (hr.mono (by decide)) rfl T.m_l_top T.F_l_top.kp T.y_l_top pass0 (dbs_cons (db_var 2) (dbs_cons (db_var 1) dbs_nil)))) dbs_nil)))))))))) (dss_one (ds_ret (de_f df_bl))) dss_nil)
    (dss_one (ds_ret (de_and (de_f (df_eq (DF.db (df_notN (db_var 4))) (DF.db (df_eq (DF.db (df_len rfl T.b_len (dbs_cons (db_var 5) dbs_nil))) (DF.db df_int))))) (de_one (de_or (de_f (df_isN (db_var 4))) (de_one (de_f (df_eqX hr (db_var 5) (DF.db (df_tup (dbs_cons (db_var 4) dbs_nil)))))))))))))))))
noncomputable def m_l_turned : List D → Option (D × List D) := fnM 4 2 [0]
    (seqS (asgS (callE m_l_order [0] (asCons (toM' 0) (asCons (toS' 1) asNil))) (gN 2))
    (retS (liftE (pn dTuple (psCons (pComp [3] (icA rg1 (psCons (pV 1) psNil)) (gN 3) yesC (pn dTuple (psCons (p2 dAdd (pCut (pV 2) (pSo (pV 3)) pNo) (pCut (pV 2) pNo (pSo (pV 3)))) psNil))) psNil)))))
theorem ok_l_turned (T : Tx K mg) : FnOk P w K mg base CX0 3 T.a_l_turned T.d_l_turned ps_l_turned (spF K [0] m_l_turned) :=
  fn_ok T.F_l_turned sc_l_turned rfl rfl (by decide) (by decide) fun cdv A outer s H E hr => (dss_cons (ds_set 2 sc_l_turned.nd (de_call (ok_l_order T) (hr.mono (by decide)) rfl T.m_l_order T.F_l_order.kp T.y_l_order pass0 (das_cons (do_m 0) (das_cons (do_s 1) das_nil))))
    (dss_one (ds_ret (de_f (df_tuple rfl T.b_tuple (dbs_cons (DF.db (df_comp rfl sc_l_turned.nd (dic_r1 rfl T.b_range (dbs_cons (db_var 1) dbs_nil)) (blkOk_by (own := [("at", 3)]) (N := N_l_turned) (sc := defScope s_l_turned) (by decide +kernel)) (fun _ _ _ _ _ => (dgc_name 3 sc_l_turned.nd)) (fun _ _ _ _ _ => dtc_nil) (fun _ _ _ _ _ => (df_tuple rfl T.b_tuple (dbs_cons (DF.db (df_add (DF.db (df_cut (db_var 2) (dpo_so (db_var 3)) dpo_no)) (DF.db (df_cut (db_var 2) dpo_no (dpo_so (db_var 3)))))) dbs_nil))))) dbs_nil))))))
noncomputable def b_l_round_1 : FL.Env → Option Out :=
    (seqS (asgS (liftC (pIx (pV 5) (p2 dMod (pn dInt (psCons (p2 dAdd (pV 6) (pV 8)) psNil)) (pV 1)))) (gN 9))
    (ifS (liftT (tNot' (tB' (pCall (m_l_same 8) (psCons (pCall m_beats (psCons (pV 4) (psCons (pIx (pV 5) (pV 6)) (psCons (pV 9) psNil)))) (psCons (p2 dLt (p2 dMul (pC (.int 2)) (pV 8)) (pV 1)) psNil)))))) (retS (liftE (pC (.bl false)))) skipS))
noncomputable def b_l_round_2 : FL.Env → Option Out :=
    (forS (gN 8) b_l_round_1 (itA rg2 (asCons (toE (liftE (pC (.int 1)))) (asCons (toS' 1) asNil))))
noncomputable def m_l_round : List D → Option (D × List D) := fnM 10 2 [0]
    (seqS (asgS (opE2 dAdd (toE (liftE (pC (.int 1)))) (toE (callE m_l_take [0] (asCons (toM' 0) (asCons (toE (liftE (pC (.int 4)))) asNil))))) (gN 2))
    (seqS (asgS (callE m_l_turned [0] (asCons (toM' 0) (asCons (toS' 1) asNil))) (gN 3))
    (seqS (asgS (liftE (p2 dMulT (pV 3) (pV 2))) (gN 4))
    (seqS (asgS (liftC (pIx (pV 3) (pC (.int 0)))) (gN 5))
    (seqS (forS (gN 6) b_l_round_2 (itA rg1 (asCons (toS' 1) asNil)))
    (seqS (asgS (liftC (pIx (pn mkLst (psCons (pC .non) (psCons (pIx (pV 5) (pC (.int 0))) psNil))) (pn dInt (psCons (p2 dEq (pV 1) (pC (.int 1))) psNil)))) (gN 7))
    (retS (andV (liftE (pCall (m_l_same 8) (psCons (pCall m_head (psCons (pV 4) (psCons (pV 1) psNil))) (psCons (pV 7) psNil)))) (liftE (pCall (m_l_same 8) (psCons (pCall m_top (psCons (pV 4) (psCons (pV 1) psNil))) (psCons (pn (rgD .tup) (psCons (pV 1) psNil)) psNil))))))))))))
theorem ok_l_round (T : Tx K mg) : FnOk P w K mg base CX0 10 T.a_l_round T.d_l_round ps_l_round (spF K [0] m_l_round) :=
  fn_ok T.F_l_round sc_l_round rfl rfl (by decide) (by decide) fun cdv A outer s H E hr => (dss_cons (ds_set 2 sc_l_round.nd (de_add (do_e (de_f df_int)) (do_e (de_call (ok_l_take T) (hr.mono (by decide)) rfl T.m_l_take T.F_l_take.kp T.y_l_take pass0 (das_cons (do_m 0) (das_cons (do_e (de_f df_int)) das_nil))))))
    (dss_cons (ds_set 3 sc_l_round.nd (de_call (ok_l_turned T) (hr.mono (by decide)) rfl T.m_l_turned T.F_l_turned.kp T.y_l_turned pass0 (das_cons (do_m 0) (das_cons (do_s 1) das_nil))))
    (dss_cons (ds_set 4 sc_l_round.nd (de_f (df_mulT (db_var 3) (db_var 2))))
    (dss_cons (ds_set 5 sc_l_round.nd (de_b (db_ix (db_var 3) (DF.db df_int) (fun _ _ => rfl))))
    (dss_cons (ds_for PassesOwn.never rfl (di_r1 rfl T.b_range (das_cons (do_s 1) das_nil)) (dg_name 6 sc_l_round.nd) (dss_one (ds_for PassesOwn.never rfl (di_r2 rfl T.b_range (das_cons (do_e (de_f df_int)) (das_cons (do_s 1) das_nil))) (dg_name 8 sc_l_round.nd) (dss_cons (ds_set 9 sc_l_round.nd (de_b (db_ix (db_var 5) (DF.db (df_mod (DF.db (df_toint rfl T.b_int (dbs_cons (DF.db (df_add (db_var 6) (db_var 8))) dbs_nil))) (db_var 1))) (fun _ _ => rfl))))
    (dss_one (ds_if (dte_t (dt_not (dt_val (DF.db (df_call (ok_l_same T 8) (hr.mono (by decide)) rfl T.m_l_same T.F_l_same.kp T.y_l_same pass0 (dbs_cons (DF.db (df_call (ok_beats T) (hr.mono (by decide)) rfl T.m_beats T.F_beats.kp T.y_beats pass0 (dbs_cons (db_var 4) (dbs_cons (db_ix (db_var 5) (db_var 6) (fun _ _ => rfl)) (dbs_cons (db_var 9) dbs_nil))))) (dbs_cons (DF.db (df_lt (DF.db (df_mul (DF.db df_int) (db_var 8))) (db_var 1))) dbs_nil))))))) (dss_one (ds_ret (de_f df_bl))) dss_nil))))))
    (dss_cons (ds_set 7 sc_l_round.nd (de_b (db_ix (DF.db (df_lst (dbs_cons (DF.db df_non) (dbs_cons (db_ix (db_var 5) (DF.db df_int) (fun _ _ => rfl)) dbs_nil)))) (DF.db (df_toint rfl T.b_int (dbs_cons (DF.db (df_eq (db_var 1) (DF.db df_int))) dbs_nil))) (fun _ _ => rfl))))
    (dss_one (ds_ret (de_and (de_f (df_call (ok_l_same T 8) (hr.mono (by decide)) rfl T.m_l_same T.F_l_same.kp T.y_l_same pass0 (dbs_cons (DF.db (df_call (ok_head T) (hr.mono (by decide)) rfl T.m_head T.F_head.kp T.y_head pass0 (dbs_cons (db_var 4) (dbs_cons (db_var 1) dbs_nil)))) (dbs_cons (db_var 7) dbs_nil)))) (de_one (de_f (df_call (ok_l_same T 8) (hr.mono (by decide)) rfl T.m_l_same T.F_l_same.kp T.y_l_same pass0 (dbs_cons (DF.db (df_call (ok_top T) (hr.mono (by decide)) rfl T.m_top T.F_top.kp T.y_top pass0 (dbs_cons (db_var 4) (dbs_cons (db_var 1) dbs_nil)))) (dbs_cons (DF.db (df_tupRg1 rfl T.b_tuple rfl T.b_range rfl (db_var 1))) dbs_nil))))))))))))))
noncomputable def b_l_votes_1 : FL.Env → Option Out :=
    (seqS (ifS (andE (liftT (tB' (p2 dGt (pn dLen (psCons (pV 3) psNil)) (pC (.int 3))))) (blE (opE2 dGt (toE (callE m_l_take [0] (asCons (toM' 0) (asCons (toE (liftE (pC (.int 3)))) asNil)))) (toE (liftE (pC (.int 0))))))) (seqS (asgS (opEn dList (asCons (toE (opE2 dIx (toS' 3) (toE (callE m_l_take [0] (asCons (toM' 0) (asCons (toE (liftE (pn dLen (psCons (pV 3) psNil)))) asNil)))))) asNil)) (gN 5))
    (seqS (asgS (callE m_l_take [0] (asCons (toM' 0) (asCons (toS' 1) asNil))) (gN 6))
    (exprS (mtE 5 lAppend (asCons (toE (mtE 5 lPopAt (asCons (toE (liftC (pV 6))) asNil))) asNil))))) (asgS (callE m_l_order [0] (asCons (toM' 0) (asCons (toS' 1) asNil))) (gN 5)))
    (exprS (mtE 3 lAppend (asCons (toE (liftE (pn dTuple (psCons (pV 5) psNil)))) asNil))))
noncomputable def m_l_votes : List D → Option (D × List D) := fnM 7 3 [0]
    (seqS (asgS (liftE (pn mkLst psNil)) (gN 3))
    (seqS (forS (gN 4) b_l_votes_1 (itA rg1 (asCons (toS' 2) asNil)))
    (retS (liftE (pn dTuple (psCons (pV 3) psNil))))))
theorem ok_l_votes (T : Tx K mg) : FnOk P w K mg base CX0 3 T.a_l_votes T.d_l_votes ps_l_votes (spF K [0] m_l_votes) :=
  fn_ok T.F_l_votes sc_l_votes rfl rfl (by decide) (by decide) fun cdv A outer s H E hr => (dss_cons (ds_set 3 sc_l_votes.nd (de_f (df_lst dbs_nil)))
    (dss_cons (ds_for PassesOwn.never rfl (di_r1 rfl T.b_range (das_cons (do_s 2) das_nil)) (dg_name 4 sc_l_votes.nd) (dss_cons (ds_if (DWE.dt (dwe_and (dte_t (dt_gt (DF.db (df_len rfl T.b_len (dbs_cons (db_var 3) dbs_nil))) (DF.db df_int))) (dwe_and1 (dte_gt (do_e (de_call (ok_l_take T) (hr.mono (by decide)) rfl T.m_l_take T.F_l_take.kp T.y_l_take pass0 (das_cons (do_m 0) (das_cons (do_e (de_f df_int)) das_nil)))) (do_e (de_f df_int)))))) (dss_cons (ds_set 5 sc_l_votes.nd (de_list rfl T.b_list (das_cons (do_e (de_ixs (do_s 3) (do_e (de_call (ok_l_take T) (hr.mono (by decide)) rfl T.m_l_take T.F_l_take.kp T.y_l_take pass0 (das_cons (do_m 0) (das_cons (do_e (de_f (df_len rfl T.b_len (dbs_cons (db_var 3) dbs_nil)))) das_nil)))))) das_nil)))
    (dss_cons (ds_set 6 sc_l_votes.nd (de_call (ok_l_take T) (hr.mono (by decide)) rfl T.m_l_take T.F_l_take.kp T.y_l_take pass0 (das_cons (do_m 0) (das_cons (do_s 1) das_nil))))
    (dss_one (ds_expr (de_append 5 (das_cons (do_e (de_popAt 5 (das_cons (do_e (de_b (db_var 6))) das_nil))) das_nil)))))) (dss_one (ds_set 5 sc_l_votes.nd (de_call (ok_l_order T) (hr.mono (by decide)) rfl T.m_l_order T.F_l_order.kp T.y_l_order pass0 (das_cons (do_m 0) (das_cons (do_s 1) das_nil))))))
    (dss_one (ds_expr (de_append 3 (das_cons (do_e (de_f (df_tuple rfl T.b_tuple (dbs_cons (db_var 5) dbs_nil)))) das_nil))))))
    (dss_one (ds_ret (de_f (df_tuple rfl T.b_tuple (dbs_cons (db_var 3) dbs_nil)))))))
noncomputable def b_law_1 : FL.Env → Option Out :=
    (seqS (asgS (opEn dTuple (asCons (toE (callE m_l_order [0] (asCons (toM' 1) (asCons (toS' 2) asNil)))) asNil)) (gN 8))
    (seqS (asgS (opE2 dCutHi (toS' 5) (toE (opE2 dAdd (toE (liftE (pC (.int 1)))) (toE (callE m_l_take [0] (asCons (toM' 1) (asCons (toE (liftE (pC (.int 3)))) asNil))))))) (gN 9))
    (seqS (ifS (liftT (tB' (p2 dGt (pV 7) (pC (.int 1))))) (asgS (opE2 dAdd (toE (callE m_l_peaked [0] (asCons (toM' 1) (asCons (toS' 8) (asCons (toE (opE2 dAdd (toE (liftE (pC (.int 1)))) (toE (callE m_l_take [0] (asCons (toM' 1) (asCons (toE (liftE (pC (.int 4)))) asNil)))))) asNil))))) (toE (liftE (pCut (pV 9) pNo (pSo (p2 dSub (pV 7) (pC (.int 2)))))))) (gN 9)) skipS)
    (ifS (liftT (tNot' (tB' (pCall (m_l_same 8) (psCons (pCall m_fits_line (psCons (pV 9) (psCons (pV 8) psNil))) (psCons (pCall m_l_fits (psCons (pV 9) (psCons (pV 8) psNil))) psNil)))))) (retS (liftE (pC (.bl false)))) skipS))))
noncomputable def m_law : List D → Option (D × List D) := fnM 10 1 []
    (seqS (asgS (liftE (pCall m_l_draws (psCons (pV 0) (psCons (pC (.int 640)) psNil)))) (gN 1))
    (seqS (asgS (opE2 dAdd (toE (liftE (pC (.int 1)))) (toE (callE m_l_take [0] (asCons (toM' 1) (asCons (toE (liftE (pC (.int 8)))) asNil))))) (gN 2))
    (seqS (asgS (callE m_l_take [0] (asCons (toM' 1) (asCons (toE (liftE (pC (.int 13)))) asNil))) (gN 3))
    (seqS (asgS (callE m_l_take [0] (asCons (toM' 1) (asCons (toE (liftE (pC (.int 8)))) asNil))) (gN 4))
    (seqS (ifS (liftT (tB' (p2 dEq (pV 4) (pC (.int 0))))) (asgS (opE2 dSub (toE (liftE (pC (.int 60)))) (toE (callE m_l_take [0] (asCons (toM' 1) (asCons (toE (liftE (pC (.int 20)))) asNil))))) (gN 3)) skipS)
    (seqS (asgS (callE m_l_votes [0] (asCons (toM' 1) (asCons (toS' 2) (asCons (toS' 3) asNil)))) (gN 5))
    (seqS (ifS (orE (liftT (tNot' (tB' (pCall m_l_right (psCons (pV 5) (psCons (pV 2) psNil)))))) (notE (blE (callE m_l_round [0] (asCons (toM' 1) (asCons (toE (opE2 dAdd (toE (liftE (pC (.int 1)))) (toE (callE m_l_take [0] (asCons (toM' 1) (asCons (toE (liftE (pC (.int 7)))) asNil)))))) asNil)))))) (retS (liftE (pC (.bl false)))) skipS)
    (seqS (asgS (opE2 dAdd (toE (liftE (pC (.int 1)))) (toE (opE2 dMul (toE (liftE (pC (.int 2)))) (toE (callE m_l_take [0] (asCons (toM' 1) (asCons (toE (liftE (pC (.int 8)))) asNil))))))) (gN 6))
    (seqS (ifS (liftT (tB' (p2 dEq (pV 4) (pC (.int 1))))) (asgS (opE2 dSub (toE (liftE (pC (.int 59)))) (toE (opE2 dMul (toE (liftE (pC (.int 2)))) (toE (callE m_l_take [0] (asCons (toM' 1) (asCons (toE (liftE (pC (.int 10)))) asNil))))))) (gN 6)) skipS)
    (seqS (ifS (notE (blE (callE m_l_on_a_line [0] (asCons (toM' 1) (asCons (toE (opE2 dAdd (toE (liftE (pC (.int 1)))) (toE (callE m_l_take [0] (asCons (toM' 1) (asCons (toE (liftE (pC (.int 8)))) asNil)))))) (asCons (toS' 6) asNil)))))) (retS (liftE (pC (.bl false)))) skipS)
    (seqS (forS (gN 7) b_law_1 (itA rg1 (asCons (toE (liftE (pC (.int 4)))) asNil)))
    (retS (liftE (pCall (m_l_same 8) (psCons (pCall m_fits_line (psCons (pV 5) (psCons (pn (rgD .tup) (psCons (pV 2) psNil)) psNil))) (psCons (pCall m_l_fits (psCons (pV 5) (psCons (pn (rgD .tup) (psCons (pV 2) psNil)) psNil))) psNil))))))))))))))))
theorem ok_law (T : Tx K mg) : FnOk P w K mg base CX0 11 T.a_law T.d_law ps_law (spF K [] m_law) :=
  fn_ok T.F_law sc_law rfl rfl (by decide) (by decide) fun cdv A outer s H E hr => (dss_cons (ds_set 1 sc_law.nd (de_f (df_call (ok_l_draws T) (hr.mono (by decide)) rfl T.m_l_draws T.F_l_draws.kp T.y_l_draws pass0 (dbs_cons (db_var 0) (dbs_cons (DF.db df_int) dbs_nil)))))
    (dss_cons (ds_set 2 sc_law.nd (de_add (do_e (de_f df_int)) (do_e (de_call (ok_l_take T) (hr.mono (by decide)) rfl T.m_l_take T.F_l_take.kp T.y_l_take pass0 (das_cons (do_m 1) (das_cons (do_e (de_f df_int)) das_nil))))))
    (dss_cons (ds_set 3 sc_law.nd (de_call (ok_l_take T) (hr.mono (by decide)) rfl T.m_l_take T.F_l_take.kp T.y_l_take pass0 (das_cons (do_m 1) (das_cons (do_e (de_f df_int)) das_nil))))
    (dss_cons (ds_set 4 sc_law.nd (de_call (ok_l_take T) (hr.mono (by decide)) rfl T.m_l_take T.F_l_take.kp T.y_l_take pass0 (das_cons (do_m 1) (das_cons (do_e (de_f df_int)) das_nil))))
    (dss_cons (ds_if (dte_t (dt_eq (db_var 4) (DF.db df_int))) (dss_one (ds_set 3 sc_law.nd (de_sub (do_e (de_f df_int)) (do_e (de_call (ok_l_take T) (hr.mono (by decide)) rfl T.m_l_take T.F_l_take.kp T.y_l_take pass0 (das_cons (do_m 1) (das_cons (do_e (de_f df_int)) das_nil))))))) dss_nil)
    (dss_cons (ds_set 5 sc_law.nd (de_call (ok_l_votes T) (hr.mono (by decide)) rfl T.m_l_votes T.F_l_votes.kp T.y_l_votes pass0 (das_cons (do_m 1) (das_cons (do_s 2) (das_cons (do_s 3) das_nil)))))
    (dss_cons (ds_if (DWE.dt (dwe_or (dte_t (dt_not (dt_val (DF.db (df_call (ok_l_right T) (hr.mono (by decide)) rfl T.m_l_right T.F_l_right.kp T.y_l_right pass0 (dbs_cons (db_var 5) (dbs_cons (db_var 2) dbs_nil))))))) (dwe_or1 (dte_not (dte_val (de_call (ok_l_round T) (hr.mono (by decide)) rfl T.m_l_round T.F_l_round.kp T.y_l_round pass0 (das_cons (do_m 1) (das_cons (do_e (de_add (do_e (de_f df_int)) (do_e (de_call (ok_l_take T) (hr.mono (by decide)) rfl T.m_l_take T.F_l_take.kp T.y_l_take pass0 (das_cons (do_m 1) (das_cons (do_e (de_f df_int)) das_nil)))))) das_nil)))))))) (dss_one (ds_ret (de_f df_bl))) dss_nil)
    (dss_cons (ds_set 6 sc_law.nd (de_add (do_e (de_f df_int)) (do_e (de_mul (do_e (de_f df_int)) (do_e (de_call (ok_l_take T) (hr.mono (by decide)) rfl T.m_l_take T.F_l_take.kp T.y_l_take pass0 (das_cons (do_m 1) (das_cons (do_e (de_f df_int)) das_nil))))))))
    (dss_cons (ds_if (dte_t (dt_eq (db_var 4) (DF.db df_int))) (dss_one (ds_set 6 sc_law.nd (de_sub (do_e (de_f df_int)) (do_e (de_mul (do_e (de_f df_int)) (do_e (de_call (ok_l_take T) (hr.mono (by decide)) rfl T.m_l_take T.F_l_take.kp T.y_l_take pass0 (das_cons (do_m 1) (das_cons (do_e (de_f df_int)) das_nil))))))))) dss_nil)
    (dss_cons (ds_if (dte_not (dte_val (de_call (ok_l_on_a_line T) (hr.mono (by decide)) rfl T.m_l_on_a_line T.F_l_on_a_line.kp T.y_l_on_a_line pass0 (das_cons (do_m 1) (das_cons (do_e (de_add (do_e (de_f df_int)) (do_e (de_call (ok_l_take T) (hr.mono (by decide)) rfl T.m_l_take T.F_l_take.kp T.y_l_take pass0 (das_cons (do_m 1) (das_cons (do_e (de_f df_int)) das_nil)))))) (das_cons (do_s 6) das_nil)))))) (dss_one (ds_ret (de_f df_bl))) dss_nil)
    (dss_cons (ds_for PassesOwn.never rfl (di_r1 rfl T.b_range (das_cons (do_e (de_f df_int)) das_nil)) (dg_name 7 sc_law.nd) (dss_cons (ds_set 8 sc_law.nd (de_tuple rfl T.b_tuple (das_cons (do_e (de_call (ok_l_order T) (hr.mono (by decide)) rfl T.m_l_order T.F_l_order.kp T.y_l_order pass0 (das_cons (do_m 1) (das_cons (do_s 2) das_nil)))) das_nil)))
    (dss_cons (ds_set 9 sc_law.nd (de_cutHi (do_s 5) (do_e (de_add (do_e (de_f df_int)) (do_e (de_call (ok_l_take T) (hr.mono (by decide)) rfl T.m_l_take T.F_l_take.kp T.y_l_take pass0 (das_cons (do_m 1) (das_cons (do_e (de_f df_int)) das_nil))))))))
    (dss_cons (ds_if (dte_t (dt_gt (db_var 7) (DF.db df_int))) (dss_one (ds_set 9 sc_law.nd (de_add (do_e (de_call (ok_l_peaked T) (hr.mono (by decide)) rfl T.m_l_peaked T.F_l_peaked.kp T.y_l_peaked pass0 (das_cons (do_m 1) (das_cons (do_s 8) (das_cons (do_e (de_add (do_e (de_f df_int)) (do_e (de_call (ok_l_take T) (hr.mono (by decide)) rfl T.m_l_take T.F_l_take.kp T.y_l_take pass0 (das_cons (do_m 1) (das_cons (do_e (de_f df_int)) das_nil)))))) das_nil))))) (do_e (de_f (df_cut (db_var 9) dpo_no (dpo_so (DF.db (df_sub (db_var 7) (DF.db df_int)))))))))) dss_nil)
    (dss_one (ds_if (dte_t (dt_not (dt_val (DF.db (df_call (ok_l_same T 8) (hr.mono (by decide)) rfl T.m_l_same T.F_l_same.kp T.y_l_same pass0 (dbs_cons (DF.db (df_call (ok_fits_line T) (hr.mono (by decide)) rfl T.m_fits_line T.F_fits_line.kp T.y_fits_line pass0 (dbs_cons (db_var 9) (dbs_cons (db_var 8) dbs_nil)))) (dbs_cons (DF.db (df_call (ok_l_fits T) (hr.mono (by decide)) rfl T.m_l_fits T.F_l_fits.kp T.y_l_fits pass0 (dbs_cons (db_var 9) (dbs_cons (db_var 8) dbs_nil)))) dbs_nil))))))) (dss_one (ds_ret (de_f df_bl))) dss_nil))))))
    (dss_one (ds_ret (de_f (df_call (ok_l_same T 8) (hr.mono (by decide)) rfl T.m_l_same T.F_l_same.kp T.y_l_same pass0 (dbs_cons (DF.db (df_call (ok_fits_line T) (hr.mono (by decide)) rfl T.m_fits_line T.F_fits_line.kp T.y_fits_line pass0 (dbs_cons (db_var 5) (dbs_cons (DF.db (df_tupRg1 rfl T.b_tuple rfl T.b_range rfl (db_var 2))) dbs_nil)))) (dbs_cons (DF.db (df_call (ok_l_fits T) (hr.mono (by decide)) rfl T.m_l_fits T.F_l_fits.kp T.y_l_fits pass0 (dbs_cons (db_var 5) (dbs_cons (DF.db (df_tupRg1 rfl T.b_tuple rfl T.b_range rfl (db_var 2))) dbs_nil)))) dbs_nil)))))))))))))))))
end
theorem all_mk {l : PySem.W.OpenLaw} {w : World} {K : PySem.W.Frag} {h : Heap} {mg : Str → Option Value} {fa f1 f2 f3 f4 f5 f6 f7 f8 f9 f10 f11 f12 f13 f14 f15 f16 f17 f18 f19 f20 f21 f22 f23 f24 f25 : Addr} (X : K.In h) (G : h.Ns mainGlobals mg) (hfa : mg "law" = some (.ref fa))
    {od1 an1 od2 an2 od3 an3 od4 an4 od5 an5 od6 an6 od7 an7 od8 an8 od9 an9 od10 an10 od11 an11 od12 an12 od13 an13 od14 an14 od15 an15 od16 an16 od17 an17 od18 an18 od19 an19 od20 an20 od21 an21 od22 an22 od23 an23 od24 an24 od25 an25 : Option Addr} {sl1 sl2 sl3 sl4 sl5 sl6 sl7 sl8 sl9 sl10 sl11 sl12 sl13 sl14 sl15 sl16 sl17 sl18 sl19 sl20 sl21 sl22 sl23 sl24 sl25 : Array (Option Value)} {oc1 kV1 dc1 pm1 cd1 ct1 oc2 kV2 dc2 pm2 cd2 ct2 oc3 kV3 dc3 pm3 cd3 ct3 oc4 kV4 dc4 pm4 cd4 ct4 oc5 kV5 dc5 pm5 cd5 ct5 oc6 kV6 dc6 pm6 cd6 ct6 oc7 kV7 dc7 pm7 cd7 ct7 oc8 kV8 dc8 pm8 cd8 ct8 oc9 kV9 dc9 pm9 cd9 ct9 oc10 kV10 dc10 pm10 cd10 ct10 oc11 kV11 dc11 pm11 cd11 ct11 oc12 kV12 dc12 pm12 cd12 ct12 oc13 kV13 dc13 pm13 cd13 ct13 oc14 kV14 dc14 pm14 cd14 ct14 oc15 kV15 dc15 pm15 cd15 ct15 oc16 kV16 dc16 pm16 cd16 ct16 oc17 kV17 dc17 pm17 cd17 ct17 oc18 kV18 dc18 pm18 cd18 ct18 oc19 kV19 dc19 pm19 cd19 ct19 oc20 kV20 dc20 pm20 cd20 ct20 oc21 kV21 dc21 pm21 cd21 ct21 oc22 kV22 dc22 pm22 cd22 ct22 oc23 kV23 dc23 pm23 cd23 ct23 oc24 kV24 dc24 pm24 cd24 ct24 oc25 kV25 dc25 pm25 cd25 ct25 : Value}
    (a1 : PySem.W.nsIn K mainGlobals "_law_draws" = some (some (.ref f1))) (l1 : K.lookup f1 = some ⟨oc1, od1, .func (PySem.W.fnOf "_law_draws" "_law_draws" (defArgs s_l_draws) (defBody s_l_draws) (defScope s_l_draws) .none kV1 dc1 pm1 an1 cd1 ct1), sl1⟩) (c1 : PySem.W.codeIn K cd1 "_law_draws" = true) (k1 : PySem.W.keepIn K (.ref f1) = true)
    (a2 : PySem.W.nsIn K mainGlobals "_law_falls" = some (some (.ref f2))) (l2 : K.lookup f2 = some ⟨oc2, od2, .func (PySem.W.fnOf "_law_falls" "_law_falls" (defArgs s_l_falls) (defBody s_l_falls) (defScope s_l_falls) .none kV2 dc2 pm2 an2 cd2 ct2), sl2⟩) (c2 : PySem.W.codeIn K cd2 "_law_falls" = true) (k2 : PySem.W.keepIn K (.ref f2) = true)
    (a3 : PySem.W.nsIn K mainGlobals "_law_fits" = some (some (.ref f3))) (l3 : K.lookup f3 = some ⟨oc3, od3, .func (PySem.W.fnOf "_law_fits" "_law_fits" (defArgs s_l_fits) (defBody s_l_fits) (defScope s_l_fits) .none kV3 dc3 pm3 an3 cd3 ct3), sl3⟩) (c3 : PySem.W.codeIn K cd3 "_law_fits" = true) (k3 : PySem.W.keepIn K (.ref f3) = true)
    (a4 : PySem.W.nsIn K mainGlobals "_law_take" = some (some (.ref f4))) (l4 : K.lookup f4 = some ⟨oc4, od4, .func (PySem.W.fnOf "_law_take" "_law_take" (defArgs s_l_take) (defBody s_l_take) (defScope s_l_take) .none kV4 dc4 pm4 an4 cd4 ct4), sl4⟩) (c4 : PySem.W.codeIn K cd4 "_law_take" = true) (k4 : PySem.W.keepIn K (.ref f4) = true)
    (a5 : PySem.W.nsIn K mainGlobals "_law_order" = some (some (.ref f5))) (l5 : K.lookup f5 = some ⟨oc5, od5, .func (PySem.W.fnOf "_law_order" "_law_order" (defArgs s_l_order) (defBody s_l_order) (defScope s_l_order) .none kV5 dc5 pm5 an5 cd5 ct5), sl5⟩) (c5 : PySem.W.codeIn K cd5 "_law_order" = true) (k5 : PySem.W.keepIn K (.ref f5) = true)
    (a6 : PySem.W.nsIn K mainGlobals "_law_peaked" = some (some (.ref f6))) (l6 : K.lookup f6 = some ⟨oc6, od6, .func (PySem.W.fnOf "_law_peaked" "_law_peaked" (defArgs s_l_peaked) (defBody s_l_peaked) (defScope s_l_peaked) .none kV6 dc6 pm6 an6 cd6 ct6), sl6⟩) (c6 : PySem.W.codeIn K cd6 "_law_peaked" = true) (k6 : PySem.W.keepIn K (.ref f6) = true)
    (a7 : PySem.W.nsIn K mainGlobals "_law_same" = some (some (.ref f7))) (l7 : K.lookup f7 = some ⟨oc7, od7, .func (PySem.W.fnOf "_law_same" "_law_same" (defArgs s_l_same) (defBody s_l_same) (defScope s_l_same) .none kV7 dc7 pm7 an7 cd7 ct7), sl7⟩) (c7 : PySem.W.codeIn K cd7 "_law_same" = true) (k7 : PySem.W.keepIn K (.ref f7) = true)
    (a8 : PySem.W.nsIn K mainGlobals "beats" = some (some (.ref f8))) (l8 : K.lookup f8 = some ⟨oc8, od8, .func (PySem.W.fnOf "beats" "beats" (defArgs s_beats) (defBody s_beats) (defScope s_beats) .none kV8 dc8 pm8 an8 cd8 ct8), sl8⟩) (c8 : PySem.W.codeIn K cd8 "beats" = true) (k8 : PySem.W.keepIn K (.ref f8) = true)
    (a9 : PySem.W.nsIn K mainGlobals "falls_from" = some (some (.ref f9))) (l9 : K.lookup f9 = some ⟨oc9, od9, .func (PySem.W.fnOf "falls_from" "falls_from" (defArgs s_falls_from) (defBody s_falls_from) (defScope s_falls_from) .none kV9 dc9 pm9 an9 cd9 ct9), sl9⟩) (c9 : PySem.W.codeIn K cd9 "falls_from" = true) (k9 : PySem.W.keepIn K (.ref f9) = true)
    (a10 : PySem.W.nsIn K mainGlobals "fits_line" = some (some (.ref f10))) (l10 : K.lookup f10 = some ⟨oc10, od10, .func (PySem.W.fnOf "fits_line" "fits_line" (defArgs s_fits_line) (defBody s_fits_line) (defScope s_fits_line) .none kV10 dc10 pm10 an10 cd10 ct10), sl10⟩) (c10 : PySem.W.codeIn K cd10 "fits_line" = true) (k10 : PySem.W.keepIn K (.ref f10) = true)
    (a11 : PySem.W.nsIn K mainGlobals "beaten_by" = some (some (.ref f11))) (l11 : K.lookup f11 = some ⟨oc11, od11, .func (PySem.W.fnOf "beaten_by" "beaten_by" (defArgs s_beaten_by) (defBody s_beaten_by) (defScope s_beaten_by) .none kV11 dc11 pm11 an11 cd11 ct11), sl11⟩) (c11 : PySem.W.codeIn K cd11 "beaten_by" = true) (k11 : PySem.W.keepIn K (.ref f11) = true)
    (a12 : PySem.W.nsIn K mainGlobals "head" = some (some (.ref f12))) (l12 : K.lookup f12 = some ⟨oc12, od12, .func (PySem.W.fnOf "head" "head" (defArgs s_head) (defBody s_head) (defScope s_head) .none kV12 dc12 pm12 an12 cd12 ct12), sl12⟩) (c12 : PySem.W.codeIn K cd12 "head" = true) (k12 : PySem.W.keepIn K (.ref f12) = true)
    (a13 : PySem.W.nsIn K mainGlobals "middle_choice" = some (some (.ref f13))) (l13 : K.lookup f13 = some ⟨oc13, od13, .func (PySem.W.fnOf "middle_choice" "middle_choice" (defArgs s_middle_choice) (defBody s_middle_choice) (defScope s_middle_choice) .none kV13 dc13 pm13 an13 cd13 ct13), sl13⟩) (c13 : PySem.W.codeIn K cd13 "middle_choice" = true) (k13 : PySem.W.keepIn K (.ref f13) = true)
    (a14 : PySem.W.nsIn K mainGlobals "steps_back" = some (some (.ref f14))) (l14 : K.lookup f14 = some ⟨oc14, od14, .func (PySem.W.fnOf "steps_back" "steps_back" (defArgs s_steps_back) (defBody s_steps_back) (defScope s_steps_back) .none kV14 dc14 pm14 an14 cd14 ct14), sl14⟩) (c14 : PySem.W.codeIn K cd14 "steps_back" = true) (k14 : PySem.W.keepIn K (.ref f14) = true)
    (a15 : PySem.W.nsIn K mainGlobals "ring_from" = some (some (.ref f15))) (l15 : K.lookup f15 = some ⟨oc15, od15, .func (PySem.W.fnOf "ring_from" "ring_from" (defArgs s_ring_from) (defBody s_ring_from) (defScope s_ring_from) .none kV15 dc15 pm15 an15 cd15 ct15), sl15⟩) (c15 : PySem.W.codeIn K cd15 "ring_from" = true) (k15 : PySem.W.keepIn K (.ref f15) = true)
    (a16 : PySem.W.nsIn K mainGlobals "ring_of_votes" = some (some (.ref f16))) (l16 : K.lookup f16 = some ⟨oc16, od16, .func (PySem.W.fnOf "ring_of_votes" "ring_of_votes" (defArgs s_ring_of_votes) (defBody s_ring_of_votes) (defScope s_ring_of_votes) .none kV16 dc16 pm16 an16 cd16 ct16), sl16⟩) (c16 : PySem.W.codeIn K cd16 "ring_of_votes" = true) (k16 : PySem.W.keepIn K (.ref f16) = true)
    (a17 : PySem.W.nsIn K mainGlobals "top" = some (some (.ref f17))) (l17 : K.lookup f17 = some ⟨oc17, od17, .func (PySem.W.fnOf "top" "top" (defArgs s_top) (defBody s_top) (defScope s_top) .none kV17 dc17 pm17 an17 cd17 ct17), sl17⟩) (c17 : PySem.W.codeIn K cd17 "top" = true) (k17 : PySem.W.keepIn K (.ref f17) = true)
    (a18 : PySem.W.nsIn K mainGlobals "_law_on_a_line" = some (some (.ref f18))) (l18 : K.lookup f18 = some ⟨oc18, od18, .func (PySem.W.fnOf "_law_on_a_line" "_law_on_a_line" (defArgs s_l_on_a_line) (defBody s_l_on_a_line) (defScope s_l_on_a_line) .none kV18 dc18 pm18 an18 cd18 ct18), sl18⟩) (c18 : PySem.W.codeIn K cd18 "_law_on_a_line" = true) (k18 : PySem.W.keepIn K (.ref f18) = true)
    (a19 : PySem.W.nsIn K mainGlobals "_law_table" = some (some (.ref f19))) (l19 : K.lookup f19 = some ⟨oc19, od19, .func (PySem.W.fnOf "_law_table" "_law_table" (defArgs s_l_table) (defBody s_l_table) (defScope s_l_table) .none kV19 dc19 pm19 an19 cd19 ct19), sl19⟩) (c19 : PySem.W.codeIn K cd19 "_law_table" = true) (k19 : PySem.W.keepIn K (.ref f19) = true)
    (a20 : PySem.W.nsIn K mainGlobals "_law_top" = some (some (.ref f20))) (l20 : K.lookup f20 = some ⟨oc20, od20, .func (PySem.W.fnOf "_law_top" "_law_top" (defArgs s_l_top) (defBody s_l_top) (defScope s_l_top) .none kV20 dc20 pm20 an20 cd20 ct20), sl20⟩) (c20 : PySem.W.codeIn K cd20 "_law_top" = true) (k20 : PySem.W.keepIn K (.ref f20) = true)
    (a21 : PySem.W.nsIn K mainGlobals "_law_right" = some (some (.ref f21))) (l21 : K.lookup f21 = some ⟨oc21, od21, .func (PySem.W.fnOf "_law_right" "_law_right" (defArgs s_l_right) (defBody s_l_right) (defScope s_l_right) .none kV21 dc21 pm21 an21 cd21 ct21), sl21⟩) (c21 : PySem.W.codeIn K cd21 "_law_right" = true) (k21 : PySem.W.keepIn K (.ref f21) = true)
    (a22 : PySem.W.nsIn K mainGlobals "_law_turned" = some (some (.ref f22))) (l22 : K.lookup f22 = some ⟨oc22, od22, .func (PySem.W.fnOf "_law_turned" "_law_turned" (defArgs s_l_turned) (defBody s_l_turned) (defScope s_l_turned) .none kV22 dc22 pm22 an22 cd22 ct22), sl22⟩) (c22 : PySem.W.codeIn K cd22 "_law_turned" = true) (k22 : PySem.W.keepIn K (.ref f22) = true)
    (a23 : PySem.W.nsIn K mainGlobals "_law_round" = some (some (.ref f23))) (l23 : K.lookup f23 = some ⟨oc23, od23, .func (PySem.W.fnOf "_law_round" "_law_round" (defArgs s_l_round) (defBody s_l_round) (defScope s_l_round) .none kV23 dc23 pm23 an23 cd23 ct23), sl23⟩) (c23 : PySem.W.codeIn K cd23 "_law_round" = true) (k23 : PySem.W.keepIn K (.ref f23) = true)
    (a24 : PySem.W.nsIn K mainGlobals "_law_votes" = some (some (.ref f24))) (l24 : K.lookup f24 = some ⟨oc24, od24, .func (PySem.W.fnOf "_law_votes" "_law_votes" (defArgs s_l_votes) (defBody s_l_votes) (defScope s_l_votes) .none kV24 dc24 pm24 an24 cd24 ct24), sl24⟩) (c24 : PySem.W.codeIn K cd24 "_law_votes" = true) (k24 : PySem.W.keepIn K (.ref f24) = true)
    (a25 : PySem.W.nsIn K mainGlobals "law" = some (some (.ref f25))) (l25 : K.lookup f25 = some ⟨oc25, od25, .func (PySem.W.fnOf "law" "law" (defArgs s_law) (defBody s_law) (defScope s_law) .none kV25 dc25 pm25 an25 cd25 ct25), sl25⟩) (c25 : PySem.W.codeIn K cd25 "law" = true) (k25 : PySem.W.keepIn K (.ref f25) = true)
    (z0 : PySem.W.nsIn K mainGlobals "any" = some none)
    (z1 : PySem.W.nsIn K mainGlobals "bool" = some none)
    (z2 : PySem.W.nsIn K mainGlobals "int" = some none)
    (z3 : PySem.W.nsIn K mainGlobals "isinstance" = some none)
    (z4 : PySem.W.nsIn K mainGlobals "len" = some none)
    (z5 : PySem.W.nsIn K mainGlobals "list" = some none)
    (z6 : PySem.W.nsIn K mainGlobals "min" = some none)
    (z7 : PySem.W.nsIn K mainGlobals "range" = some none)
    (z8 : PySem.W.nsIn K mainGlobals "set" = some none)
    (z9 : PySem.W.nsIn K mainGlobals "sorted" = some none)
    (z10 : PySem.W.nsIn K mainGlobals "sum" = some none)
    (z11 : PySem.W.nsIn K mainGlobals "tuple" = some none)
    : ∃ fd : FuncData, (∀ (s : Shared) (v : Value), BindsTo s fd ⟨[v], []⟩ [("script", v)]) ∧ ∀ base : Heap, K.In base → base.Ns mainGlobals mg → FnOk l.prog w K mg base CX0 11 fa fd ["script"] (spF K [] m_law) := by
  have e := hfa.symm.trans (PySem.W.mg_of X G a25)
  cases e
  have F1 := fun_mk (st := s_l_draws) l1 c1 k1
  have y1 := F1.binds (ps := ps_l_draws) fun _ _ _ _ _ _ us hl => match us, hl with | [_, _], _ => rfl
  have F2 := fun_mk (st := s_l_falls) l2 c2 k2
  have y2 := F2.binds (ps := ps_l_falls) fun _ _ _ _ _ _ us hl => match us, hl with | [_, _], _ => rfl
  have F3 := fun_mk (st := s_l_fits) l3 c3 k3
  have y3 := F3.binds (ps := ps_l_fits) fun _ _ _ _ _ _ us hl => match us, hl with | [_, _], _ => rfl
  have F4 := fun_mk (st := s_l_take) l4 c4 k4
  have y4 := F4.binds (ps := ps_l_take) fun _ _ _ _ _ _ us hl => match us, hl with | [_, _], _ => rfl
  have F5 := fun_mk (st := s_l_order) l5 c5 k5
  have y5 := F5.binds (ps := ps_l_order) fun _ _ _ _ _ _ us hl => match us, hl with | [_, _], _ => rfl
  have F6 := fun_mk (st := s_l_peaked) l6 c6 k6
  have y6 := F6.binds (ps := ps_l_peaked) fun _ _ _ _ _ _ us hl => match us, hl with | [_, _, _], _ => rfl
  have F7 := fun_mk (st := s_l_same) l7 c7 k7
  have y7 := F7.binds (ps := ps_l_same) fun _ _ _ _ _ _ us hl => match us, hl with | [_, _], _ => rfl
  have F8 := fun_mk (st := s_beats) l8 c8 k8
  have y8 := F8.binds (ps := ps_beats) fun _ _ _ _ _ _ us hl => match us, hl with | [_, _, _], _ => rfl
  have F9 := fun_mk (st := s_falls_from) l9 c9 k9
  have y9 := F9.binds (ps := ps_falls_from) fun _ _ _ _ _ _ us hl => match us, hl with | [_, _], _ => rfl
  have F10 := fun_mk (st := s_fits_line) l10 c10 k10
  have y10 := F10.binds (ps := ps_fits_line) fun _ _ _ _ _ _ us hl => match us, hl with | [_, _], _ => rfl
  have F11 := fun_mk (st := s_beaten_by) l11 c11 k11
  have y11 := F11.binds (ps := ps_beaten_by) fun _ _ _ _ _ _ us hl => match us, hl with | [_, _], _ => rfl
  have F12 := fun_mk (st := s_head) l12 c12 k12
  have y12 := F12.binds (ps := ps_head) fun _ _ _ _ _ _ us hl => match us, hl with | [_, _], _ => rfl
  have F13 := fun_mk (st := s_middle_choice) l13 c13 k13
  have y13 := F13.binds (ps := ps_middle_choice) fun _ _ _ _ _ _ us hl => match us, hl with | [_, _], _ => rfl
  have F14 := fun_mk (st := s_steps_back) l14 c14 k14
  have y14 := F14.binds (ps := ps_steps_back) fun _ _ _ _ _ _ us hl => match us, hl with | [_, _], _ => rfl
  have F15 := fun_mk (st := s_ring_from) l15 c15 k15
  have y15 := F15.binds (ps := ps_ring_from) fun _ _ _ _ _ _ us hl => match us, hl with | [_, _], _ => rfl
  have F16 := fun_mk (st := s_ring_of_votes) l16 c16 k16
  have y16 := F16.binds (ps := ps_ring_of_votes) fun _ _ _ _ _ _ us hl => match us, hl with | [_, _], _ => rfl
  have F17 := fun_mk (st := s_top) l17 c17 k17
  have y17 := F17.binds (ps := ps_top) fun _ _ _ _ _ _ us hl => match us, hl with | [_, _], _ => rfl
  have F18 := fun_mk (st := s_l_on_a_line) l18 c18 k18
  have y18 := F18.binds (ps := ps_l_on_a_line) fun _ _ _ _ _ _ us hl => match us, hl with | [_, _, _], _ => rfl
  have F19 := fun_mk (st := s_l_table) l19 c19 k19
  have y19 := F19.binds (ps := ps_l_table) fun _ _ _ _ _ _ us hl => match us, hl with | [_, _], _ => rfl
  have F20 := fun_mk (st := s_l_top) l20 c20 k20
  have y20 := F20.binds (ps := ps_l_top) fun _ _ _ _ _ _ us hl => match us, hl with | [_, _], _ => rfl
  have F21 := fun_mk (st := s_l_right) l21 c21 k21
  have y21 := F21.binds (ps := ps_l_right) fun _ _ _ _ _ _ us hl => match us, hl with | [_, _], _ => rfl
  have F22 := fun_mk (st := s_l_turned) l22 c22 k22
  have y22 := F22.binds (ps := ps_l_turned) fun _ _ _ _ _ _ us hl => match us, hl with | [_, _], _ => rfl
  have F23 := fun_mk (st := s_l_round) l23 c23 k23
  have y23 := F23.binds (ps := ps_l_round) fun _ _ _ _ _ _ us hl => match us, hl with | [_, _], _ => rfl
  have F24 := fun_mk (st := s_l_votes) l24 c24 k24
  have y24 := F24.binds (ps := ps_l_votes) fun _ _ _ _ _ _ us hl => match us, hl with | [_, _, _], _ => rfl
  have F25 := fun_mk (st := s_law) l25 c25 k25
  have y25 := F25.binds (ps := ps_law) fun _ _ _ _ _ _ us hl => match us, hl with | [_], _ => rfl
  let T : Tx K mg := {
    a_l_draws := _, d_l_draws := _, F_l_draws := F1, m_l_draws := PySem.W.mg_of X G a1, y_l_draws := y1,
    a_l_falls := _, d_l_falls := _, F_l_falls := F2, m_l_falls := PySem.W.mg_of X G a2, y_l_falls := y2,
    a_l_fits := _, d_l_fits := _, F_l_fits := F3, m_l_fits := PySem.W.mg_of X G a3, y_l_fits := y3,
    a_l_take := _, d_l_take := _, F_l_take := F4, m_l_take := PySem.W.mg_of X G a4, y_l_take := y4,
    a_l_order := _, d_l_order := _, F_l_order := F5, m_l_order := PySem.W.mg_of X G a5, y_l_order := y5,
    a_l_peaked := _, d_l_peaked := _, F_l_peaked := F6, m_l_peaked := PySem.W.mg_of X G a6, y_l_peaked := y6,
    a_l_same := _, d_l_same := _, F_l_same := F7, m_l_same := PySem.W.mg_of X G a7, y_l_same := y7,
    a_beats := _, d_beats := _, F_beats := F8, m_beats := PySem.W.mg_of X G a8, y_beats := y8,
    a_falls_from := _, d_falls_from := _, F_falls_from := F9, m_falls_from := PySem.W.mg_of X G a9, y_falls_from := y9,
    a_fits_line := _, d_fits_line := _, F_fits_line := F10, m_fits_line := PySem.W.mg_of X G a10, y_fits_line := y10,
    a_beaten_by := _, d_beaten_by := _, F_beaten_by := F11, m_beaten_by := PySem.W.mg_of X G a11, y_beaten_by := y11,
    a_head := _, d_head := _, F_head := F12, m_head := PySem.W.mg_of X G a12, y_head := y12,
    a_middle_choice := _, d_middle_choice := _, F_middle_choice := F13, m_middle_choice := PySem.W.mg_of X G a13, y_middle_choice := y13,
    a_steps_back := _, d_steps_back := _, F_steps_back := F14, m_steps_back := PySem.W.mg_of X G a14, y_steps_back := y14,
    a_ring_from := _, d_ring_from := _, F_ring_from := F15, m_ring_from := PySem.W.mg_of X G a15, y_ring_from := y15,
    a_ring_of_votes := _, d_ring_of_votes := _, F_ring_of_votes := F16, m_ring_of_votes := PySem.W.mg_of X G a16, y_ring_of_votes := y16,
    a_top := _, d_top := _, F_top := F17, m_top := PySem.W.mg_of X G a17, y_top := y17,
    a_l_on_a_line := _, d_l_on_a_line := _, F_l_on_a_line := F18, m_l_on_a_line := PySem.W.mg_of X G a18, y_l_on_a_line := y18,
    a_l_table := _, d_l_table := _, F_l_table := F19, m_l_table := PySem.W.mg_of X G a19, y_l_table := y19,
    a_l_top := _, d_l_top := _, F_l_top := F20, m_l_top := PySem.W.mg_of X G a20, y_l_top := y20,
    a_l_right := _, d_l_right := _, F_l_right := F21, m_l_right := PySem.W.mg_of X G a21, y_l_right := y21,
    a_l_turned := _, d_l_turned := _, F_l_turned := F22, m_l_turned := PySem.W.mg_of X G a22, y_l_turned := y22,
    a_l_round := _, d_l_round := _, F_l_round := F23, m_l_round := PySem.W.mg_of X G a23, y_l_round := y23,
    a_l_votes := _, d_l_votes := _, F_l_votes := F24, m_l_votes := PySem.W.mg_of X G a24, y_l_votes := y24,
    a_law := _, d_law := _, F_law := F25, m_law := PySem.W.mg_of X G a25, y_law := y25,
    b_any := PySem.W.mg_none_of X G z0, b_bool := PySem.W.mg_none_of X G z1, b_int := PySem.W.mg_none_of X G z2, b_isinstance := PySem.W.mg_none_of X G z3, b_len := PySem.W.mg_none_of X G z4, b_list := PySem.W.mg_none_of X G z5, b_min := PySem.W.mg_none_of X G z6, b_range := PySem.W.mg_none_of X G z7, b_set := PySem.W.mg_none_of X G z8, b_sorted := PySem.W.mg_none_of X G z9, b_sum := PySem.W.mg_none_of X G z10, b_tuple := PySem.W.mg_none_of X G z11 }
  exact ⟨_, fun s v => .of_eq rfl, fun base _ _ => ok_law T⟩
end K58

end

section
set_option Elab.async false
set_option linter.all false
set_option maxRecDepth 100000
set_option maxHeartbeats 8000000
/-! the least set of choices that beat each one outside -/
namespace VT
open FL
variable {n : Nat} {W : Int → Int → Bool}
/-- S beats all that is outside -/
def Dom (n : Nat) (W : Int → Int → Bool) (S : List Int) : Prop := (∀ a, a ∈ S → a ∈ ru n) ∧ ∀ a, a ∈ S → ∀ b, b ∈ ru n → b ∉ S → W a b = true
structure Least (n : Nat) (W : Int → Int → Bool) (S : List Int) : Prop where
  asc : S.Pairwise (· < ·)
  ne : S ≠ []
  dom : Dom n W S
  least : ∀ T, T ≠ [] → Dom n W T → ∀ x, x ∈ S → x ∈ T
theorem Least.uniq {S S' : List Int} (h : Least n W S) (h' : Least n W S') : S = S' := asc_uniq h.asc h'.asc fun k => ⟨h.least S' h'.ne h'.dom k, h'.least S h.ne h.dom k⟩
def Asym (W : Int → Int → Bool) : Prop := ∀ a b, W a b = true → W b a = true → False
theorem nested (as : Asym W) {S T : List Int} (hS : Dom n W S) (hT : Dom n W T) : (∀ x, x ∈ S → x ∈ T) ∨ ∀ x, x ∈ T → x ∈ S := by
  by_cases h : ∀ x, x ∈ S → x ∈ T
  · exact .inl h
  · refine .inr fun y hy => ?_
    by_cases z : y ∈ S
    · exact z
    · exfalso
      apply h
      intro x hx
      by_cases w : x ∈ T
      · exact w
      · exact (as x y (hS.2 x hx y (hT.1 y hy) z) (hT.2 y hy x (hS.1 x hx) w)).elim
theorem asc_nodup {l : List Int} (h : l.Pairwise (· < ·)) : l.Nodup := h.imp fun h => by omega
theorem len_sub {S T : List Int} (hS : S.Nodup) (h : ∀ x, x ∈ S → x ∈ T) : S.length ≤ T.length := by
  induction S generalizing T with
  | nil => simp
  | cons a S ih =>
    obtain ⟨h1, h2⟩ := List.nodup_cons.mp hS
    have ha := h a List.mem_cons_self
    have := ih (T := T.erase a) h2 fun x hx => (List.mem_erase_of_ne (fun z : x = a => h1 (by rw [← z]; exact hx))).mpr (h x (List.mem_cons_of_mem _ hx))
    rw [List.length_erase_of_mem ha] at this
    have p : 0 < T.length := List.length_pos_of_mem ha
    rw [List.length_cons]
    omega
theorem sub_of_len {S T : List Int} (hT : T.Nodup) (h : ∀ x, x ∈ T → x ∈ S) (hl : S.length ≤ T.length) : ∀ x, x ∈ S → x ∈ T := fun x hx => by
  by_cases z : x ∈ T
  · exact z
  · exfalso
    have := len_sub (S := x :: T) (T := S) (List.nodup_cons.mpr ⟨z, hT⟩) fun y hy => by
      rcases List.mem_cons.mp hy with rfl | hy
      · exact hx
      · exact h y hy
    rw [List.length_cons] at this
    omega
theorem least_of_short (as : Asym W) {S : List Int} (h1 : S.Pairwise (· < ·)) (h2 : S ≠ []) (h3 : Dom n W S) (h4 : ∀ T, T ≠ [] → T.Nodup → Dom n W T → S.length ≤ T.length) : Least n W S where
  asc := h1
  ne := h2
  dom := h3
  least := fun T hT hd => by
    have m : ∀ x, x ∈ (ru n).filter (fun x => decide (x ∈ T)) ↔ x ∈ T := fun x => by
      rw [List.mem_filter, decide_eq_true_eq]
      exact ⟨fun h => h.2, fun h => ⟨hd.1 x h, h⟩⟩
    have d2 : Dom n W ((ru n).filter fun x => decide (x ∈ T)) := ⟨fun a ha => hd.1 a ((m a).mp ha), fun a ha b hb hn => hd.2 a ((m a).mp ha) b hb fun z => hn ((m b).mpr z)⟩
    have nd : ((ru n).filter fun x => decide (x ∈ T)).Nodup := (ru_nodup n).sublist List.filter_sublist
    have ne2 : ((ru n).filter fun x => decide (x ∈ T)) ≠ [] := by
      obtain ⟨y, hy⟩ := List.exists_mem_of_ne_nil T hT
      exact List.ne_nil_of_mem ((m y).mpr hy)
    intro x hx
    rcases nested as h3 d2 with z | z
    · exact (m x).mp (z x hx)
    · exact (m x).mp (sub_of_len nd z (h4 _ ne2 nd d2) x hx)
theorem ru_asc (n : Nat) : (ru n).Pairwise (· < ·) := by
  unfold ru
  rw [List.pairwise_map]
  exact List.pairwise_lt_range.imp fun h => by omega
theorem dom_ru (n : Nat) (W : Int → Int → Bool) : Dom n W (ru n) := ⟨fun _ h => h, fun a _ b hb hn => absurd hb hn⟩
/-- who beats all others -/
def win (n : Nat) (W : Int → Int → Bool) (a : Int) : Bool := decide (((ru n).filter fun o => W a o).length = n - 1)
theorem win_iff (ir : ∀ a, W a a = false) {a : Int} (ha : a ∈ ru n) : win n W a = true ↔ ∀ b, b ∈ ru n → b ≠ a → W a b = true := by
  unfold win
  rw [decide_eq_true_eq]
  have sub : ∀ x, x ∈ (ru n).filter (fun o => W a o) → x ∈ (ru n).erase a := fun x hx => by
    obtain ⟨h1, h2⟩ := List.mem_filter.mp hx
    rw [(ru_nodup n).mem_erase_iff]
    exact ⟨fun z => by rw [z, ir] at h2; exact Bool.noConfusion h2, h1⟩
  have el : ((ru n).erase a).length = n - 1 := by rw [List.length_erase_of_mem ha, ru_len]
  constructor
  · intro h b hb hne
    have := sub_of_len ((ru_nodup n).sublist List.filter_sublist) sub (by rw [el, h]; exact Nat.le_refl _) b ((ru_nodup n).mem_erase_iff.mpr ⟨hne, hb⟩)
    exact (List.mem_filter.mp this).2
  · intro h
    have e : (ru n).filter (fun o => W a o) = (ru n).filter fun o => decide (o ≠ a) := by
      refine List.filter_congr fun x hx => ?_
      by_cases z : x = a
      · subst z; rw [ir]; simp
      · rw [h x hx z]; simp [z]
    rw [e, ← el]
    have : (ru n).erase a = (ru n).filter fun o => decide (o ≠ a) := by
      rw [(ru_nodup n).erase_eq_filter]
      refine List.filter_congr fun x _ => ?_
      by_cases z : x = a <;> simp [z]
    rw [this]
theorem win_one (as : Asym W) (ir : ∀ a, W a a = false) {a b : Int} (ha : a ∈ ru n) (hb : b ∈ ru n) (h : win n W a = true) (h' : win n W b = true) : a = b := by
  by_cases e : a = b
  · exact e
  · exact (as a b ((win_iff ir ha).mp h b hb fun z => e z.symm) ((win_iff ir hb).mp h' a ha e)).elim
theorem win_dom (ir : ∀ a, W a a = false) {a : Int} (ha : a ∈ ru n) : win n W a = true ↔ Dom n W [a] := by
  rw [win_iff ir ha]
  constructor
  · intro h
    refine ⟨fun x hx => by rw [List.mem_singleton.mp hx]; exact ha, fun x hx b hb hn => ?_⟩
    rw [List.mem_singleton.mp hx]
    exact h b hb fun z => hn (by rw [z]; exact List.mem_singleton.mpr rfl)
  · intro h b hb hne
    exact h.2 a (List.mem_singleton.mpr rfl) b hb fun z => hne (List.mem_singleton.mp z)
/-- the winner alone is the least set -/
theorem Least.win (as : Asym W) (ir : ∀ a, W a a = false) {S : List Int} (h : Least n W S) {a : Int} (ha : a ∈ ru n) : win n W a = true ↔ S = [a] := by
  rw [win_dom ir ha]
  constructor
  · intro d
    refine h.uniq ⟨by simp, by simp, d, fun T hT hd x hx => ?_⟩
    rw [List.mem_singleton.mp hx]
    rcases nested as d hd with z | z
    · exact z a (List.mem_singleton.mpr rfl)
    · obtain ⟨y, hy⟩ := List.exists_mem_of_ne_nil T hT
      have := List.mem_singleton.mp (z y hy)
      rw [← this]; exact hy
  · rintro rfl
    exact h.dom
theorem filter_win (as : Asym W) (ir : ∀ a, W a a = false) : (ru n).filter (VT.win n W) = [] ∨ ∃ a, a ∈ ru n ∧ VT.win n W a = true ∧ (ru n).filter (VT.win n W) = [a] := by
  cases e : (ru n).filter (VT.win n W) with
  | nil => exact .inl rfl
  | cons a l =>
    have ha : a ∈ (ru n).filter (VT.win n W) := by rw [e]; exact List.mem_cons_self
    obtain ⟨h1, h2⟩ := List.mem_filter.mp ha
    refine .inr ⟨a, h1, h2, ?_⟩
    cases l with
    | nil => rfl
    | cons b l =>
      exfalso
      have hb : b ∈ (ru n).filter (VT.win n W) := by rw [e]; simp
      obtain ⟨g1, g2⟩ := List.mem_filter.mp hb
      have := win_one as ir h1 g1 h2 g2
      have nd : ((ru n).filter (VT.win n W)).Nodup := (ru_nodup n).sublist List.filter_sublist
      rw [e, this] at nd
      simp at nd
end VT

end

section
set_option Elab.async false
set_option linter.all false
set_option maxRecDepth 100000
set_option maxHeartbeats 8000000
/-! votes, votes along a line -/
namespace VT
open FL
/-- the voter has a ahead of b -/
def bf (a b : Int) (v : List Int) : Bool := decide (v.idxOf a < v.idxOf b)
def cnt (V : List (List Int)) (a b : Int) : Nat := V.countP (bf a b)
def bt (V : List (List Int)) (a b : Int) : Bool := decide (V.length < 2 * cnt V a b)
def wv (V : List (List Int)) (a b : Int) : Bool := decide (b ≠ a) && bt V a b
theorem cnt_two (V : List (List Int)) (a b : Int) : cnt V a b + cnt V b a ≤ V.length := by
  induction V with
  | nil => simp [cnt]
  | cons v V ih =>
    unfold cnt at *
    rw [List.countP_cons, List.countP_cons, List.length_cons]
    by_cases h : v.idxOf a < v.idxOf b
    · have h1 : bf a b v = true := by unfold bf; exact decide_eq_true h
      have h2 : bf b a v = false := by unfold bf; exact decide_eq_false (by omega)
      rw [h1, h2]; simp; omega
    · have h1 : bf a b v = false := by unfold bf; exact decide_eq_false h
      rw [h1]; simp
      split <;> omega
theorem wv_as (V : List (List Int)) : Asym (wv V) := fun a b h h' => by
  unfold wv bt at h h'
  rw [Bool.and_eq_true, decide_eq_true_eq, decide_eq_true_eq] at h h'
  have := cnt_two V a b
  omega
theorem wv_ir (V : List (List Int)) (a : Int) : wv V a a = false := by unfold wv; simp
theorem wv_iff {V : List (List Int)} {a b : Int} : wv V a b = true ↔ b ≠ a ∧ V.length < 2 * cnt V a b := by unfold wv bt; rw [Bool.and_eq_true, decide_eq_true_eq, decide_eq_true_eq]
theorem wv_of {V : List (List Int)} {a b : Int} (h : b ≠ a) : wv V a b = bt V a b := by unfold wv; rw [decide_eq_true h, Bool.true_and]
theorem cnt_all {V : List (List Int)} {a b : Int} (h : ∀ v, v ∈ V → v.idxOf a ≠ v.idxOf b) : cnt V a b + cnt V b a = V.length := by
  induction V with
  | nil => simp [cnt]
  | cons v V ih =>
    have := ih fun v hv => h v (List.mem_cons_of_mem _ hv)
    have e := h v List.mem_cons_self
    unfold cnt at *
    rw [List.countP_cons, List.countP_cons, List.length_cons]
    by_cases h : v.idxOf a < v.idxOf b
    · have h1 : bf a b v = true := by unfold bf; exact decide_eq_true h
      have h2 : bf b a v = false := by unfold bf; exact decide_eq_false (by omega)
      rw [h1, h2]; simp; omega
    · have h1 : bf a b v = false := by unfold bf; exact decide_eq_false h
      have h2 : bf b a v = true := by unfold bf; exact decide_eq_true (by omega)
      rw [h1, h2]; simp; omega
theorem cnt_mono {V : List (List Int)} {a b c d : Int} (h : ∀ v, v ∈ V → v.idxOf a < v.idxOf b → v.idxOf c < v.idxOf d) : cnt V a b ≤ cnt V c d :=
  List.countP_mono_left fun v hv e => by unfold bf at *; exact decide_eq_true (h v hv (of_decide_eq_true e))
/-- along a line: at p the dearest -/
structure SP (line v : List Int) (p : Nat) : Prop where
  lt : p < line.length
  hd : v.idxOf (line.getD p 0) = 0
  down : ∀ i j, i < j → j ≤ p → v.idxOf (line.getD j 0) < v.idxOf (line.getD i 0)
  up : ∀ i j, p ≤ i → i < j → j < line.length → v.idxOf (line.getD i 0) < v.idxOf (line.getD j 0)
section
variable {line : List Int} {V : List (List Int)} {pk : List Int → Nat}
theorem getD_inj (hn : line.Nodup) {i j : Nat} (hi : i < line.length) (hj : j < line.length) (e : line.getD i 0 = line.getD j 0) : i = j := by
  rw [List.getD_eq_getElem?_getD, List.getD_eq_getElem?_getD, List.getElem?_eq_getElem hi, List.getElem?_eq_getElem hj] at e
  have e : line[i] = line[j] := e
  rcases Nat.lt_trichotomy i j with z | z | z
  · exact absurd e (List.pairwise_iff_getElem.mp hn i j hi hj z)
  · exact z
  · exact absurd e.symm (List.pairwise_iff_getElem.mp hn j i hj hi z)
theorem sp_right (H : ∀ v, v ∈ V → SP line v (pk v)) (hn : line.Nodup) {i j k : Nat} (h1 : i < j) (h2 : j < k) (h3 : k < line.length) (h : wv V (line.getD i 0) (line.getD j 0) = true) : wv V (line.getD i 0) (line.getD k 0) = true := by
  rw [wv_iff] at h ⊢
  refine ⟨fun z => by have := getD_inj hn h3 (by omega) z; omega, ?_⟩
  have : cnt V (line.getD i 0) (line.getD j 0) ≤ cnt V (line.getD i 0) (line.getD k 0) := cnt_mono fun v hv e => by
    have s := H v hv
    by_cases hp : pk v ≤ j
    · have := s.up j k hp h2 h3; omega
    · have := s.down i j h1 (by omega); omega
  omega
theorem sp_left (H : ∀ v, v ∈ V → SP line v (pk v)) (hn : line.Nodup) {i j k : Nat} (h1 : i < j) (h2 : j < k) (h3 : k < line.length) (h : wv V (line.getD k 0) (line.getD j 0) = true) : wv V (line.getD k 0) (line.getD i 0) = true := by
  rw [wv_iff] at h ⊢
  refine ⟨fun z => by have := getD_inj hn (by omega) h3 z; omega, ?_⟩
  have : cnt V (line.getD k 0) (line.getD j 0) ≤ cnt V (line.getD k 0) (line.getD i 0) := cnt_mono fun v hv e => by
    have s := H v hv
    by_cases hp : j ≤ pk v
    · have := s.down i j h1 hp; omega
    · have := s.up j k (by omega) h2 h3; omega
  omega
theorem sp_ne {v : List Int} {p : Nat} (s : SP line v p) {i j : Nat} (hij : i < j) (hj : j < line.length) (hn : v.Nodup) (hm : ∀ x, x ∈ line → x ∈ v) (hl : line.Nodup) : v.idxOf (line.getD i 0) ≠ v.idxOf (line.getD j 0) := fun e => by
  have m : ∀ k, k < line.length → line.getD k 0 ∈ v := fun k hk => hm _ (by
    rw [List.getD_eq_getElem?_getD, List.getElem?_eq_getElem hk]; exact List.getElem_mem hk)
  have h1 := List.idxOf_lt_length_iff.mpr (m i (by omega))
  have h2 := List.idxOf_lt_length_iff.mpr (m j hj)
  have e1 := List.getElem_idxOf h1
  have e2 := List.getElem_idxOf h2
  have : line.getD i 0 = line.getD j 0 := by rw [← e1, ← e2]; congr 1
  have := getD_inj hl (by omega) hj this
  omega
/-- an odd number of votes: of two one is ahead -/
theorem sp_or (H : ∀ v, v ∈ V → SP line v (pk v)) (hn : line.Nodup) (hv : ∀ v, v ∈ V → v.Nodup ∧ ∀ x, x ∈ line → x ∈ v) (odd : V.length % 2 = 1) {i j : Nat} (hi : i < line.length) (hj : j < line.length) (hij : i ≠ j) :
    wv V (line.getD i 0) (line.getD j 0) = true ∨ wv V (line.getD j 0) (line.getD i 0) = true := by
  have ne : ∀ v, v ∈ V → v.idxOf (line.getD i 0) ≠ v.idxOf (line.getD j 0) := fun v hv' => by
    obtain ⟨a, b⟩ := hv v hv'
    rcases Nat.lt_or_gt_of_ne hij with z | z
    · exact sp_ne (H v hv') z hj a b hn
    · exact fun e => sp_ne (H v hv') z hi a b hn e.symm
  have := cnt_all ne
  have d : line.getD i 0 ≠ line.getD j 0 := fun z => hij (getD_inj hn hi hj z)
  rw [wv_iff, wv_iff]
  by_cases h : V.length < 2 * cnt V (line.getD i 0) (line.getD j 0)
  · exact .inl ⟨fun z => d z.symm, h⟩
  · exact .inr ⟨d, by omega⟩
theorem sp_trans (H : ∀ v, v ∈ V → SP line v (pk v)) (hn : line.Nodup) (hv : ∀ v, v ∈ V → v.Nodup ∧ ∀ x, x ∈ line → x ∈ v) (odd : V.length % 2 = 1) {i j k : Nat} (hi : i < line.length) (hj : j < line.length) (hk : k < line.length)
    (h1 : wv V (line.getD i 0) (line.getD j 0) = true) (h2 : wv V (line.getD j 0) (line.getD k 0) = true) : wv V (line.getD i 0) (line.getD k 0) = true := by
  have as := wv_as V
  have ij : i ≠ j := fun z => by subst z; rw [wv_ir] at h1; cases h1
  have jk : j ≠ k := fun z => by subst z; rw [wv_ir] at h2; cases h2
  have ik : i ≠ k := fun z => by subst z; exact as _ _ h1 h2
  by_cases h : wv V (line.getD i 0) (line.getD k 0) = true
  · exact h
  · have h3 : wv V (line.getD k 0) (line.getD i 0) = true := (sp_or H hn hv odd hi hk ik).resolve_left h
    exfalso
    by_cases a : i < j
    · by_cases b : j < k
      · exact h (sp_right H hn a b hk h1)
      · by_cases c : i < k
        · exact as _ _ h1 (sp_left H hn c (by omega) hj h2)
        · exact as _ _ h2 (sp_right H hn (by omega) a hj h3)
    · by_cases b : k < j
      · exact h (sp_left H hn b (by omega) hi h1)
      · by_cases c : k < i
        · exact as _ _ h1 (sp_right H hn (by omega) c hi h2)
        · exact as _ _ h2 (sp_left H hn (by omega) (by omega) hk h3)
end
/-! the middle voter -/
theorem sort_le {s : List Int} (h : s.Pairwise (· ≤ ·)) {k : Nat} (hk : k < s.length) : k + 1 ≤ s.countP fun x => decide (x ≤ s[k]) := by
  have e : (s.take (k + 1)).countP (fun x => decide (x ≤ s[k])) = k + 1 := by
    rw [List.countP_eq_length.mpr]
    · rw [List.length_take]; omega
    · intro x hx
      obtain ⟨i, hi, rfl⟩ := List.mem_iff_getElem.mp hx
      rw [List.length_take] at hi
      rw [List.getElem_take, decide_eq_true_eq]
      by_cases z : i = k
      · subst z; exact Int.le_refl _
      · exact (List.pairwise_iff_getElem.mp h) i k (by omega) hk (by omega)
  rw [← e]
  exact (List.take_sublist _ _).countP_le
theorem sort_ge {s : List Int} (h : s.Pairwise (· ≤ ·)) {k : Nat} (hk : k < s.length) : s.length - k ≤ s.countP fun x => decide (s[k] ≤ x) := by
  have e : (s.drop k).countP (fun x => decide (s[k] ≤ x)) = s.length - k := by
    rw [List.countP_eq_length.mpr]
    · rw [List.length_drop]
    · intro x hx
      obtain ⟨i, hi, rfl⟩ := List.mem_iff_getElem.mp hx
      rw [List.length_drop] at hi
      rw [List.getElem_drop, decide_eq_true_eq]
      by_cases z : i = 0
      · subst z; exact Int.le_refl _
      · exact (List.pairwise_iff_getElem.mp h) k (k + i) hk (by omega) (by omega)
  rw [← e]
  exact (List.drop_sublist _ _).countP_le
theorem iSort_len (l : List Int) : (iSort l).length = l.length := (iSort_perm l).length_eq
section
variable {line : List Int} {V : List (List Int)} {pk : List Int → Nat}
def places (pk : List Int → Nat) (V : List (List Int)) : List Int := V.map fun v => (pk v : Int)
def mid (pk : List Int → Nat) (V : List (List Int)) : Int := (iSort (places pk V)).getD (V.length / 2) 0
theorem mid_get (hV : V ≠ []) : ∃ h : V.length / 2 < (iSort (places pk V)).length, mid pk V = (iSort (places pk V))[V.length / 2] := by
  have hl : (iSort (places pk V)).length = V.length := by rw [iSort_len, places, List.length_map]
  have : 0 < V.length := List.length_pos_iff.mpr hV
  have h : V.length / 2 < (iSort (places pk V)).length := by omega
  refine ⟨h, ?_⟩
  unfold mid
  rw [List.getD_eq_getElem?_getD, List.getElem?_eq_getElem h]; rfl
theorem mid_mem (hV : V ≠ []) : ∃ v, v ∈ V ∧ mid pk V = (pk v : Int) := by
  obtain ⟨h, e⟩ := mid_get (pk := pk) hV
  have : (iSort (places pk V))[V.length / 2] ∈ places pk V := (iSort_perm _).mem_iff.mp (List.getElem_mem h)
  obtain ⟨v, hv, e2⟩ := List.mem_map.mp this
  exact ⟨v, hv, by rw [e, e2]⟩
theorem median (H : ∀ v, v ∈ V → SP line v (pk v)) (hn : line.Nodup) (odd : V.length % 2 = 1) {q : Nat} (hq : q < line.length) (hm : (q : Int) ≠ mid pk V) : wv V (line.getD (mid pk V).toNat 0) (line.getD q 0) = true := by
  have hV : V ≠ [] := fun z => by rw [z] at odd; simp at odd
  obtain ⟨h, e⟩ := mid_get (pk := pk) hV
  obtain ⟨v0, hv0, e0⟩ := mid_mem (pk := pk) hV
  have hl : (iSort (places pk V)).length = V.length := by rw [iSort_len, places, List.length_map]
  have lt0 := (H v0 hv0).lt
  obtain ⟨m, em⟩ : ∃ m : Nat, mid pk V = (m : Int) := ⟨pk v0, e0⟩
  have hml : m < line.length := by omega
  rw [em] at hm ⊢
  rw [Int.toNat_natCast, wv_iff]
  refine ⟨fun z => by have := getD_inj hn hq hml z; omega, ?_⟩
  rcases Nat.lt_or_gt_of_ne (show q ≠ m by omega) with z | z
  · have a := sort_ge (iSort_sorted (places pk V)) h
    rw [← e, em, (iSort_perm (places pk V)).countP_eq, hl, places, List.countP_map] at a
    have : V.countP ((fun x => decide ((m : Int) ≤ x)) ∘ fun v => (pk v : Int)) ≤ cnt V (line.getD m 0) (line.getD q 0) := List.countP_mono_left fun v hv c => by
      have c : (m : Int) ≤ (pk v : Int) := of_decide_eq_true c
      unfold bf
      exact decide_eq_true ((H v hv).down q m z (by omega))
    omega
  · have a := sort_le (iSort_sorted (places pk V)) h
    rw [← e, em, (iSort_perm (places pk V)).countP_eq, places, List.countP_map] at a
    have : V.countP ((fun x => decide (x ≤ (m : Int))) ∘ fun v => (pk v : Int)) ≤ cnt V (line.getD m 0) (line.getD q 0) := List.countP_mono_left fun v hv c => by
      have c : (pk v : Int) ≤ (m : Int) := of_decide_eq_true c
      unfold bf
      exact decide_eq_true ((H v hv).up m q (by omega) z hq)
    omega
/-- the line turned round -/
theorem getD_rev {i : Nat} (hi : i < line.length) : line.reverse.getD i 0 = line.getD (line.length - 1 - i) 0 := by
  rw [List.getD_eq_getElem?_getD, List.getD_eq_getElem?_getD, List.getElem?_reverse hi]
theorem SP.rev {v : List Int} {p : Nat} (s : SP line v p) : SP line.reverse v (line.length - 1 - p) where
  lt := by rw [List.length_reverse]; have := s.lt; omega
  hd := by
    have := s.lt
    rw [getD_rev (by omega)]
    rw [show line.length - 1 - (line.length - 1 - p) = p by omega]
    exact s.hd
  down := fun i j h1 h2 => by
    have := s.lt
    rw [getD_rev (by omega), getD_rev (by omega)]
    exact s.up _ _ (by omega) (by omega) (by omega)
  up := fun i j h1 h2 h3 => by
    have := s.lt
    rw [List.length_reverse] at h3
    rw [getD_rev (by omega), getD_rev (by omega)]
    exact s.down _ _ (by omega) (by omega)
theorem mid_rev (H : ∀ v, v ∈ V → pk v < line.length) (odd : V.length % 2 = 1) : mid (fun v => line.length - 1 - pk v) V = (line.length : Int) - 1 - mid pk V := by
  have hl : (iSort (places pk V)).length = V.length := by rw [iSort_len, places, List.length_map]
  have e : iSort (places (fun v => line.length - 1 - pk v) V) = ((iSort (places pk V)).map fun x => (line.length : Int) - 1 - x).reverse := by
    symm
    apply iSort_uniq
    · refine (List.reverse_perm _).trans (((iSort_perm _).map _).trans ?_)
      have : (places pk V).map (fun x => (line.length : Int) - 1 - x) = places (fun v => line.length - 1 - pk v) V := by
        unfold places
        rw [List.map_map]
        refine List.map_congr_left fun v hv => ?_
        have := H v hv
        show (line.length : Int) - 1 - (pk v : Int) = ((line.length - 1 - pk v : Nat) : Int)
        omega
      rw [this]
    · rw [List.pairwise_reverse, List.pairwise_map]
      exact (iSort_sorted _).imp fun h => by omega
  have hV : V ≠ [] := fun z => by rw [z] at odd; simp at odd
  obtain ⟨h, e2⟩ := mid_get (pk := pk) hV
  unfold mid
  rw [e, List.getD_eq_getElem?_getD, List.getElem?_reverse (by rw [List.length_map]; exact h), List.length_map, hl, List.getElem?_map]
  have ek : V.length - 1 - V.length / 2 = V.length / 2 := by omega
  rw [ek, List.getElem?_eq_getElem h]
  show (line.length : Int) - 1 - (iSort (places pk V))[V.length / 2] = (line.length : Int) - 1 - (iSort (places pk V)).getD (V.length / 2) 0
  rw [List.getD_eq_getElem?_getD, List.getElem?_eq_getElem h]; rfl
end
end VT

end

section
set_option Elab.async false
set_option linter.all false
set_option maxRecDepth 100000
set_option maxHeartbeats 8000000
/-! the least set, found among all sets -/
namespace VT
open FL
theorem bits_ex : ∀ (n : Nat) (P : Nat → Bool), ∃ m, m < 2 ^ n ∧ ∀ c, c < n → (m / 2 ^ c % 2 = 1 ↔ P c = true)
  | 0, P => ⟨0, by simp, fun c h => by omega⟩
  | n + 1, P => by
    obtain ⟨m, h1, h2⟩ := bits_ex n fun c => P (c + 1)
    refine ⟨2 * m + if P 0 = true then 1 else 0, ?_, fun c hc => ?_⟩
    · rw [Nat.pow_succ]
      split <;> omega
    · cases c with
      | zero =>
        rw [Nat.pow_zero, Nat.div_one]
        by_cases p : P 0 = true
        · rw [if_pos p]; simp [p]
        · rw [if_neg p]; simp [p]
      | succ c =>
        have e : (2 * m + if P 0 = true then 1 else 0) / 2 ^ (c + 1) = m / 2 ^ c := by
          rw [Nat.pow_succ', ← Nat.div_div_eq_div_mul]
          have : (2 * m + if P 0 = true then 1 else 0) / 2 = m := by split <;> omega
          rw [this]
        rw [e]
        exact h2 c (by omega)
theorem bits_no : ∀ (n m : Nat), m < 2 ^ n → (∀ c, c < n → ¬ m / 2 ^ c % 2 = 1) → m = 0
  | 0, m, h, _ => by simpa using h
  | n + 1, m, h, hc => by
    have h0 := hc 0 (by omega)
    rw [Nat.pow_zero, Nat.div_one] at h0
    have := bits_no n (m / 2) (by rw [Nat.pow_succ] at h; omega) fun c hc' => by
      have := hc (c + 1) (by omega)
      rw [Nat.pow_succ', ← Nat.div_div_eq_div_mul] at this
      exact this
    omega
/-- the m-th set -/
def th (n m : Nat) : List Int := (ru n).filter fun c => decide (m / 2 ^ c.toNat % 2 = 1)
def out (n : Nat) (S : List Int) : List Int := (ru n).filter fun o => !decide (o ∈ S)
def sumW (W : Int → Int → Bool) (S O : List Int) : Nat := (S.map fun c => O.countP (W c)).sum
theorem sumW_le (W : Int → Int → Bool) (O : List Int) : ∀ S : List Int, sumW W S O ≤ S.length * O.length
  | [] => by simp [sumW]
  | c :: S => by
    have := sumW_le W O S
    unfold sumW at *
    rw [List.map_cons, List.sum_cons, List.length_cons, Nat.succ_mul]
    have := List.countP_le_length (p := W c) (l := O)
    omega
theorem sumW_iff (W : Int → Int → Bool) (O : List Int) : ∀ S : List Int, sumW W S O = S.length * O.length ↔ ∀ c, c ∈ S → ∀ o, o ∈ O → W c o = true
  | [] => by simp [sumW]
  | c :: S => by
    have h1 := sumW_le W O S
    have h2 := List.countP_le_length (p := W c) (l := O)
    have ih := sumW_iff W O S
    have e : sumW W (c :: S) O = O.countP (W c) + sumW W S O := rfl
    rw [e, List.length_cons, Nat.succ_mul]
    constructor
    · intro h d hd o ho
      rcases List.mem_cons.mp hd with rfl | hd
      · exact List.countP_eq_length.mp (by omega) o ho
      · exact ih.mp (by omega) d hd o ho
    · intro h
      have a := List.countP_eq_length.mpr (h c List.mem_cons_self)
      have b := ih.mpr fun d hd => h d (List.mem_cons_of_mem _ hd)
      omega
variable {n : Nat} {W : Int → Int → Bool}
theorem th_sub {m : Nat} : ∀ a, a ∈ th n m → a ∈ ru n := fun a h => (List.mem_filter.mp h).1
theorem th_asc (n m : Nat) : (th n m).Pairwise (· < ·) := (ru_asc n).sublist List.filter_sublist
theorem th_ne {m : Nat} (h0 : 0 < m) (h : m < 2 ^ n) : th n m ≠ [] := fun e => by
  have := bits_no n m h fun c hc z => by
    have : (c : Int) ∈ th n m := List.mem_filter.mpr ⟨ru_mem.mpr ⟨by omega, by omega⟩, by rw [Int.toNat_natCast]; exact decide_eq_true z⟩
    rw [e] at this; cases this
  omega
theorem dom_sum {S : List Int} (h : ∀ a, a ∈ S → a ∈ ru n) : sumW W S (out n S) = S.length * (out n S).length ↔ Dom n W S := by
  rw [sumW_iff]
  constructor
  · exact fun g => ⟨h, fun a ha b hb hn => g a ha b (List.mem_filter.mpr ⟨hb, by rw [decide_eq_false hn]; rfl⟩)⟩
  · intro g a ha b hb
    obtain ⟨h1, h2⟩ := List.mem_filter.mp hb
    exact g.2 a ha b h1 fun z => by rw [decide_eq_true z] at h2; cases h2
def fT (n : Nat) (W : Int → Int → Bool) (best : List Int) (m : Nat) : List Int := if (th n m).length < best.length ∧ sumW W (th n m) (out n (th n m)) = (th n m).length * (out n (th n m)).length then th n m else best
structure Okb (n : Nat) (W : Int → Int → Bool) (b : List Int) : Prop where
  asc : b.Pairwise (· < ·)
  ne : b ≠ []
  dom : Dom n W b
theorem fold_best : ∀ (l : List Nat) (b : List Int), (∀ m, m ∈ l → 0 < m ∧ m < 2 ^ n) → Okb n W b → Okb n W (l.foldl (fT n W) b) ∧ (l.foldl (fT n W) b).length ≤ b.length ∧ ∀ m, m ∈ l → Dom n W (th n m) → (l.foldl (fT n W) b).length ≤ (th n m).length
  | [], b, _, h => ⟨h, Nat.le_refl _, fun m hm => by cases hm⟩
  | m :: l, b, hl, h => by
    have hm := hl m List.mem_cons_self
    have step : Okb n W (fT n W b m) ∧ (fT n W b m).length ≤ b.length ∧ (Dom n W (th n m) → (fT n W b m).length ≤ (th n m).length) := by
      unfold fT
      split
      · rename_i c
        exact ⟨⟨th_asc n m, th_ne hm.1 hm.2, (dom_sum th_sub).mp c.2⟩, by omega, fun _ => Nat.le_refl _⟩
      · rename_i c
        refine ⟨h, Nat.le_refl _, fun d => ?_⟩
        have := (dom_sum th_sub).mpr d
        by_cases z : (th n m).length < b.length
        · exact absurd ⟨z, this⟩ c
        · omega
    obtain ⟨i1, i2, i3⟩ := fold_best l (fT n W b m) (fun k hk => hl k (List.mem_cons_of_mem _ hk)) step.1
    rw [List.foldl_cons]
    refine ⟨i1, Nat.le_trans i2 step.2.1, fun k hk d => ?_⟩
    rcases List.mem_cons.mp hk with rfl | hk
    · exact Nat.le_trans i2 (step.2.2 d)
    · exact i3 k hk d
theorem least_all (as : Asym W) (h0 : 0 < n) : Least n W ((List.range' 1 (2 ^ n - 1)).foldl (fT n W) (ru n)) := by
  obtain ⟨a, _, c⟩ := fold_best (W := W) (List.range' 1 (2 ^ n - 1)) (ru n) (fun m hm => by rw [List.mem_range'_1] at hm; have : 0 < 2 ^ n := Nat.two_pow_pos n; omega) ⟨ru_asc n, fun e => by have := ru_len n; rw [e] at this; simp at this; omega, dom_ru n W⟩
  refine least_of_short as a.asc a.ne a.dom fun T hT hn hd => ?_
  obtain ⟨m, h1, h2⟩ := bits_ex n fun c => decide ((c : Int) ∈ T)
  have mem : ∀ x, x ∈ th n m ↔ x ∈ T := fun x => by
    unfold th
    rw [List.mem_filter, decide_eq_true_eq]
    constructor
    · rintro ⟨g1, g2⟩
      obtain ⟨e1, e2⟩ := ru_mem.mp g1
      have := (h2 x.toNat (by omega)).mp g2
      rw [decide_eq_true_eq, Int.toNat_of_nonneg e1] at this
      exact this
    · intro g
      have g1 := hd.1 x g
      obtain ⟨e1, e2⟩ := ru_mem.mp g1
      refine ⟨g1, (h2 x.toNat (by omega)).mpr ?_⟩
      rw [decide_eq_true_eq, Int.toNat_of_nonneg e1]
      exact g
  have m0 : 0 < m := by
    rcases Nat.eq_zero_or_pos m with z | z
    · exfalso
      obtain ⟨y, hy⟩ := List.exists_mem_of_ne_nil T hT
      have := (mem y).mpr hy
      unfold th at this
      rw [List.mem_filter, z, decide_eq_true_eq, Nat.zero_div] at this
      omega
    · exact z
  have d2 : Dom n W (th n m) := ⟨th_sub, fun a ha b hb hn => hd.2 a ((mem a).mp ha) b hb fun z => hn ((mem b).mpr z)⟩
  have := c m (by rw [List.mem_range'_1]; omega) d2
  exact Nat.le_trans this (len_sub (asc_nodup (th_asc n m)) fun x hx => (mem x).mp hx)
end VT

end

section
set_option Elab.async false
set_option linter.all false
set_option maxRecDepth 100000
set_option maxHeartbeats 8000000
/-! the least set, found from each choice -/
namespace VT
open FL
def later (n : Nat) (W : Int → Int → Bool) (f e : List Int) : List Int := e.flatMap fun a => (ru n).filter fun o => !W a o && !decide (o ∈ f)
structure BI (n : Nat) (W : Int → Int → Bool) (s : Int) (f e : List Int) : Prop where
  mem : s ∈ f
  nd : f.Nodup
  sub : ∀ x, x ∈ f → x ∈ ru n
  esub : ∀ x, x ∈ e → x ∈ f
  done : ∀ x, x ∈ f → x ∉ e → ∀ o, o ∈ ru n → W x o = false → o ∈ f
  least : ∀ T, Dom n W T → s ∈ T → ∀ x, x ∈ f → x ∈ T
variable {n : Nat} {W : Int → Int → Bool} {s : Int} {f e : List Int}
theorem mem_later {o : Int} : o ∈ later n W f e ↔ o ∈ ru n ∧ o ∉ f ∧ ∃ a, a ∈ e ∧ W a o = false := by
  unfold later
  rw [List.mem_flatMap]
  constructor
  · rintro ⟨a, h1, h2⟩
    rw [List.mem_filter] at h2
    obtain ⟨h2, h3⟩ := h2
    simp at h3
    exact ⟨h2, h3.2, a, h1, h3.1⟩
  · rintro ⟨h1, h2, a, h3, h4⟩
    exact ⟨a, h3, List.mem_filter.mpr ⟨h1, by simp [h4, h2]⟩⟩
theorem BI.first (hs : s ∈ ru n) : BI n W s [s] [s] where
  mem := by simp
  nd := by simp
  sub := fun x hx => by rw [List.mem_singleton.mp hx]; exact hs
  esub := fun x hx => hx
  done := fun x hx hn => absurd hx hn
  least := fun T _ hT x hx => by rw [List.mem_singleton.mp hx]; exact hT
theorem BI.step (h : BI n W s f e) : BI n W s (f ++ sSet (later n W f e)) (sSet (later n W f e)) where
  mem := List.mem_append_left _ h.mem
  nd := by
    rw [List.nodup_append]
    refine ⟨h.nd, asc_nodup (sSet_asc _), fun a ha b hb z => ?_⟩
    rw [mem_sSet, mem_later] at hb
    exact hb.2.1 (z ▸ ha)
  sub := fun x hx => by
    rcases List.mem_append.mp hx with z | z
    · exact h.sub x z
    · rw [mem_sSet, mem_later] at z; exact z.1
  esub := fun x hx => List.mem_append_right _ hx
  done := fun x hx hn o ho hw => by
    rcases List.mem_append.mp hx with z | z
    · by_cases q : o ∈ f
      · exact List.mem_append_left _ q
      · by_cases p : x ∈ e
        · exact List.mem_append_right _ (mem_sSet.mpr (mem_later.mpr ⟨ho, q, x, p, hw⟩))
        · exact absurd (h.done x z p o ho hw) q
    · exact absurd z hn
  least := fun T hT hs x hx => by
    rcases List.mem_append.mp hx with z | z
    · exact h.least T hT hs x z
    · rw [mem_sSet, mem_later] at z
      obtain ⟨z1, z2, a, z3, z4⟩ := z
      by_cases p : x ∈ T
      · exact p
      · have := hT.2 a (h.least T hT hs a (h.esub a z3)) x z1 p
        rw [z4] at this; cases this
/-- all that is reached from s -/
structure Clo (n : Nat) (W : Int → Int → Bool) (s : Int) (f : List Int) : Prop where
  mem : s ∈ f
  nd : f.Nodup
  dom : Dom n W f
  least : ∀ T, Dom n W T → s ∈ T → ∀ x, x ∈ f → x ∈ T
theorem BI.clo (h : BI n W s f []) : Clo n W s f where
  mem := h.mem
  nd := h.nd
  dom := ⟨h.sub, fun a ha b hb hn => by
    cases q : W a b with
    | true => rfl
    | false => exact absurd (h.done a ha (fun z => by cases z) b hb q) hn⟩
  least := h.least
theorem BI.len (h : BI n W s f e) : f.length ≤ n := by
  have := len_sub h.nd h.sub
  rw [ru_len] at this
  exact this
theorem BI.elen (h : BI n W s f e) (he : e.Nodup) : e.length ≤ n := Nat.le_trans (len_sub he h.esub) h.len
theorem sSet_len (h : BI n W s f e) : (sSet (later n W f e)).length ≤ n := by
  have := len_sub (asc_nodup (sSet_asc (later n W f e))) fun x hx => (mem_later.mp (mem_sSet.mp hx)).1
  rw [ru_len] at this
  exact this
theorem iSort_asc {l : List Int} (h : l.Nodup) : (iSort l).Pairwise (· < ·) := by
  have a := iSort_sorted l
  have b : (iSort l).Nodup := (iSort_perm l).nodup_iff.mpr h
  exact a.imp₂ (fun x y h1 h2 => by omega) b
theorem Dom.perm {S T : List Int} (h : Dom n W S) (p : ∀ x, x ∈ T ↔ x ∈ S) : Dom n W T := ⟨fun a ha => h.1 a ((p a).mp ha), fun a ha b hb hn => h.2 a ((p a).mp ha) b hb fun z => hn ((p b).mpr z)⟩
/-- the best one of the first i starts -/
def Best (n : Nat) (W : Int → Int → Bool) (i : Nat) (b : List Int) : Prop := Okb n W b ∧ ∀ s : Nat, s < i → ∃ f, Clo n W (s : Int) f ∧ b.length ≤ f.length
theorem Best.least (as : Asym W) {b : List Int} (h : Best n W n b) : Least n W b := least_of_short as h.1.asc h.1.ne h.1.dom fun T hT hn hd => by
  obtain ⟨y, hy⟩ := List.exists_mem_of_ne_nil T hT
  obtain ⟨y0, y1⟩ := ru_mem.mp (hd.1 y hy)
  obtain ⟨j, rfl⟩ := Int.eq_ofNat_of_zero_le y0
  obtain ⟨f, h1, h2⟩ := h.2 j (by omega)
  exact Nat.le_trans h2 (len_sub h1.nd (h1.least T hd hy))
theorem clo_ok {f : List Int} (h : Clo n W s f) : Okb n W (iSort f) where
  asc := iSort_asc h.nd
  ne := List.ne_nil_of_mem ((iSort_perm f).mem_iff.mpr h.mem)
  dom := h.dom.perm fun x => (iSort_perm f).mem_iff
end VT

end

section
set_option Elab.async false
set_option linter.all false
set_option maxRecDepth 100000
set_option maxHeartbeats 8000000
/-! votes that fit a line -/
namespace VT
open FL
/-- the ranks of the line's choices -/
def ranks (v line : List Int) : List Int := line.map fun c => (v.idxOf c : Int)
theorem ranks_len (v line : List Int) : (ranks v line).length = line.length := by unfold ranks; simp
theorem ranks_get {v line : List Int} {i : Nat} (h : i < line.length) : (ranks v line)[i]'(by rw [ranks_len]; exact h) = (v.idxOf (line.getD i 0) : Int) := by
  unfold ranks
  rw [List.getElem_map, List.getD_eq_getElem?_getD, List.getElem?_eq_getElem h]; rfl
/-- from best on up, until best down -/
def falls (v line : List Int) : Bool := decide (∀ a : Nat, a < line.length - 1 → (decide (v.idxOf (line.getD a 0) < v.idxOf (line.getD (a + 1) 0)) = decide ((ranks v line).idxOf 0 ≤ a)))
theorem chain_le {f : Nat → Nat} {lo hi : Nat} (h : ∀ i, lo ≤ i → i < hi → f i < f (i + 1)) : ∀ k i, lo ≤ i → i + k ≤ hi → 0 < k → f i < f (i + k)
  | 0, i, _, _, h0 => by omega
  | 1, i, h1, h2, _ => h i h1 (by omega)
  | k + 2, i, h1, h2, _ => by
    have := chain_le h (k + 1) i h1 (by omega) (by omega)
    have := h (i + (k + 1)) (by omega) (by omega)
    have e : i + (k + 2) = i + (k + 1) + 1 := by omega
    rw [e]; omega
theorem SP.best {line v : List Int} {p : Nat} (s : SP line v p) : (ranks v line).idxOf 0 = p := by
  have hl := ranks_len v line
  have hp : p < (ranks v line).length := by rw [hl]; exact s.lt
  rw [List.idxOf, List.findIdx_eq hp]
  refine ⟨?_, fun j hj => ?_⟩
  · rw [ranks_get s.lt, s.hd]; rfl
  · rw [ranks_get (by have := s.lt; omega)]
    have := s.down j p hj (Nat.le_refl _)
    have ne : ((v.idxOf (line.getD j 0) : Nat) : Int) ≠ 0 := by omega
    first
      | exact beq_eq_false_iff_ne.mpr ne
      | exact fun z => ne (beq_iff_eq.mp z)
theorem SP.falls {line v : List Int} {p : Nat} (s : SP line v p) : falls v line = true := by
  unfold VT.falls
  rw [decide_eq_true_eq, s.best]
  intro a ha
  by_cases h : p ≤ a
  · rw [decide_eq_true h, decide_eq_true (s.up a (a + 1) h (by omega) (by omega))]
  · have := s.down a (a + 1) (by omega) (by omega)
    rw [decide_eq_false h, decide_eq_false (by omega)]
/-- sorted, from the two sides -/
theorem sorted_iff {l : List Int} : l = iSort l ↔ l.Pairwise (· ≤ ·) := ⟨fun h => h ▸ iSort_sorted l, fun h => iSort_uniq (List.Perm.refl l) h⟩
theorem rev_iff {l : List Int} : l = (iSort l).reverse ↔ l.reverse.Pairwise (· ≤ ·) := by
  constructor
  · intro h
    have : l.reverse = iSort l := by conv => lhs; rw [h, List.reverse_reverse]
    rw [this]; exact iSort_sorted l
  · intro h
    have := iSort_uniq (l := l) (List.reverse_perm l) h
    rw [← this, List.reverse_reverse]
theorem pw_adj {l : List Int} : l.Pairwise (· ≤ ·) ↔ ∀ (i : Nat) (h : i + 1 < l.length), l[i] ≤ l[i + 1] := by
  rw [List.pairwise_iff_getElem]
  constructor
  · exact fun h i hi => h i (i + 1) (by omega) hi (by omega)
  · intro h i j hi hj hij
    obtain ⟨k, rfl⟩ : ∃ k, j = i + k + 1 := ⟨j - i - 1, by omega⟩
    clear hij
    induction k with
    | zero => exact h i hj
    | succ k ih => exact Int.le_trans (ih (by omega)) (h (i + k + 1) (by omega))
def fallsP (v line : List Int) : Bool := decide ((ranks v line).take ((ranks v line).idxOf 0 + 1) = (iSort ((ranks v line).take ((ranks v line).idxOf 0 + 1))).reverse) && decide ((ranks v line).drop ((ranks v line).idxOf 0) = iSort ((ranks v line).drop ((ranks v line).idxOf 0)))
theorem fallsP_eq {v line : List Int} (hv : v.Nodup) (hl : line.Nodup) (hm : ∀ x, x ∈ line → x ∈ v) (h0 : (0 : Int) ∈ ranks v line) : fallsP v line = falls v line := by
  have hlen := ranks_len v line
  have hp : (ranks v line).idxOf 0 < (ranks v line).length := List.idxOf_lt_length_iff.mpr h0
  generalize hb : (ranks v line).idxOf 0 = p at hp
  have ne : ∀ i, i + 1 < line.length → v.idxOf (line.getD i 0) ≠ v.idxOf (line.getD (i + 1) 0) := fun i hi e => by
    have m : ∀ k, k < line.length → line.getD k 0 ∈ v := fun k hk => hm _ (by rw [List.getD_eq_getElem?_getD, List.getElem?_eq_getElem hk]; exact List.getElem_mem hk)
    have h1 := List.idxOf_lt_length_iff.mpr (m i (by omega))
    have h2 := List.idxOf_lt_length_iff.mpr (m (i + 1) hi)
    have e1 := List.getElem_idxOf h1
    have e2 := List.getElem_idxOf h2
    have : line.getD i 0 = line.getD (i + 1) 0 := by rw [← e1, ← e2]; congr 1
    have := getD_inj hl (by omega) hi this
    omega
  unfold fallsP falls
  rw [hb, ← Bool.decide_and]
  refine decide_eq_decide.mpr ?_
  rw [sorted_iff, rev_iff, pw_adj, pw_adj]
  constructor
  · rintro ⟨h1, h2⟩ a ha
    by_cases q : p ≤ a
    · have := h2 (a - p) (by rw [List.length_drop]; omega)
      rw [List.getElem_drop, List.getElem_drop] at this
      have e1 : p + (a - p) = a := by omega
      have e2 : p + (a - p + 1) = a + 1 := by omega
      simp only [e1, e2] at this
      rw [ranks_get (by omega), ranks_get (by omega)] at this
      have := ne a (by omega)
      rw [decide_eq_true q, decide_eq_true (by omega)]
    · have hlr : ((ranks v line).take (p + 1)).reverse.length = p + 1 := by rw [List.length_reverse, List.length_take]; omega
      have := h1 (p - (a + 1)) (by rw [hlr]; omega)
      rw [List.getElem_reverse, List.getElem_reverse, List.getElem_take, List.getElem_take] at this
      have e0 : ((ranks v line).take (p + 1)).length = p + 1 := by rw [List.length_take]; omega
      have e1 : ((ranks v line).take (p + 1)).length - 1 - (p - (a + 1)) = a + 1 := by omega
      have e2 : ((ranks v line).take (p + 1)).length - 1 - (p - (a + 1) + 1) = a := by omega
      simp only [e1, e2] at this
      rw [ranks_get (by omega), ranks_get (by omega)] at this
      rw [decide_eq_false q, decide_eq_false (by omega)]
  · intro h
    refine ⟨fun i hi => ?_, fun i hi => ?_⟩
    · have e0 : ((ranks v line).take (p + 1)).length = p + 1 := by rw [List.length_take]; omega
      rw [List.length_reverse, e0] at hi
      rw [List.getElem_reverse, List.getElem_reverse, List.getElem_take, List.getElem_take]
      have e1 : ((ranks v line).take (p + 1)).length - 1 - i = (p - (i + 1)) + 1 := by omega
      have e2 : ((ranks v line).take (p + 1)).length - 1 - (i + 1) = p - (i + 1) := by omega
      simp only [e1, e2]
      rw [ranks_get (by omega), ranks_get (by omega)]
      have := h (p - (i + 1)) (by omega)
      rw [decide_eq_false (show ¬ p ≤ p - (i + 1) by omega)] at this
      have := of_decide_eq_false this
      omega
    · rw [List.length_drop] at hi
      rw [List.getElem_drop, List.getElem_drop]
      have e2 : p + (i + 1) = p + i + 1 := by omega
      simp only [e2]
      rw [ranks_get (by omega), ranks_get (by omega)]
      have := h (p + i) (by omega)
      rw [decide_eq_true (show p ≤ p + i by omega)] at this
      have := of_decide_eq_true this
      omega
end VT

end

section
set_option Elab.async false
set_option linter.all false
set_option maxRecDepth 100000
set_option maxHeartbeats 8000000
/-! votes that fall to both sides of p -/
namespace VT
open FL
structure PkI (line : List Int) (p l r : Nat) (v : List Int) : Prop where
  lp : l ≤ p
  pr : p < r
  rn : r ≤ line.length
  len : v.length = r - l
  nd : v.Nodup
  mem : ∀ x, x ∈ v ↔ ∃ i, l ≤ i ∧ i < r ∧ line.getD i 0 = x
  hd : v.idxOf (line.getD p 0) = 0
  down : ∀ i j, l ≤ i → i < j → j ≤ p → v.idxOf (line.getD j 0) < v.idxOf (line.getD i 0)
  up : ∀ i j, p ≤ i → i < j → j < r → v.idxOf (line.getD i 0) < v.idxOf (line.getD j 0)
variable {line v : List Int} {p l r : Nat}
theorem PkI.first (hp : p < line.length) : PkI line p p (p + 1) [line.getD p 0] where
  lp := Nat.le_refl _
  pr := by omega
  rn := hp
  len := by simp
  nd := by simp
  mem := fun x => by
    rw [List.mem_singleton]
    constructor
    · rintro rfl; exact ⟨p, Nat.le_refl _, by omega, rfl⟩
    · rintro ⟨i, h1, h2, rfl⟩
      have : i = p := by omega
      rw [this]
  hd := by simp
  down := fun i j h1 h2 h3 => by omega
  up := fun i j h1 h2 h3 => by omega
theorem idx_old {x y : Int} (h : x ∈ v) : (v ++ [y]).idxOf x = v.idxOf x := by rw [List.idxOf_append, if_pos h]
theorem idx_new {y : Int} (h : y ∉ v) : (v ++ [y]).idxOf y = v.length := by rw [List.idxOf_append, if_neg h]; simp
theorem idx_lt {x : Int} (h : x ∈ v) : v.idxOf x < v.length := List.idxOf_lt_length_iff.mpr h
theorem PkI.at (h : PkI line p l r v) {i : Nat} (h1 : l ≤ i) (h2 : i < r) : line.getD i 0 ∈ v := (h.mem _).mpr ⟨i, h1, h2, rfl⟩
theorem PkI.left (h : PkI line p l r v) (hn : line.Nodup) (hl : 0 < l) : PkI line p (l - 1) r (v ++ [line.getD (l - 1) 0]) := by
  have rn := h.rn
  have lp := h.lp
  have pr := h.pr
  have out : line.getD (l - 1) 0 ∉ v := fun z => by
    obtain ⟨i, h1, h2, e⟩ := (h.mem _).mp z
    have := getD_inj hn (by omega) (by omega) e
    omega
  refine ⟨by omega, pr, rn, by rw [List.length_append, h.len, List.length_singleton]; omega, ?_, fun x => ?_, ?_, fun i j h1 h2 h3 => ?_, fun i j h1 h2 h3 => ?_⟩
  · rw [List.nodup_append]
    exact ⟨h.nd, by simp, fun a ha b hb z => out (by rw [← List.mem_singleton.mp hb, ← z]; exact ha)⟩
  · rw [List.mem_append, List.mem_singleton, h.mem]
    constructor
    · rintro (⟨i, h1, h2, e⟩ | rfl)
      · exact ⟨i, by omega, h2, e⟩
      · exact ⟨l - 1, Nat.le_refl _, by omega, rfl⟩
    · rintro ⟨i, h1, h2, e⟩
      by_cases z : i = l - 1
      · right; rw [← e, z]
      · exact .inl ⟨i, by omega, h2, e⟩
  · rw [idx_old (h.at lp pr)]; exact h.hd
  · rw [idx_old (h.at (by omega) (by omega))]
    by_cases z : i = l - 1
    · rw [z, idx_new out]
      exact idx_lt (h.at (by omega) (by omega))
    · rw [idx_old (h.at (by omega) (by omega))]
      exact h.down i j (by omega) h2 h3
  · rw [idx_old (h.at (by omega) (by omega)), idx_old (h.at (by omega) (by omega))]
    exact h.up i j h1 h2 h3
theorem PkI.right (h : PkI line p l r v) (hn : line.Nodup) (hr : r < line.length) : PkI line p l (r + 1) (v ++ [line.getD r 0]) := by
  have lp := h.lp
  have pr := h.pr
  have out : line.getD r 0 ∉ v := fun z => by
    obtain ⟨i, h1, h2, e⟩ := (h.mem _).mp z
    have := getD_inj hn (by omega) (by omega) e
    omega
  refine ⟨lp, by omega, by omega, by rw [List.length_append, h.len, List.length_singleton]; omega, ?_, fun x => ?_, ?_, fun i j h1 h2 h3 => ?_, fun i j h1 h2 h3 => ?_⟩
  · rw [List.nodup_append]
    exact ⟨h.nd, by simp, fun a ha b hb z => out (by rw [← List.mem_singleton.mp hb, ← z]; exact ha)⟩
  · rw [List.mem_append, List.mem_singleton, h.mem]
    constructor
    · rintro (⟨i, h1, h2, e⟩ | rfl)
      · exact ⟨i, h1, by omega, e⟩
      · exact ⟨r, by omega, by omega, rfl⟩
    · rintro ⟨i, h1, h2, e⟩
      by_cases z : i = r
      · right; rw [← e, z]
      · exact .inl ⟨i, h1, by omega, e⟩
  · rw [idx_old (h.at lp pr)]; exact h.hd
  · rw [idx_old (h.at (by omega) (by omega)), idx_old (h.at (by omega) (by omega))]
    exact h.down i j h1 h2 h3
  · rw [idx_old (h.at (by omega) (by omega))]
    by_cases z : j = r
    · rw [z, idx_new out]
      exact idx_lt (h.at (by omega) (by omega))
    · rw [idx_old (h.at (by omega) (by omega))]
      exact h.up i j h1 h2 (by omega)
theorem PkI.sp (h : PkI line p 0 line.length v) : SP line v p := ⟨h.pr, h.hd, fun i j h1 h2 => h.down i j (by omega) h1 h2, h.up⟩
theorem PkI.perm {n : Nat} (h : PkI line p 0 line.length v) (hl : line.Perm (ru n)) : v.Perm (ru n) := by
  refine (List.perm_ext_iff_of_nodup h.nd (ru_nodup n)).mpr fun x => ?_
  rw [h.mem, ← hl.mem_iff]
  constructor
  · rintro ⟨i, _, h2, rfl⟩
    rw [List.getD_eq_getElem?_getD, List.getElem?_eq_getElem h2]
    exact List.getElem_mem h2
  · intro hx
    obtain ⟨i, hi, e⟩ := List.mem_iff_getElem.mp hx
    refine ⟨i, by omega, hi, ?_⟩
    rw [List.getD_eq_getElem?_getD, List.getElem?_eq_getElem hi]; exact e
/-- the place of the dearest -/
def pkl (line v : List Int) : Nat := line.idxOf (v.getD 0 0)
theorem SP.pkl {n : Nat} (s : SP line v p) (hv : v.Perm (ru n)) (hl : line.Perm (ru n)) : VT.pkl line v = p := by
  have hn : line.Nodup := hl.nodup_iff.mpr (ru_nodup n)
  have hp := s.lt
  have e1 : line.getD p 0 = line[p] := by rw [List.getD_eq_getElem?_getD, List.getElem?_eq_getElem hp]; rfl
  have m : line.getD p 0 ∈ v := by
    rw [e1]
    exact hv.mem_iff.mpr (hl.mem_iff.mp (List.getElem_mem hp))
  have h0 := List.idxOf_lt_length_iff.mpr m
  have e := List.getElem_idxOf h0
  have hd := s.hd
  simp only [hd] at e
  have : v.getD 0 0 = line[p] := by
    rw [List.getD_eq_getElem?_getD, List.getElem?_eq_getElem (by omega)]
    rw [← e1]; exact e
  unfold VT.pkl
  rw [this]
  exact hn.idxOf_getElem p hp
end VT

end

section
set_option Elab.async false
set_option linter.all false
set_option maxRecDepth 100000
set_option maxHeartbeats 8000000
/-! votes turned round -/
namespace VT
open FL
def tw (o : List Int) (a : Nat) : List Int := o.drop a ++ o.take a
def tws (o : List Int) : List (List Int) := (List.range o.length).map (tw o)
def many (t : Nat) (o : List Int) : List (List Int) := (List.replicate t (tws o)).flatten
theorem tw_perm (o : List Int) (a : Nat) : (tw o a).Perm o := by
  unfold tw
  conv => rhs; rw [← List.take_append_drop a o]
  exact List.perm_append_comm
theorem tw_len (o : List Int) (a : Nat) : (tw o a).length = o.length := (tw_perm o a).length_eq
theorem tw_idx {o : List Int} (hn : o.Nodup) {a i : Nat} (ha : a < o.length) (hi : i < o.length) : (tw o a).idxOf (o.getD i 0) = (i + o.length - a) % o.length := by
  have hk : (i + o.length - a) % o.length < (tw o a).length := by rw [tw_len]; exact Nat.mod_lt _ (by omega)
  have nd : (tw o a).Nodup := (tw_perm o a).nodup_iff.mpr hn
  have e : (tw o a)[(i + o.length - a) % o.length] = o.getD i 0 := by
    rw [List.getD_eq_getElem?_getD, List.getElem?_eq_getElem hi]
    unfold tw
    by_cases h : a ≤ i
    · have e1 : (i + o.length - a) % o.length = i - a := by
        have : i + o.length - a = (i - a) + o.length := by omega
        rw [this, Nat.add_mod_right, Nat.mod_eq_of_lt (by omega)]
      simp only [e1]
      rw [List.getElem_append_left (by rw [List.length_drop]; omega), List.getElem_drop]
      have : a + (i - a) = i := by omega
      simp only [this]; rfl
    · have e1 : (i + o.length - a) % o.length = i + o.length - a := Nat.mod_eq_of_lt (by omega)
      simp only [e1]
      rw [List.getElem_append_right (by rw [List.length_drop]; omega), List.getElem_take]
      have : i + o.length - a - (o.drop a).length = i := by rw [List.length_drop]; omega
      simp only [this]; rfl
  rw [← e]
  exact nd.idxOf_getElem _ hk
theorem cnt_flat (V : List (List Int)) (a b : Int) : ∀ t, cnt (List.replicate t V).flatten a b = t * cnt V a b
  | 0 => by simp [cnt]
  | t + 1 => by
    have ih := cnt_flat V a b t
    unfold cnt at *
    rw [List.replicate_succ, List.flatten_cons, List.countP_append, ih, Nat.succ_mul]
    omega
theorem turns : ∀ n, n < 8 → ∀ i, i < n → ∀ s, s < n → 0 < s → (List.range n).countP (fun a => decide ((i + n - a) % n < ((i + s) % n + n - a) % n)) = n - s := by decide +kernel
variable {n : Nat} {o : List Int}
theorem many_len (t : Nat) (o : List Int) : (many t o).length = t * o.length := by
  unfold many tws
  rw [List.length_flatten, List.map_replicate, List.sum_replicate_nat, List.length_map, List.length_range]
theorem many_mem {t : Nat} {v : List Int} (h : v ∈ many t o) : ∃ a, a < o.length ∧ v = tw o a := by
  unfold many at h
  obtain ⟨l, hl, hv⟩ := List.mem_flatten.mp h
  rw [List.mem_replicate] at hl
  rw [hl.2] at hv
  obtain ⟨a, ha, e⟩ := List.mem_map.mp hv
  exact ⟨a, List.mem_range.mp ha, e.symm⟩
theorem turn_bt (ho : o.Perm (ru n)) (hn : n < 8) {t : Nat} (ht : 0 < t) {i s : Nat} (hi : i < n) (hs : s < n) (h0 : 0 < s) : bt (many t o) (o.getD i 0) (o.getD ((i + s) % n) 0) = decide (2 * s < n) := by
  have ol : o.length = n := by rw [ho.length_eq, ru_len]
  have nd : o.Nodup := ho.nodup_iff.mpr (ru_nodup n)
  have c1 : cnt (tws o) (o.getD i 0) (o.getD ((i + s) % n) 0) = n - s := by
    unfold cnt tws
    rw [List.countP_map, ol, ← turns n hn i hi s hs h0]
    refine List.countP_congr fun a ha => ?_
    have ha := List.mem_range.mp ha
    have e1 := tw_idx nd (a := a) (i := i) (by omega) (by omega)
    have e2 := tw_idx nd (a := a) (i := (i + s) % n) (by omega) (by rw [ol]; exact Nat.mod_lt _ (by omega))
    rw [ol] at e1 e2
    show decide _ = true ↔ _
    rw [e1, e2]
  unfold bt
  rw [many_len, ol]
  have : cnt (many t o) (o.getD i 0) (o.getD ((i + s) % n) 0) = t * (n - s) := by unfold many; rw [cnt_flat, c1]
  rw [this]
  refine decide_eq_decide.mpr ?_
  have e : 2 * (t * (n - s)) = t * (2 * (n - s)) := by rw [Nat.mul_left_comm]
  rw [e]
  constructor
  · intro h
    have := Nat.lt_of_mul_lt_mul_left h
    omega
  · intro h
    exact Nat.mul_lt_mul_of_pos_left (by omega) ht
theorem prev_no (ho : o.Perm (ru n)) (hn : n < 8) {t : Nat} (ht : 0 < t) (h2 : 2 ≤ n) {i : Nat} (hi : i < n) : wv (many t o) (o.getD i 0) (o.getD ((i + (n - 1)) % n) 0) = false := by
  have := turn_bt ho hn ht hi (s := n - 1) (by omega) (by omega)
  unfold wv
  rw [this, decide_eq_false (show ¬ 2 * (n - 1) < n by omega), Bool.and_false]
theorem getD_mem (ho : o.Perm (ru n)) {i : Nat} (hi : i < n) : o.getD i 0 ∈ ru n := by
  have ol : o.length = n := by rw [ho.length_eq, ru_len]
  rw [List.getD_eq_getElem?_getD, List.getElem?_eq_getElem (by omega)]
  exact ho.mem_iff.mp (List.getElem_mem (by omega))
theorem getD_ne (ho : o.Perm (ru n)) {i j : Nat} (hi : i < n) (hj : j < n) (h : i ≠ j) : o.getD i 0 ≠ o.getD j 0 := fun e => by
  have ol : o.length = n := by rw [ho.length_eq, ru_len]
  exact h (getD_inj (ho.nodup_iff.mpr (ru_nodup n)) (by omega) (by omega) e)
theorem turn_least (ho : o.Perm (ru n)) (hn : n < 8) (h0 : 0 < n) {t : Nat} (ht : 0 < t) {S : List Int} (h : Least n (wv (many t o)) S) : S = ru n := by
  have ol : o.length = n := by rw [ho.length_eq, ru_len]
  refine asc_uniq h.asc (ru_asc n) fun k => ⟨fun z => h.dom.1 k z, fun z => ?_⟩
  obtain ⟨y, hy⟩ := List.exists_mem_of_ne_nil S h.ne
  obtain ⟨i, hi, ei⟩ := List.mem_iff_getElem.mp (ho.mem_iff.mpr (h.dom.1 y hy))
  obtain ⟨j, hj, ej⟩ := List.mem_iff_getElem.mp (ho.mem_iff.mpr z)
  have gi : o.getD i 0 = y := by rw [List.getD_eq_getElem?_getD, List.getElem?_eq_getElem hi]; exact ei
  have gj : o.getD j 0 = k := by rw [List.getD_eq_getElem?_getD, List.getElem?_eq_getElem hj]; exact ej
  rw [ol] at hi hj
  have step : ∀ i, i < n → o.getD i 0 ∈ S → o.getD ((i + (n - 1)) % n) 0 ∈ S := fun i hi hm => by
    by_cases h2 : 2 ≤ n
    · by_cases q : o.getD ((i + (n - 1)) % n) 0 ∈ S
      · exact q
      · have := h.dom.2 _ hm _ (getD_mem ho (Nat.mod_lt _ h0)) q
        rw [prev_no ho hn ht h2 hi] at this; cases this
    · have e : (i + (n - 1)) % n = i := by
        have : n = 1 := by omega
        subst this
        omega
      rw [e]; exact hm
  have down : ∀ k i, i + k < n → o.getD (i + k) 0 ∈ S → o.getD i 0 ∈ S := by
    intro k
    induction k with
    | zero => intro i _ hm; exact hm
    | succ k ih =>
      intro i hi hm
      refine ih i (by omega) ?_
      have := step _ hi hm
      have e : (i + (k + 1) + (n - 1)) % n = i + k := by
        have : i + (k + 1) + (n - 1) = (i + k) + n := by omega
        rw [this, Nat.add_mod_right, Nat.mod_eq_of_lt (by omega)]
      rw [e] at this
      exact this
  have m0 : o.getD 0 0 ∈ S := down i 0 (by omega) (by rw [Nat.zero_add, gi]; exact hy)
  have ml : o.getD (n - 1) 0 ∈ S := by
    have := step 0 h0 m0
    rw [Nat.zero_add, Nat.mod_eq_of_lt (by omega)] at this
    exact this
  have := down (n - 1 - j) j (by omega) (by rw [show j + (n - 1 - j) = n - 1 by omega]; exact ml)
  rw [gj] at this
  exact this
theorem turn_win (ho : o.Perm (ru n)) (hn : n < 8) (h2 : 2 ≤ n) {t : Nat} (ht : 0 < t) : (ru n).filter (win n (wv (many t o))) = [] := by
  have ol : o.length = n := by rw [ho.length_eq, ru_len]
  rw [List.filter_eq_nil_iff]
  intro a ha hw
  obtain ⟨i, hi, ei⟩ := List.mem_iff_getElem.mp (ho.mem_iff.mpr ha)
  have gi : o.getD i 0 = a := by rw [List.getD_eq_getElem?_getD, List.getElem?_eq_getElem hi]; exact ei
  rw [ol] at hi
  have hp : (i + (n - 1)) % n < n := Nat.mod_lt _ (by omega)
  have ne : (i + (n - 1)) % n ≠ i := by
    by_cases z : i = 0
    · subst z; rw [Nat.zero_add, Nat.mod_eq_of_lt (by omega)]; omega
    · have : i + (n - 1) = (i - 1) + n := by omega
      rw [this, Nat.add_mod_right, Nat.mod_eq_of_lt (by omega)]; omega
  have := (win_iff (wv_ir _) ha).mp hw _ (getD_mem ho hp) (fun z => getD_ne ho hp hi ne (by rw [gi]; exact z))
  rw [← gi, prev_no ho hn ht h2 hi] at this
  cases this
end VT

end

section
set_option Elab.async false
set_option linter.all false
set_option maxRecDepth 100000
set_option maxHeartbeats 8000000
namespace K58
open FL
local macro_rules | `(tactic| walk_at "fl") => `(tactic| simp -implicitDefEqProofs only [seqS_ap, ifS_ap, asgS_ap, gN_ap, gTupN_ap, retS_ap, exprS_ap, skipS_ap, p1_ap, p2_ap, pn_ap, psNil_ap, psCons_ap, pV_ap, pC_ap, liftE_ap, liftC_ap, pIf_ap, tB'_ap, tAnd'_ap, tOr'_ap, tNot'_ap, liftT_ap, blE_ap, andE_ap, orE_ap, notE_ap, toE_ap, toS'_ap, toM'_ap, asNil_ap, asCons_ap, opE2_ap, opE1_ap, opEn_ap, dispE_ap, ifE_ap, andV_ap, orV_ap, notV_ap, mvV_ap, mtE_ap, callE_ap, pCall_ap, itE_ap, itA_ap, icA_ap, icB_ap, forS_ap, rg1_ap, rg2_ap, fnM_ap, seqO_nx, seqO_rt, seqO_bk, seqO_ct, ifO_some, asgO_some, retO_some, exprO_some, b2_some, c2_some, ixO_tup, ixO_lst, ixO_shr, lE_some, lC_int, lC_bl, lC_str, lC_non, tb_bl, andO_some, orO_some, lT_some, bE_bl, andEO_some, orEO_some, notEO_some, tE_some, sO_some, mO_some, acO_some, acT_some, o2O_some, o2T_some, o2F_some, o1O_some, o1F_some, onO_some, onF_some, diO_some, ifEO_some, andVO_bl, orVO_bl, notVO_bl, mvO_lst, mvO_tup, mvO_shr, mtO_some, mtT_some, mtF_some, callF_some, pcF_some, itAO_some, itAF_some, forO_some, fnO_rt, fnO_nx, lk_zero, lk_succ, lstAt_zero, lstAt_succ, raw_v, raw_s, raw_m, raws_nil, raws_cons, valsOf_nil, valsOf_v, argsD_nil, argsD_cons, argD_v, argD_s, argD_m, gNs_nil, gNs_cons, Option.bind_some, Option.bind_none, Option.map_some, Option.map_none, List.set_cons_zero, List.set_cons_succ, List.map_cons, List.map_nil, List.cons_append, List.nil_append, Bool.false_eq_true, dAdd_i, dSub_i, addI_i, dNeg_i, dLt_i, dLe_i, dGt_i, dGe_i, dEq_i, dEq_s, dEq_b, dNe_i, dNe_s, dIsN_non, dIsN_int, dIsN_tup, dIsN_lst, dIsN_bl, dIsN_str, dNotN_non, dNotN_int, dNotN_tup, dLen_lst, dLen_tup, dLen_shr, dSum_tI, dSum_lI, dSum_sI, dInt_i, dInt_b, dAbs_i, dTuple_lI, dTuple_sI, dList_lI, dList_tI, dList_sI, dMax_2, dMin_2, mkTup_2, mkTup_3, mkLst_0, mkLst_1, mkLst_2, kit_ib, kit_ii, kit_is, kit_it, kit_bb, kit_bi, kit_tb, kit_ti, kit_ts, kit_tt, kit_nb, kit_ni, kit_ns, kit_nt, kit_sb, kit_si, kit_ss, kit_st, isi_int, isi_bl, isi_str, isi_tup, isi_non, lPop_snoc, lReverse_ints, ↓reduceIte, List.length_cons, List.length_nil, List.length_map, List.reduceReplicate, Nat.reduceSub, Bool.not_true, Bool.not_false, decide_true, decide_false, decide_eq_true_eq, Nat.reduceLeDiff, pIx_ap', atI_z, atI_o, atI_t, parS_eq, parT_some, parV_some, setS_ap, stO_some, stL_some, stT_some, augIxS_ap, pCut_ap, cuO_some, pNo_ap, pSo_ap, soO_int, freeC_ap, fcO_int, fcO_str, yesC_ap, wipeE_nil, wipeE_cons, pComp_ap, cpO_some, icB_sI, icB_tI, icB_lI, itE_sI, itE_tI, itE_lI, noM_nil, noM_v, noM_s, noMS_nil, noMS_v, noMS_c, callO_no, callO_m0, putM_nil, putM_cons, dropM_nil, dropM_cons, shares_nil, shares_cons, share_int, share_bl, share_str, share_non, share_tup, share_lst, share_shr_, shares_ints, Nat.reduceBEq, Bool.true_and, Bool.and_true, Bool.and_self, Bool.false_and, Bool.and_false, Bool.not_eq_true, Bool.not_eq_false, Bool.or_true, Bool.true_or, Bool.or_false, Bool.false_or, beq_self_eq_true, pChain_ap, dIn_lI, dIn_tI, dIn_sI, dIn_fI, dNin_lI, dNin_tI, dNin_sI, dNin_fI, compE_ap, ceO_some, restE_nil, restE_cons, rsO_none, rsO_int, forL_ap, flO_lst, flO_int, backO_nx, backO_rt, forC_ap, fcS_lst, chO_some, chB_bl, Int.natCast_zero, dMod_i, dDiv_i, dMul_i, divOk_s, mulOk_l, mulOk_r, Int.reducePow, Int.reduceNeg, Int.reduceLT, Int.reduceLE, Int.reduceEq, Int.reduceAdd, Int.reduceSub, Int.reduceMul, Nat.reduceAdd, Nat.reducePow, lC_tI, lC_sI, dLen_frz, fcO_tI, shares_eI, rgD_ru, pAnd_ap, pOr_ap, pNot_ap, anO_bl, orC_bl, noC_bl, dEqX_tI, dNeX_tI, dEqX_lI, pComp2_ap, cp2O_some, dRev_lI, dSorted_lI, dAny_lB, augLS_ap, setS2_ap, dNe_b])
local macro_rules | `(tactic| walk_at "fl*") => `(tactic| simp -implicitDefEqProofs only [seqS_ap, ifS_ap, asgS_ap, gN_ap, gTupN_ap, retS_ap, exprS_ap, skipS_ap, p1_ap, p2_ap, pn_ap, psNil_ap, psCons_ap, pV_ap, pC_ap, liftE_ap, liftC_ap, pIf_ap, tB'_ap, tAnd'_ap, tOr'_ap, tNot'_ap, liftT_ap, blE_ap, andE_ap, orE_ap, notE_ap, toE_ap, toS'_ap, toM'_ap, asNil_ap, asCons_ap, opE2_ap, opE1_ap, opEn_ap, dispE_ap, ifE_ap, andV_ap, orV_ap, notV_ap, mvV_ap, mtE_ap, callE_ap, pCall_ap, itE_ap, itA_ap, icA_ap, icB_ap, forS_ap, rg1_ap, rg2_ap, fnM_ap, seqO_nx, seqO_rt, seqO_bk, seqO_ct, ifO_some, asgO_some, retO_some, exprO_some, b2_some, c2_some, ixO_tup, ixO_lst, ixO_shr, lE_some, lC_int, lC_bl, lC_str, lC_non, tb_bl, andO_some, orO_some, lT_some, bE_bl, andEO_some, orEO_some, notEO_some, tE_some, sO_some, mO_some, acO_some, acT_some, o2O_some, o2T_some, o2F_some, o1O_some, o1F_some, onO_some, onF_some, diO_some, ifEO_some, andVO_bl, orVO_bl, notVO_bl, mvO_lst, mvO_tup, mvO_shr, mtO_some, mtT_some, mtF_some, callF_some, pcF_some, itAO_some, itAF_some, forO_some, fnO_rt, fnO_nx, lk_zero, lk_succ, lstAt_zero, lstAt_succ, raw_v, raw_s, raw_m, raws_nil, raws_cons, valsOf_nil, valsOf_v, argsD_nil, argsD_cons, argD_v, argD_s, argD_m, gNs_nil, gNs_cons, Option.bind_some, Option.bind_none, Option.map_some, Option.map_none, List.set_cons_zero, List.set_cons_succ, List.map_cons, List.map_nil, List.cons_append, List.nil_append, Bool.false_eq_true, dAdd_i, dSub_i, addI_i, dNeg_i, dLt_i, dLe_i, dGt_i, dGe_i, dEq_i, dEq_s, dEq_b, dNe_i, dNe_s, dIsN_non, dIsN_int, dIsN_tup, dIsN_lst, dIsN_bl, dIsN_str, dNotN_non, dNotN_int, dNotN_tup, dLen_lst, dLen_tup, dLen_shr, dSum_tI, dSum_lI, dSum_sI, dInt_i, dInt_b, dAbs_i, dTuple_lI, dTuple_sI, dList_lI, dList_tI, dList_sI, dMax_2, dMin_2, mkTup_2, mkTup_3, mkLst_0, mkLst_1, mkLst_2, kit_ib, kit_ii, kit_is, kit_it, kit_bb, kit_bi, kit_tb, kit_ti, kit_ts, kit_tt, kit_nb, kit_ni, kit_ns, kit_nt, kit_sb, kit_si, kit_ss, kit_st, isi_int, isi_bl, isi_str, isi_tup, isi_non, lPop_snoc, lReverse_ints, ↓reduceIte, List.length_cons, List.length_nil, List.length_map, List.reduceReplicate, Nat.reduceSub, Bool.not_true, Bool.not_false, decide_true, decide_false, decide_eq_true_eq, Nat.reduceLeDiff, pIx_ap', atI_z, atI_o, atI_t, parS_eq, parT_some, parV_some, setS_ap, stO_some, stL_some, stT_some, augIxS_ap, pCut_ap, cuO_some, pNo_ap, pSo_ap, soO_int, freeC_ap, fcO_int, fcO_str, yesC_ap, wipeE_nil, wipeE_cons, pComp_ap, cpO_some, icB_sI, icB_tI, icB_lI, itE_sI, itE_tI, itE_lI, noM_nil, noM_v, noM_s, noMS_nil, noMS_v, noMS_c, callO_no, callO_m0, putM_nil, putM_cons, dropM_nil, dropM_cons, shares_nil, shares_cons, share_int, share_bl, share_str, share_non, share_tup, share_lst, share_shr_, shares_ints, Nat.reduceBEq, Bool.true_and, Bool.and_true, Bool.and_self, Bool.false_and, Bool.and_false, Bool.not_eq_true, Bool.not_eq_false, Bool.or_true, Bool.true_or, Bool.or_false, Bool.false_or, beq_self_eq_true, pChain_ap, dIn_lI, dIn_tI, dIn_sI, dIn_fI, dNin_lI, dNin_tI, dNin_sI, dNin_fI, compE_ap, ceO_some, restE_nil, restE_cons, rsO_none, rsO_int, forL_ap, flO_lst, flO_int, backO_nx, backO_rt, forC_ap, fcS_lst, chO_some, chB_bl, Int.natCast_zero, dMod_i, dDiv_i, dMul_i, divOk_s, mulOk_l, mulOk_r, Int.reducePow, Int.reduceNeg, Int.reduceLT, Int.reduceLE, Int.reduceEq, Int.reduceAdd, Int.reduceSub, Int.reduceMul, Nat.reduceAdd, Nat.reducePow, lC_tI, lC_sI, dLen_frz, fcO_tI, shares_eI, rgD_ru, pAnd_ap, pOr_ap, pNot_ap, anO_bl, orC_bl, noC_bl, dEqX_tI, dNeX_tI, dEqX_lI, pComp2_ap, cp2O_some, dRev_lI, dSorted_lI, dAny_lB, augLS_ap, setS2_ap, dNe_b, *])
theorem take_snoc (ds : List Int) (x m : Int) (h : 0 < m) : m_l_take [.lst ((ds ++ [x]).map .int), .int m] = some (.int (x % m), [.lst (ds.map .int)]) := by
  unfold m_l_take
  rw [fnM_ap (by rfl)]
  have hl : ¬ (((ds ++ [x]).length : Nat) : Int) = 0 := by simp; omega
  walk_at "fl"
  rw [if_neg hl]
  simp only [List.map_append, List.map_cons, List.map_nil]
  walk_at "fl"
  rw [dMod_i h]
  walk_at "fl"
  rw [finM_one rfl rfl (own_lI ds)]
theorem take_nil (m : Int) : m_l_take [.lst [], .int m] = some (.int 0, [.lst []]) := by
  unfold m_l_take
  rw [fnM_ap (by rfl)]
  walk_at "fl"
  rw [finM_one rfl rfl rfl]
theorem take_ex (ds : List Int) (m : Int) (h : 0 < m) : ∃ (r : Int) (ds' : List Int), m_l_take [.lst (ds.map .int), .int m] = some (.int r, [.lst (ds'.map .int)]) ∧ 0 ≤ r ∧ r < m := by
  rcases List.eq_nil_or_concat ds with rfl | ⟨xs, x, rfl⟩
  · exact ⟨0, [], take_nil m, by omega, h⟩
  · rw [List.concat_eq_append]
    exact ⟨x % m, xs, take_snoc xs x m h, Int.emod_nonneg _ (by omega), Int.emod_lt_of_pos _ h⟩
theorem app_int {ds : List Int} (h : ds.length < 1000000) (v : Int) : lAppend (ds.map D.int) [.int v] = some (.non, (ds ++ [v]).map .int) := by
  rw [lAppend_of (by simpa using h)]; simp
theorem draws_loop (N : Nat) (hN : N ≤ 1000) (s n : Option D) (cs : List Int) (hc : 0 < cs.length) : ∃ (rs ds : List Int) (a b c : Option D), forM (gN 5) b_l_draws_1 (upto N) [s, n, some (.lst (cs.map .int)), some (.lst (cs.map .int)), some (.lst []), none, none, none, none] = some (.nx [s, n, some (.lst (cs.map .int)), some (.lst (rs.map .int)), some (.lst (ds.map .int)), a, b, none, c]) := by
  obtain ⟨ρ, h1, h2⟩ := forM_upto (g := gN 5) (m := b_l_draws_1) (n := N) (fun k ρ => ∃ (rs ds : List Int) (a b c : Option D), rs.length = cs.length ∧ ds.length = k ∧ ρ = [s, n, some (.lst (cs.map .int)), some (.lst (rs.map .int)), some (.lst (ds.map .int)), a, b, none, c]) ⟨cs, [], none, none, none, rfl, rfl, rfl⟩ (by
    rintro k ρ hk ⟨rs, ds, a, b, c, e1, e2, rfl⟩
    have hm : 0 < ((cs.length : Nat) : Int) := by omega
    obtain ⟨j, hj⟩ := Int.eq_ofNat_of_zero_le (Int.emod_nonneg (k : Int) (show (cs.length : Int) ≠ 0 by omega))
    have hj2 : j < cs.length := by have := Int.emod_lt_of_pos (k : Int) hm; omega
    have hj3 : j < rs.length := by omega
    have ha : ∀ v : Int, lAppend (ds.map D.int) [.int v] = some (.non, (ds ++ [v]).map .int) := app_int (by omega)
    suffices hs : ∃ ρ2, b_l_draws_1 [s, n, some (.lst (cs.map .int)), some (.lst (rs.map .int)), some (.lst (ds.map .int)), some (.int k), b, none, c] = some (.nx ρ2) ∧ ∃ (rs ds : List Int) (a b c : Option D), rs.length = cs.length ∧ ds.length = k + 1 ∧ ρ2 = [s, n, some (.lst (cs.map .int)), some (.lst (rs.map .int)), some (.lst (ds.map .int)), a, b, none, c] by
      obtain ⟨ρ2, h1, h2⟩ := hs
      exact ⟨_, _, gN_ap _ _ _, .inl h1, h2⟩
    have h1 := atI_int hj2
    have h2 := atI_int hj3
    have h3 := fun (v : Int) (ρ : Env) => stF_int (k := 3) (v := v) (ρ := ρ) (ns := rs) hj3
    unfold b_l_draws_1
    have hM : ∀ x y : Int, MulOk (x % 2147483647) y := fun x y => .inl (.inl ⟨by omega, by omega⟩)
    obtain ⟨B, hB⟩ : ∃ B, dPow (.int 10) (.int 18) = some (.int B) := ⟨_, pow18⟩
    by_cases hA : B ≤ cs[j]
    · by_cases hB : 0 < rs[j]
      · walk_at "fl*"
        exact ⟨_, rfl, _, _, _, _, _, by simpa using e1, by simp; omega, rfl⟩
      · walk_at "fl*"
        exact ⟨_, rfl, _, _, _, _, _, by simpa using e1, by simp; omega, rfl⟩
    · walk_at "fl*"
      exact ⟨_, rfl, _, _, _, _, _, by simpa using e1, by simp; omega, rfl⟩)
  obtain ⟨rs, ds, a, b, c, _, _, rfl⟩ := h2
  exact ⟨rs, ds, a, b, c, h1⟩
theorem draws_ex (N : Nat) (hN : N ≤ 1000) (ns : List Int) (hn : ns.length ≤ 63) : ∃ ds : List Int, m_l_draws [.shr (ns.map .int), .int (N : Nat)] = some (.lst (ds.map .int), []) := by
  have hc : compC (gN 7) yesC (pn dInt (psCons (pV 7) psNil)) [some (.shr (ns.map .int)), some (.int (N : Nat)), none, none, none, none, none, none, none] (ns.map .int) = some (ns.map .int) := compC_map (a := D.int) D.int fun n _ => ⟨_, rfl, by walk_at "fl"⟩
  have hl : (ns.map D.int).length ≤ 1000000 := by simp; omega
  have hL := cpL_of hl
  have hr : itR 0 (N : Int) = some (upto N) := itR_nat (n := N) (by omega)
  obtain ⟨cs, hp, hA⟩ : ∃ cs : List Int, 0 < cs.length ∧ ((ns.length = 0 ∧ cs = [0]) ∨ (0 < ns.length ∧ cs = ns)) := by
    by_cases h0 : ns.length = 0
    · exact ⟨[0], by simp, .inl ⟨h0, rfl⟩⟩
    · exact ⟨ns, by omega, .inr ⟨by omega, rfl⟩⟩
  obtain ⟨rs, ds, a, b, c, h⟩ := draws_loop N hN (some (.shr (ns.map .int))) (some (.int (N : Nat))) cs hp
  refine ⟨ds.reverse, ?_⟩
  have hf := finM_nil (own_lI ds.reverse) (ρ := [some (.shr (ns.map .int)), some (.int (N : Nat)), some (.lst (cs.map .int)), some (.lst (rs.map .int)), none, a, b, none, c])
  unfold m_l_draws
  rw [fnM_ap (by rfl)]
  rcases hA with ⟨h0, rfl⟩ | ⟨h0, rfl⟩
  · have hz : lAppend (ns.map D.int) [.int 0] = some (.non, [0].map .int) := by
      obtain rfl := List.length_eq_zero_iff.mp h0; rfl
    have h1 : ((ns.length : Nat) : Int) = 0 := by omega
    generalize [(0 : Int)] = cs at *
    walk_at "fl*"
  · have h1 : ¬ ((cs.length : Nat) : Int) = 0 := by omega
    walk_at "fl*"

end K58
end

section
set_option Elab.async false
set_option linter.all false
set_option maxRecDepth 100000
set_option maxHeartbeats 8000000
namespace K58
open FL
local macro_rules | `(tactic| walk_at "fl") => `(tactic| simp -implicitDefEqProofs only [seqS_ap, ifS_ap, asgS_ap, gN_ap, gTupN_ap, retS_ap, exprS_ap, skipS_ap, p1_ap, p2_ap, pn_ap, psNil_ap, psCons_ap, pV_ap, pC_ap, liftE_ap, liftC_ap, pIf_ap, tB'_ap, tAnd'_ap, tOr'_ap, tNot'_ap, liftT_ap, blE_ap, andE_ap, orE_ap, notE_ap, toE_ap, toS'_ap, toM'_ap, asNil_ap, asCons_ap, opE2_ap, opE1_ap, opEn_ap, dispE_ap, ifE_ap, andV_ap, orV_ap, notV_ap, mvV_ap, mtE_ap, callE_ap, pCall_ap, itE_ap, itA_ap, icA_ap, icB_ap, forS_ap, rg1_ap, rg2_ap, fnM_ap, seqO_nx, seqO_rt, seqO_bk, seqO_ct, ifO_some, asgO_some, retO_some, exprO_some, b2_some, c2_some, ixO_tup, ixO_lst, ixO_shr, lE_some, lC_int, lC_bl, lC_str, lC_non, tb_bl, andO_some, orO_some, lT_some, bE_bl, andEO_some, orEO_some, notEO_some, tE_some, sO_some, mO_some, acO_some, acT_some, o2O_some, o2T_some, o2F_some, o1O_some, o1F_some, onO_some, onF_some, diO_some, ifEO_some, andVO_bl, orVO_bl, notVO_bl, mvO_lst, mvO_tup, mvO_shr, mtO_some, mtT_some, mtF_some, callF_some, pcF_some, itAO_some, itAF_some, forO_some, fnO_rt, fnO_nx, lk_zero, lk_succ, lstAt_zero, lstAt_succ, raw_v, raw_s, raw_m, raws_nil, raws_cons, valsOf_nil, valsOf_v, argsD_nil, argsD_cons, argD_v, argD_s, argD_m, gNs_nil, gNs_cons, Option.bind_some, Option.bind_none, Option.map_some, Option.map_none, List.set_cons_zero, List.set_cons_succ, List.map_cons, List.map_nil, List.cons_append, List.nil_append, Bool.false_eq_true, dAdd_i, dSub_i, addI_i, dNeg_i, dLt_i, dLe_i, dGt_i, dGe_i, dEq_i, dEq_s, dEq_b, dNe_i, dNe_s, dIsN_non, dIsN_int, dIsN_tup, dIsN_lst, dIsN_bl, dIsN_str, dNotN_non, dNotN_int, dNotN_tup, dLen_lst, dLen_tup, dLen_shr, dSum_tI, dSum_lI, dSum_sI, dInt_i, dInt_b, dAbs_i, dTuple_lI, dTuple_sI, dList_lI, dList_tI, dList_sI, dMax_2, dMin_2, mkTup_2, mkTup_3, mkLst_0, mkLst_1, mkLst_2, kit_ib, kit_ii, kit_is, kit_it, kit_bb, kit_bi, kit_tb, kit_ti, kit_ts, kit_tt, kit_nb, kit_ni, kit_ns, kit_nt, kit_sb, kit_si, kit_ss, kit_st, isi_int, isi_bl, isi_str, isi_tup, isi_non, lPop_snoc, lReverse_ints, ↓reduceIte, List.length_cons, List.length_nil, List.length_map, List.reduceReplicate, Nat.reduceSub, Bool.not_true, Bool.not_false, decide_true, decide_false, decide_eq_true_eq, Nat.reduceLeDiff, pIx_ap', atI_z, atI_o, atI_t, parS_eq, parT_some, parV_some, setS_ap, stO_some, stL_some, stT_some, augIxS_ap, pCut_ap, cuO_some, pNo_ap, pSo_ap, soO_int, freeC_ap, fcO_int, fcO_str, yesC_ap, wipeE_nil, wipeE_cons, pComp_ap, cpO_some, icB_sI, icB_tI, icB_lI, itE_sI, itE_tI, itE_lI, noM_nil, noM_v, noM_s, noMS_nil, noMS_v, noMS_c, callO_no, callO_m0, putM_nil, putM_cons, dropM_nil, dropM_cons, shares_nil, shares_cons, share_int, share_bl, share_str, share_non, share_tup, share_lst, share_shr_, shares_ints, Nat.reduceBEq, Bool.true_and, Bool.and_true, Bool.and_self, Bool.false_and, Bool.and_false, Bool.not_eq_true, Bool.not_eq_false, Bool.or_true, Bool.true_or, Bool.or_false, Bool.false_or, beq_self_eq_true, pChain_ap, dIn_lI, dIn_tI, dIn_sI, dIn_fI, dNin_lI, dNin_tI, dNin_sI, dNin_fI, compE_ap, ceO_some, restE_nil, restE_cons, rsO_none, rsO_int, forL_ap, flO_lst, flO_int, backO_nx, backO_rt, forC_ap, fcS_lst, chO_some, chB_bl, Int.natCast_zero, dMod_i, dDiv_i, dMul_i, divOk_s, mulOk_l, mulOk_r, Int.reducePow, Int.reduceNeg, Int.reduceLT, Int.reduceLE, Int.reduceEq, Int.reduceAdd, Int.reduceSub, Int.reduceMul, Nat.reduceAdd, Nat.reducePow, lC_tI, lC_sI, dLen_frz, fcO_tI, shares_eI, rgD_ru, pAnd_ap, pOr_ap, pNot_ap, anO_bl, orC_bl, noC_bl, dEqX_tI, dNeX_tI, dEqX_lI, pComp2_ap, cp2O_some, dRev_lI, dSorted_lI, dAny_lB, augLS_ap, setS2_ap, dNe_b])
local macro_rules | `(tactic| walk_at "fl*") => `(tactic| simp -implicitDefEqProofs only [seqS_ap, ifS_ap, asgS_ap, gN_ap, gTupN_ap, retS_ap, exprS_ap, skipS_ap, p1_ap, p2_ap, pn_ap, psNil_ap, psCons_ap, pV_ap, pC_ap, liftE_ap, liftC_ap, pIf_ap, tB'_ap, tAnd'_ap, tOr'_ap, tNot'_ap, liftT_ap, blE_ap, andE_ap, orE_ap, notE_ap, toE_ap, toS'_ap, toM'_ap, asNil_ap, asCons_ap, opE2_ap, opE1_ap, opEn_ap, dispE_ap, ifE_ap, andV_ap, orV_ap, notV_ap, mvV_ap, mtE_ap, callE_ap, pCall_ap, itE_ap, itA_ap, icA_ap, icB_ap, forS_ap, rg1_ap, rg2_ap, fnM_ap, seqO_nx, seqO_rt, seqO_bk, seqO_ct, ifO_some, asgO_some, retO_some, exprO_some, b2_some, c2_some, ixO_tup, ixO_lst, ixO_shr, lE_some, lC_int, lC_bl, lC_str, lC_non, tb_bl, andO_some, orO_some, lT_some, bE_bl, andEO_some, orEO_some, notEO_some, tE_some, sO_some, mO_some, acO_some, acT_some, o2O_some, o2T_some, o2F_some, o1O_some, o1F_some, onO_some, onF_some, diO_some, ifEO_some, andVO_bl, orVO_bl, notVO_bl, mvO_lst, mvO_tup, mvO_shr, mtO_some, mtT_some, mtF_some, callF_some, pcF_some, itAO_some, itAF_some, forO_some, fnO_rt, fnO_nx, lk_zero, lk_succ, lstAt_zero, lstAt_succ, raw_v, raw_s, raw_m, raws_nil, raws_cons, valsOf_nil, valsOf_v, argsD_nil, argsD_cons, argD_v, argD_s, argD_m, gNs_nil, gNs_cons, Option.bind_some, Option.bind_none, Option.map_some, Option.map_none, List.set_cons_zero, List.set_cons_succ, List.map_cons, List.map_nil, List.cons_append, List.nil_append, Bool.false_eq_true, dAdd_i, dSub_i, addI_i, dNeg_i, dLt_i, dLe_i, dGt_i, dGe_i, dEq_i, dEq_s, dEq_b, dNe_i, dNe_s, dIsN_non, dIsN_int, dIsN_tup, dIsN_lst, dIsN_bl, dIsN_str, dNotN_non, dNotN_int, dNotN_tup, dLen_lst, dLen_tup, dLen_shr, dSum_tI, dSum_lI, dSum_sI, dInt_i, dInt_b, dAbs_i, dTuple_lI, dTuple_sI, dList_lI, dList_tI, dList_sI, dMax_2, dMin_2, mkTup_2, mkTup_3, mkLst_0, mkLst_1, mkLst_2, kit_ib, kit_ii, kit_is, kit_it, kit_bb, kit_bi, kit_tb, kit_ti, kit_ts, kit_tt, kit_nb, kit_ni, kit_ns, kit_nt, kit_sb, kit_si, kit_ss, kit_st, isi_int, isi_bl, isi_str, isi_tup, isi_non, lPop_snoc, lReverse_ints, ↓reduceIte, List.length_cons, List.length_nil, List.length_map, List.reduceReplicate, Nat.reduceSub, Bool.not_true, Bool.not_false, decide_true, decide_false, decide_eq_true_eq, Nat.reduceLeDiff, pIx_ap', atI_z, atI_o, atI_t, parS_eq, parT_some, parV_some, setS_ap, stO_some, stL_some, stT_some, augIxS_ap, pCut_ap, cuO_some, pNo_ap, pSo_ap, soO_int, freeC_ap, fcO_int, fcO_str, yesC_ap, wipeE_nil, wipeE_cons, pComp_ap, cpO_some, icB_sI, icB_tI, icB_lI, itE_sI, itE_tI, itE_lI, noM_nil, noM_v, noM_s, noMS_nil, noMS_v, noMS_c, callO_no, callO_m0, putM_nil, putM_cons, dropM_nil, dropM_cons, shares_nil, shares_cons, share_int, share_bl, share_str, share_non, share_tup, share_lst, share_shr_, shares_ints, Nat.reduceBEq, Bool.true_and, Bool.and_true, Bool.and_self, Bool.false_and, Bool.and_false, Bool.not_eq_true, Bool.not_eq_false, Bool.or_true, Bool.true_or, Bool.or_false, Bool.false_or, beq_self_eq_true, pChain_ap, dIn_lI, dIn_tI, dIn_sI, dIn_fI, dNin_lI, dNin_tI, dNin_sI, dNin_fI, compE_ap, ceO_some, restE_nil, restE_cons, rsO_none, rsO_int, forL_ap, flO_lst, flO_int, backO_nx, backO_rt, forC_ap, fcS_lst, chO_some, chB_bl, Int.natCast_zero, dMod_i, dDiv_i, dMul_i, divOk_s, mulOk_l, mulOk_r, Int.reducePow, Int.reduceNeg, Int.reduceLT, Int.reduceLE, Int.reduceEq, Int.reduceAdd, Int.reduceSub, Int.reduceMul, Nat.reduceAdd, Nat.reducePow, lC_tI, lC_sI, dLen_frz, fcO_tI, shares_eI, rgD_ru, pAnd_ap, pOr_ap, pNot_ap, anO_bl, orC_bl, noC_bl, dEqX_tI, dNeX_tI, dEqX_lI, pComp2_ap, cp2O_some, dRev_lI, dSorted_lI, dAny_lB, augLS_ap, setS2_ap, dNe_b, *])
/-! ### equal data are told equal -/
def Sd : Nat → D → Prop
  | 0, _ => False
  | n + 1, .non => True
  | n + 1, .int _ => True
  | n + 1, .bl _ => True
  | n + 1, .tup xs => xs.length ≤ 1000000 ∧ ∀ x, x ∈ xs → Sd n x
  | n + 1, _ => False
theorem Sd.share : ∀ {n : Nat} {d : D}, Sd n d → d.share = d
  | n + 1, .non, _ => share_non
  | n + 1, .int _, _ => share_int _
  | n + 1, .bl _, _ => share_bl _
  | n + 1, .tup xs, h => by
    rw [share_tup, D.shares_map]
    congr 1
    conv => rhs; rw [← List.map_id xs]
    exact List.map_congr_left fun x hx => Sd.share (h.2 x hx)
theorem same_refl : ∀ (n : Nat) (d : D), Sd n d → m_l_same n [d, d] = some (.bl true, [])
  | n + 1, .non, _ => by
    show fnM 3 2 [] _ _ = _
    rw [fnM_ap (by rfl)]
    walk_at "fl"
    exact finM_nil rfl
  | n + 1, .int i, _ => by
    show fnM 3 2 [] _ _ = _
    rw [fnM_ap (by rfl)]
    walk_at "fl"
    exact finM_nil rfl
  | n + 1, .bl i, _ => by
    show fnM 3 2 [] _ _ = _
    rw [fnM_ap (by rfl)]
    walk_at "fl"
    exact finM_nil rfl
  | n + 1, .tup xs, h => by
    show fnM 3 2 [] _ _ = _
    rw [fnM_ap (by rfl)]
    have hne : dNe (.int xs.length) (.int xs.length) = some (.bl false) := by rw [dNe_i]; simp
    have hi := itR_nat (n := xs.length) (by have := h.1; omega)
    walk_at "fl*"
    obtain ⟨ρ, h1, a, rfl⟩ := forM_upto (g := gN 2) (m := b_l_same_1 (m_l_same n)) (n := xs.length) (ρ := [some (.tup xs), some (.tup xs), none]) (fun i ρ => ∃ a : Option D, ρ = [some (.tup xs), some (.tup xs), a]) ⟨none, rfl⟩ (by
      rintro i ρ hi ⟨a, rfl⟩
      refine ⟨_, _, gN_ap _ _ _, .inl ?_, some (.int i), rfl⟩
      have hd := h.2 xs[i] (List.getElem_mem hi)
      have ha : L2.atI xs (i : Int) = some xs[i] := by rw [atI_nat', List.getElem?_eq_getElem hi]
      have ih := same_refl n xs[i] hd
      have hs := hd.share
      unfold b_l_same_1
      walk_at "fl*")
    walk_at "fl*"
    exact finM_nil rfl
theorem same_ints (ns : List Int) (h : ns.length ≤ 1000000) : m_l_same 8 [.tup (ns.map .int), .tup (ns.map .int)] = some (.bl true, []) :=
  same_refl 8 _ ⟨by simpa using h, fun x hx => by obtain ⟨i, _, rfl⟩ := List.mem_map.mp hx; trivial⟩
theorem same_non : m_l_same 8 [.non, .non] = some (.bl true, []) := same_refl 8 _ trivial
theorem same_pair (i j : Int) : m_l_same 8 [.tup [.int i, .int j], .tup [.int i, .int j]] = some (.bl true, []) := same_ints [i, j] (by simp)

end K58
end

section
set_option Elab.async false
set_option linter.all false
set_option maxRecDepth 100000
set_option maxHeartbeats 8000000
namespace K58
open FL
local macro_rules | `(tactic| walk_at "fl") => `(tactic| simp -implicitDefEqProofs only [seqS_ap, ifS_ap, asgS_ap, gN_ap, gTupN_ap, retS_ap, exprS_ap, skipS_ap, p1_ap, p2_ap, pn_ap, psNil_ap, psCons_ap, pV_ap, pC_ap, liftE_ap, liftC_ap, pIf_ap, tB'_ap, tAnd'_ap, tOr'_ap, tNot'_ap, liftT_ap, blE_ap, andE_ap, orE_ap, notE_ap, toE_ap, toS'_ap, toM'_ap, asNil_ap, asCons_ap, opE2_ap, opE1_ap, opEn_ap, dispE_ap, ifE_ap, andV_ap, orV_ap, notV_ap, mvV_ap, mtE_ap, callE_ap, pCall_ap, itE_ap, itA_ap, icA_ap, icB_ap, forS_ap, rg1_ap, rg2_ap, fnM_ap, seqO_nx, seqO_rt, seqO_bk, seqO_ct, ifO_some, asgO_some, retO_some, exprO_some, b2_some, c2_some, ixO_tup, ixO_lst, ixO_shr, lE_some, lC_int, lC_bl, lC_str, lC_non, tb_bl, andO_some, orO_some, lT_some, bE_bl, andEO_some, orEO_some, notEO_some, tE_some, sO_some, mO_some, acO_some, acT_some, o2O_some, o2T_some, o2F_some, o1O_some, o1F_some, onO_some, onF_some, diO_some, ifEO_some, andVO_bl, orVO_bl, notVO_bl, mvO_lst, mvO_tup, mvO_shr, mtO_some, mtT_some, mtF_some, callF_some, pcF_some, itAO_some, itAF_some, forO_some, fnO_rt, fnO_nx, lk_zero, lk_succ, lstAt_zero, lstAt_succ, raw_v, raw_s, raw_m, raws_nil, raws_cons, valsOf_nil, valsOf_v, argsD_nil, argsD_cons, argD_v, argD_s, argD_m, gNs_nil, gNs_cons, Option.bind_some, Option.bind_none, Option.map_some, Option.map_none, List.set_cons_zero, List.set_cons_succ, List.map_cons, List.map_nil, List.cons_append, List.nil_append, Bool.false_eq_true, dAdd_i, dSub_i, addI_i, dNeg_i, dLt_i, dLe_i, dGt_i, dGe_i, dEq_i, dEq_s, dEq_b, dNe_i, dNe_s, dIsN_non, dIsN_int, dIsN_tup, dIsN_lst, dIsN_bl, dIsN_str, dNotN_non, dNotN_int, dNotN_tup, dLen_lst, dLen_tup, dLen_shr, dSum_tI, dSum_lI, dSum_sI, dInt_i, dInt_b, dAbs_i, dTuple_lI, dTuple_sI, dList_lI, dList_tI, dList_sI, dMax_2, dMin_2, mkTup_2, mkTup_3, mkLst_0, mkLst_1, mkLst_2, kit_ib, kit_ii, kit_is, kit_it, kit_bb, kit_bi, kit_tb, kit_ti, kit_ts, kit_tt, kit_nb, kit_ni, kit_ns, kit_nt, kit_sb, kit_si, kit_ss, kit_st, isi_int, isi_bl, isi_str, isi_tup, isi_non, lPop_snoc, lReverse_ints, ↓reduceIte, List.length_cons, List.length_nil, List.length_map, List.reduceReplicate, Nat.reduceSub, Bool.not_true, Bool.not_false, decide_true, decide_false, decide_eq_true_eq, Nat.reduceLeDiff, pIx_ap', atI_z, atI_o, atI_t, parS_eq, parT_some, parV_some, setS_ap, stO_some, stL_some, stT_some, augIxS_ap, pCut_ap, cuO_some, pNo_ap, pSo_ap, soO_int, freeC_ap, fcO_int, fcO_str, yesC_ap, wipeE_nil, wipeE_cons, pComp_ap, cpO_some, icB_sI, icB_tI, icB_lI, itE_sI, itE_tI, itE_lI, noM_nil, noM_v, noM_s, noMS_nil, noMS_v, noMS_c, callO_no, callO_m0, putM_nil, putM_cons, dropM_nil, dropM_cons, shares_nil, shares_cons, share_int, share_bl, share_str, share_non, share_tup, share_lst, share_shr_, shares_ints, Nat.reduceBEq, Bool.true_and, Bool.and_true, Bool.and_self, Bool.false_and, Bool.and_false, Bool.not_eq_true, Bool.not_eq_false, Bool.or_true, Bool.true_or, Bool.or_false, Bool.false_or, beq_self_eq_true, pChain_ap, dIn_lI, dIn_tI, dIn_sI, dIn_fI, dNin_lI, dNin_tI, dNin_sI, dNin_fI, compE_ap, ceO_some, restE_nil, restE_cons, rsO_none, rsO_int, forL_ap, flO_lst, flO_int, backO_nx, backO_rt, forC_ap, fcS_lst, chO_some, chB_bl, Int.natCast_zero, dMod_i, dDiv_i, dMul_i, divOk_s, mulOk_l, mulOk_r, Int.reducePow, Int.reduceNeg, Int.reduceLT, Int.reduceLE, Int.reduceEq, Int.reduceAdd, Int.reduceSub, Int.reduceMul, Nat.reduceAdd, Nat.reducePow, lC_tI, lC_sI, dLen_frz, fcO_tI, shares_eI, rgD_ru, pAnd_ap, pOr_ap, pNot_ap, anO_bl, orC_bl, noC_bl, dEqX_tI, dNeX_tI, dEqX_lI, pComp2_ap, cp2O_some, dRev_lI, dSorted_lI, dAny_lB, augLS_ap, setS2_ap, dNe_b])
local macro_rules | `(tactic| walk_at "fl*") => `(tactic| simp -implicitDefEqProofs only [seqS_ap, ifS_ap, asgS_ap, gN_ap, gTupN_ap, retS_ap, exprS_ap, skipS_ap, p1_ap, p2_ap, pn_ap, psNil_ap, psCons_ap, pV_ap, pC_ap, liftE_ap, liftC_ap, pIf_ap, tB'_ap, tAnd'_ap, tOr'_ap, tNot'_ap, liftT_ap, blE_ap, andE_ap, orE_ap, notE_ap, toE_ap, toS'_ap, toM'_ap, asNil_ap, asCons_ap, opE2_ap, opE1_ap, opEn_ap, dispE_ap, ifE_ap, andV_ap, orV_ap, notV_ap, mvV_ap, mtE_ap, callE_ap, pCall_ap, itE_ap, itA_ap, icA_ap, icB_ap, forS_ap, rg1_ap, rg2_ap, fnM_ap, seqO_nx, seqO_rt, seqO_bk, seqO_ct, ifO_some, asgO_some, retO_some, exprO_some, b2_some, c2_some, ixO_tup, ixO_lst, ixO_shr, lE_some, lC_int, lC_bl, lC_str, lC_non, tb_bl, andO_some, orO_some, lT_some, bE_bl, andEO_some, orEO_some, notEO_some, tE_some, sO_some, mO_some, acO_some, acT_some, o2O_some, o2T_some, o2F_some, o1O_some, o1F_some, onO_some, onF_some, diO_some, ifEO_some, andVO_bl, orVO_bl, notVO_bl, mvO_lst, mvO_tup, mvO_shr, mtO_some, mtT_some, mtF_some, callF_some, pcF_some, itAO_some, itAF_some, forO_some, fnO_rt, fnO_nx, lk_zero, lk_succ, lstAt_zero, lstAt_succ, raw_v, raw_s, raw_m, raws_nil, raws_cons, valsOf_nil, valsOf_v, argsD_nil, argsD_cons, argD_v, argD_s, argD_m, gNs_nil, gNs_cons, Option.bind_some, Option.bind_none, Option.map_some, Option.map_none, List.set_cons_zero, List.set_cons_succ, List.map_cons, List.map_nil, List.cons_append, List.nil_append, Bool.false_eq_true, dAdd_i, dSub_i, addI_i, dNeg_i, dLt_i, dLe_i, dGt_i, dGe_i, dEq_i, dEq_s, dEq_b, dNe_i, dNe_s, dIsN_non, dIsN_int, dIsN_tup, dIsN_lst, dIsN_bl, dIsN_str, dNotN_non, dNotN_int, dNotN_tup, dLen_lst, dLen_tup, dLen_shr, dSum_tI, dSum_lI, dSum_sI, dInt_i, dInt_b, dAbs_i, dTuple_lI, dTuple_sI, dList_lI, dList_tI, dList_sI, dMax_2, dMin_2, mkTup_2, mkTup_3, mkLst_0, mkLst_1, mkLst_2, kit_ib, kit_ii, kit_is, kit_it, kit_bb, kit_bi, kit_tb, kit_ti, kit_ts, kit_tt, kit_nb, kit_ni, kit_ns, kit_nt, kit_sb, kit_si, kit_ss, kit_st, isi_int, isi_bl, isi_str, isi_tup, isi_non, lPop_snoc, lReverse_ints, ↓reduceIte, List.length_cons, List.length_nil, List.length_map, List.reduceReplicate, Nat.reduceSub, Bool.not_true, Bool.not_false, decide_true, decide_false, decide_eq_true_eq, Nat.reduceLeDiff, pIx_ap', atI_z, atI_o, atI_t, parS_eq, parT_some, parV_some, setS_ap, stO_some, stL_some, stT_some, augIxS_ap, pCut_ap, cuO_some, pNo_ap, pSo_ap, soO_int, freeC_ap, fcO_int, fcO_str, yesC_ap, wipeE_nil, wipeE_cons, pComp_ap, cpO_some, icB_sI, icB_tI, icB_lI, itE_sI, itE_tI, itE_lI, noM_nil, noM_v, noM_s, noMS_nil, noMS_v, noMS_c, callO_no, callO_m0, putM_nil, putM_cons, dropM_nil, dropM_cons, shares_nil, shares_cons, share_int, share_bl, share_str, share_non, share_tup, share_lst, share_shr_, shares_ints, Nat.reduceBEq, Bool.true_and, Bool.and_true, Bool.and_self, Bool.false_and, Bool.and_false, Bool.not_eq_true, Bool.not_eq_false, Bool.or_true, Bool.true_or, Bool.or_false, Bool.false_or, beq_self_eq_true, pChain_ap, dIn_lI, dIn_tI, dIn_sI, dIn_fI, dNin_lI, dNin_tI, dNin_sI, dNin_fI, compE_ap, ceO_some, restE_nil, restE_cons, rsO_none, rsO_int, forL_ap, flO_lst, flO_int, backO_nx, backO_rt, forC_ap, fcS_lst, chO_some, chB_bl, Int.natCast_zero, dMod_i, dDiv_i, dMul_i, divOk_s, mulOk_l, mulOk_r, Int.reducePow, Int.reduceNeg, Int.reduceLT, Int.reduceLE, Int.reduceEq, Int.reduceAdd, Int.reduceSub, Int.reduceMul, Nat.reduceAdd, Nat.reducePow, lC_tI, lC_sI, dLen_frz, fcO_tI, shares_eI, rgD_ru, pAnd_ap, pOr_ap, pNot_ap, anO_bl, orC_bl, noC_bl, dEqX_tI, dNeX_tI, dEqX_lI, pComp2_ap, cp2O_some, dRev_lI, dSorted_lI, dAny_lB, augLS_ap, setS2_ap, dNe_b, *])
theorem order_ex (n : Nat) (hn : n ≤ 900) (ds : List Int) : ∃ (ds' od : List Int), m_l_order [.lst (ds.map .int), .int (n : Nat)] = some (.lst (od.map .int), [.lst (ds'.map .int)]) ∧ od.Perm (ru n) := by
  obtain ⟨ρ, hl, ds', cm, x, hp, rfl⟩ := forM_upto (g := gN 3) (m := b_l_order_1) (n := n) (ρ := [some (.lst (ds.map .int)), some (.int (n : Nat)), some (.lst []), none]) (fun i ρ => ∃ (ds' cm : List Int) (x : Option D), cm.Perm (ru i) ∧ ρ = [some (.lst (ds'.map .int)), some (.int (n : Nat)), some (.lst (cm.map .int)), x]) ⟨ds, [], none, .refl _, rfl⟩ (by
    rintro i ρ hi ⟨ds', cm, x, hp, rfl⟩
    have hcl : cm.length = i := by rw [hp.length_eq, ru_len]
    obtain ⟨r, ds2, h1, h2, h3⟩ := take_ex ds' (((cm.length : Nat) : Int) + 1) (by omega)
    have h4 := lInsert_ints (xs := cm) (p := r) (v := (i : Int)) h2 (by omega) (by omega)
    refine ⟨_, [some (.lst (ds2.map .int)), some (.int (n : Nat)), some (.lst ((insI cm r.toNat i).map .int)), some (.int i)], gN_ap _ _ _, .inl ?_, ds2, insI cm r.toNat i, _, ?_, rfl⟩
    · clear hcl hp
      unfold b_l_order_1
      walk_at "fl*"
    · refine (insI_perm _ _ _).trans ?_
      rw [ru_succ]
      exact (List.Perm.cons _ hp).trans (List.perm_append_comm (l₁ := [(i : Int)]) (l₂ := ru i)))
  refine ⟨ds', cm, ?_, hp⟩
  have hi := itR_nat (n := n) (by omega)
  unfold m_l_order
  rw [fnM_ap (by rfl)]
  walk_at "fl"
  rw [hi]
  walk_at "fl"
  rw [hl]
  walk_at "fl"
  exact finM_one (own_lI cm) rfl (own_lI ds')
theorem popAt_ints {xs : List Int} {j : Nat} (h : j < xs.length) (hb : xs.length < 2 ^ 62) : lPopAt (xs.map .int) [.int (j : Nat)] = some (.int xs[j], (xs.eraseIdx j).map .int) := by
  unfold lPopAt
  dsimp only
  rw [frees_ints, decide_eq_true (by omega), decide_eq_true (by omega)]
  rw [if_pos (show (true && true && true) = true from rfl)]
  have e : PySem.seqIndex? (j : Int) (xs.map D.int).length = some j := by
    have := PySem.seqIndex_of (k := (j : Int)) (n := (xs.map D.int).length) (by omega) (by rw [List.length_map]; omega)
    rw [this]; rfl
  rw [e, Option.bind_some, List.getElem?_map, List.getElem?_eq_getElem h]
  show some _ = _
  show some (D.int xs[j], (xs.map D.int).eraseIdx j) = _
  rw [List.eraseIdx_eq_take_drop_succ, List.eraseIdx_eq_take_drop_succ, List.map_append, List.map_take, List.map_drop]
theorem turn_perm (xs : List Int) {j : Nat} (h : j < xs.length) : (xs.eraseIdx j ++ [xs[j]]).Perm xs := by
  rw [List.eraseIdx_eq_take_drop_succ]
  have e : xs = xs.take j ++ xs[j] :: xs.drop (j + 1) := by
    rw [← List.drop_eq_getElem_cons h, List.take_append_drop]
  conv => rhs; rw [e]
  rw [List.append_assoc]
  exact List.Perm.append_left _ (List.perm_append_comm (l₁ := xs.drop (j + 1)) (l₂ := [xs[j]]))
theorem if_seq {T : FL.Env → Option (Bool × FL.Env)} {A B C : FL.Env → Option Out} {ρ ρ' ρ2 : FL.Env} {o : Option Out} {b : Bool} (h1 : T ρ = some (b, ρ')) (h2 : (if b then A else B) ρ' = some (.nx ρ2)) (h3 : C ρ2 = o) : seqS (ifS T A B) C ρ = o := by
  rw [seqS_ap, ifS_ap, h1, ifO_some]
  cases b with
  | true => rw [if_pos rfl] at h2 ⊢; rw [h2, seqO_nx, h3]
  | false => rw [if_neg Bool.false_ne_true] at h2 ⊢; rw [h2, seqO_nx, h3]
def VE (n many : Nat) (ds : List Int) (V : List (List Int)) (x y z : Option D) : FL.Env := [some (.lst (ds.map .int)), some (.int (n : Nat)), some (.int (many : Nat)), some (.lst (V.map fun ns => .tup (ns.map .int))), x, y, z]
theorem v_fin (n many : Nat) (V : List (List Int)) (hV : V.length < 900) (ds v : List Int) (a c : Option D) : (exprS (mtE 3 lAppend (asCons (toE (liftE (pn dTuple (psCons (pV 5) psNil)))) asNil))) (VE n many ds V a (some (.lst (v.map .int))) c) = some (.nx (VE n many ds (V ++ [v]) a (some (.lst (v.map .int))) c)) := by
  have app := app_M (fun ns : List Int => D.tup (ns.map .int)) (xs := V) (by omega) v
  unfold VE
  walk_at "fl"
  rw [app]
  walk_at "fl"
theorem v_fresh (n many : Nat) (hn : n ≤ 900) (V : List (List Int)) (ds : List Int) (a b c : Option D) : ∃ (ds' v : List Int), v.Perm (ru n) ∧ (asgS (callE m_l_order [0] (asCons (toM' 0) (asCons (toS' 1) asNil))) (gN 5)) (VE n many ds V a b c) = some (.nx (VE n many ds' V a (some (.lst (v.map .int))) c)) := by
  obtain ⟨dsy, v, h1, h2⟩ := order_ex n hn ds
  refine ⟨dsy, v, h2, ?_⟩
  unfold VE
  walk_at "fl*"
theorem v_old (n many : Nat) (h0 : 0 < n) (hn : n ≤ 900) (V : List (List Int)) (hV : 0 < V.length) (hp : ∀ v, v ∈ V → v.Perm (ru n)) (ds : List Int) (a b c : Option D) : ∃ (ds' v : List Int) (c' : Option D), v.Perm (ru n) ∧ (seqS (asgS (opEn dList (asCons (toE (opE2 dIx (toS' 3) (toE (callE m_l_take [0] (asCons (toM' 0) (asCons (toE (liftE (pn dLen (psCons (pV 3) psNil)))) asNil)))))) asNil)) (gN 5))
    (seqS (asgS (callE m_l_take [0] (asCons (toM' 0) (asCons (toS' 1) asNil))) (gN 6))
    (exprS (mtE 5 lAppend (asCons (toE (mtE 5 lPopAt (asCons (toE (liftC (pV 6))) asNil))) asNil))))) (VE n many ds V a b c) = some (.nx (VE n many ds' V a (some (.lst (v.map .int))) c')) := by
  have dl : (((V.map fun ns => D.tup (ns.map .int)).length : Nat) : Int) = (V.length : Int) := by rw [List.length_map]
  obtain ⟨r, ds4, u1, u2, u3⟩ := take_ex ds (V.length : Int) (by omega)
  obtain ⟨j, rfl, hj⟩ := intIdx u2 (n := V.length) (by omega)
  obtain ⟨r5, ds5, w1, w2, w3⟩ := take_ex ds4 (n : Int) (by omega)
  have vl : V[j].length = n := by rw [(hp _ (List.getElem_mem hj)).length_eq, ru_len]
  obtain ⟨k, rfl, hk⟩ := intIdx w2 (n := V[j].length) (by rw [vl]; exact w3)
  have ix : dIx (.lst (V.map fun ns => D.tup (ns.map .int))) (.int (j : Nat)) = some (.tup (V[j].map .int)) := by
    show (L2.atI (V.map fun ns => D.tup (ns.map .int)) (j : Int)).bind _ = _
    rw [atI_in _ hj, Option.bind_some, if_pos (free_tI V[j])]
  have pa := popAt_ints hk (by omega)
  have ap := app_int (ds := V[j].eraseIdx k) (by rw [List.length_eraseIdx]; split <;> omega) V[j][k]
  have dt := dList_tI V[j]
  refine ⟨ds5, V[j].eraseIdx k ++ [V[j][k]], some (.int (k : Nat)), (turn_perm V[j] hk).trans (hp _ (List.getElem_mem hj)), ?_⟩
  unfold VE
  walk_at "fl"
  rw [u1]
  walk_at "fl"
  rw [ix]
  walk_at "fl"
  rw [w1]
  walk_at "fl"
  rw [pa]
  walk_at "fl"
  rw [ap]
  walk_at "fl"
theorem v_turn (n many : Nat) (h0 : 0 < n) (hn : n ≤ 900) (V : List (List Int)) (hV : V.length < 900) (hp : ∀ v, v ∈ V → v.Perm (ru n)) (ds : List Int) (a b c : Option D) : ∃ (ds' v : List Int) (b' c' : Option D), v.Perm (ru n) ∧ b_l_votes_1 (VE n many ds V a b c) = some (.nx (VE n many ds' (V ++ [v]) a b' c')) := by
  obtain ⟨r3, ds3, t1, t2, t3⟩ := take_ex ds 3 (by omega)
  by_cases hi3 : (3 : Int) < (V.length : Int)
  · have tst : (andE (liftT (tB' (p2 dGt (pn dLen (psCons (pV 3) psNil)) (pC (.int 3))))) (blE (opE2 dGt (toE (callE m_l_take [0] (asCons (toM' 0) (asCons (toE (liftE (pC (.int 3)))) asNil)))) (toE (liftE (pC (.int 0))))))) (VE n many ds V a b c) = some (decide (r3 > 0), VE n many ds3 V a b c) := by
      have d3 : decide ((V.length : Int) > 3) = true := decide_eq_true hi3
      unfold VE
      walk_at "fl"
      rw [if_pos hi3, t1]
      walk_at "fl"
    by_cases hr : r3 > 0
    · obtain ⟨ds4, v, c', h1, h2⟩ := v_old n many h0 hn V (by omega) hp ds3 a b c
      refine ⟨ds4, v, some (.lst (v.map .int)), c', h1, ?_⟩
      unfold b_l_votes_1
      exact if_seq tst (by rw [decide_eq_true hr, if_pos rfl]; exact h2) (v_fin n many V hV ds4 v a c')
    · obtain ⟨ds4, v, h1, h2⟩ := v_fresh n many hn V ds3 a b c
      refine ⟨ds4, v, some (.lst (v.map .int)), c, h1, ?_⟩
      unfold b_l_votes_1
      exact if_seq tst (by rw [decide_eq_false hr, if_neg Bool.false_ne_true]; exact h2) (v_fin n many V hV ds4 v a c)
  · have tst : (andE (liftT (tB' (p2 dGt (pn dLen (psCons (pV 3) psNil)) (pC (.int 3))))) (blE (opE2 dGt (toE (callE m_l_take [0] (asCons (toM' 0) (asCons (toE (liftE (pC (.int 3)))) asNil)))) (toE (liftE (pC (.int 0))))))) (VE n many ds V a b c) = some (false, VE n many ds V a b c) := by
      unfold VE
      walk_at "fl"
      rw [if_neg hi3]
    obtain ⟨ds4, v, h1, h2⟩ := v_fresh n many hn V ds a b c
    refine ⟨ds4, v, some (.lst (v.map .int)), c, h1, ?_⟩
    unfold b_l_votes_1
    exact if_seq tst (by rw [if_neg Bool.false_ne_true]; exact h2) (v_fin n many V hV ds4 v a c)
theorem votes_ex (n : Nat) (h0 : 0 < n) (hn : n ≤ 900) (many : Nat) (hm : many ≤ 900) (ds : List Int) : ∃ (ds' : List Int) (V : List (List Int)), m_l_votes [.lst (ds.map .int), .int (n : Nat), .int (many : Nat)] = some (.tup (V.map fun ns => .tup (ns.map .int)), [.lst (ds'.map .int)]) ∧ V.length = many ∧ ∀ v, v ∈ V → v.Perm (ru n) := by
  obtain ⟨ρ, hl, ds', V, x, y, z, hV, hp, rfl⟩ := forM_upto (g := gN 4) (m := b_l_votes_1) (n := many) (ρ := VE n many ds [] none none none)
    (fun i ρ => ∃ (ds' : List Int) (V : List (List Int)) (x y z : Option D), V.length = i ∧ (∀ v, v ∈ V → v.Perm (ru n)) ∧ ρ = VE n many ds' V x y z) ⟨ds, [], none, none, none, rfl, (fun _ h => by cases h), rfl⟩ (by
    rintro i ρ hi ⟨ds1, V, x, y, z, hV, hp, rfl⟩
    obtain ⟨ds2, v, b', c', h1, h2⟩ := v_turn n many h0 hn V (by omega) hp ds1 (some (.int (i : Nat))) y z
    refine ⟨VE n many ds1 V (some (.int (i : Nat))) y z, _, rfl, .inl h2, ds2, V ++ [v], _, b', c', by simp [hV], fun w hw => ?_, rfl⟩
    rcases List.mem_append.mp hw with q | q
    · exact hp w q
    · rw [List.mem_singleton.mp q]; exact h1)
  refine ⟨ds', V, ?_, hV, hp⟩
  have hi := itR_nat (n := many) (by omega)
  have ht := dTuple_lP (pures_eI V)
  unfold VE at hl
  rw [List.map_nil] at hl
  unfold m_l_votes
  rw [fnM_ap (by rfl)]
  walk_at "fl"
  rw [hi]
  walk_at "fl"
  rw [hl]
  walk_at "fl"
  rw [ht]
  walk_at "fl"
  exact finM_one (D.pure_own (pure_eW V)) rfl (own_lI ds')

end K58
end

section
set_option Elab.async false
set_option linter.all false
set_option maxRecDepth 100000
set_option maxHeartbeats 8000000
namespace K58
open FL
local macro_rules | `(tactic| walk_at "fl") => `(tactic| simp -implicitDefEqProofs only [seqS_ap, ifS_ap, asgS_ap, gN_ap, gTupN_ap, retS_ap, exprS_ap, skipS_ap, p1_ap, p2_ap, pn_ap, psNil_ap, psCons_ap, pV_ap, pC_ap, liftE_ap, liftC_ap, pIf_ap, tB'_ap, tAnd'_ap, tOr'_ap, tNot'_ap, liftT_ap, blE_ap, andE_ap, orE_ap, notE_ap, toE_ap, toS'_ap, toM'_ap, asNil_ap, asCons_ap, opE2_ap, opE1_ap, opEn_ap, dispE_ap, ifE_ap, andV_ap, orV_ap, notV_ap, mvV_ap, mtE_ap, callE_ap, pCall_ap, itE_ap, itA_ap, icA_ap, icB_ap, forS_ap, rg1_ap, rg2_ap, fnM_ap, seqO_nx, seqO_rt, seqO_bk, seqO_ct, ifO_some, asgO_some, retO_some, exprO_some, b2_some, c2_some, ixO_tup, ixO_lst, ixO_shr, lE_some, lC_int, lC_bl, lC_str, lC_non, tb_bl, andO_some, orO_some, lT_some, bE_bl, andEO_some, orEO_some, notEO_some, tE_some, sO_some, mO_some, acO_some, acT_some, o2O_some, o2T_some, o2F_some, o1O_some, o1F_some, onO_some, onF_some, diO_some, ifEO_some, andVO_bl, orVO_bl, notVO_bl, mvO_lst, mvO_tup, mvO_shr, mtO_some, mtT_some, mtF_some, callF_some, pcF_some, itAO_some, itAF_some, forO_some, fnO_rt, fnO_nx, lk_zero, lk_succ, lstAt_zero, lstAt_succ, raw_v, raw_s, raw_m, raws_nil, raws_cons, valsOf_nil, valsOf_v, argsD_nil, argsD_cons, argD_v, argD_s, argD_m, gNs_nil, gNs_cons, Option.bind_some, Option.bind_none, Option.map_some, Option.map_none, List.set_cons_zero, List.set_cons_succ, List.map_cons, List.map_nil, List.cons_append, List.nil_append, Bool.false_eq_true, dAdd_i, dSub_i, addI_i, dNeg_i, dLt_i, dLe_i, dGt_i, dGe_i, dEq_i, dEq_s, dEq_b, dNe_i, dNe_s, dIsN_non, dIsN_int, dIsN_tup, dIsN_lst, dIsN_bl, dIsN_str, dNotN_non, dNotN_int, dNotN_tup, dLen_lst, dLen_tup, dLen_shr, dSum_tI, dSum_lI, dSum_sI, dInt_i, dInt_b, dAbs_i, dTuple_lI, dTuple_sI, dList_lI, dList_tI, dList_sI, dMax_2, dMin_2, mkTup_2, mkTup_3, mkLst_0, mkLst_1, mkLst_2, kit_ib, kit_ii, kit_is, kit_it, kit_bb, kit_bi, kit_tb, kit_ti, kit_ts, kit_tt, kit_nb, kit_ni, kit_ns, kit_nt, kit_sb, kit_si, kit_ss, kit_st, isi_int, isi_bl, isi_str, isi_tup, isi_non, lPop_snoc, lReverse_ints, ↓reduceIte, List.length_cons, List.length_nil, List.length_map, List.reduceReplicate, Nat.reduceSub, Bool.not_true, Bool.not_false, decide_true, decide_false, decide_eq_true_eq, Nat.reduceLeDiff, pIx_ap', atI_z, atI_o, atI_t, parS_eq, parT_some, parV_some, setS_ap, stO_some, stL_some, stT_some, augIxS_ap, pCut_ap, cuO_some, pNo_ap, pSo_ap, soO_int, freeC_ap, fcO_int, fcO_str, yesC_ap, wipeE_nil, wipeE_cons, pComp_ap, cpO_some, icB_sI, icB_tI, icB_lI, itE_sI, itE_tI, itE_lI, noM_nil, noM_v, noM_s, noMS_nil, noMS_v, noMS_c, callO_no, callO_m0, putM_nil, putM_cons, dropM_nil, dropM_cons, shares_nil, shares_cons, share_int, share_bl, share_str, share_non, share_tup, share_lst, share_shr_, shares_ints, Nat.reduceBEq, Bool.true_and, Bool.and_true, Bool.and_self, Bool.false_and, Bool.and_false, Bool.not_eq_true, Bool.not_eq_false, Bool.or_true, Bool.true_or, Bool.or_false, Bool.false_or, beq_self_eq_true, pChain_ap, dIn_lI, dIn_tI, dIn_sI, dIn_fI, dNin_lI, dNin_tI, dNin_sI, dNin_fI, compE_ap, ceO_some, restE_nil, restE_cons, rsO_none, rsO_int, forL_ap, flO_lst, flO_int, backO_nx, backO_rt, forC_ap, fcS_lst, chO_some, chB_bl, Int.natCast_zero, dMod_i, dDiv_i, dMul_i, divOk_s, mulOk_l, mulOk_r, Int.reducePow, Int.reduceNeg, Int.reduceLT, Int.reduceLE, Int.reduceEq, Int.reduceAdd, Int.reduceSub, Int.reduceMul, Nat.reduceAdd, Nat.reducePow, lC_tI, lC_sI, dLen_frz, fcO_tI, shares_eI, rgD_ru, pAnd_ap, pOr_ap, pNot_ap, anO_bl, orC_bl, noC_bl, dEqX_tI, dNeX_tI, dEqX_lI, pComp2_ap, cp2O_some, dRev_lI, dSorted_lI, dAny_lB, augLS_ap, setS2_ap, dNe_b])
local macro_rules | `(tactic| walk_at "fl*") => `(tactic| simp -implicitDefEqProofs only [seqS_ap, ifS_ap, asgS_ap, gN_ap, gTupN_ap, retS_ap, exprS_ap, skipS_ap, p1_ap, p2_ap, pn_ap, psNil_ap, psCons_ap, pV_ap, pC_ap, liftE_ap, liftC_ap, pIf_ap, tB'_ap, tAnd'_ap, tOr'_ap, tNot'_ap, liftT_ap, blE_ap, andE_ap, orE_ap, notE_ap, toE_ap, toS'_ap, toM'_ap, asNil_ap, asCons_ap, opE2_ap, opE1_ap, opEn_ap, dispE_ap, ifE_ap, andV_ap, orV_ap, notV_ap, mvV_ap, mtE_ap, callE_ap, pCall_ap, itE_ap, itA_ap, icA_ap, icB_ap, forS_ap, rg1_ap, rg2_ap, fnM_ap, seqO_nx, seqO_rt, seqO_bk, seqO_ct, ifO_some, asgO_some, retO_some, exprO_some, b2_some, c2_some, ixO_tup, ixO_lst, ixO_shr, lE_some, lC_int, lC_bl, lC_str, lC_non, tb_bl, andO_some, orO_some, lT_some, bE_bl, andEO_some, orEO_some, notEO_some, tE_some, sO_some, mO_some, acO_some, acT_some, o2O_some, o2T_some, o2F_some, o1O_some, o1F_some, onO_some, onF_some, diO_some, ifEO_some, andVO_bl, orVO_bl, notVO_bl, mvO_lst, mvO_tup, mvO_shr, mtO_some, mtT_some, mtF_some, callF_some, pcF_some, itAO_some, itAF_some, forO_some, fnO_rt, fnO_nx, lk_zero, lk_succ, lstAt_zero, lstAt_succ, raw_v, raw_s, raw_m, raws_nil, raws_cons, valsOf_nil, valsOf_v, argsD_nil, argsD_cons, argD_v, argD_s, argD_m, gNs_nil, gNs_cons, Option.bind_some, Option.bind_none, Option.map_some, Option.map_none, List.set_cons_zero, List.set_cons_succ, List.map_cons, List.map_nil, List.cons_append, List.nil_append, Bool.false_eq_true, dAdd_i, dSub_i, addI_i, dNeg_i, dLt_i, dLe_i, dGt_i, dGe_i, dEq_i, dEq_s, dEq_b, dNe_i, dNe_s, dIsN_non, dIsN_int, dIsN_tup, dIsN_lst, dIsN_bl, dIsN_str, dNotN_non, dNotN_int, dNotN_tup, dLen_lst, dLen_tup, dLen_shr, dSum_tI, dSum_lI, dSum_sI, dInt_i, dInt_b, dAbs_i, dTuple_lI, dTuple_sI, dList_lI, dList_tI, dList_sI, dMax_2, dMin_2, mkTup_2, mkTup_3, mkLst_0, mkLst_1, mkLst_2, kit_ib, kit_ii, kit_is, kit_it, kit_bb, kit_bi, kit_tb, kit_ti, kit_ts, kit_tt, kit_nb, kit_ni, kit_ns, kit_nt, kit_sb, kit_si, kit_ss, kit_st, isi_int, isi_bl, isi_str, isi_tup, isi_non, lPop_snoc, lReverse_ints, ↓reduceIte, List.length_cons, List.length_nil, List.length_map, List.reduceReplicate, Nat.reduceSub, Bool.not_true, Bool.not_false, decide_true, decide_false, decide_eq_true_eq, Nat.reduceLeDiff, pIx_ap', atI_z, atI_o, atI_t, parS_eq, parT_some, parV_some, setS_ap, stO_some, stL_some, stT_some, augIxS_ap, pCut_ap, cuO_some, pNo_ap, pSo_ap, soO_int, freeC_ap, fcO_int, fcO_str, yesC_ap, wipeE_nil, wipeE_cons, pComp_ap, cpO_some, icB_sI, icB_tI, icB_lI, itE_sI, itE_tI, itE_lI, noM_nil, noM_v, noM_s, noMS_nil, noMS_v, noMS_c, callO_no, callO_m0, putM_nil, putM_cons, dropM_nil, dropM_cons, shares_nil, shares_cons, share_int, share_bl, share_str, share_non, share_tup, share_lst, share_shr_, shares_ints, Nat.reduceBEq, Bool.true_and, Bool.and_true, Bool.and_self, Bool.false_and, Bool.and_false, Bool.not_eq_true, Bool.not_eq_false, Bool.or_true, Bool.true_or, Bool.or_false, Bool.false_or, beq_self_eq_true, pChain_ap, dIn_lI, dIn_tI, dIn_sI, dIn_fI, dNin_lI, dNin_tI, dNin_sI, dNin_fI, compE_ap, ceO_some, restE_nil, restE_cons, rsO_none, rsO_int, forL_ap, flO_lst, flO_int, backO_nx, backO_rt, forC_ap, fcS_lst, chO_some, chB_bl, Int.natCast_zero, dMod_i, dDiv_i, dMul_i, divOk_s, mulOk_l, mulOk_r, Int.reducePow, Int.reduceNeg, Int.reduceLT, Int.reduceLE, Int.reduceEq, Int.reduceAdd, Int.reduceSub, Int.reduceMul, Nat.reduceAdd, Nat.reducePow, lC_tI, lC_sI, dLen_frz, fcO_tI, shares_eI, rgD_ru, pAnd_ap, pOr_ap, pNot_ap, anO_bl, orC_bl, noC_bl, dEqX_tI, dNeX_tI, dEqX_lI, pComp2_ap, cp2O_some, dRev_lI, dSorted_lI, dAny_lB, augLS_ap, setS2_ap, dNe_b, *])
open VT
abbrev eV (V : List (List Int)) : D := .tup (V.map fun ns => .tup (ns.map .int))
/-- the votes rank what there is -/
def All (n : Nat) (V : List (List Int)) : Prop := V.length ≤ 1000 ∧ ∀ v, v ∈ V → v.Perm (ru n)
theorem All.mem {n : Nat} {V : List (List Int)} (h : All n V) {v : List Int} (hv : v ∈ V) {a : Int} (ha : a ∈ ru n) : a ∈ v := (h.2 v hv).mem_iff.mpr ha
theorem cnt_comp {n : Nat} {V : List (List Int)} (h : All n V) {a b : Int} (ha : a ∈ ru n) (hb : b ∈ ru n) (g : D → FL.Env → Option FL.Env) (t : FL.Env → Option Bool) (ρ : FL.Env) (ht : ∀ v : List Int, ∃ ρ1, g (.tup (v.map .int)) ρ = some ρ1 ∧ t ρ1 = tb (b2 dLt (dIndex (.tup (v.map .int)) (.int a)) (dIndex (.tup (v.map .int)) (.int b)))) :
    cpL (compC g t (pC (.int 1)) ρ (V.map fun ns => .tup (ns.map .int))) = some (.lst ((List.replicate (cnt V a b) (1 : Int)).map .int)) := by
  rw [compC_gen (a := fun ns : List Int => D.tup (ns.map .int)) (c := bf a b) (f := fun _ => D.int 1) fun v hv => ?_]
  · rw [cpL_of]
    · rw [List.map_const', ← List.countP_eq_length_filter, List.map_replicate]; rfl
    · rw [List.length_map]
      have := List.length_filter_le (bf a b) V
      have := h.1
      omega
  · obtain ⟨ρ1, h1, h2⟩ := ht v
    refine ⟨ρ1, h1, ?_, fun _ => rfl⟩
    rw [h2, index_tI (h.mem hv ha), index_tI (h.mem hv hb), b2_some, dLt_i, tb_bl]
    unfold bf
    congr 1
    exact decide_eq_decide.mpr Int.ofNat_lt
theorem len_rep (k : Nat) : ((((List.replicate k (1 : Int)).map D.int).length : Nat) : Int) = (k : Int) := by simp
theorem beats_eq {n : Nat} {V : List (List Int)} (h : All n V) {a b : Int} (ha : a ∈ ru n) (hb : b ∈ ru n) : m_beats [eV V, .int a, .int b] = some (.bl (bt V a b), []) := by
  have hc := cnt_comp h ha hb (gN 4) (tB' (p2 dLt (p2 dIndex (pV 4) (pV 1)) (p2 dIndex (pV 4) (pV 2)))) [some (eV V), some (.int a), some (.int b), none, none] fun v => ⟨_, gN_ap _ _ _, by walk_at "fl"⟩
  have hib := icBO_tP (pures_eI V)
  unfold m_beats
  rw [fnM_ap (by rfl)]
  walk_at "fl"
  rw [hib, cpO_some, hc]
  walk_at "fl"
  rw [List.length_replicate, finM_nil rfl]
  have e : decide (((V.length : Nat) : Int) < 2 * ((cnt V a b : Nat) : Int)) = bt V a b := decide_eq_decide.mpr (by omega)
  rw [e]
/-- the table of the rounds -/
def rowB (n : Nat) (V : List (List Int)) (a : Int) : List Int := (ru n).filter fun o => wv V a o
theorem beaten_by_eq {n : Nat} (hn : n ≤ 900) {V : List (List Int)} (h : All n V) : m_beaten_by [eV V, .int (n : Nat)] = some (.lst (((ru n).map (rowB n V)).map fun r => .lst (r.map .int)), []) := by
  have hi := itR_nat (n := n) (by omega)
  rw [upto_ru] at hi
  have inner : ∀ a : Int, a ∈ ru n → cpL (compC (gN 3) (tAnd' (tB' (p2 dNe (pV 3) (pV 2))) (tB' (pCall m_beats (psCons (pV 0) (psCons (pV 2) (psCons (pV 3) psNil)))))) (freeC (pV 3)) [some (eV V), some (.int (n : Nat)), some (.int a), none] ((ru n).map .int)) = some (.lst ((rowB n V a).map .int)) := fun a ha =>
    comp_filter (fun b hb => ⟨_, gN_ap _ _ _, by
      have hb' := beats_eq h ha hb
      have hsh := shares_eI V
      walk_at "fl"
      unfold wv
      by_cases e : b = a
      · subst e
        simp
      · rw [if_pos (by simpa using e), hb']
        walk_at "fl"
        rw [decide_eq_true e]; rfl, by walk_at "fl"⟩) (by rw [ru_len]; omega)
  have outer : cpL (compC (gN 2) yesC (pComp [3] (icA rg1 (psCons (pV 1) psNil)) (gN 3) (tAnd' (tB' (p2 dNe (pV 3) (pV 2))) (tB' (pCall m_beats (psCons (pV 0) (psCons (pV 2) (psCons (pV 3) psNil)))))) (freeC (pV 3))) [some (eV V), some (.int (n : Nat)), none, none] ((ru n).map .int)) = some (.lst ((ru n).map fun a => .lst ((rowB n V a).map .int))) :=
    comp_map (a := D.int) (fun a => .lst ((rowB n V a).map .int)) (fun a ha => ⟨_, gN_ap _ _ _, by
      have := inner a ha
      walk_at "fl"
      rw [hi, cpO_some, this]⟩) (by rw [ru_len]; omega)
  unfold m_beaten_by
  rw [fnM_ap (by rfl)]
  walk_at "fl"
  rw [hi, cpO_some, outer]
  walk_at "fl"
  rw [List.map_map]
  have := owns_rows (f := D.int) pure_int ((ru n).map (rowB n V))
  rw [List.map_map] at this
  exact finM_nil (by rw [D.own]; exact this)

end K58
end

section
set_option Elab.async false
set_option linter.all false
set_option maxRecDepth 100000
set_option maxHeartbeats 8000000
namespace K58
open FL
local macro_rules | `(tactic| walk_at "fl") => `(tactic| simp -implicitDefEqProofs only [seqS_ap, ifS_ap, asgS_ap, gN_ap, gTupN_ap, retS_ap, exprS_ap, skipS_ap, p1_ap, p2_ap, pn_ap, psNil_ap, psCons_ap, pV_ap, pC_ap, liftE_ap, liftC_ap, pIf_ap, tB'_ap, tAnd'_ap, tOr'_ap, tNot'_ap, liftT_ap, blE_ap, andE_ap, orE_ap, notE_ap, toE_ap, toS'_ap, toM'_ap, asNil_ap, asCons_ap, opE2_ap, opE1_ap, opEn_ap, dispE_ap, ifE_ap, andV_ap, orV_ap, notV_ap, mvV_ap, mtE_ap, callE_ap, pCall_ap, itE_ap, itA_ap, icA_ap, icB_ap, forS_ap, rg1_ap, rg2_ap, fnM_ap, seqO_nx, seqO_rt, seqO_bk, seqO_ct, ifO_some, asgO_some, retO_some, exprO_some, b2_some, c2_some, ixO_tup, ixO_lst, ixO_shr, lE_some, lC_int, lC_bl, lC_str, lC_non, tb_bl, andO_some, orO_some, lT_some, bE_bl, andEO_some, orEO_some, notEO_some, tE_some, sO_some, mO_some, acO_some, acT_some, o2O_some, o2T_some, o2F_some, o1O_some, o1F_some, onO_some, onF_some, diO_some, ifEO_some, andVO_bl, orVO_bl, notVO_bl, mvO_lst, mvO_tup, mvO_shr, mtO_some, mtT_some, mtF_some, callF_some, pcF_some, itAO_some, itAF_some, forO_some, fnO_rt, fnO_nx, lk_zero, lk_succ, lstAt_zero, lstAt_succ, raw_v, raw_s, raw_m, raws_nil, raws_cons, valsOf_nil, valsOf_v, argsD_nil, argsD_cons, argD_v, argD_s, argD_m, gNs_nil, gNs_cons, Option.bind_some, Option.bind_none, Option.map_some, Option.map_none, List.set_cons_zero, List.set_cons_succ, List.map_cons, List.map_nil, List.cons_append, List.nil_append, Bool.false_eq_true, dAdd_i, dSub_i, addI_i, dNeg_i, dLt_i, dLe_i, dGt_i, dGe_i, dEq_i, dEq_s, dEq_b, dNe_i, dNe_s, dIsN_non, dIsN_int, dIsN_tup, dIsN_lst, dIsN_bl, dIsN_str, dNotN_non, dNotN_int, dNotN_tup, dLen_lst, dLen_tup, dLen_shr, dSum_tI, dSum_lI, dSum_sI, dInt_i, dInt_b, dAbs_i, dTuple_lI, dTuple_sI, dList_lI, dList_tI, dList_sI, dMax_2, dMin_2, mkTup_2, mkTup_3, mkLst_0, mkLst_1, mkLst_2, kit_ib, kit_ii, kit_is, kit_it, kit_bb, kit_bi, kit_tb, kit_ti, kit_ts, kit_tt, kit_nb, kit_ni, kit_ns, kit_nt, kit_sb, kit_si, kit_ss, kit_st, isi_int, isi_bl, isi_str, isi_tup, isi_non, lPop_snoc, lReverse_ints, ↓reduceIte, List.length_cons, List.length_nil, List.length_map, List.reduceReplicate, Nat.reduceSub, Bool.not_true, Bool.not_false, decide_true, decide_false, decide_eq_true_eq, Nat.reduceLeDiff, pIx_ap', atI_z, atI_o, atI_t, parS_eq, parT_some, parV_some, setS_ap, stO_some, stL_some, stT_some, augIxS_ap, pCut_ap, cuO_some, pNo_ap, pSo_ap, soO_int, freeC_ap, fcO_int, fcO_str, yesC_ap, wipeE_nil, wipeE_cons, pComp_ap, cpO_some, icB_sI, icB_tI, icB_lI, itE_sI, itE_tI, itE_lI, noM_nil, noM_v, noM_s, noMS_nil, noMS_v, noMS_c, callO_no, callO_m0, putM_nil, putM_cons, dropM_nil, dropM_cons, shares_nil, shares_cons, share_int, share_bl, share_str, share_non, share_tup, share_lst, share_shr_, shares_ints, Nat.reduceBEq, Bool.true_and, Bool.and_true, Bool.and_self, Bool.false_and, Bool.and_false, Bool.not_eq_true, Bool.not_eq_false, Bool.or_true, Bool.true_or, Bool.or_false, Bool.false_or, beq_self_eq_true, pChain_ap, dIn_lI, dIn_tI, dIn_sI, dIn_fI, dNin_lI, dNin_tI, dNin_sI, dNin_fI, compE_ap, ceO_some, restE_nil, restE_cons, rsO_none, rsO_int, forL_ap, flO_lst, flO_int, backO_nx, backO_rt, forC_ap, fcS_lst, chO_some, chB_bl, Int.natCast_zero, dMod_i, dDiv_i, dMul_i, divOk_s, mulOk_l, mulOk_r, Int.reducePow, Int.reduceNeg, Int.reduceLT, Int.reduceLE, Int.reduceEq, Int.reduceAdd, Int.reduceSub, Int.reduceMul, Nat.reduceAdd, Nat.reducePow, lC_tI, lC_sI, dLen_frz, fcO_tI, shares_eI, rgD_ru, pAnd_ap, pOr_ap, pNot_ap, anO_bl, orC_bl, noC_bl, dEqX_tI, dNeX_tI, dEqX_lI, pComp2_ap, cp2O_some, dRev_lI, dSorted_lI, dAny_lB, augLS_ap, setS2_ap, dNe_b])
local macro_rules | `(tactic| walk_at "fl*") => `(tactic| simp -implicitDefEqProofs only [seqS_ap, ifS_ap, asgS_ap, gN_ap, gTupN_ap, retS_ap, exprS_ap, skipS_ap, p1_ap, p2_ap, pn_ap, psNil_ap, psCons_ap, pV_ap, pC_ap, liftE_ap, liftC_ap, pIf_ap, tB'_ap, tAnd'_ap, tOr'_ap, tNot'_ap, liftT_ap, blE_ap, andE_ap, orE_ap, notE_ap, toE_ap, toS'_ap, toM'_ap, asNil_ap, asCons_ap, opE2_ap, opE1_ap, opEn_ap, dispE_ap, ifE_ap, andV_ap, orV_ap, notV_ap, mvV_ap, mtE_ap, callE_ap, pCall_ap, itE_ap, itA_ap, icA_ap, icB_ap, forS_ap, rg1_ap, rg2_ap, fnM_ap, seqO_nx, seqO_rt, seqO_bk, seqO_ct, ifO_some, asgO_some, retO_some, exprO_some, b2_some, c2_some, ixO_tup, ixO_lst, ixO_shr, lE_some, lC_int, lC_bl, lC_str, lC_non, tb_bl, andO_some, orO_some, lT_some, bE_bl, andEO_some, orEO_some, notEO_some, tE_some, sO_some, mO_some, acO_some, acT_some, o2O_some, o2T_some, o2F_some, o1O_some, o1F_some, onO_some, onF_some, diO_some, ifEO_some, andVO_bl, orVO_bl, notVO_bl, mvO_lst, mvO_tup, mvO_shr, mtO_some, mtT_some, mtF_some, callF_some, pcF_some, itAO_some, itAF_some, forO_some, fnO_rt, fnO_nx, lk_zero, lk_succ, lstAt_zero, lstAt_succ, raw_v, raw_s, raw_m, raws_nil, raws_cons, valsOf_nil, valsOf_v, argsD_nil, argsD_cons, argD_v, argD_s, argD_m, gNs_nil, gNs_cons, Option.bind_some, Option.bind_none, Option.map_some, Option.map_none, List.set_cons_zero, List.set_cons_succ, List.map_cons, List.map_nil, List.cons_append, List.nil_append, Bool.false_eq_true, dAdd_i, dSub_i, addI_i, dNeg_i, dLt_i, dLe_i, dGt_i, dGe_i, dEq_i, dEq_s, dEq_b, dNe_i, dNe_s, dIsN_non, dIsN_int, dIsN_tup, dIsN_lst, dIsN_bl, dIsN_str, dNotN_non, dNotN_int, dNotN_tup, dLen_lst, dLen_tup, dLen_shr, dSum_tI, dSum_lI, dSum_sI, dInt_i, dInt_b, dAbs_i, dTuple_lI, dTuple_sI, dList_lI, dList_tI, dList_sI, dMax_2, dMin_2, mkTup_2, mkTup_3, mkLst_0, mkLst_1, mkLst_2, kit_ib, kit_ii, kit_is, kit_it, kit_bb, kit_bi, kit_tb, kit_ti, kit_ts, kit_tt, kit_nb, kit_ni, kit_ns, kit_nt, kit_sb, kit_si, kit_ss, kit_st, isi_int, isi_bl, isi_str, isi_tup, isi_non, lPop_snoc, lReverse_ints, ↓reduceIte, List.length_cons, List.length_nil, List.length_map, List.reduceReplicate, Nat.reduceSub, Bool.not_true, Bool.not_false, decide_true, decide_false, decide_eq_true_eq, Nat.reduceLeDiff, pIx_ap', atI_z, atI_o, atI_t, parS_eq, parT_some, parV_some, setS_ap, stO_some, stL_some, stT_some, augIxS_ap, pCut_ap, cuO_some, pNo_ap, pSo_ap, soO_int, freeC_ap, fcO_int, fcO_str, yesC_ap, wipeE_nil, wipeE_cons, pComp_ap, cpO_some, icB_sI, icB_tI, icB_lI, itE_sI, itE_tI, itE_lI, noM_nil, noM_v, noM_s, noMS_nil, noMS_v, noMS_c, callO_no, callO_m0, putM_nil, putM_cons, dropM_nil, dropM_cons, shares_nil, shares_cons, share_int, share_bl, share_str, share_non, share_tup, share_lst, share_shr_, shares_ints, Nat.reduceBEq, Bool.true_and, Bool.and_true, Bool.and_self, Bool.false_and, Bool.and_false, Bool.not_eq_true, Bool.not_eq_false, Bool.or_true, Bool.true_or, Bool.or_false, Bool.false_or, beq_self_eq_true, pChain_ap, dIn_lI, dIn_tI, dIn_sI, dIn_fI, dNin_lI, dNin_tI, dNin_sI, dNin_fI, compE_ap, ceO_some, restE_nil, restE_cons, rsO_none, rsO_int, forL_ap, flO_lst, flO_int, backO_nx, backO_rt, forC_ap, fcS_lst, chO_some, chB_bl, Int.natCast_zero, dMod_i, dDiv_i, dMul_i, divOk_s, mulOk_l, mulOk_r, Int.reducePow, Int.reduceNeg, Int.reduceLT, Int.reduceLE, Int.reduceEq, Int.reduceAdd, Int.reduceSub, Int.reduceMul, Nat.reduceAdd, Nat.reducePow, lC_tI, lC_sI, dLen_frz, fcO_tI, shares_eI, rgD_ru, pAnd_ap, pOr_ap, pNot_ap, anO_bl, orC_bl, noC_bl, dEqX_tI, dNeX_tI, dEqX_lI, pComp2_ap, cp2O_some, dRev_lI, dSorted_lI, dAny_lB, augLS_ap, setS2_ap, dNe_b, *])
open VT
theorem pure_row (r : List Int) : D.owns (r.map .int) = true := owns_ints r
theorem shr_rows (n : Nat) (V : List (List Int)) : D.shares (((ru n).map (rowB n V)).map fun r => D.lst (r.map .int)) = ((ru n).map (rowB n V)).map fun r => D.shr (r.map .int) := shares_rows pure_int _
theorem rowB_len (n : Nat) (V : List (List Int)) (a : Int) : (rowB n V a).length ≤ n := by
  have := List.length_filter_le (fun o => wv V a o) (ru n)
  rw [ru_len] at this
  exact this
theorem win_row (n : Nat) (h0 : 0 < n) (V : List (List Int)) (a : Int) : decide ((((rowB n V a).length : Nat) : Int) = (n : Int) - 1) = win n (wv V) a := by
  unfold win rowB
  exact decide_eq_decide.mpr (by omega)
theorem head_eq {n : Nat} (h0 : 0 < n) (hn : n ≤ 900) {V : List (List Int)} (h : All n V) : m_head [eV V, .int (n : Nat)] = some (match (ru n).filter (win n (wv V)) with | [] => .non | a :: _ => .int a, []) := by
  have hb := beaten_by_eq hn h
  have hi := itR_nat (n := n) (by omega)
  rw [upto_ru] at hi
  have hsh := shares_eI V
  have hc : cpL (compC (gN 4) (tB' (p2 dEq (pn dLen (psCons (pIx (pV 2) (pV 4)) psNil)) (p2 dSub (pV 1) (pC (.int 1))))) (freeC (pV 4)) [some (eV V), some (.int (n : Nat)), some (.lst (((ru n).map (rowB n V)).map fun r => .lst (r.map .int))), none, none] ((ru n).map .int)) = some (.lst (((ru n).filter (win n (wv V))).map .int)) :=
    comp_filter (fun a ha => ⟨_, gN_ap _ _ _, by
      have hx := tabF_at (f := fun r : List Int => D.lst (r.map .int)) (rowB n V) (ru_mem.mp ha).1 (ru_mem.mp ha).2
      walk_at "fl"
      rw [hx]
      walk_at "fl"
      rw [win_row n h0], by walk_at "fl"⟩) (by rw [ru_len]; omega)
  unfold m_head
  rw [fnM_ap (by rfl)]
  walk_at "fl"
  rw [hb]
  walk_at "fl"
  rw [hi, cpO_some, hc]
  walk_at "fl"
  cases e : (ru n).filter (win n (wv V)) with
  | nil =>
    walk_at "fl"
    simp
    exact finM_nil rfl
  | cons a l =>
    walk_at "fl"
    simp
    exact finM_nil rfl

end K58
end

section
set_option Elab.async false
set_option linter.all false
set_option maxRecDepth 100000
set_option maxHeartbeats 8000000
namespace K58
open FL
local macro_rules | `(tactic| walk_at "fl") => `(tactic| simp -implicitDefEqProofs only [seqS_ap, ifS_ap, asgS_ap, gN_ap, gTupN_ap, retS_ap, exprS_ap, skipS_ap, p1_ap, p2_ap, pn_ap, psNil_ap, psCons_ap, pV_ap, pC_ap, liftE_ap, liftC_ap, pIf_ap, tB'_ap, tAnd'_ap, tOr'_ap, tNot'_ap, liftT_ap, blE_ap, andE_ap, orE_ap, notE_ap, toE_ap, toS'_ap, toM'_ap, asNil_ap, asCons_ap, opE2_ap, opE1_ap, opEn_ap, dispE_ap, ifE_ap, andV_ap, orV_ap, notV_ap, mvV_ap, mtE_ap, callE_ap, pCall_ap, itE_ap, itA_ap, icA_ap, icB_ap, forS_ap, rg1_ap, rg2_ap, fnM_ap, seqO_nx, seqO_rt, seqO_bk, seqO_ct, ifO_some, asgO_some, retO_some, exprO_some, b2_some, c2_some, ixO_tup, ixO_lst, ixO_shr, lE_some, lC_int, lC_bl, lC_str, lC_non, tb_bl, andO_some, orO_some, lT_some, bE_bl, andEO_some, orEO_some, notEO_some, tE_some, sO_some, mO_some, acO_some, acT_some, o2O_some, o2T_some, o2F_some, o1O_some, o1F_some, onO_some, onF_some, diO_some, ifEO_some, andVO_bl, orVO_bl, notVO_bl, mvO_lst, mvO_tup, mvO_shr, mtO_some, mtT_some, mtF_some, callF_some, pcF_some, itAO_some, itAF_some, forO_some, fnO_rt, fnO_nx, lk_zero, lk_succ, lstAt_zero, lstAt_succ, raw_v, raw_s, raw_m, raws_nil, raws_cons, valsOf_nil, valsOf_v, argsD_nil, argsD_cons, argD_v, argD_s, argD_m, gNs_nil, gNs_cons, Option.bind_some, Option.bind_none, Option.map_some, Option.map_none, List.set_cons_zero, List.set_cons_succ, List.map_cons, List.map_nil, List.cons_append, List.nil_append, Bool.false_eq_true, dAdd_i, dSub_i, addI_i, dNeg_i, dLt_i, dLe_i, dGt_i, dGe_i, dEq_i, dEq_s, dEq_b, dNe_i, dNe_s, dIsN_non, dIsN_int, dIsN_tup, dIsN_lst, dIsN_bl, dIsN_str, dNotN_non, dNotN_int, dNotN_tup, dLen_lst, dLen_tup, dLen_shr, dSum_tI, dSum_lI, dSum_sI, dInt_i, dInt_b, dAbs_i, dTuple_lI, dTuple_sI, dList_lI, dList_tI, dList_sI, dMax_2, dMin_2, mkTup_2, mkTup_3, mkLst_0, mkLst_1, mkLst_2, kit_ib, kit_ii, kit_is, kit_it, kit_bb, kit_bi, kit_tb, kit_ti, kit_ts, kit_tt, kit_nb, kit_ni, kit_ns, kit_nt, kit_sb, kit_si, kit_ss, kit_st, isi_int, isi_bl, isi_str, isi_tup, isi_non, lPop_snoc, lReverse_ints, ↓reduceIte, List.length_cons, List.length_nil, List.length_map, List.reduceReplicate, Nat.reduceSub, Bool.not_true, Bool.not_false, decide_true, decide_false, decide_eq_true_eq, Nat.reduceLeDiff, pIx_ap', atI_z, atI_o, atI_t, parS_eq, parT_some, parV_some, setS_ap, stO_some, stL_some, stT_some, augIxS_ap, pCut_ap, cuO_some, pNo_ap, pSo_ap, soO_int, freeC_ap, fcO_int, fcO_str, yesC_ap, wipeE_nil, wipeE_cons, pComp_ap, cpO_some, icB_sI, icB_tI, icB_lI, itE_sI, itE_tI, itE_lI, noM_nil, noM_v, noM_s, noMS_nil, noMS_v, noMS_c, callO_no, callO_m0, putM_nil, putM_cons, dropM_nil, dropM_cons, shares_nil, shares_cons, share_int, share_bl, share_str, share_non, share_tup, share_lst, share_shr_, shares_ints, Nat.reduceBEq, Bool.true_and, Bool.and_true, Bool.and_self, Bool.false_and, Bool.and_false, Bool.not_eq_true, Bool.not_eq_false, Bool.or_true, Bool.true_or, Bool.or_false, Bool.false_or, beq_self_eq_true, pChain_ap, dIn_lI, dIn_tI, dIn_sI, dIn_fI, dNin_lI, dNin_tI, dNin_sI, dNin_fI, compE_ap, ceO_some, restE_nil, restE_cons, rsO_none, rsO_int, forL_ap, flO_lst, flO_int, backO_nx, backO_rt, forC_ap, fcS_lst, chO_some, chB_bl, Int.natCast_zero, dMod_i, dDiv_i, dMul_i, divOk_s, mulOk_l, mulOk_r, Int.reducePow, Int.reduceNeg, Int.reduceLT, Int.reduceLE, Int.reduceEq, Int.reduceAdd, Int.reduceSub, Int.reduceMul, Nat.reduceAdd, Nat.reducePow, lC_tI, lC_sI, dLen_frz, fcO_tI, shares_eI, rgD_ru, pAnd_ap, pOr_ap, pNot_ap, anO_bl, orC_bl, noC_bl, dEqX_tI, dNeX_tI, dEqX_lI, pComp2_ap, cp2O_some, dRev_lI, dSorted_lI, dAny_lB, augLS_ap, setS2_ap, dNe_b])
local macro_rules | `(tactic| walk_at "fl*") => `(tactic| simp -implicitDefEqProofs only [seqS_ap, ifS_ap, asgS_ap, gN_ap, gTupN_ap, retS_ap, exprS_ap, skipS_ap, p1_ap, p2_ap, pn_ap, psNil_ap, psCons_ap, pV_ap, pC_ap, liftE_ap, liftC_ap, pIf_ap, tB'_ap, tAnd'_ap, tOr'_ap, tNot'_ap, liftT_ap, blE_ap, andE_ap, orE_ap, notE_ap, toE_ap, toS'_ap, toM'_ap, asNil_ap, asCons_ap, opE2_ap, opE1_ap, opEn_ap, dispE_ap, ifE_ap, andV_ap, orV_ap, notV_ap, mvV_ap, mtE_ap, callE_ap, pCall_ap, itE_ap, itA_ap, icA_ap, icB_ap, forS_ap, rg1_ap, rg2_ap, fnM_ap, seqO_nx, seqO_rt, seqO_bk, seqO_ct, ifO_some, asgO_some, retO_some, exprO_some, b2_some, c2_some, ixO_tup, ixO_lst, ixO_shr, lE_some, lC_int, lC_bl, lC_str, lC_non, tb_bl, andO_some, orO_some, lT_some, bE_bl, andEO_some, orEO_some, notEO_some, tE_some, sO_some, mO_some, acO_some, acT_some, o2O_some, o2T_some, o2F_some, o1O_some, o1F_some, onO_some, onF_some, diO_some, ifEO_some, andVO_bl, orVO_bl, notVO_bl, mvO_lst, mvO_tup, mvO_shr, mtO_some, mtT_some, mtF_some, callF_some, pcF_some, itAO_some, itAF_some, forO_some, fnO_rt, fnO_nx, lk_zero, lk_succ, lstAt_zero, lstAt_succ, raw_v, raw_s, raw_m, raws_nil, raws_cons, valsOf_nil, valsOf_v, argsD_nil, argsD_cons, argD_v, argD_s, argD_m, gNs_nil, gNs_cons, Option.bind_some, Option.bind_none, Option.map_some, Option.map_none, List.set_cons_zero, List.set_cons_succ, List.map_cons, List.map_nil, List.cons_append, List.nil_append, Bool.false_eq_true, dAdd_i, dSub_i, addI_i, dNeg_i, dLt_i, dLe_i, dGt_i, dGe_i, dEq_i, dEq_s, dEq_b, dNe_i, dNe_s, dIsN_non, dIsN_int, dIsN_tup, dIsN_lst, dIsN_bl, dIsN_str, dNotN_non, dNotN_int, dNotN_tup, dLen_lst, dLen_tup, dLen_shr, dSum_tI, dSum_lI, dSum_sI, dInt_i, dInt_b, dAbs_i, dTuple_lI, dTuple_sI, dList_lI, dList_tI, dList_sI, dMax_2, dMin_2, mkTup_2, mkTup_3, mkLst_0, mkLst_1, mkLst_2, kit_ib, kit_ii, kit_is, kit_it, kit_bb, kit_bi, kit_tb, kit_ti, kit_ts, kit_tt, kit_nb, kit_ni, kit_ns, kit_nt, kit_sb, kit_si, kit_ss, kit_st, isi_int, isi_bl, isi_str, isi_tup, isi_non, lPop_snoc, lReverse_ints, ↓reduceIte, List.length_cons, List.length_nil, List.length_map, List.reduceReplicate, Nat.reduceSub, Bool.not_true, Bool.not_false, decide_true, decide_false, decide_eq_true_eq, Nat.reduceLeDiff, pIx_ap', atI_z, atI_o, atI_t, parS_eq, parT_some, parV_some, setS_ap, stO_some, stL_some, stT_some, augIxS_ap, pCut_ap, cuO_some, pNo_ap, pSo_ap, soO_int, freeC_ap, fcO_int, fcO_str, yesC_ap, wipeE_nil, wipeE_cons, pComp_ap, cpO_some, icB_sI, icB_tI, icB_lI, itE_sI, itE_tI, itE_lI, noM_nil, noM_v, noM_s, noMS_nil, noMS_v, noMS_c, callO_no, callO_m0, putM_nil, putM_cons, dropM_nil, dropM_cons, shares_nil, shares_cons, share_int, share_bl, share_str, share_non, share_tup, share_lst, share_shr_, shares_ints, Nat.reduceBEq, Bool.true_and, Bool.and_true, Bool.and_self, Bool.false_and, Bool.and_false, Bool.not_eq_true, Bool.not_eq_false, Bool.or_true, Bool.true_or, Bool.or_false, Bool.false_or, beq_self_eq_true, pChain_ap, dIn_lI, dIn_tI, dIn_sI, dIn_fI, dNin_lI, dNin_tI, dNin_sI, dNin_fI, compE_ap, ceO_some, restE_nil, restE_cons, rsO_none, rsO_int, forL_ap, flO_lst, flO_int, backO_nx, backO_rt, forC_ap, fcS_lst, chO_some, chB_bl, Int.natCast_zero, dMod_i, dDiv_i, dMul_i, divOk_s, mulOk_l, mulOk_r, Int.reducePow, Int.reduceNeg, Int.reduceLT, Int.reduceLE, Int.reduceEq, Int.reduceAdd, Int.reduceSub, Int.reduceMul, Nat.reduceAdd, Nat.reducePow, lC_tI, lC_sI, dLen_frz, fcO_tI, shares_eI, rgD_ru, pAnd_ap, pOr_ap, pNot_ap, anO_bl, orC_bl, noC_bl, dEqX_tI, dNeX_tI, dEqX_lI, pComp2_ap, cp2O_some, dRev_lI, dSorted_lI, dAny_lB, augLS_ap, setS2_ap, dNe_b, *])
open VT
def tabB (n : Nat) (g : Int → Int → Bool) : D := .lst (((ru n).map fun a => (ru n).map (g a)).map fun r => .lst (r.map .bl))
theorem tab2_congr {β : Type} {n : Nat} {g h : Int → Int → β} (e : ∀ a b : Int, 0 ≤ a → a < n → 0 ≤ b → b < n → g a b = h a b) : ((ru n).map fun a => (ru n).map (g a)) = (ru n).map fun a => (ru n).map (h a) :=
  tabG_congr fun a h0 h1 => tabG_congr fun b h2 h3 => e a b h0 h1 h2 h3
def gT (V : List (List Int)) (i j : Int) (a b : Int) : Bool := if a < i ∨ (a = i ∧ b < j) then wv V a b else false
def TE (n : Nat) (V : List (List Int)) (g : Int → Int → Bool) (x y z : Option D) : FL.Env := [some (eV V), some (.int (n : Nat)), some (tabB n g), x, y, z, none]
theorem tab_turn {n : Nat} {V : List (List Int)} (h : All n V) {i j : Nat} (hi : i < n) (hj : j < n) (z : Option D) : ∃ z', b_l_table_1 (TE n V (gT V i j) (some (.int (i : Nat))) (some (.int (j : Nat))) z) = some (.nx (TE n V (gT V i (j + 1)) (some (.int (i : Nat))) (some (.int (j : Nat))) z')) := by
  have ha : (i : Int) ∈ ru n := ru_mem.mpr ⟨by omega, by omega⟩
  have hb : (j : Int) ∈ ru n := ru_mem.mpr ⟨by omega, by omega⟩
  have hc := cnt_comp h ha hb (gN 6) (tB' (p2 dLt (p2 dIndex (pV 6) (pV 3)) (p2 dIndex (pV 6) (pV 4)))) [some (eV V), some (.int (n : Nat)), some (tabB n (gT V i j)), some (.int (i : Nat)), some (.int (j : Nat)), z, none] fun v => ⟨_, gN_ap _ _ _, by walk_at "fl"⟩
  have hib := icBO_tP (pures_eI V)
  have hs := fun (ρ : FL.Env) (v : Bool) => s2_tab (f := D.bl) pure_bl (n := n) (g := gT V i j) (k := 2) (ρ := ρ) (i := (i : Int)) (j := (j : Int)) (v := v) (by omega) (by omega) (by omega) (by omega)
  have e : decide (((V.length : Nat) : Int) < 2 * ((cnt V i j : Nat) : Int)) = bt V i j := decide_eq_decide.mpr (by omega)
  refine ⟨some (.int (cnt V i j : Nat)), ?_⟩
  unfold TE b_l_table_1 at *
  walk_at "fl"
  rw [hib, cpO_some, hc]
  walk_at "fl"
  rw [List.length_replicate]
  have val : (if (!decide ((i : Int) = (j : Int))) = true then some (D.bl (decide (((V.length : Nat) : Int) < 2 * ((cnt V i j : Nat) : Int)))) else some (.bl false)) = some (.bl (wv V i j)) := by
    rw [e]
    unfold wv
    by_cases q : (i : Int) = (j : Int)
    · rw [q]; simp
    · have q2 : ¬ (j : Int) = (i : Int) := fun z => q z.symm
      simp [q, q2]
  rw [val]
  unfold tabB at *
  rw [lstAt_zero, hs]
  walk_at "fl"
  have e2 : ((ru n).map fun a => (ru n).map fun b => if a = (i : Int) ∧ b = (j : Int) then wv V i j else gT V i j a b) = (ru n).map fun a => (ru n).map (gT V i (j + 1) a) := tab2_congr (g := fun a b => if a = (i : Int) ∧ b = (j : Int) then wv V i j else gT V i j a b) (h := gT V i (j + 1)) fun a b _ _ _ _ => by
    unfold gT
    by_cases p : a = (i : Int) ∧ b = (j : Int)
    · obtain ⟨rfl, rfl⟩ := p
      rw [if_pos ⟨rfl, rfl⟩, if_pos (.inr ⟨rfl, by omega⟩)]
    · rw [if_neg p]
      by_cases q : a < (i : Int) ∨ a = (i : Int) ∧ b < (j : Int)
      · rw [if_pos q, if_pos (by omega)]
      · rw [if_neg q, if_neg (by omega)]
  rw [e2]
theorem gT_next {n : Nat} (V : List (List Int)) (i : Int) : tabB n (gT V i n) = tabB n (gT V (i + 1) 0) := by
  unfold tabB
  rw [tab2_congr (g := gT V i n) (h := gT V (i + 1) 0) fun a b _ _ _ _ => by
    unfold gT
    by_cases q : a < i ∨ a = i ∧ b < (n : Int)
    · rw [if_pos q, if_pos (by omega)]
    · rw [if_neg q, if_neg (by omega)]]
theorem tab_row {n : Nat} (hn : n ≤ 900) {V : List (List Int)} (h : All n V) {i : Nat} (hi : i < n) (y z : Option D) : ∃ y' z', b_l_table_2 (TE n V (gT V i 0) (some (.int (i : Nat))) y z) = some (.nx (TE n V (gT V (i + 1) 0) (some (.int (i : Nat))) y' z')) := by
  obtain ⟨ρ, hl, y', z', rfl⟩ := forM_upto (g := gN 4) (m := b_l_table_1) (n := n) (ρ := TE n V (gT V i 0) (some (.int (i : Nat))) y z) (fun j ρ => ∃ y z, ρ = TE n V (gT V i j) (some (.int (i : Nat))) y z) ⟨y, z, rfl⟩ (by
    rintro j ρ hj ⟨y, z, rfl⟩
    obtain ⟨z', h1⟩ := tab_turn h hi hj z
    exact ⟨TE n V (gT V i j) (some (.int (i : Nat))) (some (.int (j : Nat))) z, _, rfl, .inl h1, _, z', rfl⟩)
  refine ⟨y', z', ?_⟩
  have hr := itR_nat (n := n) (by omega)
  unfold b_l_table_2
  have e : TE n V (gT V i n) (some (.int (i : Nat))) y' z' = TE n V (gT V (i + 1) 0) (some (.int (i : Nat))) y' z' := by unfold TE; rw [gT_next]
  rw [← e, ← hl]
  unfold TE
  walk_at "fl"
  rw [hr]
  walk_at "fl"
theorem l_table_eq {n : Nat} (hn : n ≤ 900) {V : List (List Int)} (h : All n V) : m_l_table [eV V, .int (n : Nat)] = some (tabB n (wv V), []) := by
  obtain ⟨ρ, hl, x', y', z', rfl⟩ := forM_upto (g := gN 3) (m := b_l_table_2) (n := n) (ρ := TE n V (gT V 0 0) none none none) (fun i ρ => ∃ x y z, ρ = TE n V (gT V i 0) x y z) ⟨none, none, none, rfl⟩ (by
    rintro i ρ hi ⟨x, y, z, rfl⟩
    obtain ⟨y', z', h1⟩ := tab_row hn h hi y z
    exact ⟨TE n V (gT V i 0) (some (.int (i : Nat))) y z, _, rfl, .inl h1, _, y', z', rfl⟩)
  have hi := itR_nat (n := n) (by omega)
  have hi2 := hi
  rw [upto_ru] at hi
  have inner : ∀ a : Int, cpL (compC (gN 4) yesC (pC (.bl false)) [some (eV V), some (.int (n : Nat)), none, some (.int a), none, none, none] ((ru n).map .int)) = some (.lst ((ru n).map fun _ => .bl false)) := fun a =>
    comp_map (a := D.int) (fun _ => D.bl false) (fun b _ => ⟨_, gN_ap _ _ _, by walk_at "fl"⟩) (by rw [ru_len]; omega)
  have outer : cpL (compC (gN 3) yesC (pComp [4] (icA rg1 (psCons (pV 1) psNil)) (gN 4) yesC (pC (.bl false))) [some (eV V), some (.int (n : Nat)), none, none, none, none, none] ((ru n).map .int)) = some (.lst ((ru n).map fun _ => .lst ((ru n).map fun _ => .bl false))) :=
    comp_map (a := D.int) (fun _ => D.lst ((ru n).map fun _ => .bl false)) (fun a _ => ⟨_, gN_ap _ _ _, by
      walk_at "fl"
      rw [hi, cpO_some, inner]⟩) (by rw [ru_len]; omega)
  have e0 : D.lst ((ru n).map fun _ => D.lst ((ru n).map fun _ => D.bl false)) = tabB n (gT V 0 0) := by
    unfold tabB
    rw [tab2_congr (g := gT V 0 0) (h := fun _ _ => false) fun a b _ _ _ _ => by unfold gT; rw [if_neg (by omega)]]
    rw [List.map_map]
    have : ((fun r : List Bool => D.lst (r.map .bl)) ∘ fun _ : Int => (ru n).map fun _ => false) = fun _ => D.lst ((ru n).map fun _ => .bl false) := by
      funext a
      show D.lst (((ru n).map fun _ => false).map .bl) = _
      rw [List.map_map]
      have : (D.bl ∘ fun _ : Int => false) = fun _ => D.bl false := rfl
      rw [this]
    rw [this]
  have e1 : tabB n (gT V n 0) = tabB n (wv V) := by
    unfold tabB
    rw [tab2_congr (g := gT V n 0) (h := wv V) fun a b _ h1 _ _ => by unfold gT; rw [if_pos (by omega)]]
  rw [e0] at outer
  unfold TE at hl
  rw [e1] at hl
  unfold m_l_table
  rw [fnM_ap (by rfl)]
  walk_at "fl"
  rw [hi, cpO_some, outer]
  walk_at "fl"
  rw [hi2]
  walk_at "fl"
  rw [hl]
  unfold tabB
  walk_at "fl"
  exact finM_nil (by rw [D.own]; exact owns_rows (f := D.bl) pure_bl _)

end K58
end

section
set_option Elab.async false
set_option linter.all false
set_option maxRecDepth 100000
set_option maxHeartbeats 8000000
namespace K58
open FL
local macro_rules | `(tactic| walk_at "fl") => `(tactic| simp -implicitDefEqProofs only [seqS_ap, ifS_ap, asgS_ap, gN_ap, gTupN_ap, retS_ap, exprS_ap, skipS_ap, p1_ap, p2_ap, pn_ap, psNil_ap, psCons_ap, pV_ap, pC_ap, liftE_ap, liftC_ap, pIf_ap, tB'_ap, tAnd'_ap, tOr'_ap, tNot'_ap, liftT_ap, blE_ap, andE_ap, orE_ap, notE_ap, toE_ap, toS'_ap, toM'_ap, asNil_ap, asCons_ap, opE2_ap, opE1_ap, opEn_ap, dispE_ap, ifE_ap, andV_ap, orV_ap, notV_ap, mvV_ap, mtE_ap, callE_ap, pCall_ap, itE_ap, itA_ap, icA_ap, icB_ap, forS_ap, rg1_ap, rg2_ap, fnM_ap, seqO_nx, seqO_rt, seqO_bk, seqO_ct, ifO_some, asgO_some, retO_some, exprO_some, b2_some, c2_some, ixO_tup, ixO_lst, ixO_shr, lE_some, lC_int, lC_bl, lC_str, lC_non, tb_bl, andO_some, orO_some, lT_some, bE_bl, andEO_some, orEO_some, notEO_some, tE_some, sO_some, mO_some, acO_some, acT_some, o2O_some, o2T_some, o2F_some, o1O_some, o1F_some, onO_some, onF_some, diO_some, ifEO_some, andVO_bl, orVO_bl, notVO_bl, mvO_lst, mvO_tup, mvO_shr, mtO_some, mtT_some, mtF_some, callF_some, pcF_some, itAO_some, itAF_some, forO_some, fnO_rt, fnO_nx, lk_zero, lk_succ, lstAt_zero, lstAt_succ, raw_v, raw_s, raw_m, raws_nil, raws_cons, valsOf_nil, valsOf_v, argsD_nil, argsD_cons, argD_v, argD_s, argD_m, gNs_nil, gNs_cons, Option.bind_some, Option.bind_none, Option.map_some, Option.map_none, List.set_cons_zero, List.set_cons_succ, List.map_cons, List.map_nil, List.cons_append, List.nil_append, Bool.false_eq_true, dAdd_i, dSub_i, addI_i, dNeg_i, dLt_i, dLe_i, dGt_i, dGe_i, dEq_i, dEq_s, dEq_b, dNe_i, dNe_s, dIsN_non, dIsN_int, dIsN_tup, dIsN_lst, dIsN_bl, dIsN_str, dNotN_non, dNotN_int, dNotN_tup, dLen_lst, dLen_tup, dLen_shr, dSum_tI, dSum_lI, dSum_sI, dInt_i, dInt_b, dAbs_i, dTuple_lI, dTuple_sI, dList_lI, dList_tI, dList_sI, dMax_2, dMin_2, mkTup_2, mkTup_3, mkLst_0, mkLst_1, mkLst_2, kit_ib, kit_ii, kit_is, kit_it, kit_bb, kit_bi, kit_tb, kit_ti, kit_ts, kit_tt, kit_nb, kit_ni, kit_ns, kit_nt, kit_sb, kit_si, kit_ss, kit_st, isi_int, isi_bl, isi_str, isi_tup, isi_non, lPop_snoc, lReverse_ints, ↓reduceIte, List.length_cons, List.length_nil, List.length_map, List.reduceReplicate, Nat.reduceSub, Bool.not_true, Bool.not_false, decide_true, decide_false, decide_eq_true_eq, Nat.reduceLeDiff, pIx_ap', atI_z, atI_o, atI_t, parS_eq, parT_some, parV_some, setS_ap, stO_some, stL_some, stT_some, augIxS_ap, pCut_ap, cuO_some, pNo_ap, pSo_ap, soO_int, freeC_ap, fcO_int, fcO_str, yesC_ap, wipeE_nil, wipeE_cons, pComp_ap, cpO_some, icB_sI, icB_tI, icB_lI, itE_sI, itE_tI, itE_lI, noM_nil, noM_v, noM_s, noMS_nil, noMS_v, noMS_c, callO_no, callO_m0, putM_nil, putM_cons, dropM_nil, dropM_cons, shares_nil, shares_cons, share_int, share_bl, share_str, share_non, share_tup, share_lst, share_shr_, shares_ints, Nat.reduceBEq, Bool.true_and, Bool.and_true, Bool.and_self, Bool.false_and, Bool.and_false, Bool.not_eq_true, Bool.not_eq_false, Bool.or_true, Bool.true_or, Bool.or_false, Bool.false_or, beq_self_eq_true, pChain_ap, dIn_lI, dIn_tI, dIn_sI, dIn_fI, dNin_lI, dNin_tI, dNin_sI, dNin_fI, compE_ap, ceO_some, restE_nil, restE_cons, rsO_none, rsO_int, forL_ap, flO_lst, flO_int, backO_nx, backO_rt, forC_ap, fcS_lst, chO_some, chB_bl, Int.natCast_zero, dMod_i, dDiv_i, dMul_i, divOk_s, mulOk_l, mulOk_r, Int.reducePow, Int.reduceNeg, Int.reduceLT, Int.reduceLE, Int.reduceEq, Int.reduceAdd, Int.reduceSub, Int.reduceMul, Nat.reduceAdd, Nat.reducePow, lC_tI, lC_sI, dLen_frz, fcO_tI, shares_eI, rgD_ru, pAnd_ap, pOr_ap, pNot_ap, anO_bl, orC_bl, noC_bl, dEqX_tI, dNeX_tI, dEqX_lI, pComp2_ap, cp2O_some, dRev_lI, dSorted_lI, dAny_lB, augLS_ap, setS2_ap, dNe_b])
local macro_rules | `(tactic| walk_at "fl*") => `(tactic| simp -implicitDefEqProofs only [seqS_ap, ifS_ap, asgS_ap, gN_ap, gTupN_ap, retS_ap, exprS_ap, skipS_ap, p1_ap, p2_ap, pn_ap, psNil_ap, psCons_ap, pV_ap, pC_ap, liftE_ap, liftC_ap, pIf_ap, tB'_ap, tAnd'_ap, tOr'_ap, tNot'_ap, liftT_ap, blE_ap, andE_ap, orE_ap, notE_ap, toE_ap, toS'_ap, toM'_ap, asNil_ap, asCons_ap, opE2_ap, opE1_ap, opEn_ap, dispE_ap, ifE_ap, andV_ap, orV_ap, notV_ap, mvV_ap, mtE_ap, callE_ap, pCall_ap, itE_ap, itA_ap, icA_ap, icB_ap, forS_ap, rg1_ap, rg2_ap, fnM_ap, seqO_nx, seqO_rt, seqO_bk, seqO_ct, ifO_some, asgO_some, retO_some, exprO_some, b2_some, c2_some, ixO_tup, ixO_lst, ixO_shr, lE_some, lC_int, lC_bl, lC_str, lC_non, tb_bl, andO_some, orO_some, lT_some, bE_bl, andEO_some, orEO_some, notEO_some, tE_some, sO_some, mO_some, acO_some, acT_some, o2O_some, o2T_some, o2F_some, o1O_some, o1F_some, onO_some, onF_some, diO_some, ifEO_some, andVO_bl, orVO_bl, notVO_bl, mvO_lst, mvO_tup, mvO_shr, mtO_some, mtT_some, mtF_some, callF_some, pcF_some, itAO_some, itAF_some, forO_some, fnO_rt, fnO_nx, lk_zero, lk_succ, lstAt_zero, lstAt_succ, raw_v, raw_s, raw_m, raws_nil, raws_cons, valsOf_nil, valsOf_v, argsD_nil, argsD_cons, argD_v, argD_s, argD_m, gNs_nil, gNs_cons, Option.bind_some, Option.bind_none, Option.map_some, Option.map_none, List.set_cons_zero, List.set_cons_succ, List.map_cons, List.map_nil, List.cons_append, List.nil_append, Bool.false_eq_true, dAdd_i, dSub_i, addI_i, dNeg_i, dLt_i, dLe_i, dGt_i, dGe_i, dEq_i, dEq_s, dEq_b, dNe_i, dNe_s, dIsN_non, dIsN_int, dIsN_tup, dIsN_lst, dIsN_bl, dIsN_str, dNotN_non, dNotN_int, dNotN_tup, dLen_lst, dLen_tup, dLen_shr, dSum_tI, dSum_lI, dSum_sI, dInt_i, dInt_b, dAbs_i, dTuple_lI, dTuple_sI, dList_lI, dList_tI, dList_sI, dMax_2, dMin_2, mkTup_2, mkTup_3, mkLst_0, mkLst_1, mkLst_2, kit_ib, kit_ii, kit_is, kit_it, kit_bb, kit_bi, kit_tb, kit_ti, kit_ts, kit_tt, kit_nb, kit_ni, kit_ns, kit_nt, kit_sb, kit_si, kit_ss, kit_st, isi_int, isi_bl, isi_str, isi_tup, isi_non, lPop_snoc, lReverse_ints, ↓reduceIte, List.length_cons, List.length_nil, List.length_map, List.reduceReplicate, Nat.reduceSub, Bool.not_true, Bool.not_false, decide_true, decide_false, decide_eq_true_eq, Nat.reduceLeDiff, pIx_ap', atI_z, atI_o, atI_t, parS_eq, parT_some, parV_some, setS_ap, stO_some, stL_some, stT_some, augIxS_ap, pCut_ap, cuO_some, pNo_ap, pSo_ap, soO_int, freeC_ap, fcO_int, fcO_str, yesC_ap, wipeE_nil, wipeE_cons, pComp_ap, cpO_some, icB_sI, icB_tI, icB_lI, itE_sI, itE_tI, itE_lI, noM_nil, noM_v, noM_s, noMS_nil, noMS_v, noMS_c, callO_no, callO_m0, putM_nil, putM_cons, dropM_nil, dropM_cons, shares_nil, shares_cons, share_int, share_bl, share_str, share_non, share_tup, share_lst, share_shr_, shares_ints, Nat.reduceBEq, Bool.true_and, Bool.and_true, Bool.and_self, Bool.false_and, Bool.and_false, Bool.not_eq_true, Bool.not_eq_false, Bool.or_true, Bool.true_or, Bool.or_false, Bool.false_or, beq_self_eq_true, pChain_ap, dIn_lI, dIn_tI, dIn_sI, dIn_fI, dNin_lI, dNin_tI, dNin_sI, dNin_fI, compE_ap, ceO_some, restE_nil, restE_cons, rsO_none, rsO_int, forL_ap, flO_lst, flO_int, backO_nx, backO_rt, forC_ap, fcS_lst, chO_some, chB_bl, Int.natCast_zero, dMod_i, dDiv_i, dMul_i, divOk_s, mulOk_l, mulOk_r, Int.reducePow, Int.reduceNeg, Int.reduceLT, Int.reduceLE, Int.reduceEq, Int.reduceAdd, Int.reduceSub, Int.reduceMul, Nat.reduceAdd, Nat.reducePow, lC_tI, lC_sI, dLen_frz, fcO_tI, shares_eI, rgD_ru, pAnd_ap, pOr_ap, pNot_ap, anO_bl, orC_bl, noC_bl, dEqX_tI, dNeX_tI, dEqX_lI, pComp2_ap, cp2O_some, dRev_lI, dSorted_lI, dAny_lB, augLS_ap, setS2_ap, dNe_b, *])
open VT
def tabS (n : Nat) (g : Int → Int → Bool) : D := .shr (((ru n).map fun a => (ru n).map (g a)).map fun r => .shr (r.map .bl))
theorem share_tabB (n : Nat) (g : Int → Int → Bool) : (tabB n g).share = tabS n g := by
  unfold tabB tabS
  rw [share_lst, shares_rows pure_bl]
theorem tabS_at {n : Nat} (g : Int → Int → Bool) {a b : Int} (ha : a ∈ ru n) (hb : b ∈ ru n) : ixO (ixO (some (tabS n g)) (some (.int a))) (some (.int b)) = some (.bl (g a b)) := by
  unfold tabS
  rw [ixO_shr, tabF_at (f := fun r : List Bool => D.shr (r.map .bl)) (fun a => (ru n).map (g a)) (ru_mem.mp ha).1 (ru_mem.mp ha).2, ixO_shr, tabF_at (f := D.bl) (g a) (ru_mem.mp hb).1 (ru_mem.mp hb).2]
def pw (k : Nat) : List Int := (List.range (k + 1)).map fun c : Nat => ((2 ^ c : Nat) : Int)
theorem pw_len (k : Nat) : (pw k).length = k + 1 := by unfold pw; simp
theorem pw_succ (k : Nat) : pw (k + 1) = pw k ++ [((2 ^ (k + 1) : Nat) : Int)] := by unfold pw; rw [List.range_succ, List.map_append]; rfl
theorem pw_get {k c : Nat} (h : c < (pw k).length) : (pw k)[c] = ((2 ^ c : Nat) : Int) := by unfold pw; simp
theorem pw_at {n : Nat} {c : Int} (h0 : 0 ≤ c) (h1 : c ≤ n) : L2.atI ((pw n).map D.int) c = some (.int ((2 ^ c.toNat : Nat) : Int)) := by
  obtain ⟨j, rfl⟩ := Int.eq_ofNat_of_zero_le h0
  rw [atI_int (by rw [pw_len]; omega), pw_get]; rfl
theorem pow_loop {n : Nat} (hn : n ≤ 8) (T B : Option D) : ∃ x, forM (gN 4) b_l_top_1 (upto n) [T, some (.int (n : Nat)), B, some (.lst ((pw 0).map .int)), none, none, none, none, none, none] = some (.nx [T, some (.int (n : Nat)), B, some (.lst ((pw n).map .int)), x, none, none, none, none, none]) := by
  obtain ⟨ρ, hl, x, rfl⟩ := forM_upto (g := gN 4) (m := b_l_top_1) (n := n) (ρ := [T, some (.int (n : Nat)), B, some (.lst ((pw 0).map .int)), none, none, none, none, none, none]) (fun i ρ => ∃ x, ρ = [T, some (.int (n : Nat)), B, some (.lst ((pw i).map .int)), x, none, none, none, none, none]) ⟨none, rfl⟩ (by
    rintro i ρ hi ⟨x, rfl⟩
    have ha := atI_neg1 D.int (xs := pw i) (by rw [pw_len]; omega)
    have hp : ∀ h, (pw i)[(pw i).length - 1]'h = ((2 ^ i : Nat) : Int) := fun h => by rw [pw_get]; rw [pw_len]; rfl
    rw [hp] at ha
    have ap := app_int (ds := pw i) (by rw [pw_len]; omega) (2 * ((2 ^ i : Nat) : Int))
    have e : 2 * ((2 ^ i : Nat) : Int) = ((2 ^ (i + 1) : Nat) : Int) := by rw [Nat.pow_succ]; push_cast; omega
    rw [e] at ap
    refine ⟨_, [T, some (.int (n : Nat)), B, some (.lst ((pw (i + 1)).map .int)), some (.int (i : Nat)), none, none, none, none, none], gN_ap _ _ _, .inl ?_, _, rfl⟩
    unfold b_l_top_1
    walk_at "fl"
    rw [ha]
    walk_at "fl"
    rw [e, ap, pw_succ]
    walk_at "fl")
  exact ⟨x, hl⟩
def TT (n : Nat) (W : Int → Int → Bool) (best : List Int) (x y a b c d : Option D) : FL.Env := [some (tabS n W), some (.int (n : Nat)), some (.lst (best.map .int)), some (.lst ((pw n).map .int)), x, y, a, b, c, d]
theorem bit_eq (m : Nat) (c : Nat) : decide (((m : Int) / ((2 ^ c : Nat) : Int)) % 2 = 1) = decide (m / 2 ^ c % 2 = 1) := by
  refine decide_eq_decide.mpr ?_
  have : ((m : Int) / ((2 ^ c : Nat) : Int)) % 2 = ((m / 2 ^ c % 2 : Nat) : Int) := by push_cast; rfl
  rw [this]
  omega
theorem th_len (n m : Nat) : (th n m).length ≤ n := by
  have := List.length_filter_le (fun c : Int => decide (m / 2 ^ c.toNat % 2 = 1)) (ru n)
  rw [ru_len] at this
  exact this
theorem out_len (n : Nat) (S : List Int) : (out n S).length ≤ n := by
  have := List.length_filter_le (fun o => !decide (o ∈ S)) (ru n)
  rw [ru_len] at this
  exact this
theorem sum_cast (l : List Nat) : (l.map fun k : Nat => (k : Int)).sum = (l.sum : Nat) := by
  induction l with
  | nil => rfl
  | cons a l ih => rw [List.map_cons, List.sum_cons, List.sum_cons, ih]; omega
theorem top_turn {n : Nat} (hn : n ≤ 8) (W : Int → Int → Bool) (best : List Int) {m : Nat} (hm : m < 2 ^ n) (x a b c d : Option D) : ∃ x' a' b' c' d', b_l_top_2 (TT n W best x (some (.int (m : Nat))) a b c d) = some (.nx (TT n W (fT n W best m) x' (some (.int (m : Nat))) a' b' c' d')) := by
  have hi := itR_nat (n := n) (by omega)
  rw [upto_ru] at hi
  have p8 : 2 ^ n ≤ 256 := Nat.le_trans (Nat.pow_le_pow_right (by omega) hn) (by decide)
  have h1 : cpL (compC (gN 4) (tB' (p2 dEq (p2 dMod (pn dInt (psCons (p2 dDiv (pV 5) (pIx (pV 3) (pV 4))) psNil)) (pC (.int 2))) (pC (.int 1)))) (freeC (pV 4)) [some (tabS n W), some (.int (n : Nat)), some (.lst (best.map .int)), some (.lst ((pw n).map .int)), none, some (.int (m : Nat)), a, b, c, d] ((ru n).map .int)) = some (.lst ((th n m).map .int)) :=
    comp_filter (fun k hk => ⟨_, gN_ap _ _ _, by
      obtain ⟨k0, k1⟩ := ru_mem.mp hk
      have hx := pw_at (n := n) k0 (by omega)
      have q : ((2 ^ k.toNat : Nat) : Int) ≤ ((256 : Nat) : Int) := Int.ofNat_le.mpr (Nat.le_trans (Nat.pow_le_pow_right (by omega) (show k.toNat ≤ 8 by omega)) (by decide))
      have q0 := Nat.two_pow_pos k.toNat
      have hd : DivOk ((2 ^ k.toNat : Nat) : Int) := divOk_s (by omega) (Int.lt_of_le_of_lt q (by decide))
      walk_at "fl"
      rw [hx, b2_some, dDiv_i hd]
      walk_at "fl"
      rw [bit_eq], by walk_at "fl"⟩) (by rw [ru_len]; omega)
  have hl1 : ∀ (l : List Int), ((((l.map D.int).length : Nat)) : Int) = (l.length : Int) := fun l => by rw [List.length_map]
  by_cases hlt : (th n m).length < best.length
  · have h2 : cpL (compC (gN 4) (tB' (p2 dNin (pV 4) (pV 6))) (freeC (pV 4)) [some (tabS n W), some (.int (n : Nat)), some (.lst (best.map .int)), some (.lst ((pw n).map .int)), none, some (.int (m : Nat)), some (.lst ((th n m).map .int)), b, c, d] ((ru n).map .int)) = some (.lst ((out n (th n m)).map .int)) :=
      comp_filter (fun k hk => ⟨_, gN_ap _ _ _, by walk_at "fl", by walk_at "fl"⟩) (by rw [ru_len]; omega)
    have h3 : ∀ k : Int, k ∈ ru n → cpL (compC (gN 9) (tB' (pIx (pIx (pV 0) (pV 4)) (pV 9))) (pC (.int 1)) [some (tabS n W), some (.int (n : Nat)), some (.lst (best.map .int)), some (.lst ((pw n).map .int)), some (.int k), some (.int (m : Nat)), some (.lst ((th n m).map .int)), some (.lst ((out n (th n m)).map .int)), c, none] ((out n (th n m)).map .int)) = some (.lst ((List.replicate ((out n (th n m)).countP (W k)) (1 : Int)).map .int)) := fun k hk => by
      rw [compC_gen (a := D.int) (c := W k) (f := fun _ => D.int 1) fun o ho => ⟨_, gN_ap _ _ _, by
        have := tabS_at W hk (List.mem_filter.mp ho).1
        rw [tB'_ap, pIx_ap', pIx_ap']
        walk_at "fl"
        rw [this, tb_bl], fun _ => rfl⟩, cpL_of]
      · rw [List.map_const', ← List.countP_eq_length_filter, List.map_replicate]
      · rw [List.length_map]
        have := List.length_filter_le (W k) (out n (th n m))
        have := out_len n (th n m)
        omega
    have h4 : cpL (compC (gN 4) yesC (pn dLen (psCons (pComp [9] (icB (pV 7)) (gN 9) (tB' (pIx (pIx (pV 0) (pV 4)) (pV 9))) (pC (.int 1))) psNil)) [some (tabS n W), some (.int (n : Nat)), some (.lst (best.map .int)), some (.lst ((pw n).map .int)), none, some (.int (m : Nat)), some (.lst ((th n m).map .int)), some (.lst ((out n (th n m)).map .int)), c, d] ((th n m).map .int)) = some (.lst (((th n m).map fun k => (((out n (th n m)).countP (W k) : Nat) : Int)).map .int)) := by
      have := comp_map (a := D.int) (fun k => D.int ((((out n (th n m)).countP (W k) : Nat)) : Int)) (ns := th n m) (g := gN 4) (p := pn dLen (psCons (pComp [9] (icB (pV 7)) (gN 9) (tB' (pIx (pIx (pV 0) (pV 4)) (pV 9))) (pC (.int 1))) psNil)) (ρ := [some (tabS n W), some (.int (n : Nat)), some (.lst (best.map .int)), some (.lst ((pw n).map .int)), none, some (.int (m : Nat)), some (.lst ((th n m).map .int)), some (.lst ((out n (th n m)).map .int)), c, d]) (fun k hk => ⟨_, gN_ap _ _ _, by
        have := h3 k (th_sub k hk)
        walk_at "fl"
        rw [this]
        walk_at "fl"
        rw [List.length_replicate]⟩) (by have := th_len n m; omega)
      rw [this, List.map_map]; rfl
    have h5 : ((th n m).map fun k => (((out n (th n m)).countP (W k) : Nat) : Int)).sum = (sumW W (th n m) (out n (th n m)) : Nat) := by
      unfold sumW
      rw [← sum_cast, List.map_map]; rfl
    have hlt' : ((th n m).length : Int) < (best.length : Int) := by omega
    have mo : MulOk ((th n m).length : Int) ((out n (th n m)).length : Int) := by
      have := th_len n m
      exact mulOk_l (by omega) (by omega)
    have cmp : decide (((sumW W (th n m) (out n (th n m)) : Nat) : Int) = ((th n m).length : Int) * ((out n (th n m)).length : Int)) = decide (sumW W (th n m) (out n (th n m)) = (th n m).length * (out n (th n m)).length) := by
      refine decide_eq_decide.mpr ?_
      rw [← Int.natCast_mul]
      exact Int.ofNat_inj
    by_cases hs : sumW W (th n m) (out n (th n m)) = (th n m).length * (out n (th n m)).length
    · refine ⟨x, none, some (.lst ((out n (th n m)).map .int)), some (.int (sumW W (th n m) (out n (th n m)) : Nat)), d, ?_⟩
      have e : fT n W best m = th n m := by unfold fT; rw [if_pos ⟨hlt, hs⟩]
      rw [e]
      unfold TT b_l_top_2
      walk_at "fl"
      rw [hi, cpO_some, h1]
      walk_at "fl"
      rw [hi, cpO_some, h2]
      walk_at "fl"
      rw [if_pos hlt', h4]
      walk_at "fl"
      rw [h5, dMul_i mo]
      walk_at "fl"
      have hs' : ((sumW W (th n m) (out n (th n m)) : Nat) : Int) = ((th n m).length : Int) * ((out n (th n m)).length : Int) := by rw [hs]; exact Int.natCast_mul _ _
      rw [if_pos hs']
    · refine ⟨x, some (.lst ((th n m).map .int)), some (.lst ((out n (th n m)).map .int)), some (.int (sumW W (th n m) (out n (th n m)) : Nat)), d, ?_⟩
      have e : fT n W best m = best := by unfold fT; rw [if_neg fun z => hs z.2]
      rw [e]
      unfold TT b_l_top_2
      walk_at "fl"
      rw [hi, cpO_some, h1]
      walk_at "fl"
      rw [hi, cpO_some, h2]
      walk_at "fl"
      rw [if_pos hlt', h4]
      walk_at "fl"
      rw [h5, dMul_i mo]
      walk_at "fl"
      have hs' : ¬ ((sumW W (th n m) (out n (th n m)) : Nat) : Int) = ((th n m).length : Int) * ((out n (th n m)).length : Int) := fun z => hs (by rw [← Int.natCast_mul] at z; exact Int.ofNat_inj.mp z)
      rw [if_neg hs']
  · have hlt' : ¬ ((th n m).length : Int) < (best.length : Int) := by omega
    refine ⟨x, some (.lst ((th n m).map .int)), b, c, d, ?_⟩
    have e : fT n W best m = best := by unfold fT; rw [if_neg fun z => hlt z.1]
    rw [e]
    unfold TT b_l_top_2
    walk_at "fl"
    rw [hi, cpO_some, h1]
    walk_at "fl"
    rw [if_neg hlt']
theorem l_top_eq {n : Nat} (h0 : 0 < n) (hn : n ≤ 8) {W : Int → Int → Bool} (as : Asym W) : ∃ S, Least n W S ∧ m_l_top [tabS n W, .int (n : Nat)] = some (.tup (S.map .int), []) := by
  refine ⟨_, least_all as h0, ?_⟩
  obtain ⟨x1, hp⟩ := pow_loop hn (some (tabS n W)) (some (.lst ((ru n).map .int)))
  have hi := itR_nat (n := n) (by omega)
  have p8 : 2 ^ n ≤ 256 := Nat.le_trans (Nat.pow_le_pow_right (by omega) hn) (by decide)
  have hat : L2.atI ((pw n).map D.int) (n : Int) = some (.int ((2 ^ n : Nat) : Int)) := by
    have := pw_at (n := n) (c := (n : Int)) (by omega) (by omega)
    rw [Int.toNat_natCast] at this
    exact this
  have hr : itR 1 ((2 ^ n : Nat) : Int) = some ((List.range' 1 (2 ^ n - 1)).map fun i : Nat => D.int (i : Int)) := by
    have gen : ∀ z : Nat, z ≤ 256 → itR 1 (z : Int) = some ((List.range' 1 (z - 1)).map fun i : Nat => D.int (i : Int)) := fun z hz => by
      rw [itR_of (by omega) (by omega) (by omega) (by omega)]
      have := rangeD_nat 1 z
      rw [← this]; rfl
    exact gen _ p8
  obtain ⟨ρ, hl, x', y', a', b', c', d', rfl⟩ := forM_fold (a := fun i : Nat => D.int (i : Int)) (g := gN 5) (m := b_l_top_2) (fun (b : List Int) ρ => ∃ x y p q c d, ρ = TT n W b x y p q c d) (fT n W) (List.range' 1 (2 ^ n - 1)) (ru n) (TT n W (ru n) x1 none none none none none) (by
    rintro m s ρ hm ⟨x, y, p, q, c, d, rfl⟩
    rw [List.mem_range'_1] at hm
    obtain ⟨x', a', b', c', d', h⟩ := top_turn hn W s (m := m) (by have := Nat.two_pow_pos n; omega) x p q c d
    exact ⟨TT n W s x (some (.int (m : Nat))) p q c d, _, rfl, .inl h, _, _, _, _, _, _, rfl⟩) ⟨x1, none, none, none, none, none, rfl⟩
  have hd := dTuple_lI ((List.range' 1 (2 ^ n - 1)).foldl (fT n W) (ru n))
  have e0 : pw 0 = [1] := rfl
  rw [e0, List.map_cons, List.map_nil] at hp
  unfold TT at hl
  have hrg := rgD_ru (c := D.lst) (n := n) (by omega)
  unfold m_l_top
  rw [fnM_ap (by rfl)]
  walk_at "fl"
  rw [hrg]
  walk_at "fl"
  rw [hi]
  walk_at "fl"
  rw [hp]
  walk_at "fl"
  rw [hat]
  walk_at "fl"
  rw [hr]
  walk_at "fl"
  rw [hl]
  walk_at "fl"
  exact finM_P (pure_eI _) _

end K58
end

section
set_option Elab.async false
set_option linter.all false
set_option maxRecDepth 100000
set_option maxHeartbeats 8000000
namespace K58
open FL
local macro_rules | `(tactic| walk_at "fl") => `(tactic| simp -implicitDefEqProofs only [seqS_ap, ifS_ap, asgS_ap, gN_ap, gTupN_ap, retS_ap, exprS_ap, skipS_ap, p1_ap, p2_ap, pn_ap, psNil_ap, psCons_ap, pV_ap, pC_ap, liftE_ap, liftC_ap, pIf_ap, tB'_ap, tAnd'_ap, tOr'_ap, tNot'_ap, liftT_ap, blE_ap, andE_ap, orE_ap, notE_ap, toE_ap, toS'_ap, toM'_ap, asNil_ap, asCons_ap, opE2_ap, opE1_ap, opEn_ap, dispE_ap, ifE_ap, andV_ap, orV_ap, notV_ap, mvV_ap, mtE_ap, callE_ap, pCall_ap, itE_ap, itA_ap, icA_ap, icB_ap, forS_ap, rg1_ap, rg2_ap, fnM_ap, seqO_nx, seqO_rt, seqO_bk, seqO_ct, ifO_some, asgO_some, retO_some, exprO_some, b2_some, c2_some, ixO_tup, ixO_lst, ixO_shr, lE_some, lC_int, lC_bl, lC_str, lC_non, tb_bl, andO_some, orO_some, lT_some, bE_bl, andEO_some, orEO_some, notEO_some, tE_some, sO_some, mO_some, acO_some, acT_some, o2O_some, o2T_some, o2F_some, o1O_some, o1F_some, onO_some, onF_some, diO_some, ifEO_some, andVO_bl, orVO_bl, notVO_bl, mvO_lst, mvO_tup, mvO_shr, mtO_some, mtT_some, mtF_some, callF_some, pcF_some, itAO_some, itAF_some, forO_some, fnO_rt, fnO_nx, lk_zero, lk_succ, lstAt_zero, lstAt_succ, raw_v, raw_s, raw_m, raws_nil, raws_cons, valsOf_nil, valsOf_v, argsD_nil, argsD_cons, argD_v, argD_s, argD_m, gNs_nil, gNs_cons, Option.bind_some, Option.bind_none, Option.map_some, Option.map_none, List.set_cons_zero, List.set_cons_succ, List.map_cons, List.map_nil, List.cons_append, List.nil_append, Bool.false_eq_true, dAdd_i, dSub_i, addI_i, dNeg_i, dLt_i, dLe_i, dGt_i, dGe_i, dEq_i, dEq_s, dEq_b, dNe_i, dNe_s, dIsN_non, dIsN_int, dIsN_tup, dIsN_lst, dIsN_bl, dIsN_str, dNotN_non, dNotN_int, dNotN_tup, dLen_lst, dLen_tup, dLen_shr, dSum_tI, dSum_lI, dSum_sI, dInt_i, dInt_b, dAbs_i, dTuple_lI, dTuple_sI, dList_lI, dList_tI, dList_sI, dMax_2, dMin_2, mkTup_2, mkTup_3, mkLst_0, mkLst_1, mkLst_2, kit_ib, kit_ii, kit_is, kit_it, kit_bb, kit_bi, kit_tb, kit_ti, kit_ts, kit_tt, kit_nb, kit_ni, kit_ns, kit_nt, kit_sb, kit_si, kit_ss, kit_st, isi_int, isi_bl, isi_str, isi_tup, isi_non, lPop_snoc, lReverse_ints, ↓reduceIte, List.length_cons, List.length_nil, List.length_map, List.reduceReplicate, Nat.reduceSub, Bool.not_true, Bool.not_false, decide_true, decide_false, decide_eq_true_eq, Nat.reduceLeDiff, pIx_ap', atI_z, atI_o, atI_t, parS_eq, parT_some, parV_some, setS_ap, stO_some, stL_some, stT_some, augIxS_ap, pCut_ap, cuO_some, pNo_ap, pSo_ap, soO_int, freeC_ap, fcO_int, fcO_str, yesC_ap, wipeE_nil, wipeE_cons, pComp_ap, cpO_some, icB_sI, icB_tI, icB_lI, itE_sI, itE_tI, itE_lI, noM_nil, noM_v, noM_s, noMS_nil, noMS_v, noMS_c, callO_no, callO_m0, putM_nil, putM_cons, dropM_nil, dropM_cons, shares_nil, shares_cons, share_int, share_bl, share_str, share_non, share_tup, share_lst, share_shr_, shares_ints, Nat.reduceBEq, Bool.true_and, Bool.and_true, Bool.and_self, Bool.false_and, Bool.and_false, Bool.not_eq_true, Bool.not_eq_false, Bool.or_true, Bool.true_or, Bool.or_false, Bool.false_or, beq_self_eq_true, pChain_ap, dIn_lI, dIn_tI, dIn_sI, dIn_fI, dNin_lI, dNin_tI, dNin_sI, dNin_fI, compE_ap, ceO_some, restE_nil, restE_cons, rsO_none, rsO_int, forL_ap, flO_lst, flO_int, backO_nx, backO_rt, forC_ap, fcS_lst, chO_some, chB_bl, Int.natCast_zero, dMod_i, dDiv_i, dMul_i, divOk_s, mulOk_l, mulOk_r, Int.reducePow, Int.reduceNeg, Int.reduceLT, Int.reduceLE, Int.reduceEq, Int.reduceAdd, Int.reduceSub, Int.reduceMul, Nat.reduceAdd, Nat.reducePow, lC_tI, lC_sI, dLen_frz, fcO_tI, shares_eI, rgD_ru, pAnd_ap, pOr_ap, pNot_ap, anO_bl, orC_bl, noC_bl, dEqX_tI, dNeX_tI, dEqX_lI, pComp2_ap, cp2O_some, dRev_lI, dSorted_lI, dAny_lB, augLS_ap, setS2_ap, dNe_b])
local macro_rules | `(tactic| walk_at "fl*") => `(tactic| simp -implicitDefEqProofs only [seqS_ap, ifS_ap, asgS_ap, gN_ap, gTupN_ap, retS_ap, exprS_ap, skipS_ap, p1_ap, p2_ap, pn_ap, psNil_ap, psCons_ap, pV_ap, pC_ap, liftE_ap, liftC_ap, pIf_ap, tB'_ap, tAnd'_ap, tOr'_ap, tNot'_ap, liftT_ap, blE_ap, andE_ap, orE_ap, notE_ap, toE_ap, toS'_ap, toM'_ap, asNil_ap, asCons_ap, opE2_ap, opE1_ap, opEn_ap, dispE_ap, ifE_ap, andV_ap, orV_ap, notV_ap, mvV_ap, mtE_ap, callE_ap, pCall_ap, itE_ap, itA_ap, icA_ap, icB_ap, forS_ap, rg1_ap, rg2_ap, fnM_ap, seqO_nx, seqO_rt, seqO_bk, seqO_ct, ifO_some, asgO_some, retO_some, exprO_some, b2_some, c2_some, ixO_tup, ixO_lst, ixO_shr, lE_some, lC_int, lC_bl, lC_str, lC_non, tb_bl, andO_some, orO_some, lT_some, bE_bl, andEO_some, orEO_some, notEO_some, tE_some, sO_some, mO_some, acO_some, acT_some, o2O_some, o2T_some, o2F_some, o1O_some, o1F_some, onO_some, onF_some, diO_some, ifEO_some, andVO_bl, orVO_bl, notVO_bl, mvO_lst, mvO_tup, mvO_shr, mtO_some, mtT_some, mtF_some, callF_some, pcF_some, itAO_some, itAF_some, forO_some, fnO_rt, fnO_nx, lk_zero, lk_succ, lstAt_zero, lstAt_succ, raw_v, raw_s, raw_m, raws_nil, raws_cons, valsOf_nil, valsOf_v, argsD_nil, argsD_cons, argD_v, argD_s, argD_m, gNs_nil, gNs_cons, Option.bind_some, Option.bind_none, Option.map_some, Option.map_none, List.set_cons_zero, List.set_cons_succ, List.map_cons, List.map_nil, List.cons_append, List.nil_append, Bool.false_eq_true, dAdd_i, dSub_i, addI_i, dNeg_i, dLt_i, dLe_i, dGt_i, dGe_i, dEq_i, dEq_s, dEq_b, dNe_i, dNe_s, dIsN_non, dIsN_int, dIsN_tup, dIsN_lst, dIsN_bl, dIsN_str, dNotN_non, dNotN_int, dNotN_tup, dLen_lst, dLen_tup, dLen_shr, dSum_tI, dSum_lI, dSum_sI, dInt_i, dInt_b, dAbs_i, dTuple_lI, dTuple_sI, dList_lI, dList_tI, dList_sI, dMax_2, dMin_2, mkTup_2, mkTup_3, mkLst_0, mkLst_1, mkLst_2, kit_ib, kit_ii, kit_is, kit_it, kit_bb, kit_bi, kit_tb, kit_ti, kit_ts, kit_tt, kit_nb, kit_ni, kit_ns, kit_nt, kit_sb, kit_si, kit_ss, kit_st, isi_int, isi_bl, isi_str, isi_tup, isi_non, lPop_snoc, lReverse_ints, ↓reduceIte, List.length_cons, List.length_nil, List.length_map, List.reduceReplicate, Nat.reduceSub, Bool.not_true, Bool.not_false, decide_true, decide_false, decide_eq_true_eq, Nat.reduceLeDiff, pIx_ap', atI_z, atI_o, atI_t, parS_eq, parT_some, parV_some, setS_ap, stO_some, stL_some, stT_some, augIxS_ap, pCut_ap, cuO_some, pNo_ap, pSo_ap, soO_int, freeC_ap, fcO_int, fcO_str, yesC_ap, wipeE_nil, wipeE_cons, pComp_ap, cpO_some, icB_sI, icB_tI, icB_lI, itE_sI, itE_tI, itE_lI, noM_nil, noM_v, noM_s, noMS_nil, noMS_v, noMS_c, callO_no, callO_m0, putM_nil, putM_cons, dropM_nil, dropM_cons, shares_nil, shares_cons, share_int, share_bl, share_str, share_non, share_tup, share_lst, share_shr_, shares_ints, Nat.reduceBEq, Bool.true_and, Bool.and_true, Bool.and_self, Bool.false_and, Bool.and_false, Bool.not_eq_true, Bool.not_eq_false, Bool.or_true, Bool.true_or, Bool.or_false, Bool.false_or, beq_self_eq_true, pChain_ap, dIn_lI, dIn_tI, dIn_sI, dIn_fI, dNin_lI, dNin_tI, dNin_sI, dNin_fI, compE_ap, ceO_some, restE_nil, restE_cons, rsO_none, rsO_int, forL_ap, flO_lst, flO_int, backO_nx, backO_rt, forC_ap, fcS_lst, chO_some, chB_bl, Int.natCast_zero, dMod_i, dDiv_i, dMul_i, divOk_s, mulOk_l, mulOk_r, Int.reducePow, Int.reduceNeg, Int.reduceLT, Int.reduceLE, Int.reduceEq, Int.reduceAdd, Int.reduceSub, Int.reduceMul, Nat.reduceAdd, Nat.reducePow, lC_tI, lC_sI, dLen_frz, fcO_tI, shares_eI, rgD_ru, pAnd_ap, pOr_ap, pNot_ap, anO_bl, orC_bl, noC_bl, dEqX_tI, dNeX_tI, dEqX_lI, pComp2_ap, cp2O_some, dRev_lI, dSorted_lI, dAny_lB, augLS_ap, setS2_ap, dNe_b, *])
open VT
abbrev tabL (n : Nat) (V : List (List Int)) : D := .lst (((ru n).map (rowB n V)).map fun r => .lst (r.map .int))
def PE (n : Nat) (V : List (List Int)) (b x f e l p q : Option D) : FL.Env := [some (eV V), some (.int (n : Nat)), some (tabL n V), b, x, f, e, l, p, q]
theorem row_mem {n : Nat} {V : List (List Int)} {a o : Int} (ho : o ∈ ru n) : decide (o ∈ rowB n V a) = wv V a o := by
  unfold rowB
  cases h : wv V a o with
  | true => exact decide_eq_true (List.mem_filter.mpr ⟨ho, h⟩)
  | false => exact decide_eq_false fun z => by have := (List.mem_filter.mp z).2; rw [h] at this; cases this
theorem bfs_turn {n : Nat} (hn : n ≤ 8) {V : List (List Int)} {s : Int} {f e : List Int} (h : BI n (wv V) s f e) (he : e.Nodup) (b x l p q : Option D) : ∃ p' q', b_top_1 (PE n V b x (some (.lst (f.map .int))) (some (.lst (e.map .int))) l p q) = some (.nx (PE n V b x (some (.lst ((f ++ sSet (later n (wv V) f e)).map .int))) (some (.lst ((sSet (later n (wv V) f e)).map .int))) (some (.lst ((later n (wv V) f e).map .int))) p' q')) := by
  have hi := itR_nat (n := n) (by omega)
  rw [upto_ru] at hi
  have el := h.elen he
  have fl := h.len
  have c := compC2_gen (a := D.int) (b := D.int) (l := fun _ : Int => ru n) (c := fun a o => !wv V a o && !decide (o ∈ f)) (f := fun _ o => D.int o) (vs1 := [9]) (g := gN 8) (g1 := gN 9) (t := yesC) (t1 := tAnd' (tB' (p2 dNin (pV 9) (pIx (pV 2) (pV 8)))) (tB' (p2 dNin (pV 9) (pV 5)))) (pi1 := icA rg1 (psCons (pV 1) psNil)) (p := freeC (pV 9))
    (ρ := [some (eV V), some (.int (n : Nat)), some (tabL n V), b, x, some (.lst (f.map .int)), some (.lst (e.map .int)), l, none, none]) (ns := e) (fun a ha => ⟨_, gN_ap _ _ _, rfl, by walk_at "fl"; exact hi, fun o ho => ⟨_, gN_ap _ _ _, by
      have ha' := h.sub a (h.esub a ha)
      have hx := tabF_at (f := fun r : List Int => D.lst (r.map .int)) (rowB n V) (ru_mem.mp ha').1 (ru_mem.mp ha').2
      walk_at "fl"
      rw [hx]
      walk_at "fl"
      rw [row_mem ho]
      cases wv V a o <;> rfl, fun _ => by walk_at "fl"⟩⟩)
  have e1 : (e.flatMap fun a => ((ru n).filter fun o => !wv V a o && !decide (o ∈ f)).map fun o => D.int o) = (later n (wv V) f e).map .int := by unfold later; rw [List.map_flatMap]
  rw [e1] at c
  have ll : (later n (wv V) f e).length ≤ 64 := by
    unfold later
    rw [List.length_flatMap]
    have : ∀ (m : List Int), (m.map fun a => ((ru n).filter fun o => !wv V a o && !decide (o ∈ f)).length).sum ≤ m.length * n := fun m => by
      induction m with
      | nil => simp
      | cons a m ih =>
        rw [List.map_cons, List.sum_cons, List.length_cons, Nat.succ_mul]
        have := List.length_filter_le (fun o => !wv V a o && !decide (o ∈ f)) (ru n)
        rw [ru_len] at this
        omega
    have := this e
    have m : e.length * n ≤ 8 * 8 := Nat.mul_le_mul (by omega) hn
    omega
  have sl := sSet_len h
  have cl := cpL_of (xs := (later n (wv V) f e).map D.int) (by rw [List.length_map]; omega)
  have ds := dSrtS_lI (ns := later n (wv V) f e) (by omega) (by omega)
  have al := fun ρ => alO_I (k := 5) (ρ := ρ) (xs := f) (ys := sSet (later n (wv V) f e)) (by omega)
  refine ⟨p, q, ?_⟩
  unfold PE b_top_1
  walk_at "fl"
  rw [c, cl]
  walk_at "fl"
  rw [ds]
  walk_at "fl"
  rw [al]
  walk_at "fl"
theorem bfs {n : Nat} (hn : n ≤ 8) {V : List (List Int)} {s : Int} (b x : Option D) : ∀ (k : Nat) (f e : List Int) (l p q : Option D), BI n (wv V) s f e → e.Nodup → (n - f.length < k ∨ e = []) → ∃ f' l' p' q', Clo n (wv V) s f' ∧
    whS (liftT (tB' (p2 dGt (pn dLen (psCons (pV 6) psNil)) (pC (.int 0))))) b_top_1 (PE n V b x (some (.lst (f.map .int))) (some (.lst (e.map .int))) l p q) = some (.nx (PE n V b x (some (.lst (f'.map .int))) (some (.lst [])) l' p' q')) := by
  intro k
  induction k with
  | zero =>
    intro f e l p q h he hk
    rcases hk with hk | rfl
    · omega
    · refine ⟨f, l, p, q, h.clo, whS_stop ?_⟩
      unfold PE
      walk_at "fl"
  | succ k ih =>
    intro f e l p q h he hk
    cases e with
    | nil =>
      refine ⟨f, l, p, q, h.clo, whS_stop ?_⟩
      unfold PE
      walk_at "fl"
    | cons a e =>
      obtain ⟨p1', q1', h1⟩ := bfs_turn hn h he b x l p q
      have nd := asc_nodup (sSet_asc (later n (wv V) f (a :: e)))
      have st := h.step
      obtain ⟨f', l', p', q', h2, h3⟩ := ih _ _ (some (.lst ((later n (wv V) f (a :: e)).map .int))) p1' q1' st nd (by
        cases z : sSet (later n (wv V) f (a :: e)) with
        | nil => exact .inr rfl
        | cons c r =>
          left
          have := st.len
          rw [z] at this
          rw [List.length_append, List.length_cons] at this ⊢
          rcases hk with hk | hk
          · omega
          · cases hk)
      refine ⟨f', l', p', q', h2, whS_nx ?_ h1 h3⟩
      unfold PE
      walk_at "fl"
      rw [decide_eq_true (by omega)]
def bD : Option (List Int) → D
  | none => .non
  | some b => .lst (b.map .int)
def bP (n : Nat) (V : List (List Int)) (i : Nat) : Option (List Int) → Prop
  | none => i = 0
  | some b => Best n (wv V) i b
theorem top_start {n : Nat} (hn : n ≤ 8) {V : List (List Int)} {i : Nat} (hi : i < n) (b : Option (List Int)) (hb : bP n V i b) (f e l p q : Option D) : ∃ (b' : List Int) (f' e' l' p' q' : Option D), Best n (wv V) (i + 1) b' ∧
    b_top_2 (PE n V (some (bD b)) (some (.int (i : Nat))) f e l p q) = some (.nx (PE n V (some (.lst (b'.map .int))) (some (.int (i : Nat))) f' e' l' p' q')) := by
  have hs : (i : Int) ∈ ru n := ru_mem.mpr ⟨by omega, by omega⟩
  obtain ⟨c, l', p', q', h1, h2⟩ := bfs hn (V := V) (s := (i : Int)) (some (bD b)) (some (.int (i : Nat))) (n + 1) [(i : Int)] [(i : Int)] l p q (BI.first hs) (by simp) (by left; omega)
  have first : ∀ b' : List Int, b'.length ≤ c.length → Best n (wv V) i b' → Best n (wv V) (i + 1) b' := fun b' hl hb' => ⟨hb'.1, fun s hs' => by
    by_cases z : s = i
    · subst z; exact ⟨c, h1, hl⟩
    · exact hb'.2 s (by omega)⟩
  have il := iSort_perm c
  have new : (∀ s : Nat, s < i → ∃ f, Clo n (wv V) (s : Int) f ∧ c.length ≤ f.length) → Best n (wv V) (i + 1) (iSort c) := fun hold => ⟨clo_ok h1, fun s hs' => by
    rw [il.length_eq]
    by_cases z : s = i
    · subst z; exact ⟨c, h1, Nat.le_refl _⟩
    · exact hold s (by omega)⟩
  rw [List.map_cons, List.map_nil] at h2
  unfold PE at h2
  cases b with
  | none =>
    unfold bD at h2
    refine ⟨iSort c, some (.lst (c.map .int)), some (.lst []), l', p', q', new fun s hs' => (by have hb : i = 0 := hb; omega), ?_⟩
    unfold PE b_top_2 bD
    walk_at "fl"
    rw [h2]
    walk_at "fl"
  | some b =>
    have hb : Best n (wv V) i b := hb
    unfold bD at h2
    by_cases hlt : c.length < b.length
    · refine ⟨iSort c, some (.lst (c.map .int)), some (.lst []), l', p', q', new fun s hs' => by
        obtain ⟨g, g1, g2⟩ := hb.2 s hs'
        exact ⟨g, g1, by omega⟩, ?_⟩
      unfold PE b_top_2 bD
      walk_at "fl"
      rw [h2]
      walk_at "fl"
      rw [if_pos (by omega)]
    · refine ⟨b, some (.lst (c.map .int)), some (.lst []), l', p', q', first b (by omega) hb, ?_⟩
      unfold PE b_top_2 bD
      walk_at "fl"
      rw [h2]
      walk_at "fl"
      rw [if_neg (by omega)]
theorem top_eq {n : Nat} (h0 : 0 < n) (hn : n ≤ 8) {V : List (List Int)} (h : All n V) : ∃ S, Least n (wv V) S ∧ m_top [eV V, .int (n : Nat)] = some (.tup (S.map .int), []) := by
  obtain ⟨ρ, hl, hρ⟩ := forM_upto (g := gN 4) (m := b_top_2) (n := n) (ρ := PE n V (some .non) none none none none none none) (fun i ρ => ∃ (b : Option (List Int)) (x f e l p q : Option D), bP n V i b ∧ ρ = PE n V (some (bD b)) x f e l p q) ⟨none, none, none, none, none, none, none, rfl, rfl⟩ (by
    rintro i ρ hi ⟨b, x, f, e, l, p, q, hb, rfl⟩
    obtain ⟨b', f', e', l', p', q', g1, g2⟩ := top_start hn (V := V) hi b hb f e l p q
    exact ⟨_, _, rfl, .inl g2, some b', some (.int (i : Nat)), f', e', l', p', q', g1, rfl⟩)
  obtain ⟨b, x, f, e, l, p, q, hb, rfl⟩ := hρ
  cases b with
  | none => have hb : n = 0 := hb; omega
  | some b =>
    have hb : Best n (wv V) n b := hb
    refine ⟨b, hb.least (wv_as V), ?_⟩
    have hi := itR_nat (n := n) (by omega)
    have hbe := beaten_by_eq (n := n) (by omega) h
    unfold PE bD at hl
    unfold m_top
    rw [fnM_ap (by rfl)]
    walk_at "fl"
    rw [hbe]
    walk_at "fl"
    rw [hi]
    walk_at "fl"
    rw [hl]
    walk_at "fl"
    exact finM_P (pure_eI b) _

end K58
end

section
set_option Elab.async false
set_option linter.all false
set_option maxRecDepth 100000
set_option maxHeartbeats 8000000
namespace K58
open FL
local macro_rules | `(tactic| walk_at "fl") => `(tactic| simp -implicitDefEqProofs only [seqS_ap, ifS_ap, asgS_ap, gN_ap, gTupN_ap, retS_ap, exprS_ap, skipS_ap, p1_ap, p2_ap, pn_ap, psNil_ap, psCons_ap, pV_ap, pC_ap, liftE_ap, liftC_ap, pIf_ap, tB'_ap, tAnd'_ap, tOr'_ap, tNot'_ap, liftT_ap, blE_ap, andE_ap, orE_ap, notE_ap, toE_ap, toS'_ap, toM'_ap, asNil_ap, asCons_ap, opE2_ap, opE1_ap, opEn_ap, dispE_ap, ifE_ap, andV_ap, orV_ap, notV_ap, mvV_ap, mtE_ap, callE_ap, pCall_ap, itE_ap, itA_ap, icA_ap, icB_ap, forS_ap, rg1_ap, rg2_ap, fnM_ap, seqO_nx, seqO_rt, seqO_bk, seqO_ct, ifO_some, asgO_some, retO_some, exprO_some, b2_some, c2_some, ixO_tup, ixO_lst, ixO_shr, lE_some, lC_int, lC_bl, lC_str, lC_non, tb_bl, andO_some, orO_some, lT_some, bE_bl, andEO_some, orEO_some, notEO_some, tE_some, sO_some, mO_some, acO_some, acT_some, o2O_some, o2T_some, o2F_some, o1O_some, o1F_some, onO_some, onF_some, diO_some, ifEO_some, andVO_bl, orVO_bl, notVO_bl, mvO_lst, mvO_tup, mvO_shr, mtO_some, mtT_some, mtF_some, callF_some, pcF_some, itAO_some, itAF_some, forO_some, fnO_rt, fnO_nx, lk_zero, lk_succ, lstAt_zero, lstAt_succ, raw_v, raw_s, raw_m, raws_nil, raws_cons, valsOf_nil, valsOf_v, argsD_nil, argsD_cons, argD_v, argD_s, argD_m, gNs_nil, gNs_cons, Option.bind_some, Option.bind_none, Option.map_some, Option.map_none, List.set_cons_zero, List.set_cons_succ, List.map_cons, List.map_nil, List.cons_append, List.nil_append, Bool.false_eq_true, dAdd_i, dSub_i, addI_i, dNeg_i, dLt_i, dLe_i, dGt_i, dGe_i, dEq_i, dEq_s, dEq_b, dNe_i, dNe_s, dIsN_non, dIsN_int, dIsN_tup, dIsN_lst, dIsN_bl, dIsN_str, dNotN_non, dNotN_int, dNotN_tup, dLen_lst, dLen_tup, dLen_shr, dSum_tI, dSum_lI, dSum_sI, dInt_i, dInt_b, dAbs_i, dTuple_lI, dTuple_sI, dList_lI, dList_tI, dList_sI, dMax_2, dMin_2, mkTup_2, mkTup_3, mkLst_0, mkLst_1, mkLst_2, kit_ib, kit_ii, kit_is, kit_it, kit_bb, kit_bi, kit_tb, kit_ti, kit_ts, kit_tt, kit_nb, kit_ni, kit_ns, kit_nt, kit_sb, kit_si, kit_ss, kit_st, isi_int, isi_bl, isi_str, isi_tup, isi_non, lPop_snoc, lReverse_ints, ↓reduceIte, List.length_cons, List.length_nil, List.length_map, List.reduceReplicate, Nat.reduceSub, Bool.not_true, Bool.not_false, decide_true, decide_false, decide_eq_true_eq, Nat.reduceLeDiff, pIx_ap', atI_z, atI_o, atI_t, parS_eq, parT_some, parV_some, setS_ap, stO_some, stL_some, stT_some, augIxS_ap, pCut_ap, cuO_some, pNo_ap, pSo_ap, soO_int, freeC_ap, fcO_int, fcO_str, yesC_ap, wipeE_nil, wipeE_cons, pComp_ap, cpO_some, icB_sI, icB_tI, icB_lI, itE_sI, itE_tI, itE_lI, noM_nil, noM_v, noM_s, noMS_nil, noMS_v, noMS_c, callO_no, callO_m0, putM_nil, putM_cons, dropM_nil, dropM_cons, shares_nil, shares_cons, share_int, share_bl, share_str, share_non, share_tup, share_lst, share_shr_, shares_ints, Nat.reduceBEq, Bool.true_and, Bool.and_true, Bool.and_self, Bool.false_and, Bool.and_false, Bool.not_eq_true, Bool.not_eq_false, Bool.or_true, Bool.true_or, Bool.or_false, Bool.false_or, beq_self_eq_true, pChain_ap, dIn_lI, dIn_tI, dIn_sI, dIn_fI, dNin_lI, dNin_tI, dNin_sI, dNin_fI, compE_ap, ceO_some, restE_nil, restE_cons, rsO_none, rsO_int, forL_ap, flO_lst, flO_int, backO_nx, backO_rt, forC_ap, fcS_lst, chO_some, chB_bl, Int.natCast_zero, dMod_i, dDiv_i, dMul_i, divOk_s, mulOk_l, mulOk_r, Int.reducePow, Int.reduceNeg, Int.reduceLT, Int.reduceLE, Int.reduceEq, Int.reduceAdd, Int.reduceSub, Int.reduceMul, Nat.reduceAdd, Nat.reducePow, lC_tI, lC_sI, dLen_frz, fcO_tI, shares_eI, rgD_ru, pAnd_ap, pOr_ap, pNot_ap, anO_bl, orC_bl, noC_bl, dEqX_tI, dNeX_tI, dEqX_lI, pComp2_ap, cp2O_some, dRev_lI, dSorted_lI, dAny_lB, augLS_ap, setS2_ap, dNe_b])
local macro_rules | `(tactic| walk_at "fl*") => `(tactic| simp -implicitDefEqProofs only [seqS_ap, ifS_ap, asgS_ap, gN_ap, gTupN_ap, retS_ap, exprS_ap, skipS_ap, p1_ap, p2_ap, pn_ap, psNil_ap, psCons_ap, pV_ap, pC_ap, liftE_ap, liftC_ap, pIf_ap, tB'_ap, tAnd'_ap, tOr'_ap, tNot'_ap, liftT_ap, blE_ap, andE_ap, orE_ap, notE_ap, toE_ap, toS'_ap, toM'_ap, asNil_ap, asCons_ap, opE2_ap, opE1_ap, opEn_ap, dispE_ap, ifE_ap, andV_ap, orV_ap, notV_ap, mvV_ap, mtE_ap, callE_ap, pCall_ap, itE_ap, itA_ap, icA_ap, icB_ap, forS_ap, rg1_ap, rg2_ap, fnM_ap, seqO_nx, seqO_rt, seqO_bk, seqO_ct, ifO_some, asgO_some, retO_some, exprO_some, b2_some, c2_some, ixO_tup, ixO_lst, ixO_shr, lE_some, lC_int, lC_bl, lC_str, lC_non, tb_bl, andO_some, orO_some, lT_some, bE_bl, andEO_some, orEO_some, notEO_some, tE_some, sO_some, mO_some, acO_some, acT_some, o2O_some, o2T_some, o2F_some, o1O_some, o1F_some, onO_some, onF_some, diO_some, ifEO_some, andVO_bl, orVO_bl, notVO_bl, mvO_lst, mvO_tup, mvO_shr, mtO_some, mtT_some, mtF_some, callF_some, pcF_some, itAO_some, itAF_some, forO_some, fnO_rt, fnO_nx, lk_zero, lk_succ, lstAt_zero, lstAt_succ, raw_v, raw_s, raw_m, raws_nil, raws_cons, valsOf_nil, valsOf_v, argsD_nil, argsD_cons, argD_v, argD_s, argD_m, gNs_nil, gNs_cons, Option.bind_some, Option.bind_none, Option.map_some, Option.map_none, List.set_cons_zero, List.set_cons_succ, List.map_cons, List.map_nil, List.cons_append, List.nil_append, Bool.false_eq_true, dAdd_i, dSub_i, addI_i, dNeg_i, dLt_i, dLe_i, dGt_i, dGe_i, dEq_i, dEq_s, dEq_b, dNe_i, dNe_s, dIsN_non, dIsN_int, dIsN_tup, dIsN_lst, dIsN_bl, dIsN_str, dNotN_non, dNotN_int, dNotN_tup, dLen_lst, dLen_tup, dLen_shr, dSum_tI, dSum_lI, dSum_sI, dInt_i, dInt_b, dAbs_i, dTuple_lI, dTuple_sI, dList_lI, dList_tI, dList_sI, dMax_2, dMin_2, mkTup_2, mkTup_3, mkLst_0, mkLst_1, mkLst_2, kit_ib, kit_ii, kit_is, kit_it, kit_bb, kit_bi, kit_tb, kit_ti, kit_ts, kit_tt, kit_nb, kit_ni, kit_ns, kit_nt, kit_sb, kit_si, kit_ss, kit_st, isi_int, isi_bl, isi_str, isi_tup, isi_non, lPop_snoc, lReverse_ints, ↓reduceIte, List.length_cons, List.length_nil, List.length_map, List.reduceReplicate, Nat.reduceSub, Bool.not_true, Bool.not_false, decide_true, decide_false, decide_eq_true_eq, Nat.reduceLeDiff, pIx_ap', atI_z, atI_o, atI_t, parS_eq, parT_some, parV_some, setS_ap, stO_some, stL_some, stT_some, augIxS_ap, pCut_ap, cuO_some, pNo_ap, pSo_ap, soO_int, freeC_ap, fcO_int, fcO_str, yesC_ap, wipeE_nil, wipeE_cons, pComp_ap, cpO_some, icB_sI, icB_tI, icB_lI, itE_sI, itE_tI, itE_lI, noM_nil, noM_v, noM_s, noMS_nil, noMS_v, noMS_c, callO_no, callO_m0, putM_nil, putM_cons, dropM_nil, dropM_cons, shares_nil, shares_cons, share_int, share_bl, share_str, share_non, share_tup, share_lst, share_shr_, shares_ints, Nat.reduceBEq, Bool.true_and, Bool.and_true, Bool.and_self, Bool.false_and, Bool.and_false, Bool.not_eq_true, Bool.not_eq_false, Bool.or_true, Bool.true_or, Bool.or_false, Bool.false_or, beq_self_eq_true, pChain_ap, dIn_lI, dIn_tI, dIn_sI, dIn_fI, dNin_lI, dNin_tI, dNin_sI, dNin_fI, compE_ap, ceO_some, restE_nil, restE_cons, rsO_none, rsO_int, forL_ap, flO_lst, flO_int, backO_nx, backO_rt, forC_ap, fcS_lst, chO_some, chB_bl, Int.natCast_zero, dMod_i, dDiv_i, dMul_i, divOk_s, mulOk_l, mulOk_r, Int.reducePow, Int.reduceNeg, Int.reduceLT, Int.reduceLE, Int.reduceEq, Int.reduceAdd, Int.reduceSub, Int.reduceMul, Nat.reduceAdd, Nat.reducePow, lC_tI, lC_sI, dLen_frz, fcO_tI, shares_eI, rgD_ru, pAnd_ap, pOr_ap, pNot_ap, anO_bl, orC_bl, noC_bl, dEqX_tI, dNeX_tI, dEqX_lI, pComp2_ap, cp2O_some, dRev_lI, dSorted_lI, dAny_lB, augLS_ap, setS2_ap, dNe_b, *])
open VT
theorem tabB_at {n : Nat} (g : Int → Int → Bool) {a b : Int} (ha : a ∈ ru n) (hb : b ∈ ru n) : ixO (ixO (some (tabB n g)) (some (.int a))) (some (.int b)) = some (.bl (g a b)) := by
  unfold tabB
  rw [ixO_lst, tabF_at (f := fun r : List Bool => D.lst (r.map .bl)) (fun a => (ru n).map (g a)) (ru_mem.mp ha).1 (ru_mem.mp ha).2, ixO_lst, tabF_at (f := D.bl) (g a) (ru_mem.mp hb).1 (ru_mem.mp hb).2]
def dW : Option Int → D
  | none => .non
  | some a => .int a
theorem pure_dW : ∀ o, (dW o).pure = true
  | none => rfl
  | some _ => rfl
theorem sd_dW : ∀ o, Sd 8 (dW o)
  | none => trivial
  | some _ => trivial
def RE (n : Nat) (V : List (List Int)) (x d t o : Option D) : FL.Env := [some (eV V), some (.int (n : Nat)), some (tabB n (wv V)), x, d, t, o]
theorem right_turn {n : Nat} {V : List (List Int)} (h : All n V) {a b : Int} (ha : a ∈ ru n) (hb : b ∈ ru n) (d t : Option D) : b_l_right_1 (RE n V (some (.int a)) d t (some (.int b))) = some (.nx (RE n V (some (.int a)) d t (some (.int b)))) := by
  have hat := tabB_at (wv V) ha hb
  have hbt := beats_eq h ha hb
  have hsm := same_refl 8 (.bl (bt V a b)) trivial
  unfold RE b_l_right_1
  by_cases e : a = b
  · subst e
    walk_at "fl"
  · have e2 : b ≠ a := fun z => e z.symm
    rw [wv_of e2] at hat
    walk_at "fl"
    rw [hat, hbt]
    walk_at "fl"
    rw [hsm]
    walk_at "fl"
    have it : ∀ c : Bool, (if c = true then some false else some false) = some false := fun c => by cases c <;> rfl
    rw [it]
    walk_at "fl"
theorem right_row {n : Nat} (hn : n ≤ 900) {V : List (List Int)} (h : All n V) {a : Int} (ha : a ∈ ru n) (d t o : Option D) : ∃ o', b_l_right_2 (RE n V (some (.int a)) d t o) = some (.nx (RE n V (some (.int a)) d t o')) := by
  obtain ⟨ρ, hl, o', rfl⟩ := forM_all_list (a := D.int) (g := gN 6) (m := b_l_right_1) (fun ρ => ∃ o', ρ = RE n V (some (.int a)) d t o') (ru n) (RE n V (some (.int a)) d t o) (by
    rintro b ρ hb ⟨o', rfl⟩
    exact ⟨RE n V (some (.int a)) d t (some (.int b)), _, rfl, right_turn h ha hb d t, _, rfl⟩) ⟨o, rfl⟩
  have hr := itR_nat (n := n) (by omega)
  rw [upto_ru] at hr
  refine ⟨o', ?_⟩
  unfold b_l_right_2
  rw [← hl]
  unfold RE
  walk_at "fl"
  rw [hr]
  walk_at "fl"
theorem due_turn {n : Nat} (h0 : 0 < n) (hn : n ≤ 900) {V : List (List Int)} {i : Nat} (hi : i < n) (t o : Option D) : b_l_right_3 (RE n V (some (.int (i : Nat))) (some (dW (((ru i).filter (win n (wv V))).getLast?))) t o) = some (.nx (RE n V (some (.int (i : Nat))) (some (dW (((ru (i + 1)).filter (win n (wv V))).getLast?))) t o)) := by
  have ha : (i : Int) ∈ ru n := ru_mem.mpr ⟨by omega, by omega⟩
  have hr := itR_nat (n := n) (by omega)
  rw [upto_ru] at hr
  have hc : cpL (compC (gN 6) (tB' (pIx (pIx (pV 2) (pV 3)) (pV 6))) (pC (.int 1)) [some (eV V), some (.int (n : Nat)), some (tabB n (wv V)), some (.int (i : Nat)), some (dW (((ru i).filter (win n (wv V))).getLast?)), t, none] ((ru n).map .int)) = some (.lst ((List.replicate ((ru n).countP (wv V i)) (1 : Int)).map .int)) := by
    rw [compC_gen (a := D.int) (c := wv V i) (f := fun _ => D.int 1) fun b hb => ⟨_, gN_ap _ _ _, by
      have := tabB_at (wv V) ha hb
      rw [tB'_ap, pIx_ap', pIx_ap']
      walk_at "fl"
      rw [this, tb_bl], fun _ => rfl⟩, cpL_of]
    · rw [List.map_const', ← List.countP_eq_length_filter, List.map_replicate]
    · rw [List.length_map]
      have := List.length_filter_le (wv V i) (ru n)
      rw [ru_len] at this
      omega
  have hw : (((ru n).countP (wv V i) : Nat) : Int) = (n : Int) - 1 ↔ win n (wv V) i = true := by
    have : (ru n).countP (wv V i) = ((ru n).filter fun o => wv V i o).length := List.countP_eq_length_filter
    unfold win
    rw [decide_eq_true_eq, this]
    omega
  rw [ru_succ, List.filter_append]
  unfold RE b_l_right_3
  by_cases w : win n (wv V) i = true
  · have e : [(i : Int)].filter (win n (wv V)) = [(i : Int)] := by simp [w]
    rw [e, List.getLast?_append]
    walk_at "fl"
    rw [hr, cpO_some, hc]
    walk_at "fl"
    rw [List.length_replicate, if_pos (hw.mpr w)]
    rfl
  · have e : [(i : Int)].filter (win n (wv V)) = [] := by simp [w]
    rw [e, List.append_nil]
    walk_at "fl"
    rw [hr, cpO_some, hc]
    walk_at "fl"
    rw [List.length_replicate, if_neg (fun z => w (hw.mp z))]
theorem right_true {n : Nat} (h0 : 0 < n) (hn : n ≤ 8) {V : List (List Int)} (h : All n V) : m_l_right [eV V, .int (n : Nat)] = some (.bl true, []) := by
  obtain ⟨S, hS, h1⟩ := top_eq h0 hn h
  obtain ⟨S', hS', h2⟩ := l_top_eq h0 hn (wv_as V)
  obtain rfl := hS.uniq hS'
  have h3 := l_table_eq (n := n) (by omega) h
  have h4 := head_eq h0 (by omega) h
  have hr := itR_nat (n := n) (by omega)
  have hr2 := hr
  rw [upto_ru] at hr2
  obtain ⟨ρ1, l1, x1, o1, rfl⟩ := forM_all_list (a := D.int) (g := gN 3) (m := b_l_right_2) (fun ρ => ∃ x o, ρ = RE n V x none none o) (ru n) (RE n V none none none none) (by
    rintro a ρ ha ⟨x, o, rfl⟩
    obtain ⟨o', g⟩ := right_row (n := n) (by omega) h ha none none o
    exact ⟨RE n V (some (.int a)) none none o, _, rfl, g, _, _, rfl⟩) ⟨none, none, rfl⟩
  obtain ⟨ρ2, l2, x2, rfl⟩ := forM_upto (g := gN 3) (m := b_l_right_3) (n := n) (ρ := RE n V x1 (some .non) none o1) (fun i ρ => ∃ x, ρ = RE n V x (some (dW (((ru i).filter (win n (wv V))).getLast?))) none o1) ⟨x1, rfl⟩ (by
    rintro i ρ hi ⟨x, rfl⟩
    exact ⟨RE n V (some (.int (i : Nat))) (some (dW (((ru i).filter (win n (wv V))).getLast?))) none o1, _, rfl, .inl (due_turn h0 (by omega) hi none o1), _, rfl⟩)
  have hsh := share_tabB n (wv V)
  have hS8 : S.length ≤ 8 := by
    have := len_sub (asc_nodup hS.asc) hS.dom.1
    rw [ru_len] at this
    omega
  have st := same_ints S (by omega)
  have dn : ∀ o, (dW o).share = dW o := fun o => D.pure_share (pure_dW o)
  unfold RE at l1 l2
  rcases filter_win (n := n) (wv_as V) (wv_ir V) with fw | ⟨a, ha, hw, fw⟩
  · have sn := same_non
    have hl1 : ¬ ((S.length : Nat) : Int) = 1 := fun z => by
      obtain ⟨a, rfl⟩ := List.length_eq_one_iff.mp (show S.length = 1 by omega)
      have ha := hS.dom.1 a (by simp)
      have := (hS.win (wv_as V) (wv_ir V) ha).mpr rfl
      have : a ∈ (ru n).filter (win n (wv V)) := List.mem_filter.mpr ⟨ha, this⟩
      rw [fw] at this; cases this
    rw [fw] at l2 h4
    have l2 := l2.trans (congrArg (fun z : D => some (Out.nx [some (eV V), some (.int (n : Nat)), some (tabB n (wv V)), x2, some z, none, o1])) (show dW ([] : List Int).getLast? = .non from rfl))
    have h4 : m_head [eV V, .int (n : Nat)] = some (.non, []) := h4
    unfold m_l_right
    rw [fnM_ap (by rfl)]
    walk_at "fl"
    rw [h3]
    walk_at "fl"
    rw [hr2]
    walk_at "fl"
    rw [l1]
    walk_at "fl"
    rw [hr]
    walk_at "fl"
    rw [l2]
    walk_at "fl"
    rw [h1]
    walk_at "fl"
    rw [h4]
    walk_at "fl"
    rw [sn]
    walk_at "fl"
    rw [hsh, h2]
    walk_at "fl"
    rw [st]
    walk_at "fl"
    rw [if_pos (decide_eq_false hl1).symm]
    walk_at "fl"
    exact finM_nil rfl
  · have hSa := (hS.win (wv_as V) (wv_ir V) ha).mp hw
    subst hSa
    have sa := same_refl 8 (.int a) trivial
    rw [fw] at l2 h4
    have l2 := l2.trans (congrArg (fun z : D => some (Out.nx [some (eV V), some (.int (n : Nat)), some (tabB n (wv V)), x2, some z, none, o1])) (show dW ([a] : List Int).getLast? = .int a from rfl))
    have h4 : m_head [eV V, .int (n : Nat)] = some (.int a, []) := h4
    unfold m_l_right
    rw [fnM_ap (by rfl)]
    walk_at "fl"
    rw [h3]
    walk_at "fl"
    rw [hr2]
    walk_at "fl"
    rw [l1]
    walk_at "fl"
    rw [hr]
    walk_at "fl"
    rw [l2]
    walk_at "fl"
    rw [h1]
    walk_at "fl"
    rw [h4]
    walk_at "fl"
    have st1 : m_l_same 8 [.tup [.int a], .tup [.int a]] = some (.bl true, []) := st
    rw [sa]
    walk_at "fl"
    rw [hsh, h2]
    walk_at "fl"
    rw [st1]
    walk_at "fl"
    have mk : mkTup [.int a] = some (.tup [.int a]) := mkTup_P (ds := [.int a]) (pures_ints [a]) (by simp)
    have eq := dEqX_tI [a] [a]
    rw [List.map_cons, List.map_nil, decide_eq_true rfl] at eq
    rw [if_pos (by decide), mk, b2_some, eq]
    walk_at "fl"
    exact finM_nil rfl

end K58
end

section
set_option Elab.async false
set_option linter.all false
set_option maxRecDepth 100000
set_option maxHeartbeats 8000000
namespace K58
open FL
local macro_rules | `(tactic| walk_at "fl") => `(tactic| simp -implicitDefEqProofs only [seqS_ap, ifS_ap, asgS_ap, gN_ap, gTupN_ap, retS_ap, exprS_ap, skipS_ap, p1_ap, p2_ap, pn_ap, psNil_ap, psCons_ap, pV_ap, pC_ap, liftE_ap, liftC_ap, pIf_ap, tB'_ap, tAnd'_ap, tOr'_ap, tNot'_ap, liftT_ap, blE_ap, andE_ap, orE_ap, notE_ap, toE_ap, toS'_ap, toM'_ap, asNil_ap, asCons_ap, opE2_ap, opE1_ap, opEn_ap, dispE_ap, ifE_ap, andV_ap, orV_ap, notV_ap, mvV_ap, mtE_ap, callE_ap, pCall_ap, itE_ap, itA_ap, icA_ap, icB_ap, forS_ap, rg1_ap, rg2_ap, fnM_ap, seqO_nx, seqO_rt, seqO_bk, seqO_ct, ifO_some, asgO_some, retO_some, exprO_some, b2_some, c2_some, ixO_tup, ixO_lst, ixO_shr, lE_some, lC_int, lC_bl, lC_str, lC_non, tb_bl, andO_some, orO_some, lT_some, bE_bl, andEO_some, orEO_some, notEO_some, tE_some, sO_some, mO_some, acO_some, acT_some, o2O_some, o2T_some, o2F_some, o1O_some, o1F_some, onO_some, onF_some, diO_some, ifEO_some, andVO_bl, orVO_bl, notVO_bl, mvO_lst, mvO_tup, mvO_shr, mtO_some, mtT_some, mtF_some, callF_some, pcF_some, itAO_some, itAF_some, forO_some, fnO_rt, fnO_nx, lk_zero, lk_succ, lstAt_zero, lstAt_succ, raw_v, raw_s, raw_m, raws_nil, raws_cons, valsOf_nil, valsOf_v, argsD_nil, argsD_cons, argD_v, argD_s, argD_m, gNs_nil, gNs_cons, Option.bind_some, Option.bind_none, Option.map_some, Option.map_none, List.set_cons_zero, List.set_cons_succ, List.map_cons, List.map_nil, List.cons_append, List.nil_append, Bool.false_eq_true, dAdd_i, dSub_i, addI_i, dNeg_i, dLt_i, dLe_i, dGt_i, dGe_i, dEq_i, dEq_s, dEq_b, dNe_i, dNe_s, dIsN_non, dIsN_int, dIsN_tup, dIsN_lst, dIsN_bl, dIsN_str, dNotN_non, dNotN_int, dNotN_tup, dLen_lst, dLen_tup, dLen_shr, dSum_tI, dSum_lI, dSum_sI, dInt_i, dInt_b, dAbs_i, dTuple_lI, dTuple_sI, dList_lI, dList_tI, dList_sI, dMax_2, dMin_2, mkTup_2, mkTup_3, mkLst_0, mkLst_1, mkLst_2, kit_ib, kit_ii, kit_is, kit_it, kit_bb, kit_bi, kit_tb, kit_ti, kit_ts, kit_tt, kit_nb, kit_ni, kit_ns, kit_nt, kit_sb, kit_si, kit_ss, kit_st, isi_int, isi_bl, isi_str, isi_tup, isi_non, lPop_snoc, lReverse_ints, ↓reduceIte, List.length_cons, List.length_nil, List.length_map, List.reduceReplicate, Nat.reduceSub, Bool.not_true, Bool.not_false, decide_true, decide_false, decide_eq_true_eq, Nat.reduceLeDiff, pIx_ap', atI_z, atI_o, atI_t, parS_eq, parT_some, parV_some, setS_ap, stO_some, stL_some, stT_some, augIxS_ap, pCut_ap, cuO_some, pNo_ap, pSo_ap, soO_int, freeC_ap, fcO_int, fcO_str, yesC_ap, wipeE_nil, wipeE_cons, pComp_ap, cpO_some, icB_sI, icB_tI, icB_lI, itE_sI, itE_tI, itE_lI, noM_nil, noM_v, noM_s, noMS_nil, noMS_v, noMS_c, callO_no, callO_m0, putM_nil, putM_cons, dropM_nil, dropM_cons, shares_nil, shares_cons, share_int, share_bl, share_str, share_non, share_tup, share_lst, share_shr_, shares_ints, Nat.reduceBEq, Bool.true_and, Bool.and_true, Bool.and_self, Bool.false_and, Bool.and_false, Bool.not_eq_true, Bool.not_eq_false, Bool.or_true, Bool.true_or, Bool.or_false, Bool.false_or, beq_self_eq_true, pChain_ap, dIn_lI, dIn_tI, dIn_sI, dIn_fI, dNin_lI, dNin_tI, dNin_sI, dNin_fI, compE_ap, ceO_some, restE_nil, restE_cons, rsO_none, rsO_int, forL_ap, flO_lst, flO_int, backO_nx, backO_rt, forC_ap, fcS_lst, chO_some, chB_bl, Int.natCast_zero, dMod_i, dDiv_i, dMul_i, divOk_s, mulOk_l, mulOk_r, Int.reducePow, Int.reduceNeg, Int.reduceLT, Int.reduceLE, Int.reduceEq, Int.reduceAdd, Int.reduceSub, Int.reduceMul, Nat.reduceAdd, Nat.reducePow, lC_tI, lC_sI, dLen_frz, fcO_tI, shares_eI, rgD_ru, pAnd_ap, pOr_ap, pNot_ap, anO_bl, orC_bl, noC_bl, dEqX_tI, dNeX_tI, dEqX_lI, pComp2_ap, cp2O_some, dRev_lI, dSorted_lI, dAny_lB, augLS_ap, setS2_ap, dNe_b])
local macro_rules | `(tactic| walk_at "fl*") => `(tactic| simp -implicitDefEqProofs only [seqS_ap, ifS_ap, asgS_ap, gN_ap, gTupN_ap, retS_ap, exprS_ap, skipS_ap, p1_ap, p2_ap, pn_ap, psNil_ap, psCons_ap, pV_ap, pC_ap, liftE_ap, liftC_ap, pIf_ap, tB'_ap, tAnd'_ap, tOr'_ap, tNot'_ap, liftT_ap, blE_ap, andE_ap, orE_ap, notE_ap, toE_ap, toS'_ap, toM'_ap, asNil_ap, asCons_ap, opE2_ap, opE1_ap, opEn_ap, dispE_ap, ifE_ap, andV_ap, orV_ap, notV_ap, mvV_ap, mtE_ap, callE_ap, pCall_ap, itE_ap, itA_ap, icA_ap, icB_ap, forS_ap, rg1_ap, rg2_ap, fnM_ap, seqO_nx, seqO_rt, seqO_bk, seqO_ct, ifO_some, asgO_some, retO_some, exprO_some, b2_some, c2_some, ixO_tup, ixO_lst, ixO_shr, lE_some, lC_int, lC_bl, lC_str, lC_non, tb_bl, andO_some, orO_some, lT_some, bE_bl, andEO_some, orEO_some, notEO_some, tE_some, sO_some, mO_some, acO_some, acT_some, o2O_some, o2T_some, o2F_some, o1O_some, o1F_some, onO_some, onF_some, diO_some, ifEO_some, andVO_bl, orVO_bl, notVO_bl, mvO_lst, mvO_tup, mvO_shr, mtO_some, mtT_some, mtF_some, callF_some, pcF_some, itAO_some, itAF_some, forO_some, fnO_rt, fnO_nx, lk_zero, lk_succ, lstAt_zero, lstAt_succ, raw_v, raw_s, raw_m, raws_nil, raws_cons, valsOf_nil, valsOf_v, argsD_nil, argsD_cons, argD_v, argD_s, argD_m, gNs_nil, gNs_cons, Option.bind_some, Option.bind_none, Option.map_some, Option.map_none, List.set_cons_zero, List.set_cons_succ, List.map_cons, List.map_nil, List.cons_append, List.nil_append, Bool.false_eq_true, dAdd_i, dSub_i, addI_i, dNeg_i, dLt_i, dLe_i, dGt_i, dGe_i, dEq_i, dEq_s, dEq_b, dNe_i, dNe_s, dIsN_non, dIsN_int, dIsN_tup, dIsN_lst, dIsN_bl, dIsN_str, dNotN_non, dNotN_int, dNotN_tup, dLen_lst, dLen_tup, dLen_shr, dSum_tI, dSum_lI, dSum_sI, dInt_i, dInt_b, dAbs_i, dTuple_lI, dTuple_sI, dList_lI, dList_tI, dList_sI, dMax_2, dMin_2, mkTup_2, mkTup_3, mkLst_0, mkLst_1, mkLst_2, kit_ib, kit_ii, kit_is, kit_it, kit_bb, kit_bi, kit_tb, kit_ti, kit_ts, kit_tt, kit_nb, kit_ni, kit_ns, kit_nt, kit_sb, kit_si, kit_ss, kit_st, isi_int, isi_bl, isi_str, isi_tup, isi_non, lPop_snoc, lReverse_ints, ↓reduceIte, List.length_cons, List.length_nil, List.length_map, List.reduceReplicate, Nat.reduceSub, Bool.not_true, Bool.not_false, decide_true, decide_false, decide_eq_true_eq, Nat.reduceLeDiff, pIx_ap', atI_z, atI_o, atI_t, parS_eq, parT_some, parV_some, setS_ap, stO_some, stL_some, stT_some, augIxS_ap, pCut_ap, cuO_some, pNo_ap, pSo_ap, soO_int, freeC_ap, fcO_int, fcO_str, yesC_ap, wipeE_nil, wipeE_cons, pComp_ap, cpO_some, icB_sI, icB_tI, icB_lI, itE_sI, itE_tI, itE_lI, noM_nil, noM_v, noM_s, noMS_nil, noMS_v, noMS_c, callO_no, callO_m0, putM_nil, putM_cons, dropM_nil, dropM_cons, shares_nil, shares_cons, share_int, share_bl, share_str, share_non, share_tup, share_lst, share_shr_, shares_ints, Nat.reduceBEq, Bool.true_and, Bool.and_true, Bool.and_self, Bool.false_and, Bool.and_false, Bool.not_eq_true, Bool.not_eq_false, Bool.or_true, Bool.true_or, Bool.or_false, Bool.false_or, beq_self_eq_true, pChain_ap, dIn_lI, dIn_tI, dIn_sI, dIn_fI, dNin_lI, dNin_tI, dNin_sI, dNin_fI, compE_ap, ceO_some, restE_nil, restE_cons, rsO_none, rsO_int, forL_ap, flO_lst, flO_int, backO_nx, backO_rt, forC_ap, fcS_lst, chO_some, chB_bl, Int.natCast_zero, dMod_i, dDiv_i, dMul_i, divOk_s, mulOk_l, mulOk_r, Int.reducePow, Int.reduceNeg, Int.reduceLT, Int.reduceLE, Int.reduceEq, Int.reduceAdd, Int.reduceSub, Int.reduceMul, Nat.reduceAdd, Nat.reducePow, lC_tI, lC_sI, dLen_frz, fcO_tI, shares_eI, rgD_ru, pAnd_ap, pOr_ap, pNot_ap, anO_bl, orC_bl, noC_bl, dEqX_tI, dNeX_tI, dEqX_lI, pComp2_ap, cp2O_some, dRev_lI, dSorted_lI, dAny_lB, augLS_ap, setS2_ap, dNe_b, *])
open VT
structure Ord (n : Nat) (v : List Int) : Prop where
  pm : v.Perm (ru n)
theorem ord_mem {n : Nat} {v : List Int} (h : v.Perm (ru n)) {x : Int} : x ∈ v ↔ x ∈ ru n := h.mem_iff
theorem ord_nd {n : Nat} {v : List Int} (h : v.Perm (ru n)) : v.Nodup := h.nodup_iff.mpr (ru_nodup n)
theorem ord_len {n : Nat} {v : List Int} (h : v.Perm (ru n)) : v.length = n := by rw [h.length_eq, ru_len]
theorem rank0 {n : Nat} (h0 : 0 < n) {v line : List Int} (hv : v.Perm (ru n)) (hl : line.Perm (ru n)) : (0 : Int) ∈ ranks v line := by
  have l := ord_len hv
  have m : v[0] ∈ line := (ord_mem hl).mpr ((ord_mem hv).mp (List.getElem_mem (by omega)))
  refine List.mem_map.mpr ⟨v[0], m, ?_⟩
  have := (ord_nd hv).idxOf_getElem 0 (by omega)
  rw [this]; rfl
theorem ranks_comp {n : Nat} (hn : n ≤ 900) {v line : List Int} (hv : v.Perm (ru n)) (hl : line.Perm (ru n)) (g : D → FL.Env → Option FL.Env) (p : FL.Env → Option D) (ρ : FL.Env) (hp : ∀ c : Int, ∃ ρ1, g (.int c) ρ = some ρ1 ∧ p ρ1 = dIndex (.tup (v.map .int)) (.int c)) : cpL (compC g yesC p ρ (line.map .int)) = some (.lst ((ranks v line).map .int)) := by
  rw [comp_map (a := D.int) (fun c => D.int (v.idxOf c : Nat)) (fun c hc => ?_) (by rw [ord_len hl]; omega)]
  · unfold ranks
    rw [List.map_map]; rfl
  · obtain ⟨ρ1, h1, h2⟩ := hp c
    exact ⟨ρ1, h1, by rw [h2, index_tI ((ord_mem hv).mpr ((ord_mem hl).mp hc))]⟩
theorem falls_from_eq {n : Nat} (h0 : 0 < n) (hn : n ≤ 900) {v line : List Int} (hv : v.Perm (ru n)) (hl : line.Perm (ru n)) : m_falls_from [.tup (v.map .int), .tup (line.map .int)] = some (.bl (falls v line), []) := by
  have r0 := rank0 h0 hv hl
  have hc := ranks_comp hn hv hl (gN 6) (p2 dIndex (pV 0) (pV 6)) [some (.tup (v.map .int)), some (.tup (line.map .int)), none, none, none, none, none] fun c => ⟨_, gN_ap _ _ _, by walk_at "fl"⟩
  have hx := index_lI r0
  have c1 := cutHi_l pure_int (ranks v line) (k := (((ranks v line).idxOf 0 : Nat) : Int) + 1) (by omega)
  have c2 := cutLo_l pure_int (ranks v line) (k := (((ranks v line).idxOf 0 : Nat) : Int)) (by omega)
  have t1 : ((((ranks v line).idxOf 0 : Nat) : Int) + 1).toNat = (ranks v line).idxOf 0 + 1 := by omega
  rw [t1] at c1
  rw [Int.toNat_natCast] at c2
  have e := fallsP_eq (ord_nd hv) (ord_nd hl) (fun x hx => (ord_mem hv).mpr ((ord_mem hl).mp hx)) r0
  rw [← e]
  unfold fallsP m_falls_from
  rw [fnM_ap (by rfl)]
  walk_at "fl"
  rw [hc]
  walk_at "fl"
  rw [hx]
  walk_at "fl"
  rw [c1]
  walk_at "fl"
  rw [c2]
  walk_at "fl"
  by_cases q : (ranks v line).take ((ranks v line).idxOf 0 + 1) = (iSort ((ranks v line).take ((ranks v line).idxOf 0 + 1))).reverse
  · rw [if_pos q, decide_eq_true q, Bool.true_and]
    exact finM_nil rfl
  · rw [if_neg q, decide_eq_false q, Bool.false_and]
    exact finM_nil rfl
theorem range_all (n : Nat) (P : Nat → Bool) : (List.range n).all P = decide (∀ a, a < n → P a = true) := by
  rw [Bool.eq_iff_iff, List.all_eq_true, decide_eq_true_eq]
  exact ⟨fun h a ha => h a (List.mem_range.mpr ha), fun h a ha => h a (List.mem_range.mp ha)⟩
theorem l_falls_eq {n : Nat} (h0 : 0 < n) (hn : n ≤ 900) {v line : List Int} (hv : v.Perm (ru n)) (hl : line.Perm (ru n)) : m_l_falls [.tup (v.map .int), .tup (line.map .int)] = some (.bl (falls v line), []) := by
  have r0 := rank0 h0 hv hl
  have rl : (ranks v line).length = n := by rw [ranks_len, ord_len hl]
  have ll := ord_len hl
  have hc := ranks_comp hn hv hl (gN 5) (p2 dIndex (pV 0) (pV 5)) [some (.tup (v.map .int)), some (.tup (line.map .int)), none, none, none, none] fun c => ⟨_, gN_ap _ _ _, by walk_at "fl"⟩
  have hx := index_lI r0
  have hi := itR_nat (n := n - 1) (by omega)
  have hc1 : ((n - 1 : Nat) : Int) = (n : Int) - 1 := by omega
  rw [hc1] at hi
  obtain ⟨ρ', hl2, x, rfl⟩ := forM_all (g := gN 4) (m := b_l_falls_1) (n := n - 1) (ρ := [some (.tup (v.map .int)), some (.tup (line.map .int)), some (.lst ((ranks v line).map .int)), some (.int ((ranks v line).idxOf 0 : Nat)), none, none])
    (fun ρ => ∃ x, ρ = [some (.tup (v.map .int)), some (.tup (line.map .int)), some (.lst ((ranks v line).map .int)), some (.int ((ranks v line).idxOf 0 : Nat)), x, none]) (fun a => decide (decide (v.idxOf (line.getD a 0) < v.idxOf (line.getD (a + 1) 0)) = decide ((ranks v line).idxOf 0 ≤ a))) ⟨none, rfl⟩ (by
    rintro a ρ ha ⟨x, rfl⟩
    refine ⟨_, [some (.tup (v.map .int)), some (.tup (line.map .int)), some (.lst ((ranks v line).map .int)), some (.int ((ranks v line).idxOf 0 : Nat)), some (.int (a : Nat)), none], gN_ap _ _ _, ?_, _, rfl⟩
    have a1 := atI_int (ns := ranks v line) (j := a) (by omega)
    have a2 := atI_int (ns := ranks v line) (j := a + 1) (by omega)
    rw [ranks_get (by omega)] at a1 a2
    have ca : ((a + 1 : Nat) : Int) = (a : Int) + 1 := by omega
    rw [ca] at a2
    have d1 : decide (((v.idxOf (line.getD a 0) : Nat) : Int) < ((v.idxOf (line.getD (a + 1) 0) : Nat) : Int)) = decide (v.idxOf (line.getD a 0) < v.idxOf (line.getD (a + 1) 0)) := decide_eq_decide.mpr (by omega)
    have d2 : decide ((a : Int) ≥ (((ranks v line).idxOf 0 : Nat) : Int)) = decide ((ranks v line).idxOf 0 ≤ a) := decide_eq_decide.mpr (by omega)
    have d3 : decide ((((ranks v line).idxOf 0 : Nat) : Int) ≤ (a : Int)) = decide ((ranks v line).idxOf 0 ≤ a) := decide_eq_decide.mpr (by omega)
    unfold b_l_falls_1
    walk_at "fl"
    rw [a1, a2, b2_some, dLt_i, d1]
    walk_at "fl"
    first | rw [d2] | rw [d3] | skip
    generalize decide (v.idxOf (line.getD a 0) < v.idxOf (line.getD (a + 1) 0)) = b1
    generalize decide ((ranks v line).idxOf 0 ≤ a) = b2
    cases b1 <;> cases b2 <;> rfl)
  have fe : (List.range (n - 1)).all (fun a => decide (decide (v.idxOf (line.getD a 0) < v.idxOf (line.getD (a + 1) 0)) = decide ((ranks v line).idxOf 0 ≤ a))) = falls v line := by
    rw [range_all]
    unfold falls
    rw [ll]
    exact decide_eq_decide.mpr ⟨fun h a ha => of_decide_eq_true (h a ha), fun h a ha => decide_eq_true (h a ha)⟩
  rw [fe] at hl2
  unfold m_l_falls
  rw [fnM_ap (by rfl)]
  walk_at "fl"
  rw [hc]
  walk_at "fl"
  rw [hx]
  walk_at "fl"
  rw [rl, hi]
  walk_at "fl"
  rw [hl2]
  cases falls v line
  · rw [if_neg Bool.false_ne_true]
    walk_at "fl"
    exact finM_nil rfl
  · rw [if_pos rfl]
    walk_at "fl"
    exact finM_nil rfl
theorem fits_line_eq {n : Nat} (h0 : 0 < n) (hn : n ≤ 900) {V : List (List Int)} (hV : ∀ v, v ∈ V → v.Perm (ru n)) {line : List Int} (hl : line.Perm (ru n)) : m_fits_line [.tup (V.map fun ns => .tup (ns.map .int)), .tup (line.map .int)] = some (.bl (V.all fun v => falls v line), []) := by
  obtain ⟨ρ', hl2, x, rfl⟩ := forM_allX (a := fun ns : List Int => D.tup (ns.map .int)) (g := gN 2) (m := b_fits_line_1) (fun ρ => ∃ x, ρ = [some (.tup (V.map fun ns => .tup (ns.map .int))), some (.tup (line.map .int)), x]) (fun v => falls v line) V (by
    rintro v ρ hv ⟨x, rfl⟩
    refine ⟨_, [some (.tup (V.map fun ns => .tup (ns.map .int))), some (.tup (line.map .int)), some (.tup (v.map .int))], gN_ap _ _ _, ?_, _, rfl⟩
    have := falls_from_eq h0 hn (hV v hv) hl
    unfold b_fits_line_1
    walk_at "fl"
    rw [this]
    walk_at "fl"
    cases falls v line <;> rfl) [some (.tup (V.map fun ns => .tup (ns.map .int))), some (.tup (line.map .int)), none] ⟨none, rfl⟩
  have hit := fun ρ => itEO_tP (pures_eI V) ρ
  have hlc := fun ρ => lC_P (pure_eW V) ρ
  unfold m_fits_line
  rw [fnM_ap (by rfl)]
  walk_at "fl"
  rw [hlc, hit]
  walk_at "fl"
  rw [hl2]
  cases V.all fun v => falls v line
  · rw [if_neg Bool.false_ne_true]
    walk_at "fl"
    exact finM_nil rfl
  · rw [if_pos rfl]
    walk_at "fl"
    exact finM_nil rfl
theorem l_fits_eq {n : Nat} (h0 : 0 < n) (hn : n ≤ 900) {V : List (List Int)} (hV : ∀ v, v ∈ V → v.Perm (ru n)) {line : List Int} (hl : line.Perm (ru n)) : m_l_fits [.tup (V.map fun ns => .tup (ns.map .int)), .tup (line.map .int)] = some (.bl (V.all fun v => falls v line), []) := by
  obtain ⟨ρ', hl2, x, rfl⟩ := forM_allX (a := fun ns : List Int => D.tup (ns.map .int)) (g := gN 2) (m := b_l_fits_1) (fun ρ => ∃ x, ρ = [some (.tup (V.map fun ns => .tup (ns.map .int))), some (.tup (line.map .int)), x]) (fun v => falls v line) V (by
    rintro v ρ hv ⟨x, rfl⟩
    refine ⟨_, [some (.tup (V.map fun ns => .tup (ns.map .int))), some (.tup (line.map .int)), some (.tup (v.map .int))], gN_ap _ _ _, ?_, _, rfl⟩
    have := l_falls_eq h0 hn (hV v hv) hl
    unfold b_l_fits_1
    walk_at "fl"
    rw [this]
    walk_at "fl"
    cases falls v line <;> rfl) [some (.tup (V.map fun ns => .tup (ns.map .int))), some (.tup (line.map .int)), none] ⟨none, rfl⟩
  have hit := fun ρ => itEO_tP (pures_eI V) ρ
  have hlc := fun ρ => lC_P (pure_eW V) ρ
  unfold m_l_fits
  rw [fnM_ap (by rfl)]
  walk_at "fl"
  rw [hlc, hit]
  walk_at "fl"
  rw [hl2]
  cases V.all fun v => falls v line
  · rw [if_neg Bool.false_ne_true]
    walk_at "fl"
    exact finM_nil rfl
  · rw [if_pos rfl]
    walk_at "fl"
    exact finM_nil rfl

end K58
end

section
set_option Elab.async false
set_option linter.all false
set_option maxRecDepth 100000
set_option maxHeartbeats 8000000
namespace K58
open FL
local macro_rules | `(tactic| walk_at "fl") => `(tactic| simp -implicitDefEqProofs only [seqS_ap, ifS_ap, asgS_ap, gN_ap, gTupN_ap, retS_ap, exprS_ap, skipS_ap, p1_ap, p2_ap, pn_ap, psNil_ap, psCons_ap, pV_ap, pC_ap, liftE_ap, liftC_ap, pIf_ap, tB'_ap, tAnd'_ap, tOr'_ap, tNot'_ap, liftT_ap, blE_ap, andE_ap, orE_ap, notE_ap, toE_ap, toS'_ap, toM'_ap, asNil_ap, asCons_ap, opE2_ap, opE1_ap, opEn_ap, dispE_ap, ifE_ap, andV_ap, orV_ap, notV_ap, mvV_ap, mtE_ap, callE_ap, pCall_ap, itE_ap, itA_ap, icA_ap, icB_ap, forS_ap, rg1_ap, rg2_ap, fnM_ap, seqO_nx, seqO_rt, seqO_bk, seqO_ct, ifO_some, asgO_some, retO_some, exprO_some, b2_some, c2_some, ixO_tup, ixO_lst, ixO_shr, lE_some, lC_int, lC_bl, lC_str, lC_non, tb_bl, andO_some, orO_some, lT_some, bE_bl, andEO_some, orEO_some, notEO_some, tE_some, sO_some, mO_some, acO_some, acT_some, o2O_some, o2T_some, o2F_some, o1O_some, o1F_some, onO_some, onF_some, diO_some, ifEO_some, andVO_bl, orVO_bl, notVO_bl, mvO_lst, mvO_tup, mvO_shr, mtO_some, mtT_some, mtF_some, callF_some, pcF_some, itAO_some, itAF_some, forO_some, fnO_rt, fnO_nx, lk_zero, lk_succ, lstAt_zero, lstAt_succ, raw_v, raw_s, raw_m, raws_nil, raws_cons, valsOf_nil, valsOf_v, argsD_nil, argsD_cons, argD_v, argD_s, argD_m, gNs_nil, gNs_cons, Option.bind_some, Option.bind_none, Option.map_some, Option.map_none, List.set_cons_zero, List.set_cons_succ, List.map_cons, List.map_nil, List.cons_append, List.nil_append, Bool.false_eq_true, dAdd_i, dSub_i, addI_i, dNeg_i, dLt_i, dLe_i, dGt_i, dGe_i, dEq_i, dEq_s, dEq_b, dNe_i, dNe_s, dIsN_non, dIsN_int, dIsN_tup, dIsN_lst, dIsN_bl, dIsN_str, dNotN_non, dNotN_int, dNotN_tup, dLen_lst, dLen_tup, dLen_shr, dSum_tI, dSum_lI, dSum_sI, dInt_i, dInt_b, dAbs_i, dTuple_lI, dTuple_sI, dList_lI, dList_tI, dList_sI, dMax_2, dMin_2, mkTup_2, mkTup_3, mkLst_0, mkLst_1, mkLst_2, kit_ib, kit_ii, kit_is, kit_it, kit_bb, kit_bi, kit_tb, kit_ti, kit_ts, kit_tt, kit_nb, kit_ni, kit_ns, kit_nt, kit_sb, kit_si, kit_ss, kit_st, isi_int, isi_bl, isi_str, isi_tup, isi_non, lPop_snoc, lReverse_ints, ↓reduceIte, List.length_cons, List.length_nil, List.length_map, List.reduceReplicate, Nat.reduceSub, Bool.not_true, Bool.not_false, decide_true, decide_false, decide_eq_true_eq, Nat.reduceLeDiff, pIx_ap', atI_z, atI_o, atI_t, parS_eq, parT_some, parV_some, setS_ap, stO_some, stL_some, stT_some, augIxS_ap, pCut_ap, cuO_some, pNo_ap, pSo_ap, soO_int, freeC_ap, fcO_int, fcO_str, yesC_ap, wipeE_nil, wipeE_cons, pComp_ap, cpO_some, icB_sI, icB_tI, icB_lI, itE_sI, itE_tI, itE_lI, noM_nil, noM_v, noM_s, noMS_nil, noMS_v, noMS_c, callO_no, callO_m0, putM_nil, putM_cons, dropM_nil, dropM_cons, shares_nil, shares_cons, share_int, share_bl, share_str, share_non, share_tup, share_lst, share_shr_, shares_ints, Nat.reduceBEq, Bool.true_and, Bool.and_true, Bool.and_self, Bool.false_and, Bool.and_false, Bool.not_eq_true, Bool.not_eq_false, Bool.or_true, Bool.true_or, Bool.or_false, Bool.false_or, beq_self_eq_true, pChain_ap, dIn_lI, dIn_tI, dIn_sI, dIn_fI, dNin_lI, dNin_tI, dNin_sI, dNin_fI, compE_ap, ceO_some, restE_nil, restE_cons, rsO_none, rsO_int, forL_ap, flO_lst, flO_int, backO_nx, backO_rt, forC_ap, fcS_lst, chO_some, chB_bl, Int.natCast_zero, dMod_i, dDiv_i, dMul_i, divOk_s, mulOk_l, mulOk_r, Int.reducePow, Int.reduceNeg, Int.reduceLT, Int.reduceLE, Int.reduceEq, Int.reduceAdd, Int.reduceSub, Int.reduceMul, Nat.reduceAdd, Nat.reducePow, lC_tI, lC_sI, dLen_frz, fcO_tI, shares_eI, rgD_ru, pAnd_ap, pOr_ap, pNot_ap, anO_bl, orC_bl, noC_bl, dEqX_tI, dNeX_tI, dEqX_lI, pComp2_ap, cp2O_some, dRev_lI, dSorted_lI, dAny_lB, augLS_ap, setS2_ap, dNe_b])
local macro_rules | `(tactic| walk_at "fl*") => `(tactic| simp -implicitDefEqProofs only [seqS_ap, ifS_ap, asgS_ap, gN_ap, gTupN_ap, retS_ap, exprS_ap, skipS_ap, p1_ap, p2_ap, pn_ap, psNil_ap, psCons_ap, pV_ap, pC_ap, liftE_ap, liftC_ap, pIf_ap, tB'_ap, tAnd'_ap, tOr'_ap, tNot'_ap, liftT_ap, blE_ap, andE_ap, orE_ap, notE_ap, toE_ap, toS'_ap, toM'_ap, asNil_ap, asCons_ap, opE2_ap, opE1_ap, opEn_ap, dispE_ap, ifE_ap, andV_ap, orV_ap, notV_ap, mvV_ap, mtE_ap, callE_ap, pCall_ap, itE_ap, itA_ap, icA_ap, icB_ap, forS_ap, rg1_ap, rg2_ap, fnM_ap, seqO_nx, seqO_rt, seqO_bk, seqO_ct, ifO_some, asgO_some, retO_some, exprO_some, b2_some, c2_some, ixO_tup, ixO_lst, ixO_shr, lE_some, lC_int, lC_bl, lC_str, lC_non, tb_bl, andO_some, orO_some, lT_some, bE_bl, andEO_some, orEO_some, notEO_some, tE_some, sO_some, mO_some, acO_some, acT_some, o2O_some, o2T_some, o2F_some, o1O_some, o1F_some, onO_some, onF_some, diO_some, ifEO_some, andVO_bl, orVO_bl, notVO_bl, mvO_lst, mvO_tup, mvO_shr, mtO_some, mtT_some, mtF_some, callF_some, pcF_some, itAO_some, itAF_some, forO_some, fnO_rt, fnO_nx, lk_zero, lk_succ, lstAt_zero, lstAt_succ, raw_v, raw_s, raw_m, raws_nil, raws_cons, valsOf_nil, valsOf_v, argsD_nil, argsD_cons, argD_v, argD_s, argD_m, gNs_nil, gNs_cons, Option.bind_some, Option.bind_none, Option.map_some, Option.map_none, List.set_cons_zero, List.set_cons_succ, List.map_cons, List.map_nil, List.cons_append, List.nil_append, Bool.false_eq_true, dAdd_i, dSub_i, addI_i, dNeg_i, dLt_i, dLe_i, dGt_i, dGe_i, dEq_i, dEq_s, dEq_b, dNe_i, dNe_s, dIsN_non, dIsN_int, dIsN_tup, dIsN_lst, dIsN_bl, dIsN_str, dNotN_non, dNotN_int, dNotN_tup, dLen_lst, dLen_tup, dLen_shr, dSum_tI, dSum_lI, dSum_sI, dInt_i, dInt_b, dAbs_i, dTuple_lI, dTuple_sI, dList_lI, dList_tI, dList_sI, dMax_2, dMin_2, mkTup_2, mkTup_3, mkLst_0, mkLst_1, mkLst_2, kit_ib, kit_ii, kit_is, kit_it, kit_bb, kit_bi, kit_tb, kit_ti, kit_ts, kit_tt, kit_nb, kit_ni, kit_ns, kit_nt, kit_sb, kit_si, kit_ss, kit_st, isi_int, isi_bl, isi_str, isi_tup, isi_non, lPop_snoc, lReverse_ints, ↓reduceIte, List.length_cons, List.length_nil, List.length_map, List.reduceReplicate, Nat.reduceSub, Bool.not_true, Bool.not_false, decide_true, decide_false, decide_eq_true_eq, Nat.reduceLeDiff, pIx_ap', atI_z, atI_o, atI_t, parS_eq, parT_some, parV_some, setS_ap, stO_some, stL_some, stT_some, augIxS_ap, pCut_ap, cuO_some, pNo_ap, pSo_ap, soO_int, freeC_ap, fcO_int, fcO_str, yesC_ap, wipeE_nil, wipeE_cons, pComp_ap, cpO_some, icB_sI, icB_tI, icB_lI, itE_sI, itE_tI, itE_lI, noM_nil, noM_v, noM_s, noMS_nil, noMS_v, noMS_c, callO_no, callO_m0, putM_nil, putM_cons, dropM_nil, dropM_cons, shares_nil, shares_cons, share_int, share_bl, share_str, share_non, share_tup, share_lst, share_shr_, shares_ints, Nat.reduceBEq, Bool.true_and, Bool.and_true, Bool.and_self, Bool.false_and, Bool.and_false, Bool.not_eq_true, Bool.not_eq_false, Bool.or_true, Bool.true_or, Bool.or_false, Bool.false_or, beq_self_eq_true, pChain_ap, dIn_lI, dIn_tI, dIn_sI, dIn_fI, dNin_lI, dNin_tI, dNin_sI, dNin_fI, compE_ap, ceO_some, restE_nil, restE_cons, rsO_none, rsO_int, forL_ap, flO_lst, flO_int, backO_nx, backO_rt, forC_ap, fcS_lst, chO_some, chB_bl, Int.natCast_zero, dMod_i, dDiv_i, dMul_i, divOk_s, mulOk_l, mulOk_r, Int.reducePow, Int.reduceNeg, Int.reduceLT, Int.reduceLE, Int.reduceEq, Int.reduceAdd, Int.reduceSub, Int.reduceMul, Nat.reduceAdd, Nat.reducePow, lC_tI, lC_sI, dLen_frz, fcO_tI, shares_eI, rgD_ru, pAnd_ap, pOr_ap, pNot_ap, anO_bl, orC_bl, noC_bl, dEqX_tI, dNeX_tI, dEqX_lI, pComp2_ap, cp2O_some, dRev_lI, dSorted_lI, dAny_lB, augLS_ap, setS2_ap, dNe_b, *])
open VT
/-- a list of ints, lent or a tuple -/
structure Seq (d : D) (xs : List Int) : Prop where
  len : dLen [d] = some (.int (xs.length : Nat))
  at_ : ∀ i : Nat, i < xs.length → ixO (some d) (some (.int (i : Nat))) = some (.int (xs.getD i 0))
theorem seq_shr (xs : List Int) : Seq (.shr (xs.map .int)) xs := ⟨by rw [dLen_shr, List.length_map], fun i h => by
  rw [ixO_shr, atI_int h, List.getD_eq_getElem?_getD, List.getElem?_eq_getElem h]; rfl⟩
theorem seq_tup (xs : List Int) : Seq (.tup (xs.map .int)) xs := ⟨by rw [dLen_tup, List.length_map], fun i h => by
  rw [ixO_tup, atI_int h, List.getD_eq_getElem?_getD, List.getElem?_eq_getElem h]; rfl⟩
def KE (n many : Nat) (ds : List Int) (d : D) (V : List (List Int)) (x : Option D) (l r v num s : Option D) : FL.Env := [some (.lst (ds.map .int)), some d, some (.int (many : Nat)), some (.lst (V.map fun ns => .tup (ns.map .int))), x, l, r, v, num, s]
theorem pk_turn {n many : Nat} (hn : n ≤ 900) {d : D} {line : List Int} (hd : Seq d line) (hl : line.Perm (ru n)) (ds : List Int) (V : List (List Int)) (x : Option D) {p l r : Nat} {v : List Int} (h : PkI line p l r v) (hk : r - l < n) (num : Int) (s : Option D) :
    ∃ (l' r' : Nat) (v' : List Int) (num' : Int), PkI line p l' r' v' ∧ r' - l' = r - l + 1 ∧ b_l_peaked_1 (KE n many ds d V x (some (.int (l : Nat))) (some (.int (r : Nat))) (some (.lst (v.map .int))) (some (.int num)) s) = some (.nx (KE n many ds d V x (some (.int (l' : Nat))) (some (.int (r' : Nat))) (some (.lst (v'.map .int))) (some (.int num')) s)) := by
  have ll : line.length = n := by rw [hl.length_eq, ru_len]
  have nd : line.Nodup := hl.nodup_iff.mpr (ru_nodup n)
  have lp := h.lp
  have pr := h.pr
  have rn := h.rn
  have vl := h.len
  have dl := hd.len
  have left : 0 < l → (∀ c : Bool, c = true → ∃ (l' r' : Nat) (v' : List Int) (num' : Int), PkI line p l' r' v' ∧ r' - l' = r - l + 1 ∧ seqO (ifO (some (c, KE n many ds d V x (some (.int (l : Nat))) (some (.int (r : Nat))) (some (.lst (v.map .int))) (some (.int num)) s)) (seqS (asgS (liftE (p2 dSub (pV 5) (pC (.int 1)))) (gN 5))
    (exprS (mtE 7 lAppend (asCons (toE (liftC (pIx (pV 1) (pV 5)))) asNil)))) (seqS (exprS (mtE 7 lAppend (asCons (toE (liftC (pIx (pV 1) (pV 6)))) asNil))) (asgS (liftE (p2 dAdd (pV 6) (pC (.int 1)))) (gN 6)))) (asgS (liftE (p2 dDiv (pV 8) (pC (.int 2)))) (gN 8)) = some (.nx (KE n many ds d V x (some (.int (l' : Nat))) (some (.int (r' : Nat))) (some (.lst (v'.map .int))) (some (.int num')) s))) := fun hl0 c hc => by
    subst hc
    refine ⟨l - 1, r, v ++ [line.getD (l - 1) 0], num / 2, h.left nd hl0, by omega, ?_⟩
    have a := hd.at_ (l - 1) (by omega)
    have cl : ((l - 1 : Nat) : Int) = (l : Int) - 1 := by omega
    have ap := app_int (ds := v) (by omega) (line.getD (l - 1) 0)
    rw [cl] at a
    unfold KE
    walk_at "fl"
    rw [a]
    walk_at "fl"
    rw [ap]
    walk_at "fl"
    rw [cl]
  have right : r < n → (∀ c : Bool, c = false → ∃ (l' r' : Nat) (v' : List Int) (num' : Int), PkI line p l' r' v' ∧ r' - l' = r - l + 1 ∧ seqO (ifO (some (c, KE n many ds d V x (some (.int (l : Nat))) (some (.int (r : Nat))) (some (.lst (v.map .int))) (some (.int num)) s)) (seqS (asgS (liftE (p2 dSub (pV 5) (pC (.int 1)))) (gN 5))
    (exprS (mtE 7 lAppend (asCons (toE (liftC (pIx (pV 1) (pV 5)))) asNil)))) (seqS (exprS (mtE 7 lAppend (asCons (toE (liftC (pIx (pV 1) (pV 6)))) asNil))) (asgS (liftE (p2 dAdd (pV 6) (pC (.int 1)))) (gN 6)))) (asgS (liftE (p2 dDiv (pV 8) (pC (.int 2)))) (gN 8)) = some (.nx (KE n many ds d V x (some (.int (l' : Nat))) (some (.int (r' : Nat))) (some (.lst (v'.map .int))) (some (.int num')) s))) := fun hr c hc => by
    subst hc
    refine ⟨l, r + 1, v ++ [line.getD r 0], num / 2, h.right nd (by omega), by omega, ?_⟩
    have a := hd.at_ r (by omega)
    have cl : ((r + 1 : Nat) : Int) = (r : Int) + 1 := by omega
    have ap := app_int (ds := v) (by omega) (line.getD r 0)
    unfold KE
    walk_at "fl"
    rw [a]
    walk_at "fl"
    rw [ap]
    walk_at "fl"
    rw [cl]
  have tst : ∃ c : Bool, (c = true → 0 < l) ∧ (c = false → r < n) ∧ (liftT (tOr' (tB' (p2 dGe (pV 6) (pn dLen (psCons (pV 1) psNil)))) (tAnd' (tB' (p2 dGt (pV 5) (pC (.int 0)))) (tB' (p2 dEq (p2 dMod (pn dInt (psCons (pV 8) psNil)) (pC (.int 2))) (pC (.int 0))))))) (KE n many ds d V x (some (.int (l : Nat))) (some (.int (r : Nat))) (some (.lst (v.map .int))) (some (.int num)) s) = some (c, KE n many ds d V x (some (.int (l : Nat))) (some (.int (r : Nat))) (some (.lst (v.map .int))) (some (.int num)) s) := by
    by_cases hr : r < n
    · by_cases hl0 : 0 < l
      · refine ⟨decide (num % 2 = 0), fun _ => hl0, fun _ => hr, ?_⟩
        unfold KE
        walk_at "fl"
        rw [dl]
        walk_at "fl"
        rw [if_neg (by omega), if_pos (by omega), lT_some]
      · refine ⟨false, fun z => Bool.noConfusion z, fun _ => hr, ?_⟩
        unfold KE
        walk_at "fl"
        rw [dl]
        walk_at "fl"
        rw [if_neg (by omega), if_neg (by omega), lT_some]
    · refine ⟨true, fun _ => by omega, fun z => Bool.noConfusion z, ?_⟩
      unfold KE
      walk_at "fl"
      rw [dl]
      walk_at "fl"
      rw [if_pos (by omega), lT_some]
  obtain ⟨c, c1, c2, c3⟩ := tst
  unfold b_l_peaked_1
  rw [seqS_ap, ifS_ap, c3]
  cases c with
  | true => exact left (c1 rfl) true rfl
  | false => exact right (c2 rfl) false rfl
theorem pk_loop {n many : Nat} (hn : n ≤ 900) {d : D} {line : List Int} (hd : Seq d line) (hl : line.Perm (ru n)) (ds : List Int) (V : List (List Int)) (x s0 : Option D) {p : Nat} (hp : p < n) (num : Int) :
    ∃ (v : List Int) (l r nm s : Option D), PkI line p 0 line.length v ∧ forM (gN 9) b_l_peaked_1 (upto (n - 1)) (KE n many ds d V x (some (.int (p : Nat))) (some (.int ((p + 1 : Nat) : Int))) (some (.lst ([line.getD p 0].map .int))) (some (.int num)) s0) = some (.nx (KE n many ds d V x l r (some (.lst (v.map .int))) nm s)) := by
  have ll : line.length = n := by rw [hl.length_eq, ru_len]
  obtain ⟨ρ, h1, l, r, v, nm, s, h2, h3, rfl⟩ := forM_upto (g := gN 9) (m := b_l_peaked_1) (n := n - 1) (ρ := KE n many ds d V x (some (.int (p : Nat))) (some (.int ((p + 1 : Nat) : Int))) (some (.lst ([line.getD p 0].map .int))) (some (.int num)) s0)
    (fun k ρ => ∃ (l r : Nat) (v : List Int) (nm : Int) (s : Option D), PkI line p l r v ∧ r - l = k + 1 ∧ ρ = KE n many ds d V x (some (.int (l : Nat))) (some (.int (r : Nat))) (some (.lst (v.map .int))) (some (.int nm)) s) ⟨p, p + 1, [line.getD p 0], num, s0, PkI.first (by omega), by omega, rfl⟩ (by
    rintro k ρ hk ⟨l, r, v, nm, s, h2, h3, rfl⟩
    obtain ⟨l', r', v', nm', a, b, c⟩ := pk_turn hn hd hl ds V x h2 (by omega) nm (some (.int (k : Nat)))
    exact ⟨KE n many ds d V x (some (.int (l : Nat))) (some (.int (r : Nat))) (some (.lst (v.map .int))) (some (.int nm)) (some (.int (k : Nat))), _, rfl, .inl c, l', r', v', nm', _, a, by omega, rfl⟩)
  have rn := h2.rn
  have e1 : l = 0 := by omega
  have e2 : r = line.length := by omega
  subst e1
  subst e2
  exact ⟨v, _, _, _, _, h2, h1⟩
theorem pk_voter {n many : Nat} (h0 : 0 < n) (hn : n ≤ 900) {d : D} {line : List Int} (hd : Seq d line) (hl : line.Perm (ru n)) (ds : List Int) (V : List (List Int)) (hV : V.length < 900) (x a b c e f : Option D) :
    ∃ (ds' v : List Int) (p : Nat) (a' b' c' e' f' : Option D), PkI line p 0 line.length v ∧ b_l_peaked_2 (KE n many ds d V x a b c e f) = some (.nx (KE n many ds' d (V ++ [v]) x a' b' c' e' f')) := by
  have ll : line.length = n := by rw [hl.length_eq, ru_len]
  have dl := hd.len
  rw [ll] at dl
  obtain ⟨r1, ds1, t1, t2, t3⟩ := take_ex ds (n : Int) (by omega)
  obtain ⟨p, rfl, hp⟩ := intIdx t2 t3
  obtain ⟨num, ds2, u1, u2, u3⟩ := take_ex ds1 1000 (by omega)
  obtain ⟨v, l, r, nm, s, h1, h2⟩ := pk_loop (many := many) hn hd hl ds2 V x f hp num
  have hat := hd.at_ p (by omega)
  have hi := itR_nat (n := n - 1) (by omega)
  have cn : ((n - 1 : Nat) : Int) = (n : Int) - 1 := by omega
  rw [cn] at hi
  have app := app_M (fun ns : List Int => D.tup (ns.map .int)) (xs := V) (by omega) v
  have cp : ((p + 1 : Nat) : Int) = (p : Int) + 1 := by omega
  rw [cp, List.map_cons, List.map_nil] at h2
  refine ⟨ds2, v, p, l, r, some (.lst (v.map .int)), nm, s, h1, ?_⟩
  unfold KE at *
  unfold b_l_peaked_2
  walk_at "fl"
  rw [dl]
  walk_at "fl"
  rw [t1]
  walk_at "fl"
  rw [hat]
  walk_at "fl"
  rw [u1]
  walk_at "fl"
  rw [dl]
  walk_at "fl"
  rw [hi]
  walk_at "fl"
  rw [h2]
  walk_at "fl"
  rw [app]
  walk_at "fl"
theorem peaked_ex {n : Nat} (h0 : 0 < n) (hn : n ≤ 900) {d : D} {line : List Int} (hd : Seq d line) (hl : line.Perm (ru n)) (many : Nat) (hm : many ≤ 900) (ds : List Int) : ∃ (ds' : List Int) (V : List (List Int)), m_l_peaked [.lst (ds.map .int), d, .int (many : Nat)] = some (.tup (V.map fun ns => .tup (ns.map .int)), [.lst (ds'.map .int)]) ∧ V.length = many ∧ (∀ v, v ∈ V → v.Perm (ru n)) ∧ ∀ v, v ∈ V → SP line v (pkl line v) := by
  obtain ⟨ρ, hl2, ds', V, x, a, b, c, e, f, hV, hp, rfl⟩ := forM_upto (g := gN 4) (m := b_l_peaked_2) (n := many) (ρ := KE n many ds d [] none none none none none none)
    (fun i ρ => ∃ (ds' : List Int) (V : List (List Int)) (x a b c e f : Option D), V.length = i ∧ (∀ v, v ∈ V → v.Perm (ru n) ∧ SP line v (pkl line v)) ∧ ρ = KE n many ds' d V x a b c e f) ⟨ds, [], none, none, none, none, none, none, rfl, (fun _ h => by cases h), rfl⟩ (by
    rintro i ρ hi ⟨ds1, V, x, a, b, c, e, f, hV, hp, rfl⟩
    obtain ⟨ds2, v, p, a', b', c', e', f', h1, h2⟩ := pk_voter (many := many) h0 hn hd hl ds1 V (by omega) (some (.int (i : Nat))) a b c e f
    refine ⟨KE n many ds1 d V (some (.int (i : Nat))) a b c e f, _, rfl, .inl h2, ds2, V ++ [v], _, a', b', c', e', f', by simp [hV], fun w hw => ?_, rfl⟩
    rcases List.mem_append.mp hw with q | q
    · exact hp w q
    · rw [List.mem_singleton.mp q]
      have := h1.perm hl
      exact ⟨this, by rw [h1.sp.pkl this hl]; exact h1.sp⟩)
  refine ⟨ds', V, ?_, hV, fun v hv => (hp v hv).1, fun v hv => (hp v hv).2⟩
  have hi := itR_nat (n := many) (by omega)
  have ht := dTuple_lP (pures_eI V)
  unfold KE at hl2
  rw [List.map_nil] at hl2
  unfold m_l_peaked
  rw [fnM_ap (by rfl)]
  walk_at "fl"
  rw [hi]
  walk_at "fl"
  rw [hl2]
  walk_at "fl"
  rw [ht]
  walk_at "fl"
  exact finM_one (D.pure_own (pure_eW V)) rfl (own_lI ds')

end K58
end

section
set_option Elab.async false
set_option linter.all false
set_option maxRecDepth 100000
set_option maxHeartbeats 8000000
namespace K58
open FL
local macro_rules | `(tactic| walk_at "fl") => `(tactic| simp -implicitDefEqProofs only [seqS_ap, ifS_ap, asgS_ap, gN_ap, gTupN_ap, retS_ap, exprS_ap, skipS_ap, p1_ap, p2_ap, pn_ap, psNil_ap, psCons_ap, pV_ap, pC_ap, liftE_ap, liftC_ap, pIf_ap, tB'_ap, tAnd'_ap, tOr'_ap, tNot'_ap, liftT_ap, blE_ap, andE_ap, orE_ap, notE_ap, toE_ap, toS'_ap, toM'_ap, asNil_ap, asCons_ap, opE2_ap, opE1_ap, opEn_ap, dispE_ap, ifE_ap, andV_ap, orV_ap, notV_ap, mvV_ap, mtE_ap, callE_ap, pCall_ap, itE_ap, itA_ap, icA_ap, icB_ap, forS_ap, rg1_ap, rg2_ap, fnM_ap, seqO_nx, seqO_rt, seqO_bk, seqO_ct, ifO_some, asgO_some, retO_some, exprO_some, b2_some, c2_some, ixO_tup, ixO_lst, ixO_shr, lE_some, lC_int, lC_bl, lC_str, lC_non, tb_bl, andO_some, orO_some, lT_some, bE_bl, andEO_some, orEO_some, notEO_some, tE_some, sO_some, mO_some, acO_some, acT_some, o2O_some, o2T_some, o2F_some, o1O_some, o1F_some, onO_some, onF_some, diO_some, ifEO_some, andVO_bl, orVO_bl, notVO_bl, mvO_lst, mvO_tup, mvO_shr, mtO_some, mtT_some, mtF_some, callF_some, pcF_some, itAO_some, itAF_some, forO_some, fnO_rt, fnO_nx, lk_zero, lk_succ, lstAt_zero, lstAt_succ, raw_v, raw_s, raw_m, raws_nil, raws_cons, valsOf_nil, valsOf_v, argsD_nil, argsD_cons, argD_v, argD_s, argD_m, gNs_nil, gNs_cons, Option.bind_some, Option.bind_none, Option.map_some, Option.map_none, List.set_cons_zero, List.set_cons_succ, List.map_cons, List.map_nil, List.cons_append, List.nil_append, Bool.false_eq_true, dAdd_i, dSub_i, addI_i, dNeg_i, dLt_i, dLe_i, dGt_i, dGe_i, dEq_i, dEq_s, dEq_b, dNe_i, dNe_s, dIsN_non, dIsN_int, dIsN_tup, dIsN_lst, dIsN_bl, dIsN_str, dNotN_non, dNotN_int, dNotN_tup, dLen_lst, dLen_tup, dLen_shr, dSum_tI, dSum_lI, dSum_sI, dInt_i, dInt_b, dAbs_i, dTuple_lI, dTuple_sI, dList_lI, dList_tI, dList_sI, dMax_2, dMin_2, mkTup_2, mkTup_3, mkLst_0, mkLst_1, mkLst_2, kit_ib, kit_ii, kit_is, kit_it, kit_bb, kit_bi, kit_tb, kit_ti, kit_ts, kit_tt, kit_nb, kit_ni, kit_ns, kit_nt, kit_sb, kit_si, kit_ss, kit_st, isi_int, isi_bl, isi_str, isi_tup, isi_non, lPop_snoc, lReverse_ints, ↓reduceIte, List.length_cons, List.length_nil, List.length_map, List.reduceReplicate, Nat.reduceSub, Bool.not_true, Bool.not_false, decide_true, decide_false, decide_eq_true_eq, Nat.reduceLeDiff, pIx_ap', atI_z, atI_o, atI_t, parS_eq, parT_some, parV_some, setS_ap, stO_some, stL_some, stT_some, augIxS_ap, pCut_ap, cuO_some, pNo_ap, pSo_ap, soO_int, freeC_ap, fcO_int, fcO_str, yesC_ap, wipeE_nil, wipeE_cons, pComp_ap, cpO_some, icB_sI, icB_tI, icB_lI, itE_sI, itE_tI, itE_lI, noM_nil, noM_v, noM_s, noMS_nil, noMS_v, noMS_c, callO_no, callO_m0, putM_nil, putM_cons, dropM_nil, dropM_cons, shares_nil, shares_cons, share_int, share_bl, share_str, share_non, share_tup, share_lst, share_shr_, shares_ints, Nat.reduceBEq, Bool.true_and, Bool.and_true, Bool.and_self, Bool.false_and, Bool.and_false, Bool.not_eq_true, Bool.not_eq_false, Bool.or_true, Bool.true_or, Bool.or_false, Bool.false_or, beq_self_eq_true, pChain_ap, dIn_lI, dIn_tI, dIn_sI, dIn_fI, dNin_lI, dNin_tI, dNin_sI, dNin_fI, compE_ap, ceO_some, restE_nil, restE_cons, rsO_none, rsO_int, forL_ap, flO_lst, flO_int, backO_nx, backO_rt, forC_ap, fcS_lst, chO_some, chB_bl, Int.natCast_zero, dMod_i, dDiv_i, dMul_i, divOk_s, mulOk_l, mulOk_r, Int.reducePow, Int.reduceNeg, Int.reduceLT, Int.reduceLE, Int.reduceEq, Int.reduceAdd, Int.reduceSub, Int.reduceMul, Nat.reduceAdd, Nat.reducePow, lC_tI, lC_sI, dLen_frz, fcO_tI, shares_eI, rgD_ru, pAnd_ap, pOr_ap, pNot_ap, anO_bl, orC_bl, noC_bl, dEqX_tI, dNeX_tI, dEqX_lI, pComp2_ap, cp2O_some, dRev_lI, dSorted_lI, dAny_lB, augLS_ap, setS2_ap, dNe_b])
local macro_rules | `(tactic| walk_at "fl*") => `(tactic| simp -implicitDefEqProofs only [seqS_ap, ifS_ap, asgS_ap, gN_ap, gTupN_ap, retS_ap, exprS_ap, skipS_ap, p1_ap, p2_ap, pn_ap, psNil_ap, psCons_ap, pV_ap, pC_ap, liftE_ap, liftC_ap, pIf_ap, tB'_ap, tAnd'_ap, tOr'_ap, tNot'_ap, liftT_ap, blE_ap, andE_ap, orE_ap, notE_ap, toE_ap, toS'_ap, toM'_ap, asNil_ap, asCons_ap, opE2_ap, opE1_ap, opEn_ap, dispE_ap, ifE_ap, andV_ap, orV_ap, notV_ap, mvV_ap, mtE_ap, callE_ap, pCall_ap, itE_ap, itA_ap, icA_ap, icB_ap, forS_ap, rg1_ap, rg2_ap, fnM_ap, seqO_nx, seqO_rt, seqO_bk, seqO_ct, ifO_some, asgO_some, retO_some, exprO_some, b2_some, c2_some, ixO_tup, ixO_lst, ixO_shr, lE_some, lC_int, lC_bl, lC_str, lC_non, tb_bl, andO_some, orO_some, lT_some, bE_bl, andEO_some, orEO_some, notEO_some, tE_some, sO_some, mO_some, acO_some, acT_some, o2O_some, o2T_some, o2F_some, o1O_some, o1F_some, onO_some, onF_some, diO_some, ifEO_some, andVO_bl, orVO_bl, notVO_bl, mvO_lst, mvO_tup, mvO_shr, mtO_some, mtT_some, mtF_some, callF_some, pcF_some, itAO_some, itAF_some, forO_some, fnO_rt, fnO_nx, lk_zero, lk_succ, lstAt_zero, lstAt_succ, raw_v, raw_s, raw_m, raws_nil, raws_cons, valsOf_nil, valsOf_v, argsD_nil, argsD_cons, argD_v, argD_s, argD_m, gNs_nil, gNs_cons, Option.bind_some, Option.bind_none, Option.map_some, Option.map_none, List.set_cons_zero, List.set_cons_succ, List.map_cons, List.map_nil, List.cons_append, List.nil_append, Bool.false_eq_true, dAdd_i, dSub_i, addI_i, dNeg_i, dLt_i, dLe_i, dGt_i, dGe_i, dEq_i, dEq_s, dEq_b, dNe_i, dNe_s, dIsN_non, dIsN_int, dIsN_tup, dIsN_lst, dIsN_bl, dIsN_str, dNotN_non, dNotN_int, dNotN_tup, dLen_lst, dLen_tup, dLen_shr, dSum_tI, dSum_lI, dSum_sI, dInt_i, dInt_b, dAbs_i, dTuple_lI, dTuple_sI, dList_lI, dList_tI, dList_sI, dMax_2, dMin_2, mkTup_2, mkTup_3, mkLst_0, mkLst_1, mkLst_2, kit_ib, kit_ii, kit_is, kit_it, kit_bb, kit_bi, kit_tb, kit_ti, kit_ts, kit_tt, kit_nb, kit_ni, kit_ns, kit_nt, kit_sb, kit_si, kit_ss, kit_st, isi_int, isi_bl, isi_str, isi_tup, isi_non, lPop_snoc, lReverse_ints, ↓reduceIte, List.length_cons, List.length_nil, List.length_map, List.reduceReplicate, Nat.reduceSub, Bool.not_true, Bool.not_false, decide_true, decide_false, decide_eq_true_eq, Nat.reduceLeDiff, pIx_ap', atI_z, atI_o, atI_t, parS_eq, parT_some, parV_some, setS_ap, stO_some, stL_some, stT_some, augIxS_ap, pCut_ap, cuO_some, pNo_ap, pSo_ap, soO_int, freeC_ap, fcO_int, fcO_str, yesC_ap, wipeE_nil, wipeE_cons, pComp_ap, cpO_some, icB_sI, icB_tI, icB_lI, itE_sI, itE_tI, itE_lI, noM_nil, noM_v, noM_s, noMS_nil, noMS_v, noMS_c, callO_no, callO_m0, putM_nil, putM_cons, dropM_nil, dropM_cons, shares_nil, shares_cons, share_int, share_bl, share_str, share_non, share_tup, share_lst, share_shr_, shares_ints, Nat.reduceBEq, Bool.true_and, Bool.and_true, Bool.and_self, Bool.false_and, Bool.and_false, Bool.not_eq_true, Bool.not_eq_false, Bool.or_true, Bool.true_or, Bool.or_false, Bool.false_or, beq_self_eq_true, pChain_ap, dIn_lI, dIn_tI, dIn_sI, dIn_fI, dNin_lI, dNin_tI, dNin_sI, dNin_fI, compE_ap, ceO_some, restE_nil, restE_cons, rsO_none, rsO_int, forL_ap, flO_lst, flO_int, backO_nx, backO_rt, forC_ap, fcS_lst, chO_some, chB_bl, Int.natCast_zero, dMod_i, dDiv_i, dMul_i, divOk_s, mulOk_l, mulOk_r, Int.reducePow, Int.reduceNeg, Int.reduceLT, Int.reduceLE, Int.reduceEq, Int.reduceAdd, Int.reduceSub, Int.reduceMul, Nat.reduceAdd, Nat.reducePow, lC_tI, lC_sI, dLen_frz, fcO_tI, shares_eI, rgD_ru, pAnd_ap, pOr_ap, pNot_ap, anO_bl, orC_bl, noC_bl, dEqX_tI, dNeX_tI, dEqX_lI, pComp2_ap, cp2O_some, dRev_lI, dSorted_lI, dAny_lB, augLS_ap, setS2_ap, dNe_b, *])
open VT
def eO : Option Int → D
  | none => .non
  | some i => .int i
theorem pure_eO : ∀ o, (eO o).pure = true
  | none => rfl
  | some _ => rfl
theorem isN_eO (o : Option Int) : dIsN (eO o) = some (.bl o.isNone) := by cases o <;> rfl
theorem notN_eO (o : Option Int) : dNotN (eO o) = some (.bl o.isSome) := by cases o <;> rfl
abbrev tabLs (n : Nat) (V : List (List Int)) : D := .shr (((ru n).map (rowB n V)).map fun r => .shr (r.map .int))
theorem tabLs_at {n : Nat} (V : List (List Int)) {a : Int} (ha : a ∈ ru n) : L2.atI (((ru n).map (rowB n V)).map fun r => D.shr (r.map .int)) a = some (.shr ((rowB n V a).map .int)) :=
  tabF_at (f := fun r : List Int => D.shr (r.map .int)) (rowB n V) (ru_mem.mp ha).1 (ru_mem.mp ha).2
def SE (n : Nat) (V : List (List Int)) (s : Int) (G : Int → Option Int) (e l x : Option D) : FL.Env := [some (tabLs n V), some (.int s), some (.lst (((ru n).map G).map eO)), e, l, x, none]
def lat (n : Nat) (V : List (List Int)) (G : Int → Option Int) (e : List Int) : List Int := (ru n).filter fun a => (G a).isNone && ((rowB n V a).map fun b => decide (b ∈ e)).any id
def setAll (G : Int → Option Int) (l : List Int) (w : Int) : Int → Option Int := l.foldl (fun G a q => if q = a then some w else G q) G
theorem setAll_eq (w : Int) : ∀ (l : List Int) (G : Int → Option Int) (q : Int), setAll G l w q = if q ∈ l then some w else G q
  | [], G, q => by simp [setAll]
  | a :: l, G, q => by
    show setAll (fun q => if q = a then some w else G q) l w q = _
    rw [setAll_eq w l]
    by_cases h : q ∈ l
    · rw [if_pos h, if_pos (List.mem_cons_of_mem _ h)]
    · rw [if_neg h]
      by_cases z : q = a
      · rw [if_pos z, if_pos (by rw [z]; exact List.mem_cons_self)]
      · rw [if_neg z, if_neg fun y => (List.mem_cons.mp y).elim z h]
theorem mem_lat {n : Nat} {V : List (List Int)} {G : Int → Option Int} {e : List Int} {a : Int} : a ∈ lat n V G e ↔ a ∈ ru n ∧ G a = none ∧ ∃ b, b ∈ ru n ∧ wv V a b = true ∧ b ∈ e := by
  unfold lat
  rw [List.mem_filter, Bool.and_eq_true, List.any_eq_true, Option.isNone_iff_eq_none]
  constructor
  · rintro ⟨h1, h2, c, hc, h3⟩
    obtain ⟨b, hb, rfl⟩ := List.mem_map.mp hc
    obtain ⟨b1, b2⟩ := List.mem_filter.mp hb
    exact ⟨h1, h2, b, b1, b2, of_decide_eq_true h3⟩
  · rintro ⟨h1, h2, b, b1, b2, b3⟩
    exact ⟨h1, h2, _, List.mem_map.mpr ⟨b, List.mem_filter.mpr ⟨b1, b2⟩, rfl⟩, decide_eq_true b3⟩
theorem lat_len (n : Nat) (V : List (List Int)) (G : Int → Option Int) (e : List Int) : (lat n V G e).length ≤ n := by
  have := List.length_filter_le (fun a => (G a).isNone && ((rowB n V a).map fun b => decide (b ∈ e)).any id) (ru n)
  rw [ru_len] at this
  exact this
theorem back_turn {n : Nat} (hn : n ≤ 900) (V : List (List Int)) (s : Int) {G : Int → Option Int} {e0 : Int} {es : List Int} (hes : L2.atI (es.map D.int) 0 = some (.int e0)) (he0 : e0 ∈ ru n) {w : Int} (hw : G e0 = some w) (l x : Option D) :
    ∃ x', b_steps_back_2 (SE n V s G (some (.lst (es.map .int))) l x) = some (.nx (SE n V s (setAll G (lat n V G es) (w + 1)) (some (.lst ((lat n V G es).map .int))) none x')) := by
  have hi := itR_nat (n := n) (by omega)
  rw [upto_ru] at hi
  have hc : cpL (compC (gN 5) (tAnd' (tB' (p1 dIsN (pIx (pV 2) (pV 5)))) (tB' (pn dAny (psCons (pComp [6] (icB (pIx (pV 0) (pV 5))) (gN 6) yesC (p2 dIn (pV 6) (pV 3))) psNil)))) (freeC (pV 5)) [some (tabLs n V), some (.int s), some (.lst (((ru n).map G).map eO)), some (.lst (es.map .int)), l, none, none] ((ru n).map .int)) = some (.lst ((lat n V G es).map .int)) :=
    comp_filter (fun a ha => ⟨_, gN_ap _ _ _, by
      have h1 := tabF_at (f := eO) G (ru_mem.mp ha).1 (ru_mem.mp ha).2
      have h2 := tabLs_at V ha
      have h3 : cpL (compC (gN 6) yesC (p2 dIn (pV 6) (pV 3)) [some (tabLs n V), some (.int s), some (.lst (((ru n).map G).map eO)), some (.lst (es.map .int)), l, some (.int a), none] ((rowB n V a).map .int)) = some (.lst (((rowB n V a).map fun b => decide (b ∈ es)).map .bl)) := by
        rw [comp_map (a := D.int) (fun b => D.bl (decide (b ∈ es))) (fun b _ => ⟨_, gN_ap _ _ _, by walk_at "fl"⟩) (by have := rowB_len n V a; omega), List.map_map]
        rfl
      walk_at "fl"
      rw [h1, Option.bind_some, isN_eO]
      walk_at "fl"
      rw [h2]
      walk_at "fl"
      rw [h3]
      walk_at "fl"
      cases (G a).isNone <;> rfl, by walk_at "fl"⟩) (by rw [ru_len]; omega)
  have hni : e0 ∉ lat n V G es := fun z => by
    have := (mem_lat.mp z).2.1
    rw [hw] at this; cases this
  obtain ⟨ρ', hl, x', ⟨hG, rfl⟩⟩ := forM_fold (a := D.int) (g := gN 5) (m := b_steps_back_1) (fun (g : Int → Option Int) ρ => ∃ x, g e0 = some w ∧ ρ = SE n V s g (some (.lst (es.map .int))) none x) (fun g a q => if q = a then some (w + 1) else g q) (lat n V G es) G (SE n V s G (some (.lst (es.map .int))) none x) (by
    rintro a g ρ ha ⟨x, hg, rfl⟩
    obtain ⟨a0, a1⟩ := ru_mem.mp (mem_lat.mp ha).1
    refine ⟨SE n V s g (some (.lst (es.map .int))) none (some (.int a)), SE n V s (fun q => if q = a then some (w + 1) else g q) (some (.lst (es.map .int))) none (some (.int a)), rfl, .inl ?_, some (.int a), ?_, rfl⟩
    · have h1 := tabF_at (f := eO) g (ru_mem.mp he0).1 (ru_mem.mp he0).2
      rw [hg] at h1
      have h1 : L2.atI (((ru n).map g).map eO) e0 = some (.int w) := h1
      have h2 := fun ρ => tabF_set (f := eO) pure_eO (g := g) (k := 2) (ρ := ρ) (v := some (w + 1)) a0 a1
      have h2 : ∀ ρ, stF 2 (.int (w + 1)) ρ (some (.int a)) (some (((ru n).map g).map eO)) = some (.nx (ρ.set 2 (some (.lst (((ru n).map fun q => if q = a then some (w + 1) else g q).map eO))))) := h2
      unfold SE b_steps_back_1
      walk_at "fl"
      rw [hes, ixO_lst, h1]
      walk_at "fl"
      rw [h2]
      walk_at "fl"
    · show (if e0 = a then some (w + 1) else g e0) = some w
      rw [if_neg fun z : e0 = a => hni (by rw [z]; exact ha)]
      exact hg) ⟨x, hw, rfl⟩
  refine ⟨x', ?_⟩
  unfold SE at *
  unfold b_steps_back_2
  walk_at "fl"
  rw [ru_len, hi, cpO_some, hc]
  walk_at "fl"
  rw [hl]
  walk_at "fl"
  rfl
/-- no way back but in one step -/
def Tr (n : Nat) (W : Int → Int → Bool) : Prop := ∀ a b c, a ∈ ru n → b ∈ ru n → c ∈ ru n → W a b = true → W b c = true → W a c = true
def SP1 (n : Nat) (V : List (List Int)) (s : Int) (G : Int → Option Int) : Prop := ∀ x, x ∈ ru n → G x ≠ none → x = s ∨ wv V x s = true
def nn (n : Nat) (G : Int → Option Int) : Nat := ((ru n).filter fun x => (G x).isNone).length
theorem back_inv {n : Nat} {V : List (List Int)} (tr : Tr n (wv V)) {s : Int} (hs : s ∈ ru n) {G : Int → Option Int} (h : SP1 n V s G) {es : List Int} (he : ∀ x, x ∈ es → x ∈ ru n ∧ G x ≠ none) (w : Int) :
    SP1 n V s (setAll G (lat n V G es) w) ∧ (∀ x, x ∈ lat n V G es → x ∈ ru n ∧ setAll G (lat n V G es) w x ≠ none) ∧ (lat n V G es ≠ [] → nn n (setAll G (lat n V G es) w) < nn n G) := by
  refine ⟨fun x hx hg => ?_, fun x hx => ?_, fun hne => ?_⟩
  · rw [setAll_eq] at hg
    by_cases z : x ∈ lat n V G es
    · obtain ⟨_, _, b, b1, b2, b3⟩ := mem_lat.mp z
      rcases h b b1 (he b b3).2 with rfl | q
      · exact .inr b2
      · exact .inr (tr x b s hx b1 hs b2 q)
    · rw [if_neg z] at hg
      exact h x hx hg
  · rw [setAll_eq, if_pos hx]
    exact ⟨(mem_lat.mp hx).1, fun z => by cases z⟩
  · obtain ⟨y, hy⟩ := List.exists_mem_of_ne_nil _ hne
    unfold nn
    have key := len_sub (S := y :: (ru n).filter fun x => (setAll G (lat n V G es) w x).isNone) (T := (ru n).filter fun x => (G x).isNone) (by
      refine List.nodup_cons.mpr ⟨fun z => ?_, (ru_nodup n).sublist List.filter_sublist⟩
      have := (List.mem_filter.mp z).2
      rw [setAll_eq, if_pos hy] at this
      cases this) (fun x hx => by
      rw [List.mem_filter, Option.isNone_iff_eq_none]
      rcases List.mem_cons.mp hx with rfl | hx
      · exact ⟨(mem_lat.mp hy).1, (mem_lat.mp hy).2.1⟩
      · obtain ⟨x1, x2⟩ := List.mem_filter.mp hx
        refine ⟨x1, ?_⟩
        rw [Option.isNone_iff_eq_none, setAll_eq] at x2
        by_cases z : x ∈ lat n V G es
        · rw [if_pos z] at x2; cases x2
        · rw [if_neg z] at x2; exact x2)
    rw [List.length_cons] at key
    omega
theorem back_loop {n : Nat} (hn : n ≤ 900) {V : List (List Int)} (tr : Tr n (wv V)) {s : Int} (hs : s ∈ ru n) : ∀ (k : Nat) (G : Int → Option Int) (es : List Int) (l x : Option D), SP1 n V s G → (∀ x, x ∈ es → x ∈ ru n ∧ G x ≠ none) → (nn n G < k ∨ es = []) → ∃ (G' : Int → Option Int) (l' x' : Option D), SP1 n V s G' ∧
    whS (liftT (tB' (p2 dGt (pn dLen (psCons (pV 3) psNil)) (pC (.int 0))))) b_steps_back_2 (SE n V s G (some (.lst (es.map .int))) l x) = some (.nx (SE n V s G' (some (.lst [])) l' x')) := by
  intro k
  induction k with
  | zero =>
    intro G es l x h he hk
    rcases hk with hk | rfl
    · omega
    · refine ⟨G, l, x, h, whS_stop ?_⟩
      unfold SE
      walk_at "fl"
  | succ k ih =>
    intro G es l x h he hk
    cases e : es with
    | nil =>
      refine ⟨G, l, x, h, whS_stop ?_⟩
      unfold SE
      walk_at "fl"
    | cons e0 er =>
      have m0 := he e0 (by rw [e]; exact List.mem_cons_self)
      obtain ⟨w, hw⟩ := Option.ne_none_iff_exists'.mp m0.2
      have hes : L2.atI (es.map D.int) 0 = some (.int e0) := by rw [e, List.map_cons, atI_z]
      obtain ⟨x', h1⟩ := back_turn hn V s hes m0.1 hw l x
      obtain ⟨i1, i2, i3⟩ := back_inv tr hs h he (w + 1)
      obtain ⟨G', l', x'', h2, h3⟩ := ih _ _ none x' i1 i2 (by
        by_cases z : lat n V G es = []
        · exact .inr z
        · left
          have := i3 z
          rcases hk with hk | hk
          · omega
          · rw [e] at hk; cases hk)
      rw [← e]
      refine ⟨G', l', x'', h2, whS_nx ?_ h1 h3⟩
      have hl : 0 < es.length := by rw [e]; simp
      unfold SE
      walk_at "fl"
      rw [decide_eq_true (by omega)]
theorem flat_one {α : Type} (x : α) : ∀ k, (List.replicate k [x]).flatten = List.replicate k x
  | 0 => rfl
  | k + 1 => by rw [List.replicate_succ, List.flatten_cons, flat_one x k, List.replicate_succ]; rfl
theorem dMul_non {n : Nat} (h : n ≤ 1000000) : dMul (.lst [.non]) (.int n) = some (.lst (List.replicate n .non)) := by
  unfold dMul
  simp only
  rw [if_pos ⟨by omega, by omega, by simp; omega, rfl⟩]
  simp
theorem steps_back_ex {n : Nat} (hn : n ≤ 900) {V : List (List Int)} (tr : Tr n (wv V)) {s : Int} (hs : s ∈ ru n) : ∃ G : Int → Option Int, SP1 n V s G ∧ m_steps_back [tabLs n V, .int s] = some (.lst (((ru n).map G).map eO), []) := by
  obtain ⟨s0, s1⟩ := ru_mem.mp hs
  obtain ⟨G, l, x, h1, h2⟩ := back_loop hn tr hs (nn n (fun q => if q = s then some 0 else none) + 1) (fun q => if q = s then some 0 else none) [s] none none (fun x hx h => .inl (by
    by_cases z : x = s
    · exact z
    · have h : (if x = s then some (0 : Int) else none) ≠ none := h
      rw [if_neg z] at h; exact absurd rfl h)) (fun x hx => by rw [List.mem_singleton.mp hx]; exact ⟨hs, by simp⟩) (.inl (by omega))
  refine ⟨G, h1, ?_⟩
  have hm : dMul (.lst [.non]) (.int (n : Nat)) = some (.lst (((ru n).map fun _ => (none : Option Int)).map eO)) := by
    rw [dMul_non (by omega), List.map_map]
    have : (eO ∘ fun _ : Int => (none : Option Int)) = fun _ => D.non := rfl
    rw [this, List.map_const', ru_len]
  have hset := fun ρ => tabF_set (f := eO) pure_eO (g := fun _ => none) (k := 2) (ρ := ρ) (v := some 0) s0 s1
  have hset : ∀ ρ, stF 2 (.int 0) ρ (some (.int s)) (some (((ru n).map fun _ => (none : Option Int)).map eO)) = some (.nx (ρ.set 2 (some (.lst (((ru n).map fun q => if q = s then some 0 else none).map eO))))) := hset
  have mk : mkLst [.non] = some (.lst [.non]) := mkLst_P (ds := [.non]) rfl (by simp)
  unfold SE at h2
  rw [List.map_cons, List.map_nil] at h2
  unfold m_steps_back
  rw [fnM_ap (by rfl)]
  walk_at "fl"
  rw [mk]
  walk_at "fl"
  rw [ru_len, hm]
  walk_at "fl"
  rw [hset]
  walk_at "fl"
  rw [h2]
  walk_at "fl"
  exact finM_nil (by rw [D.own]; exact D.pures_owns (pures_map pure_eO _))
theorem shr_keep (rows : List (List Int)) : D.shares (rows.map fun r => D.shr (r.map .int)) = rows.map fun r => D.shr (r.map .int) := by
  rw [D.shares_map, List.map_map]
  refine List.map_congr_left fun r _ => ?_
  show D.share (.shr (r.map .int)) = _
  rw [D.share, shares_ints]
theorem ring_from_none {n : Nat} (hn : n ≤ 900) {V : List (List Int)} (tr : Tr n (wv V)) {s : Int} (hs : s ∈ ru n) : m_ring_from [tabLs n V, .int s] = some (.non, []) := by
  obtain ⟨G, h1, h2⟩ := steps_back_ex hn tr hs
  have hx := tabLs_at V hs
  have hc : cpL (compC (gN 6) (tB' (p1 dNotN (pIx (pV 2) (pV 6)))) (freeC (pV 6)) [some (tabLs n V), some (.int s), some (.lst (((ru n).map G).map eO)), none, none, none, none] ((rowB n V s).map .int)) = some (.lst (([] : List Int).map .int)) := by
    have := comp_filter (c := fun o => (G o).isSome) (g := gN 6) (t := tB' (p1 dNotN (pIx (pV 2) (pV 6)))) (p := freeC (pV 6)) (ρ := [some (tabLs n V), some (.int s), some (.lst (((ru n).map G).map eO)), none, none, none, none]) (ns := rowB n V s) (fun o ho => ⟨_, gN_ap _ _ _, by
      have o1 := (List.mem_filter.mp ho).1
      have h1 := tabF_at (f := eO) G (ru_mem.mp o1).1 (ru_mem.mp o1).2
      walk_at "fl"
      rw [h1, Option.bind_some, notN_eO]
      walk_at "fl", by walk_at "fl"⟩) (by have := rowB_len n V s; omega)
    rw [this]
    have e : (rowB n V s).filter (fun o => (G o).isSome) = [] := by
      rw [List.filter_eq_nil_iff]
      intro o ho z
      obtain ⟨o1, o2⟩ := List.mem_filter.mp ho
      have := h1 o o1 (by rw [Option.isSome_iff_exists] at z; obtain ⟨a, e⟩ := z; rw [e]; exact fun y => by cases y)
      rcases this with rfl | q
      · rw [wv_ir] at o2; cases o2
      · exact wv_as V _ _ o2 q
    rw [e]
  unfold m_ring_from
  rw [fnM_ap (by rfl)]
  walk_at "fl"
  rw [shr_keep, h2]
  walk_at "fl"
  rw [hx]
  walk_at "fl"
  rw [hc]
  walk_at "fl"
  exact finM_nil rfl
theorem ring_none {n : Nat} (hn : n ≤ 900) {V : List (List Int)} (h : All n V) (tr : Tr n (wv V)) : m_ring_of_votes [eV V, .int (n : Nat)] = some (.non, []) := by
  have hb := beaten_by_eq hn h
  have hi := itR_nat (n := n) (by omega)
  rw [upto_ru] at hi
  have hc : cpL (compC (gN 5) yesC (pCall m_ring_from (psCons (pV 2) (psCons (pV 5) psNil))) [some (eV V), some (.int (n : Nat)), some (tabL n V), none, none, none, none] ((ru n).map .int)) = some (.lst ((ru n).map fun _ => D.non)) :=
    comp_map (a := D.int) (fun _ => D.non) (fun a ha => ⟨_, gN_ap _ _ _, by
      have := ring_from_none hn tr ha
      have sh := shr_rows n V
      walk_at "fl"
      rw [sh, this]
      rfl⟩) (by rw [ru_len]; omega)
  have hib : icBO (some (.lst ((ru n).map fun _ => D.non))) = some ((ru n).map fun _ => D.non) := icBO_lP (pures_map (f := fun _ : Int => D.non) (fun _ => rfl) _)
  have hc2 : ∀ A : Option D, cpL (compC (gN 6) (tB' (p1 dNotN (pV 6))) (pn mkTup (psCons (pn dLen (psCons (pV 6) psNil)) (psCons (pV 6) psNil))) [some (eV V), some (.int (n : Nat)), some (tabL n V), A, none, none, none] ((ru n).map fun _ => D.non)) = some (.lst (([] : List Int).map .int)) := fun A => by
    rw [compC_gen (a := fun _ : Int => D.non) (c := fun _ => false) (f := fun _ => D.non) fun a ha => ⟨_, gN_ap _ _ _, by walk_at "fl", fun z => by cases z⟩]
    have e : (ru n).filter (fun _ => false) = [] := List.filter_eq_nil_iff.mpr fun _ _ z => by cases z
    rw [e]
    rfl
  unfold m_ring_of_votes
  rw [fnM_ap (by rfl)]
  walk_at "fl"
  rw [hb]
  walk_at "fl"
  rw [hi, cpO_some, hc]
  walk_at "fl"
  rw [hib, cpO_some, hc2]
  walk_at "fl"
  have ds : dSorted [.lst []] = some (.lst []) := by
    have := dSorted_lI []
    have e : iSort [] = [] := List.Perm.eq_nil (iSort_perm [])
    rw [e] at this
    exact this
  rw [ds]
  walk_at "fl"
  simp
  exact finM_nil rfl

end K58
end

section
set_option Elab.async false
set_option linter.all false
set_option maxRecDepth 100000
set_option maxHeartbeats 8000000
namespace K58
open FL
local macro_rules | `(tactic| walk_at "fl") => `(tactic| simp -implicitDefEqProofs only [seqS_ap, ifS_ap, asgS_ap, gN_ap, gTupN_ap, retS_ap, exprS_ap, skipS_ap, p1_ap, p2_ap, pn_ap, psNil_ap, psCons_ap, pV_ap, pC_ap, liftE_ap, liftC_ap, pIf_ap, tB'_ap, tAnd'_ap, tOr'_ap, tNot'_ap, liftT_ap, blE_ap, andE_ap, orE_ap, notE_ap, toE_ap, toS'_ap, toM'_ap, asNil_ap, asCons_ap, opE2_ap, opE1_ap, opEn_ap, dispE_ap, ifE_ap, andV_ap, orV_ap, notV_ap, mvV_ap, mtE_ap, callE_ap, pCall_ap, itE_ap, itA_ap, icA_ap, icB_ap, forS_ap, rg1_ap, rg2_ap, fnM_ap, seqO_nx, seqO_rt, seqO_bk, seqO_ct, ifO_some, asgO_some, retO_some, exprO_some, b2_some, c2_some, ixO_tup, ixO_lst, ixO_shr, lE_some, lC_int, lC_bl, lC_str, lC_non, tb_bl, andO_some, orO_some, lT_some, bE_bl, andEO_some, orEO_some, notEO_some, tE_some, sO_some, mO_some, acO_some, acT_some, o2O_some, o2T_some, o2F_some, o1O_some, o1F_some, onO_some, onF_some, diO_some, ifEO_some, andVO_bl, orVO_bl, notVO_bl, mvO_lst, mvO_tup, mvO_shr, mtO_some, mtT_some, mtF_some, callF_some, pcF_some, itAO_some, itAF_some, forO_some, fnO_rt, fnO_nx, lk_zero, lk_succ, lstAt_zero, lstAt_succ, raw_v, raw_s, raw_m, raws_nil, raws_cons, valsOf_nil, valsOf_v, argsD_nil, argsD_cons, argD_v, argD_s, argD_m, gNs_nil, gNs_cons, Option.bind_some, Option.bind_none, Option.map_some, Option.map_none, List.set_cons_zero, List.set_cons_succ, List.map_cons, List.map_nil, List.cons_append, List.nil_append, Bool.false_eq_true, dAdd_i, dSub_i, addI_i, dNeg_i, dLt_i, dLe_i, dGt_i, dGe_i, dEq_i, dEq_s, dEq_b, dNe_i, dNe_s, dIsN_non, dIsN_int, dIsN_tup, dIsN_lst, dIsN_bl, dIsN_str, dNotN_non, dNotN_int, dNotN_tup, dLen_lst, dLen_tup, dLen_shr, dSum_tI, dSum_lI, dSum_sI, dInt_i, dInt_b, dAbs_i, dTuple_lI, dTuple_sI, dList_lI, dList_tI, dList_sI, dMax_2, dMin_2, mkTup_2, mkTup_3, mkLst_0, mkLst_1, mkLst_2, kit_ib, kit_ii, kit_is, kit_it, kit_bb, kit_bi, kit_tb, kit_ti, kit_ts, kit_tt, kit_nb, kit_ni, kit_ns, kit_nt, kit_sb, kit_si, kit_ss, kit_st, isi_int, isi_bl, isi_str, isi_tup, isi_non, lPop_snoc, lReverse_ints, ↓reduceIte, List.length_cons, List.length_nil, List.length_map, List.reduceReplicate, Nat.reduceSub, Bool.not_true, Bool.not_false, decide_true, decide_false, decide_eq_true_eq, Nat.reduceLeDiff, pIx_ap', atI_z, atI_o, atI_t, parS_eq, parT_some, parV_some, setS_ap, stO_some, stL_some, stT_some, augIxS_ap, pCut_ap, cuO_some, pNo_ap, pSo_ap, soO_int, freeC_ap, fcO_int, fcO_str, yesC_ap, wipeE_nil, wipeE_cons, pComp_ap, cpO_some, icB_sI, icB_tI, icB_lI, itE_sI, itE_tI, itE_lI, noM_nil, noM_v, noM_s, noMS_nil, noMS_v, noMS_c, callO_no, callO_m0, putM_nil, putM_cons, dropM_nil, dropM_cons, shares_nil, shares_cons, share_int, share_bl, share_str, share_non, share_tup, share_lst, share_shr_, shares_ints, Nat.reduceBEq, Bool.true_and, Bool.and_true, Bool.and_self, Bool.false_and, Bool.and_false, Bool.not_eq_true, Bool.not_eq_false, Bool.or_true, Bool.true_or, Bool.or_false, Bool.false_or, beq_self_eq_true, pChain_ap, dIn_lI, dIn_tI, dIn_sI, dIn_fI, dNin_lI, dNin_tI, dNin_sI, dNin_fI, compE_ap, ceO_some, restE_nil, restE_cons, rsO_none, rsO_int, forL_ap, flO_lst, flO_int, backO_nx, backO_rt, forC_ap, fcS_lst, chO_some, chB_bl, Int.natCast_zero, dMod_i, dDiv_i, dMul_i, divOk_s, mulOk_l, mulOk_r, Int.reducePow, Int.reduceNeg, Int.reduceLT, Int.reduceLE, Int.reduceEq, Int.reduceAdd, Int.reduceSub, Int.reduceMul, Nat.reduceAdd, Nat.reducePow, lC_tI, lC_sI, dLen_frz, fcO_tI, shares_eI, rgD_ru, pAnd_ap, pOr_ap, pNot_ap, anO_bl, orC_bl, noC_bl, dEqX_tI, dNeX_tI, dEqX_lI, pComp2_ap, cp2O_some, dRev_lI, dSorted_lI, dAny_lB, augLS_ap, setS2_ap, dNe_b])
local macro_rules | `(tactic| walk_at "fl*") => `(tactic| simp -implicitDefEqProofs only [seqS_ap, ifS_ap, asgS_ap, gN_ap, gTupN_ap, retS_ap, exprS_ap, skipS_ap, p1_ap, p2_ap, pn_ap, psNil_ap, psCons_ap, pV_ap, pC_ap, liftE_ap, liftC_ap, pIf_ap, tB'_ap, tAnd'_ap, tOr'_ap, tNot'_ap, liftT_ap, blE_ap, andE_ap, orE_ap, notE_ap, toE_ap, toS'_ap, toM'_ap, asNil_ap, asCons_ap, opE2_ap, opE1_ap, opEn_ap, dispE_ap, ifE_ap, andV_ap, orV_ap, notV_ap, mvV_ap, mtE_ap, callE_ap, pCall_ap, itE_ap, itA_ap, icA_ap, icB_ap, forS_ap, rg1_ap, rg2_ap, fnM_ap, seqO_nx, seqO_rt, seqO_bk, seqO_ct, ifO_some, asgO_some, retO_some, exprO_some, b2_some, c2_some, ixO_tup, ixO_lst, ixO_shr, lE_some, lC_int, lC_bl, lC_str, lC_non, tb_bl, andO_some, orO_some, lT_some, bE_bl, andEO_some, orEO_some, notEO_some, tE_some, sO_some, mO_some, acO_some, acT_some, o2O_some, o2T_some, o2F_some, o1O_some, o1F_some, onO_some, onF_some, diO_some, ifEO_some, andVO_bl, orVO_bl, notVO_bl, mvO_lst, mvO_tup, mvO_shr, mtO_some, mtT_some, mtF_some, callF_some, pcF_some, itAO_some, itAF_some, forO_some, fnO_rt, fnO_nx, lk_zero, lk_succ, lstAt_zero, lstAt_succ, raw_v, raw_s, raw_m, raws_nil, raws_cons, valsOf_nil, valsOf_v, argsD_nil, argsD_cons, argD_v, argD_s, argD_m, gNs_nil, gNs_cons, Option.bind_some, Option.bind_none, Option.map_some, Option.map_none, List.set_cons_zero, List.set_cons_succ, List.map_cons, List.map_nil, List.cons_append, List.nil_append, Bool.false_eq_true, dAdd_i, dSub_i, addI_i, dNeg_i, dLt_i, dLe_i, dGt_i, dGe_i, dEq_i, dEq_s, dEq_b, dNe_i, dNe_s, dIsN_non, dIsN_int, dIsN_tup, dIsN_lst, dIsN_bl, dIsN_str, dNotN_non, dNotN_int, dNotN_tup, dLen_lst, dLen_tup, dLen_shr, dSum_tI, dSum_lI, dSum_sI, dInt_i, dInt_b, dAbs_i, dTuple_lI, dTuple_sI, dList_lI, dList_tI, dList_sI, dMax_2, dMin_2, mkTup_2, mkTup_3, mkLst_0, mkLst_1, mkLst_2, kit_ib, kit_ii, kit_is, kit_it, kit_bb, kit_bi, kit_tb, kit_ti, kit_ts, kit_tt, kit_nb, kit_ni, kit_ns, kit_nt, kit_sb, kit_si, kit_ss, kit_st, isi_int, isi_bl, isi_str, isi_tup, isi_non, lPop_snoc, lReverse_ints, ↓reduceIte, List.length_cons, List.length_nil, List.length_map, List.reduceReplicate, Nat.reduceSub, Bool.not_true, Bool.not_false, decide_true, decide_false, decide_eq_true_eq, Nat.reduceLeDiff, pIx_ap', atI_z, atI_o, atI_t, parS_eq, parT_some, parV_some, setS_ap, stO_some, stL_some, stT_some, augIxS_ap, pCut_ap, cuO_some, pNo_ap, pSo_ap, soO_int, freeC_ap, fcO_int, fcO_str, yesC_ap, wipeE_nil, wipeE_cons, pComp_ap, cpO_some, icB_sI, icB_tI, icB_lI, itE_sI, itE_tI, itE_lI, noM_nil, noM_v, noM_s, noMS_nil, noMS_v, noMS_c, callO_no, callO_m0, putM_nil, putM_cons, dropM_nil, dropM_cons, shares_nil, shares_cons, share_int, share_bl, share_str, share_non, share_tup, share_lst, share_shr_, shares_ints, Nat.reduceBEq, Bool.true_and, Bool.and_true, Bool.and_self, Bool.false_and, Bool.and_false, Bool.not_eq_true, Bool.not_eq_false, Bool.or_true, Bool.true_or, Bool.or_false, Bool.false_or, beq_self_eq_true, pChain_ap, dIn_lI, dIn_tI, dIn_sI, dIn_fI, dNin_lI, dNin_tI, dNin_sI, dNin_fI, compE_ap, ceO_some, restE_nil, restE_cons, rsO_none, rsO_int, forL_ap, flO_lst, flO_int, backO_nx, backO_rt, forC_ap, fcS_lst, chO_some, chB_bl, Int.natCast_zero, dMod_i, dDiv_i, dMul_i, divOk_s, mulOk_l, mulOk_r, Int.reducePow, Int.reduceNeg, Int.reduceLT, Int.reduceLE, Int.reduceEq, Int.reduceAdd, Int.reduceSub, Int.reduceMul, Nat.reduceAdd, Nat.reducePow, lC_tI, lC_sI, dLen_frz, fcO_tI, shares_eI, rgD_ru, pAnd_ap, pOr_ap, pNot_ap, anO_bl, orC_bl, noC_bl, dEqX_tI, dNeX_tI, dEqX_lI, pComp2_ap, cp2O_some, dRev_lI, dSorted_lI, dAny_lB, augLS_ap, setS2_ap, dNe_b, *])
open VT
/-- the middle choice of votes that fall along a line -/
theorem places_eq (line : List Int) (V : List (List Int)) : (V.map fun v => ((line.idxOf (v.getD 0 0) : Nat) : Int)) = places (pkl line) V := rfl
theorem middle_eq {n : Nat} (h0 : 0 < n) (hn : n ≤ 900) {V : List (List Int)} (hV : ∀ v, v ∈ V → v.Perm (ru n)) (hne : V ≠ []) (hz : V.length ≤ 1000) {line : List Int} (hl : line.Perm (ru n)) (sp : ∀ v, v ∈ V → SP line v (pkl line v)) : m_middle_choice [eV V, .tup (line.map .int)] = some (.int (line.getD (mid (pkl line) V).toNat 0), []) := by
  have ll : line.length = n := ord_len hl
  have hc : cpL (compC (gN 3) yesC (p2 dIndex (pV 1) (pIx (pV 3) (pC (.int 0)))) [some (eV V), some (.tup (line.map .int)), none, none] (V.map fun ns => .tup (ns.map .int))) = some (.lst ((places (pkl line) V).map .int)) := by
    rw [comp_map (a := fun ns : List Int => D.tup (ns.map .int)) (fun v => D.int (line.idxOf (v.getD 0 0) : Nat)) (fun v hv => ⟨_, gN_ap _ _ _, by
      have vl := ord_len (hV v hv)
      have m : v[0] ∈ line := (ord_mem hl).mpr ((ord_mem (hV v hv)).mp (List.getElem_mem (by omega)))
      have a0 := atI_int (ns := v) (j := 0) (by omega)
      have a0 : L2.atI (v.map D.int) 0 = some (.int v[0]) := a0
      have e0 : v.getD 0 0 = v[0] := by rw [List.getD_eq_getElem?_getD, List.getElem?_eq_getElem (by omega)]; rfl
      walk_at "fl"
      rw [a0, b2_some, index_tI m, e0]⟩) (by omega), places, List.map_map]
    rfl
  obtain ⟨hk, e⟩ := mid_get (pk := pkl line) hne
  obtain ⟨v0, hv0, e0⟩ := mid_mem (pk := pkl line) hne
  have lt0 := (sp v0 hv0).lt
  have hib := icBO_tP (pures_eI V)
  have sl : (iSort (places (pkl line) V)).length = V.length := by rw [iSort_len, places, List.length_map]
  have hd : DivOk 2 := divOk_s (by decide) (by decide)
  have a1 := atI_int (ns := iSort (places (pkl line) V)) (j := V.length / 2) hk
  rw [← e, e0] at a1
  have ck : ((V.length / 2 : Nat) : Int) = (V.length : Int) / 2 := by omega
  rw [ck] at a1
  have a2 := atI_int (ns := line) (j := pkl line v0) (by omega)
  have e3 : line.getD (mid (pkl line) V).toNat 0 = line[pkl line v0] := by
    rw [e0, Int.toNat_natCast, List.getD_eq_getElem?_getD, List.getElem?_eq_getElem (by omega)]; rfl
  rw [e3]
  unfold m_middle_choice
  rw [fnM_ap (by rfl)]
  walk_at "fl"
  rw [hib, cpO_some, hc]
  walk_at "fl"
  rw [sl, a1]
  walk_at "fl"
  rw [a2]
  walk_at "fl"
  exact finM_nil rfl
/-- what holds of votes along a line -/
structure OnL (n : Nat) (V : List (List Int)) (line : List Int) : Prop where
  pm : ∀ v, v ∈ V → v.Perm (ru n)
  ln : line.Perm (ru n)
  sp : ∀ v, v ∈ V → SP line v (pkl line v)
  odd : V.length % 2 = 1
theorem OnL.ne {n : Nat} {V : List (List Int)} {line : List Int} (h : OnL n V line) : V ≠ [] := fun z => by have := h.odd; rw [z] at this; simp at this
def due (V : List (List Int)) (line : List Int) : Int := line.getD (mid (pkl line) V).toNat 0
theorem OnL.mid_lt {n : Nat} {V : List (List Int)} {line : List Int} (h : OnL n V line) : 0 ≤ mid (pkl line) V ∧ mid (pkl line) V < n := by
  obtain ⟨v0, hv0, e0⟩ := mid_mem (pk := pkl line) h.ne
  have := (h.sp v0 hv0).lt
  rw [ord_len h.ln] at this
  omega
theorem OnL.due_mem {n : Nat} {V : List (List Int)} {line : List Int} (h : OnL n V line) : due V line ∈ ru n := by
  have := h.mid_lt
  have ll := ord_len h.ln
  unfold due
  rw [List.getD_eq_getElem?_getD, List.getElem?_eq_getElem (by omega)]
  exact (ord_mem h.ln).mp (List.getElem_mem (by omega))
theorem idx_line {line : List Int} {x : Int} (h : x ∈ line) : line.getD (line.idxOf x) 0 = x := by
  have := List.idxOf_lt_length_iff.mpr h
  rw [List.getD_eq_getElem?_getD, List.getElem?_eq_getElem this]
  exact List.getElem_idxOf this
theorem OnL.wins {n : Nat} {V : List (List Int)} {line : List Int} (h : OnL n V line) {b : Int} (hb : b ∈ ru n) (hne : b ≠ due V line) : wv V (due V line) b = true := by
  have hb' := (ord_mem h.ln).mpr hb
  have hq := List.idxOf_lt_length_iff.mpr hb'
  have := median h.sp (ord_nd h.ln) h.odd hq (fun z => hne (by
    unfold due
    rw [← z, Int.toNat_natCast, idx_line hb']))
  rw [idx_line hb'] at this
  exact this
theorem OnL.win {n : Nat} {V : List (List Int)} {line : List Int} (h : OnL n V line) : win n (wv V) (due V line) = true := (win_iff (wv_ir V) h.due_mem).mpr fun b hb hne => h.wins hb hne
theorem OnL.tr {n : Nat} {V : List (List Int)} {line : List Int} (h : OnL n V line) : Tr n (wv V) := fun a b c ha hb hc h1 h2 => by
  have ha' := (ord_mem h.ln).mpr ha
  have hb' := (ord_mem h.ln).mpr hb
  have hc' := (ord_mem h.ln).mpr hc
  have := sp_trans h.sp (ord_nd h.ln) (fun v hv => ⟨ord_nd (h.pm v hv), fun x hx => (ord_mem (h.pm v hv)).mpr ((ord_mem h.ln).mp hx)⟩) h.odd (List.idxOf_lt_length_iff.mpr ha') (List.idxOf_lt_length_iff.mpr hb') (List.idxOf_lt_length_iff.mpr hc')
  rw [idx_line ha', idx_line hb', idx_line hc'] at this
  exact this h1 h2
/-- the line turned round -/
theorem OnL.rev {n : Nat} {V : List (List Int)} {line : List Int} (h : OnL n V line) : OnL n V line.reverse ∧ due V line.reverse = due V line := by
  have lr : line.reverse.Perm (ru n) := (List.reverse_perm line).trans h.ln
  have pk : ∀ v, v ∈ V → pkl line.reverse v = line.length - 1 - pkl line v := fun v hv => (h.sp v hv).rev.pkl (h.pm v hv) lr
  refine ⟨⟨h.pm, lr, fun v hv => by rw [pk v hv]; exact (h.sp v hv).rev, h.odd⟩, ?_⟩
  have e : places (pkl line.reverse) V = places (fun v => line.length - 1 - pkl line v) V := List.map_congr_left fun v hv => by rw [pk v hv]
  have m : mid (pkl line.reverse) V = (line.length : Int) - 1 - mid (pkl line) V := by
    have := mid_rev (line := line) (pk := pkl line) (V := V) (fun v hv => (h.sp v hv).lt) h.odd
    unfold mid at this ⊢
    rw [e]
    exact this
  have ml := h.mid_lt
  have ll := ord_len h.ln
  unfold due
  rw [m, getD_rev (by omega)]
  congr 1
  omega

end K58
end

section
set_option Elab.async false
set_option linter.all false
set_option maxRecDepth 100000
set_option maxHeartbeats 8000000
namespace K58
open FL
local macro_rules | `(tactic| walk_at "fl") => `(tactic| simp -implicitDefEqProofs only [seqS_ap, ifS_ap, asgS_ap, gN_ap, gTupN_ap, retS_ap, exprS_ap, skipS_ap, p1_ap, p2_ap, pn_ap, psNil_ap, psCons_ap, pV_ap, pC_ap, liftE_ap, liftC_ap, pIf_ap, tB'_ap, tAnd'_ap, tOr'_ap, tNot'_ap, liftT_ap, blE_ap, andE_ap, orE_ap, notE_ap, toE_ap, toS'_ap, toM'_ap, asNil_ap, asCons_ap, opE2_ap, opE1_ap, opEn_ap, dispE_ap, ifE_ap, andV_ap, orV_ap, notV_ap, mvV_ap, mtE_ap, callE_ap, pCall_ap, itE_ap, itA_ap, icA_ap, icB_ap, forS_ap, rg1_ap, rg2_ap, fnM_ap, seqO_nx, seqO_rt, seqO_bk, seqO_ct, ifO_some, asgO_some, retO_some, exprO_some, b2_some, c2_some, ixO_tup, ixO_lst, ixO_shr, lE_some, lC_int, lC_bl, lC_str, lC_non, tb_bl, andO_some, orO_some, lT_some, bE_bl, andEO_some, orEO_some, notEO_some, tE_some, sO_some, mO_some, acO_some, acT_some, o2O_some, o2T_some, o2F_some, o1O_some, o1F_some, onO_some, onF_some, diO_some, ifEO_some, andVO_bl, orVO_bl, notVO_bl, mvO_lst, mvO_tup, mvO_shr, mtO_some, mtT_some, mtF_some, callF_some, pcF_some, itAO_some, itAF_some, forO_some, fnO_rt, fnO_nx, lk_zero, lk_succ, lstAt_zero, lstAt_succ, raw_v, raw_s, raw_m, raws_nil, raws_cons, valsOf_nil, valsOf_v, argsD_nil, argsD_cons, argD_v, argD_s, argD_m, gNs_nil, gNs_cons, Option.bind_some, Option.bind_none, Option.map_some, Option.map_none, List.set_cons_zero, List.set_cons_succ, List.map_cons, List.map_nil, List.cons_append, List.nil_append, Bool.false_eq_true, dAdd_i, dSub_i, addI_i, dNeg_i, dLt_i, dLe_i, dGt_i, dGe_i, dEq_i, dEq_s, dEq_b, dNe_i, dNe_s, dIsN_non, dIsN_int, dIsN_tup, dIsN_lst, dIsN_bl, dIsN_str, dNotN_non, dNotN_int, dNotN_tup, dLen_lst, dLen_tup, dLen_shr, dSum_tI, dSum_lI, dSum_sI, dInt_i, dInt_b, dAbs_i, dTuple_lI, dTuple_sI, dList_lI, dList_tI, dList_sI, dMax_2, dMin_2, mkTup_2, mkTup_3, mkLst_0, mkLst_1, mkLst_2, kit_ib, kit_ii, kit_is, kit_it, kit_bb, kit_bi, kit_tb, kit_ti, kit_ts, kit_tt, kit_nb, kit_ni, kit_ns, kit_nt, kit_sb, kit_si, kit_ss, kit_st, isi_int, isi_bl, isi_str, isi_tup, isi_non, lPop_snoc, lReverse_ints, ↓reduceIte, List.length_cons, List.length_nil, List.length_map, List.reduceReplicate, Nat.reduceSub, Bool.not_true, Bool.not_false, decide_true, decide_false, decide_eq_true_eq, Nat.reduceLeDiff, pIx_ap', atI_z, atI_o, atI_t, parS_eq, parT_some, parV_some, setS_ap, stO_some, stL_some, stT_some, augIxS_ap, pCut_ap, cuO_some, pNo_ap, pSo_ap, soO_int, freeC_ap, fcO_int, fcO_str, yesC_ap, wipeE_nil, wipeE_cons, pComp_ap, cpO_some, icB_sI, icB_tI, icB_lI, itE_sI, itE_tI, itE_lI, noM_nil, noM_v, noM_s, noMS_nil, noMS_v, noMS_c, callO_no, callO_m0, putM_nil, putM_cons, dropM_nil, dropM_cons, shares_nil, shares_cons, share_int, share_bl, share_str, share_non, share_tup, share_lst, share_shr_, shares_ints, Nat.reduceBEq, Bool.true_and, Bool.and_true, Bool.and_self, Bool.false_and, Bool.and_false, Bool.not_eq_true, Bool.not_eq_false, Bool.or_true, Bool.true_or, Bool.or_false, Bool.false_or, beq_self_eq_true, pChain_ap, dIn_lI, dIn_tI, dIn_sI, dIn_fI, dNin_lI, dNin_tI, dNin_sI, dNin_fI, compE_ap, ceO_some, restE_nil, restE_cons, rsO_none, rsO_int, forL_ap, flO_lst, flO_int, backO_nx, backO_rt, forC_ap, fcS_lst, chO_some, chB_bl, Int.natCast_zero, dMod_i, dDiv_i, dMul_i, divOk_s, mulOk_l, mulOk_r, Int.reducePow, Int.reduceNeg, Int.reduceLT, Int.reduceLE, Int.reduceEq, Int.reduceAdd, Int.reduceSub, Int.reduceMul, Nat.reduceAdd, Nat.reducePow, lC_tI, lC_sI, dLen_frz, fcO_tI, shares_eI, rgD_ru, pAnd_ap, pOr_ap, pNot_ap, anO_bl, orC_bl, noC_bl, dEqX_tI, dNeX_tI, dEqX_lI, pComp2_ap, cp2O_some, dRev_lI, dSorted_lI, dAny_lB, augLS_ap, setS2_ap, dNe_b])
local macro_rules | `(tactic| walk_at "fl*") => `(tactic| simp -implicitDefEqProofs only [seqS_ap, ifS_ap, asgS_ap, gN_ap, gTupN_ap, retS_ap, exprS_ap, skipS_ap, p1_ap, p2_ap, pn_ap, psNil_ap, psCons_ap, pV_ap, pC_ap, liftE_ap, liftC_ap, pIf_ap, tB'_ap, tAnd'_ap, tOr'_ap, tNot'_ap, liftT_ap, blE_ap, andE_ap, orE_ap, notE_ap, toE_ap, toS'_ap, toM'_ap, asNil_ap, asCons_ap, opE2_ap, opE1_ap, opEn_ap, dispE_ap, ifE_ap, andV_ap, orV_ap, notV_ap, mvV_ap, mtE_ap, callE_ap, pCall_ap, itE_ap, itA_ap, icA_ap, icB_ap, forS_ap, rg1_ap, rg2_ap, fnM_ap, seqO_nx, seqO_rt, seqO_bk, seqO_ct, ifO_some, asgO_some, retO_some, exprO_some, b2_some, c2_some, ixO_tup, ixO_lst, ixO_shr, lE_some, lC_int, lC_bl, lC_str, lC_non, tb_bl, andO_some, orO_some, lT_some, bE_bl, andEO_some, orEO_some, notEO_some, tE_some, sO_some, mO_some, acO_some, acT_some, o2O_some, o2T_some, o2F_some, o1O_some, o1F_some, onO_some, onF_some, diO_some, ifEO_some, andVO_bl, orVO_bl, notVO_bl, mvO_lst, mvO_tup, mvO_shr, mtO_some, mtT_some, mtF_some, callF_some, pcF_some, itAO_some, itAF_some, forO_some, fnO_rt, fnO_nx, lk_zero, lk_succ, lstAt_zero, lstAt_succ, raw_v, raw_s, raw_m, raws_nil, raws_cons, valsOf_nil, valsOf_v, argsD_nil, argsD_cons, argD_v, argD_s, argD_m, gNs_nil, gNs_cons, Option.bind_some, Option.bind_none, Option.map_some, Option.map_none, List.set_cons_zero, List.set_cons_succ, List.map_cons, List.map_nil, List.cons_append, List.nil_append, Bool.false_eq_true, dAdd_i, dSub_i, addI_i, dNeg_i, dLt_i, dLe_i, dGt_i, dGe_i, dEq_i, dEq_s, dEq_b, dNe_i, dNe_s, dIsN_non, dIsN_int, dIsN_tup, dIsN_lst, dIsN_bl, dIsN_str, dNotN_non, dNotN_int, dNotN_tup, dLen_lst, dLen_tup, dLen_shr, dSum_tI, dSum_lI, dSum_sI, dInt_i, dInt_b, dAbs_i, dTuple_lI, dTuple_sI, dList_lI, dList_tI, dList_sI, dMax_2, dMin_2, mkTup_2, mkTup_3, mkLst_0, mkLst_1, mkLst_2, kit_ib, kit_ii, kit_is, kit_it, kit_bb, kit_bi, kit_tb, kit_ti, kit_ts, kit_tt, kit_nb, kit_ni, kit_ns, kit_nt, kit_sb, kit_si, kit_ss, kit_st, isi_int, isi_bl, isi_str, isi_tup, isi_non, lPop_snoc, lReverse_ints, ↓reduceIte, List.length_cons, List.length_nil, List.length_map, List.reduceReplicate, Nat.reduceSub, Bool.not_true, Bool.not_false, decide_true, decide_false, decide_eq_true_eq, Nat.reduceLeDiff, pIx_ap', atI_z, atI_o, atI_t, parS_eq, parT_some, parV_some, setS_ap, stO_some, stL_some, stT_some, augIxS_ap, pCut_ap, cuO_some, pNo_ap, pSo_ap, soO_int, freeC_ap, fcO_int, fcO_str, yesC_ap, wipeE_nil, wipeE_cons, pComp_ap, cpO_some, icB_sI, icB_tI, icB_lI, itE_sI, itE_tI, itE_lI, noM_nil, noM_v, noM_s, noMS_nil, noMS_v, noMS_c, callO_no, callO_m0, putM_nil, putM_cons, dropM_nil, dropM_cons, shares_nil, shares_cons, share_int, share_bl, share_str, share_non, share_tup, share_lst, share_shr_, shares_ints, Nat.reduceBEq, Bool.true_and, Bool.and_true, Bool.and_self, Bool.false_and, Bool.and_false, Bool.not_eq_true, Bool.not_eq_false, Bool.or_true, Bool.true_or, Bool.or_false, Bool.false_or, beq_self_eq_true, pChain_ap, dIn_lI, dIn_tI, dIn_sI, dIn_fI, dNin_lI, dNin_tI, dNin_sI, dNin_fI, compE_ap, ceO_some, restE_nil, restE_cons, rsO_none, rsO_int, forL_ap, flO_lst, flO_int, backO_nx, backO_rt, forC_ap, fcS_lst, chO_some, chB_bl, Int.natCast_zero, dMod_i, dDiv_i, dMul_i, divOk_s, mulOk_l, mulOk_r, Int.reducePow, Int.reduceNeg, Int.reduceLT, Int.reduceLE, Int.reduceEq, Int.reduceAdd, Int.reduceSub, Int.reduceMul, Nat.reduceAdd, Nat.reducePow, lC_tI, lC_sI, dLen_frz, fcO_tI, shares_eI, rgD_ru, pAnd_ap, pOr_ap, pNot_ap, anO_bl, orC_bl, noC_bl, dEqX_tI, dNeX_tI, dEqX_lI, pComp2_ap, cp2O_some, dRev_lI, dSorted_lI, dAny_lB, augLS_ap, setS2_ap, dNe_b, *])
open VT
def LE (n many : Nat) (ds : List Int) (l : Option D) (V : List (List Int)) (t p : Option D) (due : Int) (s o : Option D) : FL.Env := [some (.lst (ds.map .int)), some (.int (n : Nat)), some (.int (many : Nat)), l, some (eV V), t, p, some (.int due), s, o, none]
theorem line_turn {n many : Nat} (h0 : 0 < n) (hn : n ≤ 8) {V : List (List Int)} (hz : V.length ≤ 900) {line : List Int} (h : OnL n V line) (ds : List Int) (l t p o : Option D) : b_l_on_a_line_1 (LE n many ds l V t p (due V line) (some (.lst (line.map .int))) o) = some (.nx (LE n many ds l V t p (due V line) (some (.lst (line.map .int))) o)) := by
  have f := fits_line_eq h0 (by omega) h.pm h.ln
  have fa : (V.all fun v => falls v line) = true := List.all_eq_true.mpr fun v hv => (h.sp v hv).falls
  rw [fa] at f
  have m := middle_eq h0 (by omega) h.pm h.ne (by omega) h.ln h.sp
  have m : m_middle_choice [eV V, .tup (line.map .int)] = some (.int (due V line), []) := m
  have s1 := same_refl 8 (.bl true) trivial
  have s2 := same_refl 8 (.int (due V line)) trivial
  have dt := dTuple_lI line
  unfold LE b_l_on_a_line_1
  walk_at "fl"
  rw [f]
  walk_at "fl"
  rw [s1]
  walk_at "fl"
  rw [m]
  walk_at "fl"
  rw [s2]
  walk_at "fl"
theorem line_round {n many : Nat} (h0 : 0 < n) (hn : n ≤ 8) {V : List (List Int)} (hz : V.length ≤ 900) {line : List Int} (h : OnL n V line) {b : Int} (hb : b ∈ ru n) (ds : List Int) (l t p s : Option D) : b_l_on_a_line_2 (LE n many ds l V t p (due V line) s (some (.int b))) = some (.nx (LE n many ds l V t p (due V line) s (some (.int b)))) := by
  have ha : All n V := ⟨by omega, h.pm⟩
  have s1 := same_refl 8 (.bl true) trivial
  have s2 := same_refl 8 (.bl false) trivial
  have b1 := beats_eq ha h.due_mem hb
  have b2 := beats_eq ha hb h.due_mem
  unfold LE b_l_on_a_line_2
  by_cases e : b = due V line
  · rw [e]
    walk_at "fl"
  · have w := h.wins hb e
    have w1 : bt V (due V line) b = true := by rw [← wv_of e]; exact w
    have w2 : bt V b (due V line) = false := by
      rw [← wv_of fun z => e z.symm]
      cases q : wv V b (due V line) with
      | false => rfl
      | true => exact (wv_as V _ _ w q).elim
    rw [w1] at b1
    rw [w2] at b2
    have it : (if (!decide (b = due V line)) = true then some false else some false) = some false := by split <;> rfl
    walk_at "fl"
    rw [b1]
    walk_at "fl"
    rw [s1]
    walk_at "fl"
    rw [it]
    walk_at "fl"
    rw [b2]
    walk_at "fl"
    rw [s2]
    walk_at "fl"
    rw [it]
    walk_at "fl"
theorem on_a_line_ex {n : Nat} (h0 : 0 < n) (hn : n ≤ 8) (many : Nat) (hm : many ≤ 900) (odd : many % 2 = 1) (ds : List Int) : ∃ ds' : List Int, m_l_on_a_line [.lst (ds.map .int), .int (n : Nat), .int (many : Nat)] = some (.bl true, [.lst (ds'.map .int)]) := by
  obtain ⟨ds1, line, o1, o2⟩ := order_ex n (by omega) ds
  obtain ⟨ds2, V, p1', p2', p3, p4⟩ := peaked_ex h0 (by omega) (seq_shr line) o2 many hm ds1
  have h : OnL n V line := ⟨p3, o2, p4, by rw [p2']; exact odd⟩
  have ha : All n V := ⟨by omega, h.pm⟩
  obtain ⟨hr, hdue⟩ := h.rev
  have ll := ord_len o2
  have hc : ∀ (ds' : List Int) (A B : Option D), cpL (compC (gN 10) yesC (p2 dIndex (pV 3) (pIx (pV 10) (pC (.int 0)))) [some (.lst (ds'.map .int)), some (.int (n : Nat)), some (.int (many : Nat)), some (.lst (line.map .int)), some (eV V), A, none, none, none, none, none] (V.map fun ns => .tup (ns.map .int))) = some (.lst ((places (pkl line) V).map .int)) := fun ds' A B => by
    rw [comp_map (a := fun ns : List Int => D.tup (ns.map .int)) (fun v => D.int (line.idxOf (v.getD 0 0) : Nat)) (fun v hv => ⟨_, gN_ap _ _ _, by
      have vl := ord_len (h.pm v hv)
      have m : v[0] ∈ line := (ord_mem h.ln).mpr ((ord_mem (h.pm v hv)).mp (List.getElem_mem (by omega)))
      have a0 := atI_int (ns := v) (j := 0) (by omega)
      have a0 : L2.atI (v.map D.int) 0 = some (.int v[0]) := a0
      have e0 : v.getD 0 0 = v[0] := by rw [List.getD_eq_getElem?_getD, List.getElem?_eq_getElem (by omega)]; rfl
      walk_at "fl"
      rw [a0, b2_some, index_lI m, e0]⟩) (by omega), places, List.map_map]
    rfl
  obtain ⟨hk, e⟩ := mid_get (pk := pkl line) h.ne
  obtain ⟨v0, hv0, e0⟩ := mid_mem (pk := pkl line) h.ne
  have lt0 := (h.sp v0 hv0).lt
  have hib := icBO_tP (pures_eI V)
  have a1 := atI_int (ns := iSort (places (pkl line) V)) (j := V.length / 2) hk
  rw [← e, e0] at a1
  have ck : ((V.length / 2 : Nat) : Int) = (many : Int) / 2 := by omega
  rw [ck] at a1
  have a2 := atI_int (ns := line) (j := pkl line v0) (by omega)
  have e3 : due V line = line[pkl line v0] := by
    unfold due
    rw [e0, Int.toNat_natCast, List.getD_eq_getElem?_getD, List.getElem?_eq_getElem (by omega)]; rfl
  rw [← e3] at a2
  obtain ⟨S, hS, tp⟩ := top_eq h0 hn ha
  have hSd := (hS.win (wv_as V) (wv_ir V) h.due_mem).mp h.win
  subst hSd
  have hd4 := head_eq h0 (by omega) ha
  have hd5 : m_head [eV V, .int (n : Nat)] = some (.int (due V line), []) := by
    rcases filter_win (n := n) (wv_as V) (wv_ir V) with fw | ⟨a, ha', hw, fw⟩
    · have : due V line ∈ (ru n).filter (win n (wv V)) := List.mem_filter.mpr ⟨h.due_mem, h.win⟩
      rw [fw] at this; cases this
    · rw [fw] at hd4
      have := win_one (wv_as V) (wv_ir V) ha' h.due_mem hw h.win
      rw [this] at hd4
      exact hd4
  have hrn := ring_none (n := n) (by omega) ha h.tr
  have t1 := line_turn h0 hn (many := many) (by omega) h ds2
  have t2 := line_turn h0 hn (many := many) (by omega) hr ds2
  rw [hdue] at t2
  have dl := dList_lI line
  have rv := lReverse_ints line
  have sa := same_refl 8 (.int (due V line)) trivial
  have st := same_ints [due V line] (by simp)
  have st1 : m_l_same 8 [.tup [.int (due V line)], .tup [.int (due V line)]] = some (.bl true, []) := st
  have mk : mkTup [.int (due V line)] = some (.tup [.int (due V line)]) := mkTup_P (ds := [.int (due V line)]) (pures_ints [due V line]) (by simp)
  have ri := itR_nat (n := n) (by omega)
  rw [upto_ru] at ri
  have l1 : ∀ (p : Option D), forM (gN 8) b_l_on_a_line_1 [.lst (line.map .int), .lst (line.reverse.map .int)] (LE n many ds2 none V none p (due V line) none none) = some (.nx (LE n many ds2 none V none p (due V line) (some (.lst (line.reverse.map .int))) none)) := fun p => by
    rw [forM_cons_nx (ρ1 := LE n many ds2 none V none p (due V line) (some (.lst (line.map .int))) none) rfl (t1 none none p none), forM_cons_nx (ρ1 := LE n many ds2 none V none p (due V line) (some (.lst (line.reverse.map .int))) none) rfl (t2 none none p none), forM_nil]
  obtain ⟨ρ, l2, o, rfl⟩ := forM_all_list (a := D.int) (g := gN 9) (m := b_l_on_a_line_2) (fun ρ => ∃ o, ρ = LE n many ds2 none V none (some (.lst ((iSort (places (pkl line) V)).map .int))) (due V line) (some (.lst (line.reverse.map .int))) o) (ru n) (LE n many ds2 none V none (some (.lst ((iSort (places (pkl line) V)).map .int))) (due V line) (some (.lst (line.reverse.map .int))) none) (by
    rintro b ρ hb ⟨o, rfl⟩
    exact ⟨LE n many ds2 none V none (some (.lst ((iSort (places (pkl line) V)).map .int))) (due V line) (some (.lst (line.reverse.map .int))) (some (.int b)), _, rfl, line_round h0 hn (by omega) h hb ds2 none none _ _, _, rfl⟩) ⟨none, rfl⟩
  refine ⟨ds2, ?_⟩
  unfold LE at *
  unfold m_l_on_a_line
  rw [fnM_ap (by rfl)]
  walk_at "fl"
  rw [o1]
  walk_at "fl"
  rw [p1']
  walk_at "fl"
  rw [hib, cpO_some, hc ds2 _ none]
  walk_at "fl"
  rw [a1]
  walk_at "fl"
  rw [a2]
  walk_at "fl"
  rw [l1]
  walk_at "fl"
  rw [ri]
  walk_at "fl"
  rw [l2]
  walk_at "fl"
  rw [hd5]
  walk_at "fl"
  rw [sa]
  walk_at "fl"
  rw [tp, mk]
  walk_at "fl"
  rw [st1]
  walk_at "fl"
  rw [hrn]
  walk_at "fl"
  exact finM_one rfl rfl (own_lI ds2)

end K58
end

section
set_option Elab.async false
set_option linter.all false
set_option maxRecDepth 100000
set_option maxHeartbeats 8000000
namespace K58
open FL
local macro_rules | `(tactic| walk_at "fl") => `(tactic| simp -implicitDefEqProofs only [seqS_ap, ifS_ap, asgS_ap, gN_ap, gTupN_ap, retS_ap, exprS_ap, skipS_ap, p1_ap, p2_ap, pn_ap, psNil_ap, psCons_ap, pV_ap, pC_ap, liftE_ap, liftC_ap, pIf_ap, tB'_ap, tAnd'_ap, tOr'_ap, tNot'_ap, liftT_ap, blE_ap, andE_ap, orE_ap, notE_ap, toE_ap, toS'_ap, toM'_ap, asNil_ap, asCons_ap, opE2_ap, opE1_ap, opEn_ap, dispE_ap, ifE_ap, andV_ap, orV_ap, notV_ap, mvV_ap, mtE_ap, callE_ap, pCall_ap, itE_ap, itA_ap, icA_ap, icB_ap, forS_ap, rg1_ap, rg2_ap, fnM_ap, seqO_nx, seqO_rt, seqO_bk, seqO_ct, ifO_some, asgO_some, retO_some, exprO_some, b2_some, c2_some, ixO_tup, ixO_lst, ixO_shr, lE_some, lC_int, lC_bl, lC_str, lC_non, tb_bl, andO_some, orO_some, lT_some, bE_bl, andEO_some, orEO_some, notEO_some, tE_some, sO_some, mO_some, acO_some, acT_some, o2O_some, o2T_some, o2F_some, o1O_some, o1F_some, onO_some, onF_some, diO_some, ifEO_some, andVO_bl, orVO_bl, notVO_bl, mvO_lst, mvO_tup, mvO_shr, mtO_some, mtT_some, mtF_some, callF_some, pcF_some, itAO_some, itAF_some, forO_some, fnO_rt, fnO_nx, lk_zero, lk_succ, lstAt_zero, lstAt_succ, raw_v, raw_s, raw_m, raws_nil, raws_cons, valsOf_nil, valsOf_v, argsD_nil, argsD_cons, argD_v, argD_s, argD_m, gNs_nil, gNs_cons, Option.bind_some, Option.bind_none, Option.map_some, Option.map_none, List.set_cons_zero, List.set_cons_succ, List.map_cons, List.map_nil, List.cons_append, List.nil_append, Bool.false_eq_true, dAdd_i, dSub_i, addI_i, dNeg_i, dLt_i, dLe_i, dGt_i, dGe_i, dEq_i, dEq_s, dEq_b, dNe_i, dNe_s, dIsN_non, dIsN_int, dIsN_tup, dIsN_lst, dIsN_bl, dIsN_str, dNotN_non, dNotN_int, dNotN_tup, dLen_lst, dLen_tup, dLen_shr, dSum_tI, dSum_lI, dSum_sI, dInt_i, dInt_b, dAbs_i, dTuple_lI, dTuple_sI, dList_lI, dList_tI, dList_sI, dMax_2, dMin_2, mkTup_2, mkTup_3, mkLst_0, mkLst_1, mkLst_2, kit_ib, kit_ii, kit_is, kit_it, kit_bb, kit_bi, kit_tb, kit_ti, kit_ts, kit_tt, kit_nb, kit_ni, kit_ns, kit_nt, kit_sb, kit_si, kit_ss, kit_st, isi_int, isi_bl, isi_str, isi_tup, isi_non, lPop_snoc, lReverse_ints, ↓reduceIte, List.length_cons, List.length_nil, List.length_map, List.reduceReplicate, Nat.reduceSub, Bool.not_true, Bool.not_false, decide_true, decide_false, decide_eq_true_eq, Nat.reduceLeDiff, pIx_ap', atI_z, atI_o, atI_t, parS_eq, parT_some, parV_some, setS_ap, stO_some, stL_some, stT_some, augIxS_ap, pCut_ap, cuO_some, pNo_ap, pSo_ap, soO_int, freeC_ap, fcO_int, fcO_str, yesC_ap, wipeE_nil, wipeE_cons, pComp_ap, cpO_some, icB_sI, icB_tI, icB_lI, itE_sI, itE_tI, itE_lI, noM_nil, noM_v, noM_s, noMS_nil, noMS_v, noMS_c, callO_no, callO_m0, putM_nil, putM_cons, dropM_nil, dropM_cons, shares_nil, shares_cons, share_int, share_bl, share_str, share_non, share_tup, share_lst, share_shr_, shares_ints, Nat.reduceBEq, Bool.true_and, Bool.and_true, Bool.and_self, Bool.false_and, Bool.and_false, Bool.not_eq_true, Bool.not_eq_false, Bool.or_true, Bool.true_or, Bool.or_false, Bool.false_or, beq_self_eq_true, pChain_ap, dIn_lI, dIn_tI, dIn_sI, dIn_fI, dNin_lI, dNin_tI, dNin_sI, dNin_fI, compE_ap, ceO_some, restE_nil, restE_cons, rsO_none, rsO_int, forL_ap, flO_lst, flO_int, backO_nx, backO_rt, forC_ap, fcS_lst, chO_some, chB_bl, Int.natCast_zero, dMod_i, dDiv_i, dMul_i, divOk_s, mulOk_l, mulOk_r, Int.reducePow, Int.reduceNeg, Int.reduceLT, Int.reduceLE, Int.reduceEq, Int.reduceAdd, Int.reduceSub, Int.reduceMul, Nat.reduceAdd, Nat.reducePow, lC_tI, lC_sI, dLen_frz, fcO_tI, shares_eI, rgD_ru, pAnd_ap, pOr_ap, pNot_ap, anO_bl, orC_bl, noC_bl, dEqX_tI, dNeX_tI, dEqX_lI, pComp2_ap, cp2O_some, dRev_lI, dSorted_lI, dAny_lB, augLS_ap, setS2_ap, dNe_b])
local macro_rules | `(tactic| walk_at "fl*") => `(tactic| simp -implicitDefEqProofs only [seqS_ap, ifS_ap, asgS_ap, gN_ap, gTupN_ap, retS_ap, exprS_ap, skipS_ap, p1_ap, p2_ap, pn_ap, psNil_ap, psCons_ap, pV_ap, pC_ap, liftE_ap, liftC_ap, pIf_ap, tB'_ap, tAnd'_ap, tOr'_ap, tNot'_ap, liftT_ap, blE_ap, andE_ap, orE_ap, notE_ap, toE_ap, toS'_ap, toM'_ap, asNil_ap, asCons_ap, opE2_ap, opE1_ap, opEn_ap, dispE_ap, ifE_ap, andV_ap, orV_ap, notV_ap, mvV_ap, mtE_ap, callE_ap, pCall_ap, itE_ap, itA_ap, icA_ap, icB_ap, forS_ap, rg1_ap, rg2_ap, fnM_ap, seqO_nx, seqO_rt, seqO_bk, seqO_ct, ifO_some, asgO_some, retO_some, exprO_some, b2_some, c2_some, ixO_tup, ixO_lst, ixO_shr, lE_some, lC_int, lC_bl, lC_str, lC_non, tb_bl, andO_some, orO_some, lT_some, bE_bl, andEO_some, orEO_some, notEO_some, tE_some, sO_some, mO_some, acO_some, acT_some, o2O_some, o2T_some, o2F_some, o1O_some, o1F_some, onO_some, onF_some, diO_some, ifEO_some, andVO_bl, orVO_bl, notVO_bl, mvO_lst, mvO_tup, mvO_shr, mtO_some, mtT_some, mtF_some, callF_some, pcF_some, itAO_some, itAF_some, forO_some, fnO_rt, fnO_nx, lk_zero, lk_succ, lstAt_zero, lstAt_succ, raw_v, raw_s, raw_m, raws_nil, raws_cons, valsOf_nil, valsOf_v, argsD_nil, argsD_cons, argD_v, argD_s, argD_m, gNs_nil, gNs_cons, Option.bind_some, Option.bind_none, Option.map_some, Option.map_none, List.set_cons_zero, List.set_cons_succ, List.map_cons, List.map_nil, List.cons_append, List.nil_append, Bool.false_eq_true, dAdd_i, dSub_i, addI_i, dNeg_i, dLt_i, dLe_i, dGt_i, dGe_i, dEq_i, dEq_s, dEq_b, dNe_i, dNe_s, dIsN_non, dIsN_int, dIsN_tup, dIsN_lst, dIsN_bl, dIsN_str, dNotN_non, dNotN_int, dNotN_tup, dLen_lst, dLen_tup, dLen_shr, dSum_tI, dSum_lI, dSum_sI, dInt_i, dInt_b, dAbs_i, dTuple_lI, dTuple_sI, dList_lI, dList_tI, dList_sI, dMax_2, dMin_2, mkTup_2, mkTup_3, mkLst_0, mkLst_1, mkLst_2, kit_ib, kit_ii, kit_is, kit_it, kit_bb, kit_bi, kit_tb, kit_ti, kit_ts, kit_tt, kit_nb, kit_ni, kit_ns, kit_nt, kit_sb, kit_si, kit_ss, kit_st, isi_int, isi_bl, isi_str, isi_tup, isi_non, lPop_snoc, lReverse_ints, ↓reduceIte, List.length_cons, List.length_nil, List.length_map, List.reduceReplicate, Nat.reduceSub, Bool.not_true, Bool.not_false, decide_true, decide_false, decide_eq_true_eq, Nat.reduceLeDiff, pIx_ap', atI_z, atI_o, atI_t, parS_eq, parT_some, parV_some, setS_ap, stO_some, stL_some, stT_some, augIxS_ap, pCut_ap, cuO_some, pNo_ap, pSo_ap, soO_int, freeC_ap, fcO_int, fcO_str, yesC_ap, wipeE_nil, wipeE_cons, pComp_ap, cpO_some, icB_sI, icB_tI, icB_lI, itE_sI, itE_tI, itE_lI, noM_nil, noM_v, noM_s, noMS_nil, noMS_v, noMS_c, callO_no, callO_m0, putM_nil, putM_cons, dropM_nil, dropM_cons, shares_nil, shares_cons, share_int, share_bl, share_str, share_non, share_tup, share_lst, share_shr_, shares_ints, Nat.reduceBEq, Bool.true_and, Bool.and_true, Bool.and_self, Bool.false_and, Bool.and_false, Bool.not_eq_true, Bool.not_eq_false, Bool.or_true, Bool.true_or, Bool.or_false, Bool.false_or, beq_self_eq_true, pChain_ap, dIn_lI, dIn_tI, dIn_sI, dIn_fI, dNin_lI, dNin_tI, dNin_sI, dNin_fI, compE_ap, ceO_some, restE_nil, restE_cons, rsO_none, rsO_int, forL_ap, flO_lst, flO_int, backO_nx, backO_rt, forC_ap, fcS_lst, chO_some, chB_bl, Int.natCast_zero, dMod_i, dDiv_i, dMul_i, divOk_s, mulOk_l, mulOk_r, Int.reducePow, Int.reduceNeg, Int.reduceLT, Int.reduceLE, Int.reduceEq, Int.reduceAdd, Int.reduceSub, Int.reduceMul, Nat.reduceAdd, Nat.reducePow, lC_tI, lC_sI, dLen_frz, fcO_tI, shares_eI, rgD_ru, pAnd_ap, pOr_ap, pNot_ap, anO_bl, orC_bl, noC_bl, dEqX_tI, dNeX_tI, dEqX_lI, pComp2_ap, cp2O_some, dRev_lI, dSorted_lI, dAny_lB, augLS_ap, setS2_ap, dNe_b, *])
open VT
theorem tws_ru (o : List Int) : tws o = (ru o.length).map fun a => tw o a.toNat := by
  unfold tws ru
  rw [List.map_map]
  exact List.map_congr_left fun a _ => by show tw o a = tw o (a : Int).toNat; rw [Int.toNat_natCast]
theorem turned_ex {n : Nat} (hn : n ≤ 900) (ds : List Int) : ∃ (ds' o : List Int), o.Perm (ru n) ∧ m_l_turned [.lst (ds.map .int), .int (n : Nat)] = some (eV (tws o), [.lst (ds'.map .int)]) := by
  obtain ⟨ds', o, h1, h2⟩ := order_ex n hn ds
  have ol : o.length = n := ord_len h2
  refine ⟨ds', o, h2, ?_⟩
  have hi := itR_nat (n := n) (by omega)
  rw [upto_ru] at hi
  have hc : cpL (compC (gN 3) yesC (pn dTuple (psCons (p2 dAdd (pCut (pV 2) (pSo (pV 3)) pNo) (pCut (pV 2) pNo (pSo (pV 3)))) psNil)) [some (.lst (ds'.map .int)), some (.int (n : Nat)), some (.lst (o.map .int)), none] ((ru n).map .int)) = some (.lst ((tws o).map fun ns => .tup (ns.map .int))) := by
    rw [comp_map (a := D.int) (fun a => D.tup ((tw o a.toNat).map .int)) (fun a ha => ⟨_, gN_ap _ _ _, by
      have a0 := (ru_mem.mp ha).1
      have c1 := cutLo_l pure_int o (k := a) a0
      have c2 := cutHi_l pure_int o (k := a) a0
      have c3 := dAdd_lI (xs := o.drop a.toNat) (ys := o.take a.toNat) (by rw [List.length_drop, List.length_take]; omega)
      have c4 := dTuple_lI (o.drop a.toNat ++ o.take a.toNat)
      walk_at "fl"
      rw [c1, c2, b2_some, c3]
      walk_at "fl"
      rw [tw, List.map_append]
      first | rfl | skip⟩) (by rw [ru_len]; omega), tws_ru, ol, List.map_map]
    rfl
  have ht := dTuple_lP (pures_eI (tws o))
  unfold m_l_turned
  rw [fnM_ap (by rfl)]
  walk_at "fl"
  rw [h1]
  walk_at "fl"
  rw [hi, cpO_some, hc]
  walk_at "fl"
  rw [ht]
  walk_at "fl"
  exact finM_one (D.pure_own (pure_eW (tws o))) rfl (own_lI ds')
theorem many_all {n : Nat} (hn : n < 8) {o : List Int} (ho : o.Perm (ru n)) {t : Nat} (ht : t ≤ 4) : All n (many t o) := by
  refine ⟨?_, fun v hv => ?_⟩
  · rw [many_len, ord_len ho]
    have := Nat.mul_le_mul ht (Nat.le_of_lt hn)
    omega
  · obtain ⟨a, _, rfl⟩ := many_mem hv
    exact (tw_perm o a).trans ho
def OE (n t : Nat) (ds : List Int) (o : List Int) (x d s q : Option D) : FL.Env := [some (.lst (ds.map .int)), some (.int (n : Nat)), some (.int (t : Nat)), some (eV (tws o)), some (eV (many t o)), some (.tup (o.map .int)), x, d, s, q]
theorem round_turn {n t : Nat} (hn : n < 8) (h0 : 0 < t) (ht : t ≤ 4) {o : List Int} (ho : o.Perm (ru n)) (ds : List Int) {i s : Nat} (hi : i < n) (hs : s < n) (hs0 : 0 < s) (d q : Option D) : b_l_round_1 (OE n t ds o (some (.int (i : Nat))) d (some (.int (s : Nat))) q) = some (.nx (OE n t ds o (some (.int (i : Nat))) d (some (.int (s : Nat))) (some (.int (o.getD ((i + s) % n) 0))))) := by
  have ol := ord_len ho
  have sq := seq_tup o
  have hp : (i + s) % n < n := Nat.mod_lt _ (by omega)
  have a1 := sq.at_ ((i + s) % n) (by omega)
  have a2 := sq.at_ i (by omega)
  have cm : (((i + s) % n : Nat) : Int) = ((i : Int) + (s : Int)) % (n : Int) := by push_cast; rfl
  rw [cm] at a1
  rw [ixO_tup] at a1 a2
  have b1 := beats_eq (many_all hn ho ht) (getD_mem ho hi) (getD_mem ho hp)
  rw [turn_bt ho hn h0 hi hs hs0] at b1
  have dm := dMod_i (i := (i : Int) + (s : Int)) (j := (n : Int)) (by omega)
  have s1 := same_refl 8 (.bl (decide (2 * s < n))) trivial
  have e1 : decide (2 * (s : Int) < (n : Int)) = decide (2 * s < n) := decide_eq_decide.mpr (by omega)
  unfold OE b_l_round_1
  walk_at "fl"
  rw [dm]
  walk_at "fl"
  rw [a1]
  walk_at "fl"
  rw [a2]
  walk_at "fl"
  rw [b1]
  walk_at "fl"
  rw [e1, s1]
  walk_at "fl"
theorem round_row {n t : Nat} (hn : n < 8) (h0 : 0 < t) (ht : t ≤ 4) {o : List Int} (ho : o.Perm (ru n)) (ds : List Int) {i : Nat} (hi : i < n) (d s q : Option D) : ∃ s' q', b_l_round_2 (OE n t ds o (some (.int (i : Nat))) d s q) = some (.nx (OE n t ds o (some (.int (i : Nat))) d s' q')) := by
  have hr : itR 1 (n : Int) = some ((List.range' 1 (n - 1)).map fun i : Nat => D.int (i : Int)) := by
    rw [itR_of (by omega) (by omega) (by omega) (by omega)]
    have := rangeD_nat 1 n
    rw [← this]; rfl
  obtain ⟨ρ, hl, s', q', rfl⟩ := forM_all_list (a := fun k : Nat => D.int (k : Int)) (g := gN 8) (m := b_l_round_1) (fun ρ => ∃ s q, ρ = OE n t ds o (some (.int (i : Nat))) d s q) (List.range' 1 (n - 1)) (OE n t ds o (some (.int (i : Nat))) d s q) (by
    rintro k ρ hk ⟨s, q, rfl⟩
    rw [List.mem_range'_1] at hk
    exact ⟨OE n t ds o (some (.int (i : Nat))) d (some (.int (k : Nat))) q, _, rfl, round_turn hn h0 ht ho ds hi (by omega) (by omega) d q, _, _, rfl⟩) ⟨s, q, rfl⟩
  refine ⟨s', q', ?_⟩
  unfold b_l_round_2
  rw [← hl]
  unfold OE
  walk_at "fl"
  rw [hr]
  walk_at "fl"
theorem round_ex {n : Nat} (h0 : 0 < n) (hn : n < 8) (ds : List Int) : ∃ ds' : List Int, m_l_round [.lst (ds.map .int), .int (n : Nat)] = some (.bl true, [.lst (ds'.map .int)]) := by
  obtain ⟨r, ds1, t1, t2, t3⟩ := take_ex ds 4 (by omega)
  obtain ⟨t, et⟩ := Int.eq_ofNat_of_zero_le (show 0 ≤ 1 + r by omega)
  have ht : 0 < t ∧ t ≤ 4 := ⟨by omega, by omega⟩
  obtain ⟨ds2, o, ho, u1⟩ := turned_ex (n := n) (by omega) ds1
  have ol := ord_len ho
  have ha := many_all hn ho ht.2
  have tl : (tws o).length = n := by unfold tws; rw [List.length_map, List.length_range, ol]
  have mt := dMulT_P (f := fun ns : List Int => D.tup (ns.map .int)) pure_eI (xs := tws o) (fun z => by rw [z] at tl; simp at tl; omega) (by omega) (k := t) (by omega) (by omega)
  have w0 : tw o 0 = o := by unfold tw; rw [List.drop_zero, List.take_zero, List.append_nil]
  have a0 : L2.atI ((tws o).map fun ns => D.tup (ns.map .int)) 0 = some (.tup (o.map .int)) := by
    have := atI_in (fun ns : List Int => D.tup (ns.map .int)) (xs := tws o) (j := 0) (by omega)
    have e : (tws o)[0]'(by omega) = o := by unfold tws; rw [List.getElem_map, List.getElem_range, w0]
    rw [e] at this
    exact this
  have hr := itR_nat (n := n) (by omega)
  obtain ⟨ρ, l1, x, s, q, rfl⟩ := forM_upto (g := gN 6) (m := b_l_round_2) (n := n) (ρ := OE n t ds2 o none none none none) (fun i ρ => ∃ x s q, ρ = OE n t ds2 o x none s q) ⟨none, none, none, rfl⟩ (by
    rintro i ρ hi ⟨x, s, q, rfl⟩
    obtain ⟨s', q', g⟩ := round_row hn ht.1 ht.2 ho ds2 hi none s q
    exact ⟨OE n t ds2 o (some (.int (i : Nat))) none s q, _, rfl, .inl g, _, _, _, rfl⟩)
  obtain ⟨S, hS, tp⟩ := top_eq h0 (by omega) ha
  have eS := turn_least ho hn h0 ht.1 hS
  subst eS
  have hd := head_eq h0 (by omega) ha
  have rg := rgD_ru (c := D.tup) (n := n) (by omega)
  have st := same_ints (ru n) (by rw [ru_len]; omega)
  have sq := (seq_tup o).at_ 0 (by omega)
  have sq : L2.atI (o.map D.int) 0 = some (.int (o.getD 0 0)) := sq
  have mk : mkLst [.non, .int (o.getD 0 0)] = some (.lst [.non, .int (o.getD 0 0)]) := mkLst_P (ds := [.non, .int (o.getD 0 0)]) rfl (by simp)
  have hd2 : ∃ w : Option Int, m_head [eV (many t o), .int (n : Nat)] = some (dW w, []) ∧ L2.atI [D.non, .int (o.getD 0 0)] (if (n : Int) = 1 then 1 else 0) = some (dW w) := by
    by_cases h2 : 2 ≤ n
    · refine ⟨none, ?_, ?_⟩
      · rw [turn_win ho hn h2 ht.1] at hd
        exact hd
      · rw [if_neg (by omega), atI_z]; rfl
    · have e1 : n = 1 := by omega
      refine ⟨some (o.getD 0 0), ?_, ?_⟩
      · have hm := getD_mem ho h0
        have hw : win n (wv (many t o)) (o.getD 0 0) = true := (win_iff (wv_ir _) hm).mpr fun b hb hne => by
          have := ru_mem.mp hb
          have := ru_mem.mp hm
          exact absurd (show b = o.getD 0 0 by omega) hne
        rcases filter_win (n := n) (wv_as (many t o)) (wv_ir _) with fw | ⟨a, ha', hw', fw⟩
        · have : o.getD 0 0 ∈ (ru n).filter (win n (wv (many t o))) := List.mem_filter.mpr ⟨hm, hw⟩
          rw [fw] at this; cases this
        · rw [fw] at hd
          have := win_one (wv_as _) (wv_ir _) ha' hm hw' hw
          rw [this] at hd
          exact hd
      · rw [if_pos (by omega), atI_o]; rfl
  obtain ⟨w, hw1, hw2⟩ := hd2
  have sw := same_refl 8 (dW w) (sd_dW w)
  have lw := fun ρ => lC_P (pure_dW w) ρ
  have shw : (dW w).share = dW w := D.pure_share (pure_dW w)
  refine ⟨ds2, ?_⟩
  unfold OE at l1
  unfold m_l_round
  rw [fnM_ap (by rfl)]
  walk_at "fl"
  rw [t1]
  walk_at "fl"
  rw [et, u1]
  walk_at "fl"
  have mt : dMulT (eV (tws o)) (.int (t : Nat)) = some (eV (many t o)) := mt
  rw [mt]
  walk_at "fl"
  rw [a0]
  walk_at "fl"
  rw [hr]
  walk_at "fl"
  rw [l1]
  walk_at "fl"
  rw [sq]
  walk_at "fl"
  rw [mk]
  walk_at "fl"
  rw [hw2, lw]
  walk_at "fl"
  rw [hw1]
  walk_at "fl"
  rw [shw, sw]
  walk_at "fl"
  rw [tp]
  walk_at "fl"
  rw [rg]
  walk_at "fl"
  rw [st]
  walk_at "fl"
  exact finM_one rfl rfl (own_lI ds2)

end K58
end

section
set_option Elab.async false
set_option linter.all false
set_option maxRecDepth 100000
set_option maxHeartbeats 8000000
namespace K58
open FL
local macro_rules | `(tactic| walk_at "fl") => `(tactic| simp -implicitDefEqProofs only [seqS_ap, ifS_ap, asgS_ap, gN_ap, gTupN_ap, retS_ap, exprS_ap, skipS_ap, p1_ap, p2_ap, pn_ap, psNil_ap, psCons_ap, pV_ap, pC_ap, liftE_ap, liftC_ap, pIf_ap, tB'_ap, tAnd'_ap, tOr'_ap, tNot'_ap, liftT_ap, blE_ap, andE_ap, orE_ap, notE_ap, toE_ap, toS'_ap, toM'_ap, asNil_ap, asCons_ap, opE2_ap, opE1_ap, opEn_ap, dispE_ap, ifE_ap, andV_ap, orV_ap, notV_ap, mvV_ap, mtE_ap, callE_ap, pCall_ap, itE_ap, itA_ap, icA_ap, icB_ap, forS_ap, rg1_ap, rg2_ap, fnM_ap, seqO_nx, seqO_rt, seqO_bk, seqO_ct, ifO_some, asgO_some, retO_some, exprO_some, b2_some, c2_some, ixO_tup, ixO_lst, ixO_shr, lE_some, lC_int, lC_bl, lC_str, lC_non, tb_bl, andO_some, orO_some, lT_some, bE_bl, andEO_some, orEO_some, notEO_some, tE_some, sO_some, mO_some, acO_some, acT_some, o2O_some, o2T_some, o2F_some, o1O_some, o1F_some, onO_some, onF_some, diO_some, ifEO_some, andVO_bl, orVO_bl, notVO_bl, mvO_lst, mvO_tup, mvO_shr, mtO_some, mtT_some, mtF_some, callF_some, pcF_some, itAO_some, itAF_some, forO_some, fnO_rt, fnO_nx, lk_zero, lk_succ, lstAt_zero, lstAt_succ, raw_v, raw_s, raw_m, raws_nil, raws_cons, valsOf_nil, valsOf_v, argsD_nil, argsD_cons, argD_v, argD_s, argD_m, gNs_nil, gNs_cons, Option.bind_some, Option.bind_none, Option.map_some, Option.map_none, List.set_cons_zero, List.set_cons_succ, List.map_cons, List.map_nil, List.cons_append, List.nil_append, Bool.false_eq_true, dAdd_i, dSub_i, addI_i, dNeg_i, dLt_i, dLe_i, dGt_i, dGe_i, dEq_i, dEq_s, dEq_b, dNe_i, dNe_s, dIsN_non, dIsN_int, dIsN_tup, dIsN_lst, dIsN_bl, dIsN_str, dNotN_non, dNotN_int, dNotN_tup, dLen_lst, dLen_tup, dLen_shr, dSum_tI, dSum_lI, dSum_sI, dInt_i, dInt_b, dAbs_i, dTuple_lI, dTuple_sI, dList_lI, dList_tI, dList_sI, dMax_2, dMin_2, mkTup_2, mkTup_3, mkLst_0, mkLst_1, mkLst_2, kit_ib, kit_ii, kit_is, kit_it, kit_bb, kit_bi, kit_tb, kit_ti, kit_ts, kit_tt, kit_nb, kit_ni, kit_ns, kit_nt, kit_sb, kit_si, kit_ss, kit_st, isi_int, isi_bl, isi_str, isi_tup, isi_non, lPop_snoc, lReverse_ints, ↓reduceIte, List.length_cons, List.length_nil, List.length_map, List.reduceReplicate, Nat.reduceSub, Bool.not_true, Bool.not_false, decide_true, decide_false, decide_eq_true_eq, Nat.reduceLeDiff, pIx_ap', atI_z, atI_o, atI_t, parS_eq, parT_some, parV_some, setS_ap, stO_some, stL_some, stT_some, augIxS_ap, pCut_ap, cuO_some, pNo_ap, pSo_ap, soO_int, freeC_ap, fcO_int, fcO_str, yesC_ap, wipeE_nil, wipeE_cons, pComp_ap, cpO_some, icB_sI, icB_tI, icB_lI, itE_sI, itE_tI, itE_lI, noM_nil, noM_v, noM_s, noMS_nil, noMS_v, noMS_c, callO_no, callO_m0, putM_nil, putM_cons, dropM_nil, dropM_cons, shares_nil, shares_cons, share_int, share_bl, share_str, share_non, share_tup, share_lst, share_shr_, shares_ints, Nat.reduceBEq, Bool.true_and, Bool.and_true, Bool.and_self, Bool.false_and, Bool.and_false, Bool.not_eq_true, Bool.not_eq_false, Bool.or_true, Bool.true_or, Bool.or_false, Bool.false_or, beq_self_eq_true, pChain_ap, dIn_lI, dIn_tI, dIn_sI, dIn_fI, dNin_lI, dNin_tI, dNin_sI, dNin_fI, compE_ap, ceO_some, restE_nil, restE_cons, rsO_none, rsO_int, forL_ap, flO_lst, flO_int, backO_nx, backO_rt, forC_ap, fcS_lst, chO_some, chB_bl, Int.natCast_zero, dMod_i, dDiv_i, dMul_i, divOk_s, mulOk_l, mulOk_r, Int.reducePow, Int.reduceNeg, Int.reduceLT, Int.reduceLE, Int.reduceEq, Int.reduceAdd, Int.reduceSub, Int.reduceMul, Nat.reduceAdd, Nat.reducePow, lC_tI, lC_sI, dLen_frz, fcO_tI, shares_eI, rgD_ru, pAnd_ap, pOr_ap, pNot_ap, anO_bl, orC_bl, noC_bl, dEqX_tI, dNeX_tI, dEqX_lI, pComp2_ap, cp2O_some, dRev_lI, dSorted_lI, dAny_lB, augLS_ap, setS2_ap, dNe_b])
local macro_rules | `(tactic| walk_at "fl*") => `(tactic| simp -implicitDefEqProofs only [seqS_ap, ifS_ap, asgS_ap, gN_ap, gTupN_ap, retS_ap, exprS_ap, skipS_ap, p1_ap, p2_ap, pn_ap, psNil_ap, psCons_ap, pV_ap, pC_ap, liftE_ap, liftC_ap, pIf_ap, tB'_ap, tAnd'_ap, tOr'_ap, tNot'_ap, liftT_ap, blE_ap, andE_ap, orE_ap, notE_ap, toE_ap, toS'_ap, toM'_ap, asNil_ap, asCons_ap, opE2_ap, opE1_ap, opEn_ap, dispE_ap, ifE_ap, andV_ap, orV_ap, notV_ap, mvV_ap, mtE_ap, callE_ap, pCall_ap, itE_ap, itA_ap, icA_ap, icB_ap, forS_ap, rg1_ap, rg2_ap, fnM_ap, seqO_nx, seqO_rt, seqO_bk, seqO_ct, ifO_some, asgO_some, retO_some, exprO_some, b2_some, c2_some, ixO_tup, ixO_lst, ixO_shr, lE_some, lC_int, lC_bl, lC_str, lC_non, tb_bl, andO_some, orO_some, lT_some, bE_bl, andEO_some, orEO_some, notEO_some, tE_some, sO_some, mO_some, acO_some, acT_some, o2O_some, o2T_some, o2F_some, o1O_some, o1F_some, onO_some, onF_some, diO_some, ifEO_some, andVO_bl, orVO_bl, notVO_bl, mvO_lst, mvO_tup, mvO_shr, mtO_some, mtT_some, mtF_some, callF_some, pcF_some, itAO_some, itAF_some, forO_some, fnO_rt, fnO_nx, lk_zero, lk_succ, lstAt_zero, lstAt_succ, raw_v, raw_s, raw_m, raws_nil, raws_cons, valsOf_nil, valsOf_v, argsD_nil, argsD_cons, argD_v, argD_s, argD_m, gNs_nil, gNs_cons, Option.bind_some, Option.bind_none, Option.map_some, Option.map_none, List.set_cons_zero, List.set_cons_succ, List.map_cons, List.map_nil, List.cons_append, List.nil_append, Bool.false_eq_true, dAdd_i, dSub_i, addI_i, dNeg_i, dLt_i, dLe_i, dGt_i, dGe_i, dEq_i, dEq_s, dEq_b, dNe_i, dNe_s, dIsN_non, dIsN_int, dIsN_tup, dIsN_lst, dIsN_bl, dIsN_str, dNotN_non, dNotN_int, dNotN_tup, dLen_lst, dLen_tup, dLen_shr, dSum_tI, dSum_lI, dSum_sI, dInt_i, dInt_b, dAbs_i, dTuple_lI, dTuple_sI, dList_lI, dList_tI, dList_sI, dMax_2, dMin_2, mkTup_2, mkTup_3, mkLst_0, mkLst_1, mkLst_2, kit_ib, kit_ii, kit_is, kit_it, kit_bb, kit_bi, kit_tb, kit_ti, kit_ts, kit_tt, kit_nb, kit_ni, kit_ns, kit_nt, kit_sb, kit_si, kit_ss, kit_st, isi_int, isi_bl, isi_str, isi_tup, isi_non, lPop_snoc, lReverse_ints, ↓reduceIte, List.length_cons, List.length_nil, List.length_map, List.reduceReplicate, Nat.reduceSub, Bool.not_true, Bool.not_false, decide_true, decide_false, decide_eq_true_eq, Nat.reduceLeDiff, pIx_ap', atI_z, atI_o, atI_t, parS_eq, parT_some, parV_some, setS_ap, stO_some, stL_some, stT_some, augIxS_ap, pCut_ap, cuO_some, pNo_ap, pSo_ap, soO_int, freeC_ap, fcO_int, fcO_str, yesC_ap, wipeE_nil, wipeE_cons, pComp_ap, cpO_some, icB_sI, icB_tI, icB_lI, itE_sI, itE_tI, itE_lI, noM_nil, noM_v, noM_s, noMS_nil, noMS_v, noMS_c, callO_no, callO_m0, putM_nil, putM_cons, dropM_nil, dropM_cons, shares_nil, shares_cons, share_int, share_bl, share_str, share_non, share_tup, share_lst, share_shr_, shares_ints, Nat.reduceBEq, Bool.true_and, Bool.and_true, Bool.and_self, Bool.false_and, Bool.and_false, Bool.not_eq_true, Bool.not_eq_false, Bool.or_true, Bool.true_or, Bool.or_false, Bool.false_or, beq_self_eq_true, pChain_ap, dIn_lI, dIn_tI, dIn_sI, dIn_fI, dNin_lI, dNin_tI, dNin_sI, dNin_fI, compE_ap, ceO_some, restE_nil, restE_cons, rsO_none, rsO_int, forL_ap, flO_lst, flO_int, backO_nx, backO_rt, forC_ap, fcS_lst, chO_some, chB_bl, Int.natCast_zero, dMod_i, dDiv_i, dMul_i, divOk_s, mulOk_l, mulOk_r, Int.reducePow, Int.reduceNeg, Int.reduceLT, Int.reduceLE, Int.reduceEq, Int.reduceAdd, Int.reduceSub, Int.reduceMul, Nat.reduceAdd, Nat.reducePow, lC_tI, lC_sI, dLen_frz, fcO_tI, shares_eI, rgD_ru, pAnd_ap, pOr_ap, pNot_ap, anO_bl, orC_bl, noC_bl, dEqX_tI, dNeX_tI, dEqX_lI, pComp2_ap, cp2O_some, dRev_lI, dSorted_lI, dAny_lB, augLS_ap, setS2_ap, dNe_b, *])
open VT
def WE (s : D) (ds : List Int) (n many : Nat) (kind : Int) (v f t l o : Option D) : FL.Env := [some s, some (.lst (ds.map .int)), some (.int (n : Nat)), some (.int (many : Nat)), some (.int kind), v, f, t, l, o]
theorem many_if (s : D) (ds : List Int) (n many : Nat) (hm : many ≤ 60) (kind : Int) : ∃ (ds' : List Int) (many' : Nat), many' ≤ 60 ∧ (ifS (liftT (tB' (p2 dEq (pV 4) (pC (.int 0))))) (asgS (opE2 dSub (toE (liftE (pC (.int 60)))) (toE (callE m_l_take [0] (asCons (toM' 1) (asCons (toE (liftE (pC (.int 20)))) asNil))))) (gN 3)) skipS) (WE s ds n many kind none none none none none) = some (.nx (WE s ds' n many' kind none none none none none)) := by
  obtain ⟨r, ds1, t1, t2, t3⟩ := take_ex ds 20 (by omega)
  by_cases hk : kind = 0
  · obtain ⟨m, hm⟩ := Int.eq_ofNat_of_zero_le (show 0 ≤ 60 - r by omega)
    refine ⟨ds1, m, by omega, ?_⟩
    unfold WE
    walk_at "fl"
    rw [if_pos hk, t1]
    walk_at "fl"
    rw [hm]
  · refine ⟨ds, many, hm, ?_⟩
    unfold WE
    walk_at "fl"
    rw [if_neg hk]
theorem few_if (s : D) (ds : List Int) (n many : Nat) (kind : Int) (v : Option D) (few : Nat) (hf : few ≤ 900) (odd : few % 2 = 1) : ∃ (ds' : List Int) (few' : Nat), few' ≤ 900 ∧ few' % 2 = 1 ∧ (ifS (liftT (tB' (p2 dEq (pV 4) (pC (.int 1))))) (asgS (opE2 dSub (toE (liftE (pC (.int 59)))) (toE (opE2 dMul (toE (liftE (pC (.int 2)))) (toE (callE m_l_take [0] (asCons (toM' 1) (asCons (toE (liftE (pC (.int 10)))) asNil))))))) (gN 6)) skipS) (WE s ds n many kind v (some (.int (few : Nat))) none none none) = some (.nx (WE s ds' n many kind v (some (.int (few' : Nat))) none none none)) := by
  obtain ⟨r, ds1, t1, t2, t3⟩ := take_ex ds 10 (by omega)
  by_cases hk : kind = 1
  · obtain ⟨m, hm⟩ := Int.eq_ofNat_of_zero_le (show 0 ≤ 59 - 2 * r by omega)
    refine ⟨ds1, m, by omega, by omega, ?_⟩
    unfold WE
    walk_at "fl"
    rw [if_pos hk, t1]
    walk_at "fl"
    rw [hm]
  · refine ⟨ds, few, hf, odd, ?_⟩
    unfold WE
    walk_at "fl"
    rw [if_neg hk]
theorem same_b (b : Bool) : m_l_same 8 [.bl b, .bl b] = some (.bl true, []) := same_refl 8 _ trivial
theorem turn_law (s : D) (ds : List Int) {n many : Nat} (h0 : 0 < n) (hn : n ≤ 8) (kind : Int) {V : List (List Int)} (hz : V.length ≤ 60) (hV : ∀ v, v ∈ V → v.Perm (ru n)) (f l o : Option D) {i : Nat} (hi : i < 4) : ∃ (ds' : List Int) (l' o' : Option D), b_law_1 (WE s ds n many kind (some (eV V)) f (some (.int (i : Nat))) l o) = some (.nx (WE s ds' n many kind (some (eV V)) f (some (.int (i : Nat))) l' o')) := by
  obtain ⟨ds1, line, o1, o2⟩ := order_ex n (by omega) ds
  obtain ⟨r, ds2, t1, t2, t3⟩ := take_ex ds1 3 (by omega)
  have dt := dTuple_lI line
  have cut : dCutHi (eV V) (.int (1 + r)) = some (.tup ((V.take (1 + r).toNat).map fun ns => .tup (ns.map .int))) := cutHi_t pure_eI V (by omega)
  have hT : ∀ v, v ∈ V.take (1 + r).toNat → v.Perm (ru n) := fun v hv => hV v (List.mem_of_mem_take hv)
  by_cases h1 : 1 < i
  · obtain ⟨q, ds3, u1, u2, u3⟩ := take_ex ds2 4 (by omega)
    obtain ⟨k, hk⟩ := Int.eq_ofNat_of_zero_le (show 0 ≤ 1 + q by omega)
    obtain ⟨ds4, P, p1', p2', p3, _⟩ := peaked_ex h0 (by omega) (seq_tup line) o2 k (by omega) ds3
    have c2 := cutHi_t pure_eI (V.take (1 + r).toNat) (k := (i : Int) - 2) (by omega)
    have tl : ((V.take (1 + r).toNat).take ((i : Int) - 2).toNat).length ≤ 60 := by rw [List.length_take, List.length_take]; omega
    have ad := dAdd_tM pure_eI (xs := P) (ys := (V.take (1 + r).toNat).take ((i : Int) - 2).toNat) (by omega)
    have hA : ∀ v, v ∈ P ++ (V.take (1 + r).toNat).take ((i : Int) - 2).toNat → v.Perm (ru n) := fun v hv => by
      rcases List.mem_append.mp hv with z | z
      · exact p3 v z
      · exact hT v (List.mem_of_mem_take z)
    have f1 := fits_line_eq h0 (by omega) hA o2
    have f2 := l_fits_eq h0 (by omega) hA o2
    refine ⟨ds4, some (.tup (line.map .int)), some (.tup ((P ++ (V.take (1 + r).toNat).take ((i : Int) - 2).toNat).map fun ns => .tup (ns.map .int))), ?_⟩
    have h1' : (1 : Int) < (i : Int) := by omega
    unfold WE b_law_1
    walk_at "fl"
    rw [o1]
    walk_at "fl"
    rw [t1]
    walk_at "fl"
    rw [cut]
    walk_at "fl"
    rw [if_pos h1', u1]
    walk_at "fl"
    rw [hk, p1']
    walk_at "fl"
    rw [c2]
    walk_at "fl"
    rw [ad]
    walk_at "fl"
    rw [f1, f2]
    walk_at "fl"
    rw [same_b]
    walk_at "fl"
  · have f1 := fits_line_eq h0 (by omega) hT o2
    have f2 := l_fits_eq h0 (by omega) hT o2
    refine ⟨ds2, some (.tup (line.map .int)), some (.tup ((V.take (1 + r).toNat).map fun ns => .tup (ns.map .int))), ?_⟩
    have h1' : ¬ (1 : Int) < (i : Int) := by omega
    unfold WE b_law_1
    walk_at "fl"
    rw [o1]
    walk_at "fl"
    rw [t1]
    walk_at "fl"
    rw [cut]
    walk_at "fl"
    rw [if_neg h1']
    walk_at "fl"
    rw [f1, f2]
    walk_at "fl"
    rw [same_b]
    walk_at "fl"
theorem seq_nx {m n : FL.Env → Option Out} {ρ ρ' : FL.Env} (h : m ρ = some (.nx ρ')) : seqS m n ρ = n ρ' := by rw [seqS_ap, h, seqO_nx]
theorem law_true (ns : List Int) (hn : ns.length ≤ 63) : m_law [.shr (ns.map .int)] = some (.bl true, []) := by
  obtain ⟨ds0, d0⟩ := draws_ex 640 (by omega) ns hn
  have d0 : m_l_draws [.shr (ns.map .int), .int 640] = some (.lst (ds0.map .int), []) := d0
  obtain ⟨r1, ds1, t1, t1a, t1b⟩ := take_ex ds0 8 (by omega)
  obtain ⟨n, hN⟩ := Int.eq_ofNat_of_zero_le (show 0 ≤ 1 + r1 by omega)
  have n0 : 0 < n := by omega
  have n8 : n ≤ 8 := by omega
  obtain ⟨r2, ds2, t2, t2a, t2b⟩ := take_ex ds1 13 (by omega)
  obtain ⟨m, rfl⟩ := Int.eq_ofNat_of_zero_le t2a
  obtain ⟨kind, ds3, t3, t3a, t3b⟩ := take_ex ds2 8 (by omega)
  obtain ⟨ds4, many, hmany, i1⟩ := many_if (.shr (ns.map .int)) ds3 n m (by omega) kind
  obtain ⟨ds5, V, v1, v2, v3⟩ := votes_ex n n0 (by omega) many (by omega) ds4
  have ha : All n V := ⟨by omega, v3⟩
  have rt := right_true n0 n8 ha
  obtain ⟨r4, ds6, t4, t4a, t4b⟩ := take_ex ds5 7 (by omega)
  obtain ⟨k, hk⟩ := Int.eq_ofNat_of_zero_le (show 0 ≤ 1 + r4 by omega)
  obtain ⟨ds7, rd⟩ := round_ex (n := k) (by omega) (by omega) ds6
  obtain ⟨r5, ds8, t5, t5a, t5b⟩ := take_ex ds7 8 (by omega)
  obtain ⟨few, hfew⟩ := Int.eq_ofNat_of_zero_le (show 0 ≤ 1 + 2 * r5 by omega)
  obtain ⟨ds9, few', f1, f2, i2⟩ := few_if (.shr (ns.map .int)) ds8 n many kind (some (eV V)) few (by omega) (by omega)
  obtain ⟨r6, ds10, t6, t6a, t6b⟩ := take_ex ds9 8 (by omega)
  obtain ⟨q, hq⟩ := Int.eq_ofNat_of_zero_le (show 0 ≤ 1 + r6 by omega)
  obtain ⟨ds11, ol⟩ := on_a_line_ex (n := q) (by omega) (by omega) few' f1 f2 ds10
  obtain ⟨ρ, l1, ds12, t, l, o, rfl⟩ := forM_upto (g := gN 7) (m := b_law_1) (n := 4) (ρ := WE (.shr (ns.map .int)) ds11 n many kind (some (eV V)) (some (.int (few' : Nat))) none none none) (fun i ρ => ∃ (ds' : List Int) (t l o : Option D), ρ = WE (.shr (ns.map .int)) ds' n many kind (some (eV V)) (some (.int (few' : Nat))) t l o) ⟨ds11, none, none, none, rfl⟩ (by
    rintro i ρ hi ⟨ds', t, l, o, rfl⟩
    obtain ⟨ds2', l', o', g⟩ := turn_law (.shr (ns.map .int)) ds' n0 n8 kind (by omega) v3 (some (.int (few' : Nat))) l o hi
    exact ⟨WE (.shr (ns.map .int)) ds' n many kind (some (eV V)) (some (.int (few' : Nat))) (some (.int (i : Nat))) l o, _, rfl, .inl g, ds2', _, l', o', rfl⟩)
  have i4 : itR 0 4 = some (upto 4) := itR_nat (n := 4) (by omega)
  have rg := rgD_ru (c := D.tup) (n := n) (by omega)
  have g1 := fits_line_eq n0 (by omega) v3 (List.Perm.refl (ru n))
  have g2 := l_fits_eq n0 (by omega) v3 (List.Perm.refl (ru n))
  unfold WE at i1 i2 l1
  unfold m_law
  rw [fnM_ap (by rfl)]
  refine (congrArg (fnO []) (seq_nx (ρ' := [some (.shr (ns.map .int)), some (.lst (ds0.map .int)), none, none, none, none, none, none, none, none]) ?_)).trans ?_
  · walk_at "fl"
    rw [d0]
    walk_at "fl"
  refine (congrArg (fnO []) (seq_nx (ρ' := [some (.shr (ns.map .int)), some (.lst (ds1.map .int)), some (.int (n : Nat)), none, none, none, none, none, none, none]) ?_)).trans ?_
  · walk_at "fl"
    rw [t1]
    walk_at "fl"
    rw [hN]
  refine (congrArg (fnO []) (seq_nx (ρ' := [some (.shr (ns.map .int)), some (.lst (ds2.map .int)), some (.int (n : Nat)), some (.int (m : Nat)), none, none, none, none, none, none]) ?_)).trans ?_
  · walk_at "fl"
    rw [t2]
    walk_at "fl"
  refine (congrArg (fnO []) (seq_nx (ρ' := [some (.shr (ns.map .int)), some (.lst (ds3.map .int)), some (.int (n : Nat)), some (.int (m : Nat)), some (.int kind), none, none, none, none, none]) ?_)).trans ?_
  · walk_at "fl"
    rw [t3]
    walk_at "fl"
  refine (congrArg (fnO []) (seq_nx (ρ' := [some (.shr (ns.map .int)), some (.lst (ds4.map .int)), some (.int (n : Nat)), some (.int (many : Nat)), some (.int kind), none, none, none, none, none]) ?_)).trans ?_
  · exact i1
  refine (congrArg (fnO []) (seq_nx (ρ' := [some (.shr (ns.map .int)), some (.lst (ds5.map .int)), some (.int (n : Nat)), some (.int (many : Nat)), some (.int kind), some (eV V), none, none, none, none]) ?_)).trans ?_
  · walk_at "fl"
    rw [v1]
    walk_at "fl"
  refine (congrArg (fnO []) (seq_nx (ρ' := [some (.shr (ns.map .int)), some (.lst (ds7.map .int)), some (.int (n : Nat)), some (.int (many : Nat)), some (.int kind), some (eV V), none, none, none, none]) ?_)).trans ?_
  · walk_at "fl"
    rw [rt]
    walk_at "fl"
    rw [t4]
    walk_at "fl"
    rw [hk, rd]
    walk_at "fl"
  refine (congrArg (fnO []) (seq_nx (ρ' := [some (.shr (ns.map .int)), some (.lst (ds8.map .int)), some (.int (n : Nat)), some (.int (many : Nat)), some (.int kind), some (eV V), some (.int (few : Nat)), none, none, none]) ?_)).trans ?_
  · walk_at "fl"
    rw [t5]
    walk_at "fl"
    rw [hfew]
  refine (congrArg (fnO []) (seq_nx (ρ' := [some (.shr (ns.map .int)), some (.lst (ds9.map .int)), some (.int (n : Nat)), some (.int (many : Nat)), some (.int kind), some (eV V), some (.int (few' : Nat)), none, none, none]) ?_)).trans ?_
  · exact i2
  refine (congrArg (fnO []) (seq_nx (ρ' := [some (.shr (ns.map .int)), some (.lst (ds11.map .int)), some (.int (n : Nat)), some (.int (many : Nat)), some (.int kind), some (eV V), some (.int (few' : Nat)), none, none, none]) ?_)).trans ?_
  · walk_at "fl"
    rw [t6]
    walk_at "fl"
    rw [hq, ol]
    walk_at "fl"
  refine (congrArg (fnO []) (seq_nx (ρ' := [some (.shr (ns.map .int)), some (.lst (ds12.map .int)), some (.int (n : Nat)), some (.int (many : Nat)), some (.int kind), some (eV V), some (.int (few' : Nat)), t, l, o]) ?_)).trans ?_
  · walk_at "fl"
    rw [i4]
    walk_at "fl"
    rw [l1]
  walk_at "fl"
  rw [rg]
  walk_at "fl"
  rw [g1, g2]
  walk_at "fl"
  rw [same_b]
  walk_at "fl"
  exact finM_P rfl _

end K58
end

open PySem PySem.W PyProof.Rows
set_option maxRecDepth 100000 in
set_option maxHeartbeats 0 in
theorem PySem.Challenge.cw_rotakeep_k58_whole_majorities_holds : PySem.Challenge.rw_rotakeep_k58_whole_majorities.Holds := by
  w_on; o_law; k_head; (case hw => w_witness2)
  k_fill
  refine FL.law_walk (l := PySem.Challenge.rw_rotakeep_k58_whole_majorities) (k := 11) (fm := K58.m_law) rfl rfl ⟨rfl, by decide, by decide⟩ (fun w h Y => PySem.W.kIn_of Y) ?F K58.law_true
  case F =>
    intro w mg fa h KX G hmg
    refine' K58.all_mk KX G hmg ?a1 ?l1 ?c1 ?k1 ?a2 ?l2 ?c2 ?k2 ?a3 ?l3 ?c3 ?k3 ?a4 ?l4 ?c4 ?k4 ?a5 ?l5 ?c5 ?k5 ?a6 ?l6 ?c6 ?k6 ?a7 ?l7 ?c7 ?k7 ?a8 ?l8 ?c8 ?k8 ?a9 ?l9 ?c9 ?k9 ?a10 ?l10 ?c10 ?k10 ?a11 ?l11 ?c11 ?k11 ?a12 ?l12 ?c12 ?k12 ?a13 ?l13 ?c13 ?k13 ?a14 ?l14 ?c14 ?k14 ?a15 ?l15 ?c15 ?k15 ?a16 ?l16 ?c16 ?k16 ?a17 ?l17 ?c17 ?k17 ?a18 ?l18 ?c18 ?k18 ?a19 ?l19 ?c19 ?k19 ?a20 ?l20 ?c20 ?k20 ?a21 ?l21 ?c21 ?k21 ?a22 ?l22 ?c22 ?k22 ?a23 ?l23 ?c23 ?k23 ?a24 ?l24 ?c24 ?k24 ?a25 ?l25 ?c25 ?k25 ?z0 ?z1 ?z2 ?z3 ?z4 ?z5 ?z6 ?z7 ?z8 ?z9 ?z10 ?z11
    (case a1 => k_is); (case l1 => k_is); (case c1 => k_is); (case k1 => k_is); (case a2 => k_is); (case l2 => k_is); (case c2 => k_is); (case k2 => k_is)
    (case a3 => k_is); (case l3 => k_is); (case c3 => k_is); (case k3 => k_is); (case a4 => k_is); (case l4 => k_is); (case c4 => k_is); (case k4 => k_is)
    (case a5 => k_is); (case l5 => k_is); (case c5 => k_is); (case k5 => k_is); (case a6 => k_is); (case l6 => k_is); (case c6 => k_is); (case k6 => k_is)
    (case a7 => k_is); (case l7 => k_is); (case c7 => k_is); (case k7 => k_is); (case a8 => k_is); (case l8 => k_is); (case c8 => k_is); (case k8 => k_is)
    (case a9 => k_is); (case l9 => k_is); (case c9 => k_is); (case k9 => k_is); (case a10 => k_is); (case l10 => k_is); (case c10 => k_is); (case k10 => k_is)
    (case a11 => k_is); (case l11 => k_is); (case c11 => k_is); (case k11 => k_is); (case a12 => k_is); (case l12 => k_is); (case c12 => k_is); (case k12 => k_is)
    (case a13 => k_is); (case l13 => k_is); (case c13 => k_is); (case k13 => k_is); (case a14 => k_is); (case l14 => k_is); (case c14 => k_is); (case k14 => k_is)
    (case a15 => k_is); (case l15 => k_is); (case c15 => k_is); (case k15 => k_is); (case a16 => k_is); (case l16 => k_is); (case c16 => k_is); (case k16 => k_is)
    (case a17 => k_is); (case l17 => k_is); (case c17 => k_is); (case k17 => k_is); (case a18 => k_is); (case l18 => k_is); (case c18 => k_is); (case k18 => k_is)
    (case a19 => k_is); (case l19 => k_is); (case c19 => k_is); (case k19 => k_is); (case a20 => k_is); (case l20 => k_is); (case c20 => k_is); (case k20 => k_is)
    (case a21 => k_is); (case l21 => k_is); (case c21 => k_is); (case k21 => k_is); (case a22 => k_is); (case l22 => k_is); (case c22 => k_is); (case k22 => k_is)
    (case a23 => k_is); (case l23 => k_is); (case c23 => k_is); (case k23 => k_is); (case a24 => k_is); (case l24 => k_is); (case c24 => k_is); (case k24 => k_is)
    (case a25 => k_is); (case l25 => k_is); (case c25 => k_is); (case k25 => k_is); (case z0 => k_is); (case z1 => k_is); (case z2 => k_is); (case z3 => k_is)
    (case z4 => k_is); (case z5 => k_is); (case z6 => k_is); (case z7 => k_is); (case z8 => k_is); (case z9 => k_is); (case z10 => k_is); (case z11 => k_is)
